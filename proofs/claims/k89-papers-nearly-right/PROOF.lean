import PyProof.Rows.All
import Wide.All
import OpenK.AllK
import Wide.FinOn
import HandS.ForMost
import HandS.ForExc
import HandS.Wide
import HandS.Defaults
import HandS.Zip
import HandS.Deep
import HandS.NoneIn
import HandS.Style
import HandS.TupMul
import HandS.TupAny
import HandS.IsInst
import HandS.HeadHook2
import HandS.Head0
import HandS.Head1
import HandS.Head2
import HandS.HeadEnd
import HandS.HeadHook1
import KE.KStateDown
import PySem.Challenge.RW_arcmill_k89_papers_nearly_right
set_option Elab.async false
set_option linter.all false
set_option maxRecDepth 100000
set_option maxHeartbeats 4000000
namespace Ev
open PySem L2

/-! ### data: values without the heap -/
inductive D where
  | non | bl (b : Bool) | int (i : Int) | str (x : Str)
  | tup (ds : List D) | lst (ds : List D) | scr (ns : List Int)
  | ins (c : Nat) (ks : List Nat) (ds : List D)
/-- data of which some lists, instances are one's own -/
inductive O where
  | sh (d : D)
  | lst (os : List O) | tup (os : List O) | ins (c : Nat) (ks : List Nat) (os : List O)
  deriving Inhabited

mutual
def O.d : O → D
  | .sh d => d
  | .lst os => .lst (O.ds os)
  | .tup os => .tup (O.ds os)
  | .ins c ks os => .ins c ks (O.ds os)
def O.ds : List O → List D
  | [] => []
  | o :: os => o.d :: O.ds os
end
theorem O.ds_eq : ∀ os : List O, O.ds os = os.map O.d
  | [] => rfl
  | o :: os => by rw [O.ds, O.ds_eq os]; rfl
def O.isSh : O → Bool
  | .sh _ => true
  | _ => false
theorem O.of_isSh {o : O} (h : o.isSh = true) : ∃ d, o = .sh d := by
  cases o with
  | sh d => exact ⟨d, rfl⟩
  | _ => cases h

/-! ### how data lie in the heap: shared ones in the part G, which is never changed; own ones at the addresses F -/
section
variable (K : PySem.W.Frag) (ca : Nat → Addr) (nm : Nat → Str)
mutual
inductive RepD (G H : Hp) : V → D → Prop
  | non : RepD G H .non .non
  | bl (b : Bool) : RepD G H (.bl b) (.bl b)
  | int (i : Int) : RepD G H (.int i) (.int i)
  | str (x : Str) : RepD G H (.str x) (.str x)
  | tup {a : Addr} {vs : List V} {ds : List D} : SqT K H a vs → RepDs G H vs ds → RepD G H (.ref a) (.tup ds)
  | lst {a : Addr} {vs : List V} {ds : List D} : G a = some (.lst vs) → RepDs G H vs ds → RepD G H (.ref a) (.lst ds)
  | scr {a : Addr} {ns : List Int} : SqL K G a (ns.map V.int) → RepD G H (.ref a) (.scr ns)
  | ins {a dx : Addr} {c : Nat} {ks : List Nat} {vs : List V} {ds : List D} : G a = some (.ins (ca c) dx ((ks.map nm).zip vs)) → RepDs G H vs ds → RepD G H (.ref a) (.ins c ks ds)
inductive RepDs (G H : Hp) : List V → List D → Prop
  | nil : RepDs G H [] []
  | cons {v : V} {vs : List V} {d : D} {ds : List D} : RepD G H v d → RepDs G H vs ds → RepDs G H (v :: vs) (d :: ds)
end
mutual
inductive RepO (G H : Hp) : V → O → List Addr → Prop
  | sh {v : V} {d : D} : RepD K ca nm G H v d → RepO G H v (.sh d) []
  | lst {a : Addr} {vs : List V} {os : List O} {F : List Addr} : H a = some (.lst vs) → RepOs G H vs os F → RepO G H (.ref a) (.lst os) (a :: F)
  | tup {a : Addr} {vs : List V} {os : List O} {F : List Addr} : SqT K H a vs → RepOs G H vs os F → RepO G H (.ref a) (.tup os) F
  | ins {a dx : Addr} {c : Nat} {ks : List Nat} {vs : List V} {os : List O} {F : List Addr} : H a = some (.ins (ca c) dx ((ks.map nm).zip vs)) → RepOs G H vs os F → RepO G H (.ref a) (.ins c ks os) (a :: F)
inductive RepOs (G H : Hp) : List V → List O → List Addr → Prop
  | nil : RepOs G H [] [] []
  | cons {v : V} {vs : List V} {o : O} {os : List O} {F F' : List Addr} : RepO G H v o F → RepOs G H vs os F' → RepOs G H (v :: vs) (o :: os) (F ++ F')
end
end

/-- an object that may change -/
def isMut : HO → Bool
  | .lst _ => true
  | .ins _ _ _ => true
  | _ => false
/-- tuples, locked things: they stay -/
def Fix (H H' : Hp) : Prop := ∀ a o, H a = some o → isMut o = false → H' a = some o
theorem Fix.refl (H : Hp) : Fix H H := fun _ _ h _ => h
theorem Fix.trans {H H1 H2 : Hp} (a : Fix H H1) (b : Fix H1 H2) : Fix H H2 := fun x o h m => b x o (a x o h m) m
theorem Fix.of_same {H H' : Hp} (s : Same H H') : Fix H H' := fun a o h _ => s a o h
theorem Fix.sqT {K : PySem.W.Frag} {H H' : Hp} (f : Fix H H') {a : Addr} {vs : List V} (h : SqT K H a vs) : SqT K H' a vs := by
  rcases h with (h | ⟨o, h⟩) | h
  · exact .inl (.inl (f _ _ h rfl))
  · exact .inl (.inr ⟨o, f _ _ h rfl⟩)
  · exact .inr h
/-- lists: only locked ones and those of the written part stay by this alone -/
theorem Fix.sqL {K : PySem.W.Frag} {H H' : Hp} (f : Fix H H') {a : Addr} {vs : List V} (h : SqL K H a vs) (n : ∀ xs, H a ≠ some (.lst xs)) : SqL K H' a vs := by
  rcases h with (h | ⟨o, h⟩) | h
  · exact absurd h (n _)
  · exact .inl (.inr ⟨o, f _ _ h rfl⟩)
  · exact .inr h

section
variable {K : PySem.W.Frag} {ca : Nat → Addr} {nm : Nat → Str} {G G' H H' : Hp}
def Sub (G H : Hp) : Prop := ∀ a o, G a = some o → H a = some o
theorem Sub.refl (G : Hp) : Sub G G := fun _ _ h => h
theorem Sub.trans {A B C : Hp} (a : Sub A B) (b : Sub B C) : Sub A C := fun x o h => b x o (a x o h)
theorem Sub.sqL {a : Addr} {vs : List V} (g : Sub G G') (h : SqL K G a vs) : SqL K G' a vs := Same.seq g h
mutual
theorem RepD.mono (g : Sub G G') (f : Fix H H') : ∀ {v : V} {d : D}, RepD K ca nm G H v d → RepD K ca nm G' H' v d
  | _, _, .non => .non
  | _, _, .bl b => .bl b
  | _, _, .int i => .int i
  | _, _, .str x => .str x
  | _, _, .tup h r => .tup (f.sqT h) (RepDs.mono g f r)
  | _, _, .lst h r => .lst (g _ _ h) (RepDs.mono g f r)
  | _, _, .scr h => .scr (g.sqL h)
  | _, _, .ins h r => .ins (g _ _ h) (RepDs.mono g f r)
theorem RepDs.mono (g : Sub G G') (f : Fix H H') : ∀ {vs : List V} {ds : List D}, RepDs K ca nm G H vs ds → RepDs K ca nm G' H' vs ds
  | _, _, .nil => .nil
  | _, _, .cons h r => .cons (RepD.mono g f h) (RepDs.mono g f r)
end
/-! the own parts stay, too -/
mutual
theorem RepO.mono (g : Sub G G') (f : Fix H H') : ∀ {v : V} {o : O} {F : List Addr}, RepO K ca nm G H v o F → (∀ a ∈ F, ∀ u, H a = some u → H' a = some u) → RepO K ca nm G' H' v o F
  | _, _, _, .sh h, _ => .sh (h.mono g f)
  | _, _, _, .lst h r, k => .lst (k _ (by simp) _ h) (RepOs.mono g f r fun a ha => k a (by simp [ha]))
  | _, _, _, .tup h r, k => .tup (f.sqT h) (RepOs.mono g f r k)
  | _, _, _, .ins h r, k => .ins (k _ (by simp) _ h) (RepOs.mono g f r fun a ha => k a (by simp [ha]))
theorem RepOs.mono (g : Sub G G') (f : Fix H H') : ∀ {vs : List V} {os : List O} {F : List Addr}, RepOs K ca nm G H vs os F → (∀ a ∈ F, ∀ u, H a = some u → H' a = some u) → RepOs K ca nm G' H' vs os F
  | _, _, _, .nil, _ => .nil
  | _, _, _, .cons h r, k => .cons (RepO.mono g f h fun a ha => k a (by simp [ha])) (RepOs.mono g f r fun a ha => k a (by simp [ha]))
end
/-! read as it stands now -/
mutual
theorem RepO.now (g : Sub G G') (f : Fix H H') : ∀ {v : V} {o : O} {F : List Addr}, RepO K ca nm G H v o F → (∀ a ∈ F, ∀ u, H a = some u → G' a = some u) → RepD K ca nm G' H' v o.d
  | _, _, _, .sh h, _ => h.mono g f
  | _, _, _, .lst h r, k => .lst (k _ (by simp) _ h) (RepOs.now g f r fun a ha => k a (by simp [ha]))
  | _, _, _, .tup h r, k => .tup (f.sqT h) (RepOs.now g f r k)
  | _, _, _, .ins h r, k => .ins (k _ (by simp) _ h) (RepOs.now g f r fun a ha => k a (by simp [ha]))
theorem RepOs.now (g : Sub G G') (f : Fix H H') : ∀ {vs : List V} {os : List O} {F : List Addr}, RepOs K ca nm G H vs os F → (∀ a ∈ F, ∀ u, H a = some u → G' a = some u) → RepDs K ca nm G' H' vs (O.ds os)
  | _, _, _, .nil, _ => .nil
  | _, _, _, .cons h r, k => .cons (RepO.now g f h fun a ha => k a (by simp [ha])) (RepOs.now g f r fun a ha => k a (by simp [ha]))
end
/-! the own places hold what may change -/
mutual
theorem RepO.there : ∀ {v : V} {o : O} {F : List Addr}, RepO K ca nm G H v o F → ∀ a ∈ F, ∃ u, H a = some u ∧ isMut u = true
  | _, _, _, .sh h, a, ha => absurd ha (by simp)
  | _, _, _, .lst h r, a, ha => by
    rcases List.mem_cons.mp ha with e | ha
    · exact ⟨_, by rw [e]; exact h, rfl⟩
    · exact RepOs.there r a ha
  | _, _, _, .tup h r, a, ha => RepOs.there r a ha
  | _, _, _, .ins h r, a, ha => by
    rcases List.mem_cons.mp ha with e | ha
    · exact ⟨_, by rw [e]; exact h, rfl⟩
    · exact RepOs.there r a ha
theorem RepOs.there : ∀ {vs : List V} {os : List O} {F : List Addr}, RepOs K ca nm G H vs os F → ∀ a ∈ F, ∃ u, H a = some u ∧ isMut u = true
  | _, _, _, .nil, a, ha => absurd ha (by simp)
  | _, _, _, .cons h r, a, ha => by
    rcases List.mem_append.mp ha with ha | ha
    · exact RepO.there h a ha
    · exact RepOs.there r a ha
end
theorem RepDs.length : ∀ {vs : List V} {ds : List D}, RepDs K ca nm G H vs ds → vs.length = ds.length
  | _, _, .nil => rfl
  | _, _, .cons _ r => by simp [RepDs.length r]
theorem RepOs.length : ∀ {vs : List V} {os : List O} {F : List Addr}, RepOs K ca nm G H vs os F → vs.length = os.length
  | _, _, _, .nil => rfl
  | _, _, _, .cons _ r => by simp [RepOs.length r]
theorem RepDs.get : ∀ {vs : List V} {ds : List D} {i : Nat} {d : D}, RepDs K ca nm G H vs ds → ds[i]? = some d → ∃ v, vs[i]? = some v ∧ RepD K ca nm G H v d
  | _, _, _, _, .nil, e => by simp at e
  | _, _, 0, _, .cons h _, e => by simp at e; subst e; exact ⟨_, rfl, h⟩
  | _, _, i + 1, d, .cons _ r, e => by
    obtain ⟨v, h1, h2⟩ := RepDs.get (i := i) (d := d) r (by simpa using e)
    exact ⟨v, by simpa using h1, h2⟩
theorem RepDs.get' : ∀ {vs : List V} {ds : List D} {i : Nat} {v : V}, RepDs K ca nm G H vs ds → vs[i]? = some v → ∃ d, ds[i]? = some d ∧ RepD K ca nm G H v d
  | _, _, _, _, .nil, e => by simp at e
  | _, _, 0, _, .cons h _, e => by simp at e; subst e; exact ⟨_, rfl, h⟩
  | _, _, i + 1, v, .cons _ r, e => by
    obtain ⟨d, h1, h2⟩ := RepDs.get' (i := i) (v := v) r (by simpa using e)
    exact ⟨d, by simpa using h1, h2⟩
theorem RepDs.append : ∀ {vs ws : List V} {ds es : List D}, RepDs K ca nm G H vs ds → RepDs K ca nm G H ws es → RepDs K ca nm G H (vs ++ ws) (ds ++ es)
  | _, _, _, _, .nil, s => s
  | _, _, _, _, .cons h r, s => .cons h (RepDs.append r s)
theorem RepDs.take : ∀ {vs : List V} {ds : List D} (n : Nat), RepDs K ca nm G H vs ds → RepDs K ca nm G H (vs.take n) (ds.take n)
  | _, _, 0, _ => .nil
  | _, _, _ + 1, .nil => .nil
  | _, _, n + 1, .cons h r => .cons h (RepDs.take n r)
theorem RepDs.drop : ∀ {vs : List V} {ds : List D} (n : Nat), RepDs K ca nm G H vs ds → RepDs K ca nm G H (vs.drop n) (ds.drop n)
  | _, _, 0, r => r
  | _, _, _ + 1, .nil => .nil
  | _, _, n + 1, .cons _ r => RepDs.drop n r
theorem RepDs.rep {vs : List V} {ds : List D} (h : RepDs K ca nm G H vs ds) : ∀ k : Nat, RepDs K ca nm G H (List.replicate k vs).flatten (List.replicate k ds).flatten
  | 0 => .nil
  | k + 1 => by rw [List.replicate_succ, List.replicate_succ, List.flatten_cons, List.flatten_cons]; exact h.append (RepDs.rep h k)
theorem RepDs.ints (ns : List Int) : RepDs K ca nm G H (ns.map V.int) (ns.map D.int) := by
  induction ns with
  | nil => exact .nil
  | cons n r ih => exact .cons (.int n) ih
theorem RepDs.to_ints : ∀ {vs : List V} {ns : List Int}, RepDs K ca nm G H vs (ns.map D.int) → vs = ns.map V.int
  | _, [], h => by cases h; rfl
  | _, n :: r, h => by
    cases h with
    | cons h1 h2 => cases h1; rw [RepDs.to_ints h2]; rfl
theorem RepDs.reverse {vs : List V} {ds : List D} (h : RepDs K ca nm G H vs ds) : RepDs K ca nm G H vs.reverse ds.reverse := by
  induction h using RepDs.rec (motive_1 := fun _ _ _ => True) with
  | nil => exact .nil
  | cons h r _ ih => rw [List.reverse_cons, List.reverse_cons]; exact ih.append (.cons h .nil)
  | _ => trivial
/-- all shared: no own places -/
theorem RepOs.of_D : ∀ {vs : List V} {ds : List D}, RepDs K ca nm G H vs ds → RepOs K ca nm G H vs (ds.map O.sh) []
  | _, _, .nil => .nil
  | _, _, .cons h r => .cons (F := []) (F' := []) (.sh h) (RepOs.of_D r)
theorem RepOs.to_D : ∀ {vs : List V} {ds : List D} {F : List Addr}, RepOs K ca nm G H vs (ds.map O.sh) F → RepDs K ca nm G H vs ds ∧ F = []
  | _, [], _, h => by cases h; exact ⟨.nil, rfl⟩
  | _, d :: ds, _, h => by
    cases h with
    | cons h1 h2 =>
      cases h1 with
      | sh h1 =>
        obtain ⟨h3, rfl⟩ := RepOs.to_D h2
        exact ⟨.cons h1 h3, rfl⟩
theorem RepOs.get : ∀ {vs : List V} {os : List O} {F : List Addr} {i : Nat} {o : O}, RepOs K ca nm G H vs os F → os[i]? = some o → ∃ v F1 F0 F2, vs[i]? = some v ∧ RepO K ca nm G H v o F1 ∧ F = F0 ++ (F1 ++ F2)
  | _, _, _, _, _, .nil, e => by simp at e
  | _, _, _, 0, _, .cons (F' := F') h _, e => by simp at e; subst e; exact ⟨_, _, [], F', rfl, h, rfl⟩
  | _, _, _, i + 1, o, .cons (F := F) _ r, e => by
    obtain ⟨v, F1, F0, F2, h1, h2, h3⟩ := RepOs.get (i := i) (o := o) r (by simpa using e)
    exact ⟨v, F1, F ++ F0, F2, by simpa using h1, h2, by rw [h3, List.append_assoc]⟩
theorem RepOs.append : ∀ {vs ws : List V} {os us : List O} {F F' : List Addr}, RepOs K ca nm G H vs os F → RepOs K ca nm G H ws us F' → RepOs K ca nm G H (vs ++ ws) (os ++ us) (F ++ F')
  | _, _, _, _, _, _, .nil, s => s
  | _, _, _, _, _, _, .cons h r, s => by rw [List.append_assoc]; exact .cons h (RepOs.append r s)
end

end Ev

namespace Ev
open PySem L2

/-! ### the names of a def: what each holds -/
abbrev Env := List (Option O)
def gt (ρ : Env) (i : Nat) : Option O := (ρ[i]?).getD none
def pt (ρ : Env) (i : Nat) (o : Option O) : Env := ρ.set i o

section
variable (K : PySem.W.Frag) (ca : Nat → Addr) (nm : Nat → Str)
def InF (Fs : Nat → List Addr) (a : Addr) : Prop := ∃ i, a ∈ Fs i
structure EnvR (G H : Hp) (σ : L2.St) (ρ : Env) (Fs : Nat → List Addr) : Prop where
  gh : Sub G H
  ln : ρ.length = σ.length
  sl : ∀ i o, gt ρ i = some o → ∃ v, σ[i]? = some (some v) ∧ RepO K ca nm G H v o (Fs i)
  nl : ∀ i, gt ρ i = none → Fs i = []
  nd : ∀ i, (Fs i).Nodup
  dj : ∀ i j a, a ∈ Fs i → a ∈ Fs j → i = j
  gf : ∀ i a, a ∈ Fs i → G a = none
end
/-- from one state to a later one: what is neither own nor new stays -/
structure Step (G H : Hp) (Fs : Nat → List Addr) (G' H' : Hp) (Fs' : Nat → List Addr) : Prop where
  g : Sub G G'
  fr : ∀ a o, H a = some o → ¬ InF Fs a → H' a = some o
  fx : Fix H H'
  al : ∀ a, H' a = none → H a = none
  nf : ∀ a, InF Fs' a → InF Fs a ∨ H a = none
  ng : ∀ a o, G' a = some o → G a = some o ∨ InF Fs a ∨ H a = none
theorem Step.refl (G H : Hp) (Fs : Nat → List Addr) : Step G H Fs G H Fs := ⟨Sub.refl G, fun _ _ h _ => h, Fix.refl H, fun _ h => h, fun _ h => .inl h, fun _ _ h => .inl h⟩
theorem Step.trans {G H G1 H1 G2 H2 : Hp} {Fs Fs1 Fs2 : Nat → List Addr} (s : Step G H Fs G1 H1 Fs1) (t : Step G1 H1 Fs1 G2 H2 Fs2) : Step G H Fs G2 H2 Fs2 := by
  have notF : ∀ a o, H a = some o → ¬ InF Fs a → ¬ InF Fs1 a := fun a o h n z => by
    rcases s.nf a z with z | z
    · exact n z
    · rw [h] at z; cases z
  have back : ∀ a, H1 a = none → InF Fs a ∨ H a = none := fun a h => .inr (s.al a h)
  refine ⟨s.g.trans t.g, fun a o h n => t.fr a o (s.fr a o h n) (notF a o h n), s.fx.trans t.fx, fun a h => s.al a (t.al a h), fun a h => ?_, fun a o h => ?_⟩
  · rcases t.nf a h with h | h
    · exact s.nf a h
    · exact back a h
  · rcases t.ng a o h with h | h | h
    · exact s.ng a o h
    · exact .inr (s.nf a h)
    · exact .inr (back a h)

section
variable {K : PySem.W.Frag} {ca : Nat → Addr} {nm : Nat → Str} {G G' H H' : Hp} {σ : L2.St} {ρ : Env} {Fs : Nat → List Addr}
theorem gt_pt_same {i : Nat} {o : Option O} (h : i < ρ.length) : gt (pt ρ i o) i = o := by
  unfold gt pt
  rw [List.getElem?_set_self h]
  rfl
theorem gt_pt_ne {i j : Nat} {o : Option O} (h : j ≠ i) : gt (pt ρ i o) j = gt ρ j := by
  unfold gt pt
  rw [List.getElem?_set_ne (Ne.symm h)]
theorem pt_length (i : Nat) (o : Option O) : (pt ρ i o).length = ρ.length := by simp [pt]
theorem gt_lt {i : Nat} {o : O} (h : gt ρ i = some o) : i < ρ.length := by
  unfold gt at h
  rcases Nat.lt_or_ge i ρ.length with q | q
  · exact q
  · rw [List.getElem?_eq_none q] at h; cases h
theorem EnvR.there (E : EnvR K ca nm G H σ ρ Fs) {a : Addr} (h : InF Fs a) : ∃ u, H a = some u ∧ isMut u = true := by
  obtain ⟨i, h⟩ := h
  cases e : gt ρ i with
  | none => rw [E.nl i e] at h; cases h
  | some o =>
    obtain ⟨v, _, r⟩ := E.sl i o e
    exact r.there a h
theorem EnvR.notG (E : EnvR K ca nm G H σ ρ Fs) {a : Addr} {o : HO} (h : G a = some o) : ¬ InF Fs a := fun ⟨i, z⟩ => by
  rw [E.gf i a z] at h; cases h
theorem EnvR.new (E : EnvR K ca nm G H σ ρ Fs) {a : Addr} (h : H a = none) : ¬ InF Fs a := fun z => by
  obtain ⟨u, e, _⟩ := E.there z
  rw [h] at e; cases e
theorem EnvR.gnew (E : EnvR K ca nm G H σ ρ Fs) {a : Addr} (h : H a = none) : G a = none := by
  cases e : G a with
  | none => rfl
  | some o => rw [E.gh a o e] at h; cases h
/-- new objects alone -/
theorem EnvR.ext (E : EnvR K ca nm G H σ ρ Fs) (s : Same H H') : EnvR K ca nm G H' σ ρ Fs :=
  ⟨E.gh.trans s, E.ln, fun i o e => let ⟨v, h, r⟩ := E.sl i o e; ⟨v, h, r.mono (Sub.refl G) (Fix.of_same s) fun a _ u h => s a u h⟩, E.nl, E.nd, E.dj, E.gf⟩
theorem Step.of_same (s : Same H H') : Step G H Fs G H' Fs := ⟨Sub.refl G, fun a o h _ => s a o h, Fix.of_same s, fun a h => s.free h, fun _ h => .inl h, fun _ _ h => .inl h⟩
/-- a value that is seen: shared or the part of a place, or a new one -/
def Pv (G H : Hp) (Fs : Nat → List Addr) (G0 H0 : Hp) (Fs0 : Nat → List Addr) (p : Option Nat) (F : List Addr) : Prop :=
  match p with
  | some i => List.Sublist F (Fs i)
  | none => F.Nodup ∧ ∀ a ∈ F, ¬ InF Fs a ∧ G a = none ∧ (InF Fs0 a ∨ H0 a = none)
end

/-! ### expressions, statements -/
inductive Bop where | add | sub | mul | fdiv | mod | pow
  deriving DecidableEq
inductive Cop where | eq | ne | lt | le | gt | ge | isN | notN | inn | nin
  deriving DecidableEq
inductive Blt where | len | abs | int1 | list | tuple | all | any | isInt | isBool | isTuple | isList | isStr | max2 | min2
  deriving DecidableEq
/-- a target -/
inductive Tg where
  | nm (i : Nat)
  | tp (is : List Nat)
/-- a step of a path: an item, a field -/
inductive Stp where
  | ix (k : Int) | fl (f : Nat)
mutual
inductive Ex where
  | var (i : Nat) | con (d : D)
  | tup (es : Exs) | lst (es : Exs)
  | bin (op : Bop) (a b : Ex) | neg (a : Ex)
  | cmp (op : Cop) (a b : Ex) | chn (o1 o2 : Cop) (a b c : Ex)
  | and_ (a b : Ex) | or_ (a b : Ex) | not_ (a : Ex) | ite (c a b : Ex)
  | idx (a k : Ex) | idc (a : Ex) (i : Int) | slc (a lo hi : Ex) | srev (a : Ex)
  | call (g : Nat) (es : Exs) | meth (m : Nat) (es : Exs) | mk (c : Nat) (es : Exs)
  | attr (a : Ex) (f : Nat)
  | shr (a : Ex)
  | blt (b : Blt) (es : Exs)
  | pop (i : Nat) (p : List Stp) | popAt (i : Nat) (p : List Stp) (k : Ex)
  | comp (tg : Tg) (it : It) (cond elt : Ex) (own : List Nat)
inductive Exs where
  | nil | cons (e : Ex) (es : Exs)
inductive It where
  | seq (e : Ex) | hid (i : Nat) | rng (es : Exs) | enm (e : Ex) | zip (a b : Ex) | rev (e : Ex)
end

structure Sg where
  Φ : Nat → List O → Option (O × List O)
  Φm : Nat → List O → Option (O × List O)
  sig : Nat → List Bool
  mth : Nat → Nat → Option Nat
  msg : Nat → List Bool
  ini : Nat → Option Nat
  atr : Nat → Nat → Bool

mutual
/-- nothing that stands is changed -/
def pureX (S : Sg) : Ex → Bool
  | .var _ => true | .con _ => true
  | .tup es => pureXs S es | .lst es => pureXs S es
  | .bin _ a b => pureX S a && pureX S b | .neg a => pureX S a
  | .cmp _ a b => pureX S a && pureX S b | .chn _ _ a b c => pureX S a && (pureX S b && pureX S c)
  | .and_ a b => pureX S a && pureX S b | .or_ a b => pureX S a && pureX S b | .not_ a => pureX S a
  | .ite c a b => pureX S c && (pureX S a && pureX S b)
  | .idx a k => pureX S a && pureX S k | .idc a _ => pureX S a | .slc a l h => pureX S a && (pureX S l && pureX S h) | .srev a => pureX S a
  | .call g es => !(S.sig g).any id && pureXs S es
  | .meth m es => !(S.msg m).any id && pureXs S es | .mk _ es => pureXs S es
  | .attr a _ => pureX S a
  | .shr a => pureX S a
  | .blt _ es => pureXs S es
  | .pop _ _ => false | .popAt _ _ _ => false
  | .comp _ it c e _ => pureIt S it && (pureX S c && pureX S e)
def pureXs (S : Sg) : Exs → Bool
  | .nil => true
  | .cons e es => pureX S e && pureXs S es
def pureIt (S : Sg) : It → Bool
  | .seq e => pureX S e | .hid _ => true | .rng es => pureXs S es | .enm e => pureX S e | .zip a b => pureX S a && pureX S b | .rev e => pureX S e
end

def LIM : Nat := 100000
mutual
def D.pd : D → PyData
  | .non => .none | .bl b => .bool b | .int i => .int i | .str x => .str x
  | .tup ds => .tuple (D.pds ds) | .lst ds => .list (D.pds ds)
  | .scr _ => .dict [] | .ins _ _ _ => .dict []
def D.pds : List D → List PyData
  | [] => []
  | d :: ds => d.pd :: D.pds ds
end
/-- shared items -/
def unSh : List O → Option (List D)
  | [] => some []
  | .sh d :: os => (unSh os).map (d :: ·)
  | _ :: _ => none
def lstOf : O → Option (List D)
  | .sh (.lst ds) => some ds
  | .lst os => unSh os
  | _ => none
def tupOf : O → Option (List D)
  | .sh (.tup ds) => some ds
  | .tup os => unSh os
  | _ => none
def mkTup (os : List O) : O := match unSh os with
  | some ds => .sh (.tup ds)
  | none => .tup os
def lsO (ds : List D) : O := .lst (ds.map .sh)

def binO (op : Bop) (x y : O) : Option O :=
  match op, x, y with
  | .add, .sh (.int i), .sh (.int j) => some (.sh (.int (i + j)))
  | .sub, .sh (.int i), .sh (.int j) => some (.sh (.int (i - j)))
  | .mul, .sh (.int i), .sh (.int j) => if i.natAbs.log2 + j.natAbs.log2 < 1000000 then some (.sh (.int (i * j))) else none
  | .fdiv, .sh (.int i), .sh (.int j) => if j ≠ 0 ∧ j.natAbs.log2 < 9000 then some (.sh (.int (i.fdiv j))) else none
  | .mod, .sh (.int i), .sh (.int j) => if j ≠ 0 then some (.sh (.int (i.fmod j))) else none
  | .pow, .sh (.int i), .sh (.int j) => if 0 ≤ j ∧ j ≤ 1000000 ∧ i.natAbs < 2 ^ 64 then some (.sh (.int (i ^ j.toNat))) else none
  | .add, .sh (.str a), .sh (.str b) => if a.length + b.length ≤ LIM then some (.sh (.str (a ++ b))) else none
  | .add, .sh (.tup xs), .sh (.tup ys) => if xs.length + ys.length ≤ LIM then some (.sh (.tup (xs ++ ys))) else none
  | .add, x, y => match lstOf x, lstOf y with
    | some xs, some ys => if xs.length + ys.length ≤ LIM then some (lsO (xs ++ ys)) else none
    | _, _ => none
  | .mul, x, .sh (.int k) => match lstOf x with
    | some xs => if -(2 ^ 63) ≤ k ∧ k < 2 ^ 63 ∧ xs.length * k.toNat ≤ LIM then some (lsO (List.replicate k.toNat xs).flatten) else none
    | _ => none
  | _, _, _ => none
def eqD (d e : D) : Option Bool := if SeqAt.shaped d.pd = true ∧ SeqAt.shaped e.pd = true then some (PyData.eqv d.pd e.pd) else none
def cmpI (op : Cop) (i j : Int) : Option Bool := match op with
  | .lt => some (decide (i < j)) | .le => some (decide (i ≤ j)) | .gt => some (decide (j < i)) | .ge => some (decide (j ≤ i))
  | _ => none
def flatD : D → Bool
  | .non => true | .bl _ => true | .int _ => true | .str _ => true
  | _ => false
def inD (d : D) (y : O) : Option Bool := match lstOf y, tupOf y with
  | some ds, _ => if SeqAt.shaped d.pd = true ∧ SeqAt.shaped (.list (D.pds ds)) = true then some ((D.pds ds).any fun z => PyData.eqv z d.pd) else none
  | none, some ds => if flatD d = true ∧ ds.all flatD = true then some ((D.pds ds).any fun z => PyData.eqv z d.pd) else none
  | none, none => none
def isNonD : D → Bool
  | .non => true
  | _ => false
def cmpO (op : Cop) (x y : O) : Option Bool := match op with
  | .eq => eqD x.d y.d
  | .ne => (eqD x.d y.d).map (!·)
  | .isN => match y with
    | .sh .non => some (isNonD x.d)
    | _ => none
  | .notN => match y with
    | .sh .non => some (!isNonD x.d)
    | _ => none
  | .inn => inD x.d y
  | .nin => (inD x.d y).map (!·)
  | op => match x, y with
    | .sh (.int i), .sh (.int j) => cmpI op i j
    | _, _ => none

/-- one item: Python's index -/
def ixO (x : O) (k : Int) : Option O := match x with
  | .sh (.lst ds) => (atI ds k).map .sh
  | .sh (.tup ds) => (atI ds k).map .sh
  | .sh (.scr ns) => (atI ns k).map fun n => .sh (.int n)
  | .lst os => atI os k
  | .tup os => atI os k
  | .sh (.str z) => if z.length ≤ LIM then (atI z.cps.toList k).map fun c => .sh (.str ⟨#[c]⟩) else none
  | _ => none
def cutD {α : Type} (xs : List α) (lo hi : Option Int) : List α := (xs.drop (HT.sIx xs.length 0 lo)).take (HT.sIx xs.length xs.length hi - HT.sIx xs.length 0 lo)
def slO (x : O) (lo hi : Option Int) : Option O := match x with
  | .sh (.tup ds) => some (.sh (.tup (cutD ds lo hi)))
  | .sh (.scr ns) => some (lsO (cutD (ns.map D.int) lo hi))
  | .sh (.str z) => if z.length ≤ LIM then some (.sh (.str (cutS z lo hi))) else none
  | x => (lstOf x).map fun ds => lsO (cutD ds lo hi)
def fldD : List Nat → List D → Nat → Option D
  | k :: ks, d :: ds, f => if k = f then some d else fldD ks ds f
  | _, _, _ => none
def fldO : List Nat → List O → Nat → Option O
  | k :: ks, o :: os, f => if k = f then some o else fldO ks os f
  | _, _, _ => none
def boolOf : O → Option Bool
  | .sh (.bl b) => some b
  | _ => none
def intOf : O → Option Int
  | .sh (.int i) => some i
  | _ => none
def bools : List D → Option (List Bool)
  | [] => some []
  | .bl b :: ds => (bools ds).map (b :: ·)
  | _ :: _ => none
def isK (b : Blt) : D → Option Bool
  | .non => some false
  | .bl _ => some (match b with | .isInt => true | .isBool => true | _ => false)
  | .int _ => some (match b with | .isInt => true | _ => false)
  | .str _ => some (match b with | .isStr => true | _ => false)
  | .tup _ => some (match b with | .isTuple => true | _ => false)
  | .lst _ => some (match b with | .isList => true | _ => false)
  | _ => none
def seqOf : O → Option (List D)
  | .sh (.scr ns) => some (ns.map .int)
  | x => match lstOf x with
    | some ds => some ds
    | none => tupOf x
def bltO (b : Blt) (os : List O) : Option O := match b, os with
  | .len, [x] => (match x with
    | .sh (.str z) => if z.length ≤ LIM then some (.sh (.int z.length)) else none
    | .lst os => some (.sh (.int os.length))
    | x => (seqOf x).map fun ds => .sh (.int ds.length))
  | .abs, [.sh (.int i)] => some (.sh (.int (if i < 0 then -i else i)))
  | .int1, [.sh (.int i)] => some (.sh (.int i))
  | .int1, [.sh (.bl k)] => some (.sh (.int (if k then 1 else 0)))
  | .max2, [.sh (.int i), .sh (.int j)] => some (.sh (.int (if j > i then j else i)))
  | .min2, [.sh (.int i), .sh (.int j)] => some (.sh (.int (if j < i then j else i)))
  | .list, [x] => (seqOf x).map lsO
  | .tuple, [x] => (seqOf x).map fun ds => .sh (.tup ds)
  | .all, [x] => (lstOf x).bind fun ds => (bools ds).map fun bs => .sh (.bl (bs.all id))
  | .any, [x] => (lstOf x).bind fun ds => (bools ds).map fun bs => .sh (.bl (bs.any id))
  | .isInt, [x] => (isK .isInt x.d).map fun b => .sh (.bl b)
  | .isBool, [x] => (isK .isBool x.d).map fun b => .sh (.bl b)
  | .isTuple, [x] => (isK .isTuple x.d).map fun b => .sh (.bl b)
  | .isList, [x] => (isK .isList x.d).map fun b => .sh (.bl b)
  | .isStr, [x] => (isK .isStr x.d).map fun b => .sh (.bl b)
  | _, _ => none

/-- the part at a path, own all the way -/
def getP : O → List Stp → Option O
  | o, [] => some o
  | .lst os, .ix k :: p => (atI os k).bind fun o => getP o p
  | .tup os, .ix k :: p => (atI os k).bind fun o => getP o p
  | .ins c ks os, .fl f :: p => (fldO ks os f).bind fun o => getP o p
  | _, _ => none
def setN (os : List O) (k : Int) (o : O) : List O := match ixN os.length k with
  | some j => os.set j o
  | none => os
def setFl {α : Type} : List Nat → List α → Nat → α → List α
  | k :: ks, u :: os, f, o => if k = f then o :: os else u :: setFl ks os f o
  | _, os, _, _ => os
def setP : O → List Stp → O → O
  | _, [], x => x
  | .lst os, .ix k :: p, x => (match atI os k with
    | some o => .lst (setN os k (setP o p x))
    | none => .lst os)
  | .tup os, .ix k :: p, x => (match atI os k with
    | some o => .tup (setN os k (setP o p x))
    | none => .tup os)
  | .ins c ks os, .fl f :: p, x => (match fldO ks os f with
    | some o => .ins c ks (setFl ks os f (setP o p x))
    | none => .ins c ks os)
  | o, _, _ => o
def ownL : O → Option (List O)
  | .lst os => some os
  | _ => none
/-- a value is kept: a name that holds an own thing lets it go -/
def isVar : Ex → Bool
  | .var _ => true
  | _ => false
def retE (e : Ex) : O × Option Nat × Env → O × Env
  | (.sh d, _, ρ) => (.sh d, ρ)
  | (o, none, ρ) => (o, ρ)
  | (o, some i, ρ) => if isVar e then (.sh o.d, pt ρ i (some (.sh o.d))) else (o, pt ρ i none)
/-- .. or is handed out -/
def mvE : O × Option Nat × Env → O × Env
  | (.sh d, _, ρ) => (.sh d, ρ)
  | (o, none, ρ) => (o, ρ)
  | (o, some i, ρ) => (o, pt ρ i none)
def setTg (t : Tg) (o : O) (ρ : Env) : Option Env := match t with
  | .nm i => some (pt ρ i (some o))
  | .tp is => match (match o with
      | .sh (.tup ds) => some (ds.map O.sh)
      | .sh (.lst ds) => some (ds.map O.sh)
      | .tup os => some os
      | .lst os => some os
      | _ => none) with
    | some os => if os.length = is.length then some ((is.zip os).foldl (fun ρ p => pt ρ p.1 (some p.2)) ρ) else none
    | none => none
def wipeE (ρ : Env) : List Nat → Env
  | [] => ρ
  | i :: is => wipeE (pt ρ i none) is
def backE (ρ0 : Env) : List Nat → Env → Env
  | [], ρ => ρ
  | i :: is, ρ => backE ρ0 is (pt ρ i (gt ρ0 i))
/-- a comprehension's turns -/
def compL (own : List Nat) (tg : Tg) (cond elt : Env → Option (O × Env)) : List D → Env → List O → Option (List O × Env)
  | [], ρ, acc => some (acc, ρ)
  | d :: ds, ρ, acc => (setTg tg (.sh d) (wipeE ρ own)).bind fun ρ1 => (cond ρ1).bind fun r => (boolOf r.1).bind fun b => match b with
    | true => (elt r.2).bind fun q => compL own tg cond elt ds q.2 (acc ++ [q.1])
    | false => compL own tg cond elt ds r.2 acc
def tupD (x y : D) : D := .tup [x, y]
def enumD : List D → Nat → List D
  | [], _ => []
  | d :: ds, n => tupD (.int n) d :: enumD ds (n + 1)
def zipD : List D → List D → List D
  | d :: ds, e :: es => tupD d e :: zipD ds es
  | _, _ => []
def rangeD (lo hi : Int) : List D := (List.range (hi - lo).toNat).map fun (k : Nat) => D.int (lo + (k : Int))
def hideE (i : Nat) (ρ : Env) : Env := pt ρ i none
def isNonX : Ex → Bool
  | .con .non => true
  | _ => false
def optI : Bool → O → Option (Option Int)
  | true, .sh .non => some none
  | false, .sh (.int i) => some (some i)
  | _, _ => none

def clsO : List O → Option Nat
  | .ins c _ _ :: _ => some c
  | .sh (.ins c _ _) :: _ => some c
  | _ => none
/-- the changed arguments go back to their names -/
def backA : List (Option Nat) → List O → Env → Env
  | some i :: is, o :: os, ρ => backA is os (pt ρ i (some o))
  | none :: is, _ :: os, ρ => backA is os ρ
  | _, _, ρ => ρ
def backH : Option (Nat × O) → Env → Env
  | some (i, o), ρ => pt ρ i (some o)
  | none, ρ => ρ
mutual
def ev (S : Sg) : Ex → Env → Option (O × Option Nat × Env)
  | .var i, ρ => (gt ρ i).map fun o => (o, some i, ρ)
  | .con d, ρ => some (.sh d, none, ρ)
  | .tup es, ρ => (evs S es ρ).bind fun r => some (mkTup r.1, none, r.2)
  | .lst es, ρ => (evs S es ρ).bind fun r => some (.lst r.1, none, r.2)
  | .bin op a b, ρ => (ev S a ρ).bind fun x => (ev S b x.2.2).bind fun y => if (x.1.isSh || pureX S b) = true then (binO op x.1 y.1).map fun o => (o, none, y.2.2) else none
  | .neg a, ρ => (ev S a ρ).bind fun x => (intOf x.1).map fun i => (.sh (.int (-i)), none, x.2.2)
  | .cmp op a b, ρ => (ev S a ρ).bind fun x => (ev S b x.2.2).bind fun y => if (x.1.isSh || pureX S b) = true then (cmpO op x.1 y.1).map fun c => (.sh (.bl c), none, y.2.2) else none
  | .chn o1 o2 a b c, ρ => (ev S a ρ).bind fun x => (ev S b x.2.2).bind fun y => if (x.1.isSh && y.1.isSh) = true then (cmpO o1 x.1 y.1).bind fun k =>
      (match k with
      | true => (ev S c y.2.2).bind fun z => (cmpO o2 y.1 z.1).map fun k => (.sh (.bl k), none, z.2.2)
      | false => some (.sh (.bl false), none, y.2.2)) else none
  | .and_ a b, ρ => (ev S a ρ).bind fun x => (boolOf x.1).bind fun k => (match k with
      | true => (ev S b x.2.2).bind fun y => (boolOf y.1).map fun k => (.sh (.bl k), none, y.2.2)
      | false => some (.sh (.bl false), none, x.2.2))
  | .or_ a b, ρ => (ev S a ρ).bind fun x => (boolOf x.1).bind fun k => (match k with
      | true => some (.sh (.bl true), none, x.2.2)
      | false => (ev S b x.2.2).bind fun y => (boolOf y.1).map fun k => (.sh (.bl k), none, y.2.2))
  | .not_ a, ρ => (ev S a ρ).bind fun x => (boolOf x.1).map fun k => (.sh (.bl (!k)), none, x.2.2)
  | .ite c a b, ρ => (ev S c ρ).bind fun x => (boolOf x.1).bind fun k => (match k with
      | true => ev S a x.2.2
      | false => ev S b x.2.2)
  | .idx a k, ρ => (ev S a ρ).bind fun x => (ev S k x.2.2).bind fun y => (intOf y.1).bind fun i => (ixO x.1 i).bind fun o =>
      if (o.isSh && (x.1.isSh || pureX S k)) = true then some (o, none, y.2.2) else none
  | .idc a i, ρ => (ev S a ρ).bind fun x => (ixO x.1 i).map fun o => (o, if o.isSh = true then none else x.2.1, x.2.2)
  | .slc a lo hi, ρ => (ev S a ρ).bind fun x => (ev S lo x.2.2).bind fun y => (ev S hi y.2.2).bind fun z => (optI (isNonX lo) y.1).bind fun i => (optI (isNonX hi) z.1).bind fun j =>
      if (x.1.isSh || (pureX S lo && pureX S hi)) = true then (slO x.1 i j).map fun o => (o, none, z.2.2) else none
  | .srev a, ρ => (ev S a ρ).bind fun x => (lstOf x.1).map fun ds => (lsO ds.reverse, none, x.2.2)
  | .call g es, ρ => (evA S (S.sig g) es ρ).bind fun r => (S.Φ g r.1).map fun q => (q.1, none, backA r.2.1 q.2 r.2.2)
  | .meth m es, ρ => (evA S (S.msg m) es ρ).bind fun r => (clsO r.1).bind fun c => (S.mth c m).bind fun g => (S.Φ g r.1).map fun q => (q.1, none, backA r.2.1 q.2 r.2.2)
  | .mk c es, ρ => (evA S [] es ρ).bind fun r => (S.ini c).bind fun g => (S.Φm g (.ins c [] [] :: r.1)).bind fun q => (match q.1, q.2 with
      | .sh .non, [s] => some (s, none, r.2.2)
      | _, _ => none)
  | .attr a f, ρ => (ev S a ρ).bind fun x => (match x.1 with
      | .sh (.ins c ks ds) => if S.atr c f = true then (fldD ks ds f).map fun d => (.sh d, none, x.2.2) else none
      | .ins c ks os => if S.atr c f = true then (fldO ks os f).map fun o => (o, x.2.1, x.2.2) else none
      | _ => none)
  | .shr a, ρ => (ev S a ρ).map fun x => (.sh (retE a x).1.d, none, (retE a x).2)
  | .blt b es, ρ => (evB S es ρ).bind fun r => (bltO b r.1).map fun o => (o, none, r.2)
  | .pop i p, ρ => (gt ρ i).bind fun o => (getP o p).bind fun nd => (ownL nd).bind fun os => (os.getLast?).map fun x => (x, none, pt ρ i (some (setP o p (.lst os.dropLast))))
  | .popAt i p k, ρ => (ev S k ρ).bind fun y => (intOf y.1).bind fun j => (gt y.2.2 i).bind fun o => (getP o p).bind fun nd => (ownL nd).bind fun os => (ixN os.length j).bind fun n => (os[n]?).map fun x => (x, none, pt y.2.2 i (some (setP o p (.lst (os.eraseIdx n)))))
  | .comp tg it c e own, ρ => (itE S it ρ).bind fun r => if r.1.length ≤ LIM then
      (compL own tg (fun ρ => (ev S c ρ).map fun x => (x.1, x.2.2)) (fun ρ => (ev S e ρ).map (retE e)) r.1 r.2.1 []).map fun q => (.lst q.1, none, backH r.2.2 (backE r.2.1 own q.2)) else none
/-- each kept -/
def evs (S : Sg) : Exs → Env → Option (List O × Env)
  | .nil, ρ => some ([], ρ)
  | .cons e es, ρ => (ev S e ρ).bind fun x => (evs S es (retE e x).2).map fun r => ((retE e x).1 :: r.1, r.2)
/-- each seen: those behind don't change what stands -/
def evB (S : Sg) : Exs → Env → Option (List O × Env)
  | .nil, ρ => some ([], ρ)
  | .cons e es, ρ => (ev S e ρ).bind fun x => if (x.1.isSh || pureXs S es) = true then (evB S es x.2.2).map fun r => (x.1 :: r.1, r.2) else none
/-- arguments: those to be changed are taken from their names -/
def evA (S : Sg) : List Bool → Exs → Env → Option (List O × List (Option Nat) × Env)
  | _, .nil, ρ => some ([], [], ρ)
  | true :: fs, .cons (.var i) es, ρ => (gt ρ i).bind fun o => (evA S fs es (pt ρ i none)).bind fun r => if ((gt r.2.2 i).isNone && !(r.2.1.contains (some i))) = true then some (o :: r.1, some i :: r.2.1, r.2.2) else none
  | f :: fs, .cons e es, ρ => (ev S e ρ).bind fun x => (evA S fs es (retE e x).2).map fun r => ((if f then (retE e x).1 else .sh (retE e x).1.d) :: r.1, (if f then none :: r.2.1 else r.2.1), r.2.2)
  | [], .cons e es, ρ => (ev S e ρ).bind fun x => (evA S [] es (retE e x).2).map fun r => (.sh (retE e x).1.d :: r.1, r.2.1, r.2.2)
def itE (S : Sg) : It → Env → Option (List D × Env × Option (Nat × O))
  | .seq e, ρ => (ev S e ρ).bind fun x => (seqOf (retE e x).1).map fun ds => (ds, (retE e x).2, none)
  | .hid i, ρ => (gt ρ i).bind fun o => (seqOf o).map fun ds => (ds, pt ρ i none, some (i, o))
  | .rng es, ρ => (evB S es ρ).bind fun r => (match r.1 with
      | [.sh (.int j)] => if -(2 ^ 62) ≤ j ∧ j < 2 ^ 62 then some (rangeD 0 j, r.2, none) else none
      | [.sh (.int i), .sh (.int j)] => if -(2 ^ 62) ≤ i ∧ i < 2 ^ 62 ∧ -(2 ^ 62) ≤ j ∧ j < 2 ^ 62 then some (rangeD i j, r.2, none) else none
      | _ => none)
  | .enm e, ρ => (ev S e ρ).bind fun x => (lstOf (retE e x).1).map fun ds => (enumD ds 0, (retE e x).2, none)
  | .zip a b, ρ => (ev S a ρ).bind fun x => (ev S b (retE a x).2).bind fun y => (match lstOf (retE a x).1, lstOf (retE b y).1 with
      | some ds, some es => some (zipD ds es, (retE b y).2, none)
      | _, _ => (match tupOf (retE a x).1, tupOf (retE b y).1 with
        | some ds, some es => some (zipD ds es, (retE b y).2, none)
        | _, _ => none))
  | .rev e, ρ => (ev S e ρ).bind fun x => (lstOf (retE e x).1).map fun ds => (ds.reverse, (retE e x).2, none)
end

/-! ### statements -/
mutual
inductive St where
  | set (i : Nat) (e : Ex) | unp (is : List Nat) (e : Ex) | par (is : List Nat) (es : Exs)
  | aug (i : Nat) (op : Bop) (e : Ex)
  | app (i : Nat) (e : Ex) | appP (i : Nat) (p : List Stp) (e : Ex) | ext (i : Nat) (e : Ex) | insr (i : Nat) (k e : Ex)
  | clr (i : Nat) (p : List Stp) | rvs (i : Nat)
  | setI (i : Nat) (k e : Ex) | setF (i f : Nat) (e : Ex)
  | exp (e : Ex)
  | iff (c : Ex) (a b : Sts) | whl (c : Ex) (b : Sts) | for_ (tg : Tg) (it : It) (b : Sts)
  | ret (e : Ex) | retN | pass | brk | cont
inductive Sts where
  | nil | cons (s : St) (r : Sts)
end
def tgSets (t : Tg) (j : Nat) : Bool := match t with
  | .nm i => i == j
  | .tp is => is.contains j
mutual
/-- a name may get another value -/
def sets (j : Nat) : St → Bool
  | .set i _ => i == j | .unp is _ => is.contains j | .par is _ => is.contains j | .aug i _ _ => i == j
  | .iff _ a b => setss j a || setss j b | .whl _ b => setss j b | .for_ tg _ b => tgSets tg j || setss j b
  | _ => false
def setss (j : Nat) : Sts → Bool
  | .nil => false
  | .cons s r => sets j s || setss j r
end
inductive Out where
  | nx (ρ : Env) | bk (ρ : Env) | ct (ρ : Env) | rt (o : O) (ρ : Env)
def FUEL : Nat := 1000000000000
/-- a while's turns -/
def whlL (c : Env → Option (Bool × Env)) (b : Env → Option Out) : Nat → Env → Option Out
  | 0, _ => none
  | n + 1, ρ => (c ρ).bind fun r => (match r.1 with
    | true => (b r.2).bind fun o => (match o with
      | .nx ρ => whlL c b n ρ
      | .ct ρ => whlL c b n ρ
      | .bk ρ => some (.nx ρ)
      | .rt o ρ => some (.rt o ρ))
    | false => some (.nx r.2))
/-- a for's turns -/
def forL (tg : Tg) (b : Env → Option Out) : List D → Env → Option Out
  | [], ρ => some (.nx ρ)
  | d :: ds, ρ => (setTg tg (.sh d) ρ).bind fun ρ1 => (b ρ1).bind fun o => (match o with
      | .nx ρ => forL tg b ds ρ
      | .ct ρ => forL tg b ds ρ
      | .bk ρ => some (.nx ρ)
      | .rt o ρ => some (.rt o ρ))
/-- a hidden name is back -/
def backO (h : Option (Nat × O)) : Out → Out
  | .nx ρ => .nx (backH h ρ)
  | .bk ρ => .bk (backH h ρ)
  | .ct ρ => .ct (backH h ρ)
  | .rt o ρ => .rt o (backH h ρ)
def hidFree (h : Option (Nat × O)) (tg : Tg) (b : Sts) : Bool := match h with
  | some (i, _) => !(tgSets tg i || setss i b)
  | none => true
def putAll : List Nat → List O → Env → Option Env
  | [], [], ρ => some ρ
  | i :: is, o :: os, ρ => putAll is os (pt ρ i (some o))
  | _, _, _ => none
mutual
def ex (S : Sg) : St → Env → Option Out
  | .set i e, ρ => (ev S e ρ).map fun x => .nx (pt (retE e x).2 i (some (retE e x).1))
  | .unp is e, ρ => (ev S e ρ).bind fun x => (setTg (.tp is) (retE e x).1 (retE e x).2).map .nx
  | .par is es, ρ => (evs S es ρ).bind fun r => (putAll is r.1 r.2).map .nx
  | .aug i op e, ρ => (gt ρ i).bind fun o => (ev S e ρ).bind fun y => if o.isSh = true then (binO op o y.1).map fun o => .nx (pt y.2.2 i (some o)) else none
  | .app i e, ρ => (gt ρ i).bind fun o0 => (ownL o0).bind fun _ => (ev S e ρ).bind fun x => (gt (retE e x).2 i).bind fun o => (ownL o).bind fun os => if os.length < LIM then some (.nx (pt (retE e x).2 i (some (.lst (os ++ [(retE e x).1]))))) else none
  | .appP i p e, ρ => (gt ρ i).bind fun o => (getP o p).bind fun nd => (ownL nd).bind fun os => (ev S e (pt ρ i none)).bind fun x => if ((gt (retE e x).2 i).isNone && decide (os.length < LIM)) = true then
      some (.nx (pt (retE e x).2 i (some (setP o p (.lst (os ++ [(retE e x).1])))))) else none
  | .ext i e, ρ => (gt ρ i).bind fun o0 => (ownL o0).bind fun _ => (ev S e ρ).bind fun x => (gt (retE e x).2 i).bind fun o => (ownL o).bind fun os => (lstOf (retE e x).1).bind fun ds => if os.length + ds.length ≤ LIM then some (.nx (pt (retE e x).2 i (some (.lst (os ++ ds.map .sh))))) else none
  | .insr i k e, ρ => none
  | .clr i p, ρ => (gt ρ i).bind fun o => (getP o p).bind fun nd => (ownL nd).map fun os => .nx (pt ρ i (some (setP o p (.lst []))))
  | .rvs i, ρ => (gt ρ i).bind fun o => (ownL o).map fun os => .nx (pt ρ i (some (.lst os.reverse)))
  | .setI i k e, ρ => (ev S e ρ).bind fun x => (gt (retE e x).2 i).bind fun _ => (ev S k (retE e x).2).bind fun y => (intOf y.1).bind fun j => (gt y.2.2 i).bind fun o => (ownL o).bind fun os => (ixN os.length j).map fun n => .nx (pt y.2.2 i (some (.lst (os.set n (retE e x).1))))
  | .setF i f e, ρ => (ev S e ρ).bind fun x => (gt (retE e x).2 i).bind fun o => (match o with
      | .ins c ks os => if S.atr c f = true ∧ ks.length = os.length ∧ ks.length < 1000 then
          (if f ∈ ks then some (.nx (pt (retE e x).2 i (some (.ins c ks (setFl ks os f (retE e x).1))))) else some (.nx (pt (retE e x).2 i (some (.ins c (ks ++ [f]) (os ++ [(retE e x).1])))))) else none
      | _ => none)
  | .exp e, ρ => (ev S e ρ).map fun x => .nx x.2.2
  | .iff c a b, ρ => (ev S c ρ).bind fun x => (boolOf x.1).bind fun k => (match k with
      | true => exs S a x.2.2
      | false => exs S b x.2.2)
  | .whl c b, ρ => whlL (fun ρ => (ev S c ρ).bind fun x => (boolOf x.1).map fun k => (k, x.2.2)) (fun ρ => exs S b ρ) FUEL ρ
  | .for_ tg it b, ρ => (itE S it ρ).bind fun r => if hidFree r.2.2 tg b = true then (forL tg (fun ρ => exs S b ρ) r.1 r.2.1).map (backO r.2.2) else none
  | .ret e, ρ => (ev S e ρ).map fun x => .rt (mvE x).1 (mvE x).2
  | .retN, ρ => some (.rt (.sh .non) ρ)
  | .pass, ρ => some (.nx ρ)
  | .brk, ρ => some (.bk ρ)
  | .cont, ρ => some (.ct ρ)
def exs (S : Sg) : Sts → Env → Option Out
  | .nil, ρ => some (.nx ρ)
  | .cons s r, ρ => (ex S s ρ).bind fun o => (match o with
      | .nx ρ => exs S r ρ
      | o => some o)
end

/-! ### defs, the program -/
structure Def where
  np : Nat
  nl : Nat
  io : List Bool
  body : Sts
/-- the io parameters' values at the end -/
def iosOf : List Bool → Nat → Env → Option (List O)
  | true :: fs, i, ρ => (gt ρ i).bind fun o => (iosOf fs (i + 1) ρ).map (o :: ·)
  | false :: fs, i, ρ => iosOf fs (i + 1) ρ
  | [], _, _ => some []
def ioFree : List Bool → Nat → Sts → Bool
  | true :: fs, i, b => !setss i b && ioFree fs (i + 1) b
  | false :: fs, i, b => ioFree fs (i + 1) b
  | [], _, _ => true
def callD (S : Sg) (d : Def) (os : List O) : Option (O × List O) :=
  if os.length = d.np then (exs S d.body (os.map some ++ List.replicate (d.nl - d.np) none)).bind fun r => (match r with
    | .nx ρ => (iosOf d.io 0 ρ).map fun us => (.sh .non, us)
    | .rt o ρ => (iosOf d.io 0 ρ).map fun us => (o, us)
    | _ => none)
  else none
structure Prog where
  defs : List Def
  msg : Nat → List Bool
  mth : Nat → Nat → Option Nat
  ini : Nat → Option Nat
  atr : Nat → Nat → Bool
def Prog.sig (P : Prog) (g : Nat) : List Bool := match P.defs[g]? with
  | some d => d.io
  | none => []
def run (P : Prog) : Nat → Nat → List O → Option (O × List O)
  | 0, _, _ => none
  | n + 1, g, os => (P.defs[g]?).bind fun d => callD ⟨run P n, run P n, P.sig, P.mth, P.msg, P.ini, P.atr⟩ d os
def Prog.sg (P : Prog) (n : Nat) : Sg := ⟨run P n, run P n, P.sig, P.mth, P.msg, P.ini, P.atr⟩
end Ev

namespace Ev
open PySem L2

theorem _root_.L2.PE.imp {X : Cx} {e : Expr} {t t' : TE} (h : PE X e t) (w : ∀ σ H Q, t' σ H Q → t σ H Q) : PE X e t' := ⟨fun pins s σ H Q I q => h.run pins s σ H Q I (w σ H Q q)⟩
theorem _root_.L2.PT.imp {X : Cx} {e : Expr} {t t' : TT} (h : PT X e t) (w : ∀ σ H Q, t' σ H Q → t σ H Q) : PT X e t' := ⟨fun pins s σ H Q I q => h.run pins s σ H Q I (w σ H Q q)⟩
theorem _root_.L2.PA.imp {X : Cx} {es : List Expr} {t t' : TA} (h : PA X es t) (w : ∀ σ H Q, t' σ H Q → t σ H Q) : PA X es t' := ⟨fun pos pins s σ H Q I q => h.run pos pins s σ H Q I (w σ H Q q)⟩
theorem _root_.L2.PS.imp {X : Cx} {e : Stmt} {t t' : TS} (h : PS X e t) (w : ∀ D σ H, t' D σ H → t D σ H) : PS X e t' := ⟨fun pins s σ H D I q => h.run pins s σ H D I (w D σ H q)⟩
theorem _root_.L2.PSs.imp {X : Cx} {e : List Stmt} {t t' : TS} (h : PSs X e t) (w : ∀ D σ H, t' D σ H → t D σ H) : PSs X e t' := ⟨fun pins s σ H D I q => h.run pins s σ H D I (w D σ H q)⟩

section
variable (K : PySem.W.Frag) (ca : Nat → Addr) (nm : Nat → Str) (S : Sg)
/-- behind an expression: what came, where things lie -/
structure Aft (σ : L2.St) (pu : Bool) (G H : Hp) (Fs : Nat → List Addr) (o : O) (p : Option Nat) (ρ' : Env) (v : V) (G' H' : Hp) (Fs' : Nat → List Addr) (F : List Addr) : Prop where
  st : Step G H Fs G' H' Fs'
  en : EnvR K ca nm G' H' σ ρ' Fs'
  rp : RepO K ca nm G' H' v o F
  pv : Pv G' H' Fs' G H Fs p F
  pu : pu = true → Same H H'
def tE (x : Ex) : TE := fun σ H Q => ∃ G Fs ρ, EnvR K ca nm G H σ ρ Fs ∧ ∃ o p ρ', ev S x ρ = some (o, p, ρ') ∧
  ∀ v G' H' Fs' F, Aft K ca nm σ (pureX S x) G H Fs o p ρ' v G' H' Fs' F → Q v H'
/-- .. where it is kept -/
def tR (x : Ex) : TE := fun σ H Q => ∃ G Fs ρ, EnvR K ca nm G H σ ρ Fs ∧ ∃ r, ev S x ρ = some r ∧
  ∀ v G' H' Fs' F, Aft K ca nm σ (pureX S x) G H Fs (retE x r).1 none (retE x r).2 v G' H' Fs' F → Q v H'
end
section
variable {K : PySem.W.Frag} {ca : Nat → Addr} {nm : Nat → Str} {S : Sg} {σ : L2.St} {G H G' H' : Hp} {Fs Fs' : Nat → List Addr} {ρ ρ' : Env} {v : V} {o : O} {F : List Addr}

def dropF (Fs : Nat → List Addr) (i : Nat) : Nat → List Addr := fun j => if j = i then [] else Fs j
theorem dropF_in {i : Nat} {a : Addr} (h : InF (dropF Fs i) a) : InF Fs a := by
  obtain ⟨j, h⟩ := h
  unfold dropF at h
  split at h
  · cases h
  · exact ⟨j, h⟩
theorem dropF_out {i : Nat} {a : Addr} (E : EnvR K ca nm G H σ ρ Fs) (h : a ∈ Fs i) : ¬ InF (dropF Fs i) a := fun ⟨j, z⟩ => by
  unfold dropF at z
  split at z
  · cases z
  · rename_i hj
    exact hj (E.dj j i a z h)
/-- a name holds nothing any more -/
theorem EnvR.drop (E : EnvR K ca nm G H σ ρ Fs) (i : Nat) : EnvR K ca nm G H σ (pt ρ i none) (dropF Fs i) := by
  refine ⟨E.gh, by rw [pt_length]; exact E.ln, fun j o e => ?_, fun j e => ?_, fun j => ?_, fun j k a h1 h2 => ?_, fun j a h => E.gf j a ?_⟩
  · by_cases hj : j = i
    · subst hj
      rw [gt_pt_same (by rw [← pt_length (ρ := ρ) j none]; exact gt_lt e)] at e
      cases e
    · rw [gt_pt_ne hj] at e
      unfold dropF
      rw [if_neg hj]
      exact E.sl j o e
  · unfold dropF
    split
    · rfl
    · rename_i hj
      rw [gt_pt_ne hj] at e
      exact E.nl j e
  · unfold dropF
    split
    · exact List.nodup_nil
    · exact E.nd j
  · unfold dropF at h1 h2
    split at h1
    · cases h1
    · split at h2
      · cases h2
      · exact E.dj j k a h1 h2
  · unfold dropF at h
    split at h
    · cases h
    · exact h
/-- own places become shared -/
def addG (G H : Hp) (F : List Addr) : Hp := fun a => if a ∈ F then H a else G a
theorem addG_sub (gh : Sub G H) {F : List Addr} (n : ∀ a ∈ F, G a = none) : Sub G (addG G H F) := fun a o h => by
  unfold addG
  split
  · rename_i hm
    rw [n a hm] at h; cases h
  · exact h
theorem addG_h (gh : Sub G H) {F : List Addr} : Sub (addG G H F) H := fun a o h => by
  unfold addG at h
  split at h
  · exact h
  · exact gh a o h
theorem addG_in {F : List Addr} {a : Addr} (h : a ∈ F) : addG G H F a = H a := by unfold addG; rw [if_pos h]
/-- the places of a list that stand apart become shared -/
theorem EnvR.share (E : EnvR K ca nm G H σ ρ Fs) {F : List Addr} (n : ∀ a ∈ F, ¬ InF Fs a) (g : ∀ a ∈ F, G a = none) : EnvR K ca nm (addG G H F) H σ ρ Fs :=
  ⟨addG_h E.gh, E.ln, fun i o e => let ⟨v, h, r⟩ := E.sl i o e; ⟨v, h, r.mono (addG_sub E.gh g) (Fix.refl H) fun _ _ _ h => h⟩, E.nl, E.nd, E.dj, fun i a h => by
    unfold addG
    rw [if_neg fun z => n a z ⟨i, h⟩]
    exact E.gf i a h⟩
theorem EnvR.putSh (E : EnvR K ca nm G H σ ρ Fs) {i : Nat} {d : D} (hv : ∃ v, σ[i]? = some (some v) ∧ RepD K ca nm G H v d) : EnvR K ca nm G H σ (pt ρ i (some (.sh d))) (dropF Fs i) := by
  have E1 := E.drop i
  refine ⟨E1.gh, by rw [pt_length]; exact E.ln, fun j o e => ?_, fun j e => ?_, E1.nd, E1.dj, E1.gf⟩
  · by_cases hj : j = i
    · subst hj
      have hl : j < ρ.length := by rw [← pt_length (ρ := ρ) j (some (.sh d))]; exact gt_lt e
      rw [gt_pt_same hl] at e
      obtain ⟨v, h1, h2⟩ := hv
      cases e
      refine ⟨v, h1, ?_⟩
      unfold dropF
      rw [if_pos rfl]
      exact .sh h2
    · rw [gt_pt_ne hj] at e
      exact E1.sl j o (by rw [gt_pt_ne hj]; exact e)
  · by_cases hj : j = i
    · subst hj
      unfold dropF
      rw [if_pos rfl]
    · rw [gt_pt_ne hj] at e
      exact E1.nl j (by rw [gt_pt_ne hj]; exact e)
theorem Pv.nodup {G H G0 H0 : Hp} {Fs Fs0 : Nat → List Addr} {p : Option Nat} {F : List Addr} (h : Pv G H Fs G0 H0 Fs0 p F) (nd : ∀ i, (Fs i).Nodup) : F.Nodup := by
  cases p with
  | none => exact h.1
  | some i => exact List.Nodup.sublist h (nd i)
theorem sh_F {v : V} {d : D} {F : List Addr} (h : RepO K ca nm G H v (.sh d) F) : F = [] ∧ RepD K ca nm G H v d := by
  cases h with
  | sh h => exact ⟨rfl, h⟩
/-- what is kept -/
theorem ret_ok {pu : Bool} {x : Ex} {o : O} {p : Option Nat} {ρ' : Env} (hx : isVar x = true → ∀ i, p = some i → gt ρ' i = some o) (A : Aft K ca nm σ pu G H Fs o p ρ' v G' H' Fs' F) :
    ∃ G2 Fs2 F2, Aft K ca nm σ pu G H Fs (retE x (o, p, ρ')).1 none (retE x (o, p, ρ')).2 v G2 H' Fs2 F2 := by
  have shd : ∀ d, o = .sh d → ∃ G2 Fs2 F2, Aft K ca nm σ pu G H Fs (retE x (o, p, ρ')).1 none (retE x (o, p, ρ')).2 v G2 H' Fs2 F2 := fun d e => by
    subst e
    refine ⟨G', Fs', F, A.st, A.en, A.rp, ?_, A.pu⟩
    obtain ⟨rfl, _⟩ := sh_F A.rp
    exact ⟨List.nodup_nil, fun a h => absurd h (by simp)⟩
  have own : (∀ d, o ≠ .sh d) → ∃ G2 Fs2 F2, Aft K ca nm σ pu G H Fs (retE x (o, p, ρ')).1 none (retE x (o, p, ρ')).2 v G2 H' Fs2 F2 := fun ns => by
    cases p with
    | none =>
      have e : retE x (o, none, ρ') = (o, ρ') := by
        cases o with
        | sh d => exact absurd rfl (ns d)
        | _ => rfl
      rw [e]
      exact ⟨G', Fs', F, A⟩
    | some i =>
      have e : retE x (o, some i, ρ') = if isVar x then (.sh o.d, pt ρ' i (some (.sh o.d))) else (o, pt ρ' i none) := by
        cases o with
        | sh d => exact absurd rfl (ns d)
        | _ => rfl
      rw [e]
      have hsub : List.Sublist F (Fs' i) := A.pv
      by_cases hv : isVar x = true
      · rw [if_pos hv]
        have hg := hx hv i rfl
        obtain ⟨w, hw, rw_⟩ := A.en.sl i o hg
        have E1 := A.en.drop i
        have E2 : EnvR K ca nm (addG G' H' (Fs' i)) H' σ (pt ρ' i none) (dropF Fs' i) := E1.share (fun a ha => dropF_out A.en ha) fun a ha => A.en.gf i a ha
        have r1 : RepD K ca nm (addG G' H' (Fs' i)) H' w o.d := rw_.now (addG_sub A.en.gh fun a ha => A.en.gf i a ha) (Fix.refl H') fun a ha u hu => by rw [addG_in ha]; exact hu
        have r2 : RepD K ca nm (addG G' H' (Fs' i)) H' v o.d := A.rp.now (addG_sub A.en.gh fun a ha => A.en.gf i a ha) (Fix.refl H') fun a ha u hu => by rw [addG_in (hsub.subset ha)]; exact hu
        have E3 := E2.putSh (i := i) ⟨w, hw, r1⟩
        have ep : pt (pt ρ' i none) i (some (.sh o.d)) = pt ρ' i (some (.sh o.d)) := by unfold pt; exact List.set_set _
        rw [ep] at E3
        refine ⟨addG G' H' (Fs' i), _, [], ⟨A.st.g.trans (addG_sub A.en.gh fun a ha => A.en.gf i a ha), A.st.fr, A.st.fx, A.st.al, fun a h => A.st.nf a (dropF_in (dropF_in h)), fun a u h => ?_⟩, E3, .sh r2, ⟨List.nodup_nil, fun a h => absurd h (by simp)⟩, A.pu⟩
        by_cases hm : a ∈ Fs' i
        · rcases A.st.nf a ⟨i, hm⟩ with z | z
          · exact .inr (.inl z)
          · exact .inr (.inr z)
        · have h2 : G' a = some u := by
            unfold addG at h
            rw [if_neg hm] at h
            exact h
          exact A.st.ng a u h2
      · rw [if_neg hv]
        refine ⟨G', dropF Fs' i, F, ⟨A.st.g, A.st.fr, A.st.fx, A.st.al, fun a h => A.st.nf a (dropF_in h), A.st.ng⟩, A.en.drop i, A.rp, ⟨A.pv.nodup A.en.nd, fun a ha => ?_⟩, A.pu⟩
        have hm := hsub.subset ha
        exact ⟨dropF_out A.en hm, A.en.gf i a hm, A.st.nf a ⟨i, hm⟩⟩
  cases o with
  | sh d => exact shd d rfl
  | lst os => exact own fun d z => nomatch z
  | tup os => exact own fun d z => nomatch z
  | ins c ks os => exact own fun d z => nomatch z
/-- what is handed out -/
theorem mv_ok {pu : Bool} {o : O} {p : Option Nat} {ρ' : Env} (A : Aft K ca nm σ pu G H Fs o p ρ' v G' H' Fs' F) : ∃ Fs2, Aft K ca nm σ pu G H Fs (mvE (o, p, ρ')).1 none (mvE (o, p, ρ')).2 v G' H' Fs2 F := by
  have own : (∀ d, o ≠ .sh d) → ∃ Fs2, Aft K ca nm σ pu G H Fs (mvE (o, p, ρ')).1 none (mvE (o, p, ρ')).2 v G' H' Fs2 F := fun ns => by
    cases p with
    | none =>
      have e : mvE (o, none, ρ') = (o, ρ') := by
        cases o with
        | sh d => exact absurd rfl (ns d)
        | _ => rfl
      rw [e]
      exact ⟨Fs', A⟩
    | some i =>
      have e : mvE (o, some i, ρ') = (o, pt ρ' i none) := by
        cases o with
        | sh d => exact absurd rfl (ns d)
        | _ => rfl
      rw [e]
      have hsub : List.Sublist F (Fs' i) := A.pv
      refine ⟨dropF Fs' i, ⟨A.st.g, A.st.fr, A.st.fx, A.st.al, fun a h => A.st.nf a (dropF_in h), A.st.ng⟩, A.en.drop i, A.rp, ⟨A.pv.nodup A.en.nd, fun a ha => ?_⟩, A.pu⟩
      have hm := hsub.subset ha
      exact ⟨dropF_out A.en hm, A.en.gf i a hm, A.st.nf a ⟨i, hm⟩⟩
  cases o with
  | sh d =>
    obtain ⟨e, r'⟩ := sh_F A.rp
    subst e
    exact ⟨Fs', A.st, A.en, A.rp, ⟨List.nodup_nil, fun a h => absurd h (by simp)⟩, A.pu⟩
  | lst os => exact own fun d z => nomatch z
  | tup os => exact own fun d z => nomatch z
  | ins c ks os => exact own fun d z => nomatch z
theorem ev_var {x : Ex} {r : O × Option Nat × Env} (hv : isVar x = true) (h : ev S x ρ = some r) : ∀ i, r.2.1 = some i → gt r.2.2 i = some r.1 := by
  cases x with
  | var j =>
    intro i hi
    unfold ev at h
    cases e : gt ρ j with
    | none => rw [e] at h; cases h
    | some o =>
      rw [e] at h
      cases h
      cases hi
      exact e
  | _ => cases hv
theorem tR_tE {x : Ex} {σ : L2.St} {H : Hp} {Q : VK} (h : tR K ca nm S x σ H Q) : tE K ca nm S x σ H Q := by
  obtain ⟨G, Fs, ρ, E, ⟨o, p, ρ'⟩, hr, k⟩ := h
  refine ⟨G, Fs, ρ, E, o, p, ρ', hr, fun v G' H' Fs' F A => ?_⟩
  obtain ⟨G2, Fs2, F2, A2⟩ := ret_ok (x := x) (fun hv => ev_var hv hr) A
  exact k v G2 H' Fs2 F2 A2
theorem _root_.L2.PE.ret {X : Cx} {e : Expr} {x : Ex} (h : PE X e (tE X.K ca nm S x)) : PE X e (tR X.K ca nm S x) := h.imp fun _ _ _ => tR_tE
end
end Ev

namespace Ev
open PySem L2

theorem unSh_eq : ∀ {os : List O} {ds : List D}, unSh os = some ds → os = ds.map O.sh
  | [], ds, h => by cases h; rfl
  | .sh d :: os, ds, h => by
    unfold unSh at h
    cases e : unSh os with
    | none => rw [e] at h; cases h
    | some ds' => rw [e] at h; cases h; rw [unSh_eq e]; rfl
  | .lst _ :: _, _, h => by cases h
  | .tup _ :: _, _, h => by cases h
  | .ins _ _ _ :: _, _, h => by cases h
theorem unSh_map (ds : List D) : unSh (ds.map O.sh) = some ds := by
  induction ds with
  | nil => rfl
  | cons d r ih => simp [unSh, ih]
theorem lim_line {n : Nat} (h : n ≤ LIM) : n ≤ sizeLine := Nat.le_trans h (by decide)
theorem lim_lt {n : Nat} (h : n ≤ LIM) : n < sizeLine := Nat.lt_of_le_of_lt h (by decide)

section
variable {K : PySem.W.Frag} {ca : Nat → Addr} {nm : Nat → Str} {G H G' H' : Hp} {v x y : V} {o xo yo : O} {F Fx Fy : List Addr}
theorem lst_at {ds : List D} (h : lstOf xo = some ds) (r : RepO K ca nm G H x xo F) (gh : Sub G H) : ∃ a vs, x = .ref a ∧ H a = some (.lst vs) ∧ RepDs K ca nm G H vs ds := by
  cases xo with
  | sh d =>
    obtain ⟨_, r⟩ := sh_F r
    cases d with
    | lst es =>
      cases h
      cases r with
      | lst hg hr => exact ⟨_, _, rfl, gh _ _ hg, hr⟩
    | _ => cases h
  | lst os =>
    have e := unSh_eq (show unSh os = some ds from h)
    subst e
    cases r with
    | lst hh hr => exact ⟨_, _, rfl, hh, hr.to_D.1⟩
  | tup os => cases h
  | ins c ks os => cases h
theorem tup_at {ds : List D} (h : tupOf xo = some ds) (r : RepO K ca nm G H x xo F) : ∃ a vs, x = .ref a ∧ SqT K H a vs ∧ RepDs K ca nm G H vs ds := by
  cases xo with
  | sh d =>
    obtain ⟨_, r⟩ := sh_F r
    cases d with
    | tup es =>
      cases h
      cases r with
      | tup hg hr => exact ⟨_, _, rfl, hg, hr⟩
    | _ => cases h
  | tup os =>
    have e := unSh_eq (show unSh os = some ds from h)
    subst e
    cases r with
    | tup hh hr => exact ⟨_, _, rfl, hh, hr.to_D.1⟩
  | lst os => cases h
  | ins c ks os => cases h
theorem seq_at {ds : List D} (h : seqOf xo = some ds) (r : RepO K ca nm G H x xo F) (gh : Sub G H) : ∃ a vs, x = .ref a ∧ (SqL K H a vs ∨ SqT K H a vs) ∧ RepDs K ca nm G H vs ds := by
  have gen : (match lstOf xo with
    | some ds => some ds
    | none => tupOf xo) = some ds → ∃ a vs, x = .ref a ∧ (SqL K H a vs ∨ SqT K H a vs) ∧ RepDs K ca nm G H vs ds := fun h => by
    cases e : lstOf xo with
    | some es =>
      rw [e] at h
      cases h
      obtain ⟨a, vs, h1, h2, h3⟩ := lst_at e r gh
      exact ⟨a, vs, h1, .inl (SqL.of h2), h3⟩
    | none =>
      rw [e] at h
      obtain ⟨a, vs, h1, h2, h3⟩ := tup_at h r
      exact ⟨a, vs, h1, .inr h2, h3⟩
  cases xo with
  | sh d =>
    cases d with
    | scr ns =>
      cases h
      obtain ⟨_, r⟩ := sh_F r
      cases r with
      | scr hs => exact ⟨_, _, rfl, .inl (gh.sqL hs), RepDs.ints ns⟩
    | _ => exact gen h
  | _ => exact gen h

/-- a result, whatever new place it takes -/
def rRes (K : PySem.W.Frag) (ca : Nat → Addr) (nm : Nat → Str) (G H : Hp) (o : O) (Q : VK) : Prop := ∀ v H' F, Same H H' → RepO K ca nm G H' v o F → F.Nodup → (∀ a ∈ F, H a = none) → Q v H'
theorem Res.sh {d : D} {Q : VK} (h : rRes K ca nm G H (.sh d) Q) {v : V} (r : RepD K ca nm G H v d) : Q v H := h v H [] (Same.refl H) (.sh r) List.nodup_nil fun a z => absurd z (by simp)
theorem same_new {p : Addr} {u : HO} (h : H p = none) : Same H (upd H p u) := fun a w e => by rw [upd_ne (ne_of_none e h)]; exact e
theorem Res.lst {ds : List D} {Q : VK} (h : rRes K ca nm G H (lsO ds) Q) {vs : List V} (r : RepDs K ca nm G H vs ds) {p : Addr} (hp : H p = none) : Q (.ref p) (upd H p (.lst vs)) := by
  have s := same_new (u := .lst vs) hp
  refine h _ _ [p] s (.lst (F := []) upd_same (RepOs.of_D (r.mono (Sub.refl G) (Fix.of_same s)))) (by simp) fun a ha => ?_
  have e : a = p := by simpa using ha
  rw [e]; exact hp
theorem Res.tup {ds : List D} {Q : VK} (h : rRes K ca nm G H (.sh (.tup ds)) Q) {vs : List V} (r : RepDs K ca nm G H vs ds) {p : Addr} (hp : H p = none) : Q (.ref p) (upd H p (.tup vs)) := by
  have s := same_new (u := .tup vs) hp
  exact h _ _ [] s (.sh (.tup (SqT.of upd_same) (r.mono (Sub.refl G) (Fix.of_same s)))) List.nodup_nil fun a z => absurd z (by simp)

/-! ### two things -/
def opOf : Bop → Operator
  | .add => .Add | .sub => .Sub | .mul => .Mult | .fdiv => .FloorDiv | .mod => .Mod | .pow => .Pow
def CDivA (_ j : Int) : Prop := j ≠ 0 ∧ j.natAbs.log2 < 9000
def rB (K : PySem.W.Frag) : Bop → R2
  | .add => fun x y H Q => rI0 (fun i j => .int (i + j)) x y H Q ∨ (∃ i j, x = .str i ∧ y = .str j ∧ i.length + j.length ≤ sizeLine ∧ Q (.str (i ++ j)) H) ∨ rCatA K x y H Q ∨ rCat x y H Q
  | .sub => rI0 fun i j => .int (i - j)
  | .mul => fun x y H Q => rI CMulW (fun i j => .int (i * j)) x y H Q ∨ rRep x y H Q
  | .fdiv => rI CDivA fun i j => .int (i.fdiv j)
  | .mod => rI (fun _ j => j ≠ 0) fun i j => .int (i.fmod j)
  | .pow => rI CPow fun i j => .int (i ^ j.toNat)
theorem op_bin {X : Cx} : ∀ op, OpR X (binaryOp (opOf op)) (rB X.K op)
  | .add => op_add.or (op_add_str.or (op_catA.or op_cat))
  | .sub => op_sub
  | .mul => op_mulW.or op_rep
  | .fdiv => opI fun i j _ _ _ _ _ hc q => PyProof.Rows.floordiv_int hc.1 q (.inl (PyProof.noPylong_of_log2 hc.2))
  | .mod => op_modN
  | .pow => op_pow
theorem cat_cases {xs ys : List D} {Q : VK} {a b : Addr} {vs ws : List V} (k : rRes K ca nm G H (.sh (.tup (xs ++ ys))) Q) (ha : SqT K H a vs) (hb : SqT K H b ws) (ra : RepDs K ca nm G H vs xs) (rb : RepDs K ca nm G H ws ys)
    (hz : xs.length + ys.length ≤ LIM) : rCatA K (.ref a) (.ref b) H Q := by
  refine ⟨a, b, vs, ws, rfl, rfl, ha, hb, by rw [ra.length, rb.length]; exact lim_line hz, fun e => ?_, fun _ e => ?_, fun _ _ p hp => Res.tup k (ra.append rb) hp⟩
  · subst e
    cases ra
    exact Res.sh k (.tup hb rb)
  · subst e
    cases rb
    rw [List.append_nil] at k
    exact Res.sh k (.tup ha ra)
theorem binO_ok {op : Bop} {Q : VK} (gh : Sub G H) (rx : RepO K ca nm G H x xo Fx) (ry : RepO K ca nm G H y yo Fy) (h : binO op xo yo = some o) (k : rRes K ca nm G H o Q) : rB K op x y H Q := by
  have lists : ∀ xs ys, lstOf xo = some xs → lstOf yo = some ys → xs.length + ys.length ≤ LIM → o = lsO (xs ++ ys) → rCat x y H Q := fun xs ys h1 h2 hz e => by
    subst e
    obtain ⟨a, vs, rfl, ha, ra⟩ := lst_at h1 rx gh
    obtain ⟨b, ws, rfl, hb, rb⟩ := lst_at h2 ry gh
    exact ⟨a, b, vs, ws, rfl, rfl, ha, hb, by rw [ra.length, rb.length]; exact lim_line hz, fun p hp => Res.lst k (ra.append rb) hp⟩
  unfold binO at h
  split at h
  · cases h
    obtain ⟨_, rx⟩ := sh_F rx
    obtain ⟨_, ry⟩ := sh_F ry
    cases rx; cases ry
    exact .inl ⟨_, _, rfl, rfl, Res.sh k (.int _)⟩
  · cases h
    obtain ⟨_, rx⟩ := sh_F rx
    obtain ⟨_, ry⟩ := sh_F ry
    cases rx; cases ry
    exact ⟨_, _, rfl, rfl, Res.sh k (.int _)⟩
  · split at h
    · rename_i hc
      cases h
      obtain ⟨_, rx⟩ := sh_F rx
      obtain ⟨_, ry⟩ := sh_F ry
      cases rx; cases ry
      exact .inl ⟨_, _, rfl, rfl, hc, Res.sh k (.int _)⟩
    · cases h
  · split at h
    · rename_i hc
      cases h
      obtain ⟨_, rx⟩ := sh_F rx
      obtain ⟨_, ry⟩ := sh_F ry
      cases rx; cases ry
      exact ⟨_, _, rfl, rfl, hc, Res.sh k (.int _)⟩
    · cases h
  · split at h
    · rename_i hc
      cases h
      obtain ⟨_, rx⟩ := sh_F rx
      obtain ⟨_, ry⟩ := sh_F ry
      cases rx; cases ry
      exact ⟨_, _, rfl, rfl, hc, Res.sh k (.int _)⟩
    · cases h
  · split at h
    · rename_i hc
      cases h
      obtain ⟨_, rx⟩ := sh_F rx
      obtain ⟨_, ry⟩ := sh_F ry
      cases rx; cases ry
      exact ⟨_, _, rfl, rfl, hc, Res.sh k (.int _)⟩
    · cases h
  · split at h
    · rename_i hc
      cases h
      obtain ⟨_, rx⟩ := sh_F rx
      obtain ⟨_, ry⟩ := sh_F ry
      cases rx; cases ry
      exact .inr (.inl ⟨_, _, rfl, rfl, lim_line hc, Res.sh k (.str _)⟩)
    · cases h
  · split at h
    · rename_i hc
      cases h
      obtain ⟨_, rx⟩ := sh_F rx
      obtain ⟨_, ry⟩ := sh_F ry
      cases rx with
      | tup ha ra =>
        cases ry with
        | tup hb rb => exact .inr (.inr (.inl (cat_cases k ha hb ra rb hc)))
    · cases h
  · split at h
    · rename_i xs ys h1 h2
      split at h
      · rename_i hc
        cases h
        exact .inr (.inr (.inr (lists xs ys h1 h2 hc rfl)))
      · cases h
    · cases h
  · split at h
    · rename_i xs h1
      split at h
      · rename_i hc
        cases h
        obtain ⟨_, ry⟩ := sh_F ry
        cases ry
        obtain ⟨a, vs, rfl, ha, ra⟩ := lst_at h1 rx gh
        exact .inr ⟨a, _, vs, rfl, rfl, ha, hc.1, hc.2.1, by rw [ra.length]; exact lim_line hc.2.2, fun p hp => Res.lst k (ra.rep _) hp⟩
      · cases h
    · cases h
  · cases h

/-! ### comparisons -/
mutual
theorem RepD.dp : ∀ {v : V} {d : D}, RepD K ca nm G H v d → Sub G H → SeqAt.shaped d.pd = true → Dp K H v d.pd
  | _, _, .non, _, _ => .non
  | _, _, .bl b, _, _ => .bl b
  | _, _, .int i, _, _ => .int i
  | _, _, .str x, _, _ => .str x
  | _, _, .tup (ds := ds) h r, g, s => .tup h (RepDs.dp r g (by have := (Bool.and_eq_true_iff.mp s).1; simpa [D.pd, PyData.canLay0] using this))
  | _, _, .lst (ds := ds) h r, g, s => .lst (SqL.of (g _ _ h)) (RepDs.dp r g (by have := (Bool.and_eq_true_iff.mp s).1; simpa [D.pd, PyData.canLay0] using this))
  | _, _, .scr _, _, s => absurd (Bool.and_eq_true_iff.mp s).1 (by simp [D.pd, PyData.canLay0])
  | _, _, .ins _ _, _, s => absurd (Bool.and_eq_true_iff.mp s).1 (by simp [D.pd, PyData.canLay0])
theorem RepDs.dp : ∀ {vs : List V} {ds : List D}, RepDs K ca nm G H vs ds → Sub G H → PyData.canLayAll0 (D.pds ds) = true → DpAll K H vs (D.pds ds)
  | _, _, .nil, _, _ => .nil
  | _, _, .cons h r, g, s => by
    have s' := s
    rw [D.pds, PyData.canLayAll0, Bool.and_eq_true] at s'
    rw [D.pds]
    exact .cons (RepD.dp' h g s'.1) (RepDs.dp r g s'.2)
theorem RepD.dp' : ∀ {v : V} {d : D}, RepD K ca nm G H v d → Sub G H → PyData.canLay0 d.pd = true → Dp K H v d.pd
  | _, _, .non, _, _ => .non
  | _, _, .bl b, _, _ => .bl b
  | _, _, .int i, _, _ => .int i
  | _, _, .str x, _, _ => .str x
  | _, _, .tup (ds := ds) h r, g, s => .tup h (RepDs.dp r g (by simpa [D.pd, PyData.canLay0] using s))
  | _, _, .lst (ds := ds) h r, g, s => .lst (SqL.of (g _ _ h)) (RepDs.dp r g (by simpa [D.pd, PyData.canLay0] using s))
  | _, _, .scr _, _, s => absurd s (by simp [D.pd, PyData.canLay0])
  | _, _, .ins _ _, _, s => absurd s (by simp [D.pd, PyData.canLay0])
end
theorem RepO.cur (r : RepO K ca nm G H x xo Fx) (gh : Sub G H) : RepD K ca nm H H x xo.d := r.now gh (Fix.refl H) fun _ _ _ h => h
end
end Ev

namespace Ev
open PySem L2

section
variable {K : PySem.W.Frag} {ca : Nat → Addr} {nm : Nat → Str} {G H G' H' : Hp} {v x y : V} {o xo yo : O} {F Fx Fy : List Addr}

/-! ### comparisons -/
def cOf : Cop → CmpOp
  | .eq => .Eq | .ne => .NotEq | .lt => .Lt | .le => .LtE | .gt => .Gt | .ge => .GtE | .isN => .Is | .notN => .IsNot | .inn => .In | .nin => .NotIn
def rC (K : PySem.W.Frag) : Cop → R2
  | .eq => rEqD K
  | .ne => rNeD K
  | .lt => rI0 fun i j => .bl (decide (i < j))
  | .le => rI0 fun i j => .bl (decide (i ≤ j))
  | .gt => rI0 fun i j => .bl (decide (j < i))
  | .ge => rI0 fun i j => .bl (decide (j ≤ i))
  | .isN => fun x y H Q => y = .non ∧ Q (.bl (decide (x = .non))) H
  | .notN => fun x y H Q => y = .non ∧ Q (.bl (!decide (x = .non))) H
  | .inn => fun x y H Q => rIn K false x y H Q ∨ rInD K x y H Q
  | .nin => fun x y H Q => rIn K true x y H Q ∨ rNotInD K x y H Q
theorem op_cmp {X : Cx} (hu : X.A.units + 65 < cLine) : ∀ op, OpR X (compareOp (cOf op)) (rC X.K op)
  | .eq => op_eqD (by omega)
  | .ne => op_neD (by omega)
  | .lt => op_lt
  | .le => op_le
  | .gt => op_gt
  | .ge => op_ge
  | .isN => op_isN
  | .notN => op_notN
  | .inn => op_in_seq.or (op_inD hu)
  | .nin => op_notIn_seq.or (op_notInD hu)
theorem shaped_of {d : PyData} (h : SeqAt.shaped d = true) : PyData.canLay0 d = true := (Bool.and_eq_true_iff.mp h).1
theorem isNon_iff {v : V} {d : D} (r : RepD K ca nm G H v d) : decide (v = .non) = isNonD d := by
  cases r <;> simp [isNonD]
theorem flat_dp {v : V} {d : D} (r : RepD K ca nm G H v d) (h : flatD d = true) : flatV v = true := by
  cases r <;> first | rfl | (simp [flatD] at h)
theorem flat_eqv {v w : V} {d e : D} (r : RepD K ca nm G H v d) (r' : RepD K ca nm G' H' w e) (h : flatD d = true) (h' : flatD e = true) : eqV v w = PyData.eqv d.pd e.pd := by
  cases r <;> first | (simp [flatD] at h; done) | (cases r' <;> first | (simp [flatD] at h'; done) | rfl)
theorem flat_any {w : V} {e : D} (r' : RepD K ca nm G H w e) (h' : flatD e = true) : ∀ {vs : List V} {ds : List D}, RepDs K ca nm G' H' vs ds → ds.all flatD = true → inV w vs = (D.pds ds).any fun z => PyData.eqv z e.pd
  | _, _, .nil, _ => rfl
  | _, _, .cons h r, f => by
    rw [List.all_cons, Bool.and_eq_true] at f
    have ih := flat_any r' h' r f.2
    unfold inV at ih ⊢
    rw [List.any_cons, D.pds, List.any_cons, ih, flat_eqv h r' f.1 h']
theorem flat_all : ∀ {vs : List V} {ds : List D}, RepDs K ca nm G H vs ds → ds.all flatD = true → vs.all flatV = true
  | _, _, .nil, _ => rfl
  | _, _, .cons h r, f => by
    rw [List.all_cons, Bool.and_eq_true] at f ⊢
    exact ⟨flat_dp h f.1, flat_all r f.2⟩
theorem inD_ok {d : D} {b : Bool} {Q : VK} {neg : Bool} (gh : Sub G H) (rx : RepD K ca nm H H x d) (ry : RepO K ca nm G H y yo Fy) (h : inD d yo = some b) (k : Q (.bl (if neg then !b else b)) H) :
    rIn K neg x y H Q ∨ (if neg then rNotInD K x y H Q else rInD K x y H Q) := by
  unfold inD at h
  cases e1 : lstOf yo with
  | some ds =>
    rw [e1] at h
    simp only at h
    split at h
    · rename_i hc
      cases h
      obtain ⟨a, vs, rfl, ha, ra⟩ := lst_at e1 ry gh
      have dx := RepD.dp' rx (Sub.refl H) (shaped_of hc.1)
      have dy : Dp K H (.ref a) (.list (D.pds ds)) := .lst (SqL.of ha) (RepDs.dp ra gh (by simpa [PyData.canLay0] using shaped_of hc.2))
      refine .inr ?_
      cases neg with
      | true => exact ⟨_, _, dx, dy, hc.1, hc.2, k⟩
      | false => exact ⟨_, _, dx, dy, hc.1, hc.2, k⟩
    · cases h
  | none =>
    rw [e1] at h
    cases e2 : tupOf yo with
    | none => rw [e2] at h; cases h
    | some ds =>
      rw [e2] at h
      simp only at h
      split at h
      · rename_i hc
        cases h
        obtain ⟨a, vs, rfl, ha, ra⟩ := tup_at e2 ry
        refine .inl ⟨a, vs, rfl, .inr ha, flat_dp rx hc.1, flat_all ra hc.2, ?_⟩
        rw [flat_any rx hc.1 ra hc.2]
        exact k
      · cases h
theorem cmpO_ok {op : Cop} {b : Bool} {Q : VK} (gh : Sub G H) (rx : RepO K ca nm G H x xo Fx) (ry : RepO K ca nm G H y yo Fy) (h : cmpO op xo yo = some b) (k : Q (.bl b) H) : rC K op x y H Q := by
  have cx := rx.cur gh
  have cy := ry.cur gh
  have nums : ∀ op, (match xo, yo with
    | .sh (.int i), .sh (.int j) => cmpI op i j
    | _, _ => none) = some b → ∃ i j, x = .int i ∧ y = .int j ∧ cmpI op i j = some b := fun op h => by
    split at h
    · obtain ⟨_, rx⟩ := sh_F rx
      obtain ⟨_, ry⟩ := sh_F ry
      cases rx; cases ry
      exact ⟨_, _, rfl, rfl, h⟩
    · cases h
  have eqs : ∀ c, eqD xo.d yo.d = some c → Dp K H x xo.d.pd ∧ Dp K H y yo.d.pd ∧ SeqAt.shaped xo.d.pd = true ∧ SeqAt.shaped yo.d.pd = true ∧ PyData.eqv xo.d.pd yo.d.pd = c := fun c h => by
    unfold eqD at h
    split at h
    · rename_i hc
      cases h
      exact ⟨RepD.dp' cx (Sub.refl H) (shaped_of hc.1), RepD.dp' cy (Sub.refl H) (shaped_of hc.2), hc.1, hc.2, rfl⟩
    · cases h
  cases op with
  | eq =>
    obtain ⟨d1, d2, s1, s2, e⟩ := eqs b h
    exact ⟨_, _, d1, d2, s1, s2, by rw [e]; exact k⟩
  | ne =>
    have h' : (eqD xo.d yo.d).map (!·) = some b := h
    cases e : eqD xo.d yo.d with
    | none => rw [e] at h'; cases h'
    | some c =>
      rw [e] at h'
      cases h'
      obtain ⟨d1, d2, s1, s2, e⟩ := eqs c e
      exact ⟨_, _, d1, d2, s1, s2, by rw [e]; exact k⟩
  | lt => obtain ⟨i, j, rfl, rfl, h⟩ := nums .lt h; cases h; exact ⟨_, _, rfl, rfl, k⟩
  | le => obtain ⟨i, j, rfl, rfl, h⟩ := nums .le h; cases h; exact ⟨_, _, rfl, rfl, k⟩
  | gt => obtain ⟨i, j, rfl, rfl, h⟩ := nums .gt h; cases h; exact ⟨_, _, rfl, rfl, k⟩
  | ge => obtain ⟨i, j, rfl, rfl, h⟩ := nums .ge h; cases h; exact ⟨_, _, rfl, rfl, k⟩
  | isN =>
    unfold cmpO at h
    simp only at h
    split at h
    · cases h
      obtain ⟨_, ry⟩ := sh_F ry
      cases ry
      exact ⟨rfl, by rw [isNon_iff cx]; exact k⟩
    · cases h
  | notN =>
    unfold cmpO at h
    simp only at h
    split at h
    · cases h
      obtain ⟨_, ry⟩ := sh_F ry
      cases ry
      exact ⟨rfl, by rw [isNon_iff cx]; exact k⟩
    · cases h
  | inn => exact inD_ok (neg := false) gh cx ry h k
  | nin =>
    have h' : (inD xo.d yo).map (!·) = some b := h
    cases e : inD xo.d yo with
    | none => rw [e] at h'; cases h'
    | some c =>
      rw [e] at h'
      cases h'
      exact inD_ok (neg := true) gh cx ry e k

/-! ### items -/
theorem atI_map {α β : Type} (f : α → β) (xs : List α) (i : Int) : atI (xs.map f) i = (atI xs i).map f := by
  unfold atI
  rw [List.length_map]
  cases ixN xs.length i with
  | none => rfl
  | some j => simp
theorem RepDs.atI {vs : List V} {ds : List D} {i : Int} {d : D} (r : RepDs K ca nm G H vs ds) (h : atI ds i = some d) : ∃ v, atI vs i = some v ∧ RepD K ca nm G H v d := by
  unfold L2.atI at h ⊢
  rw [r.length]
  cases e : ixN ds.length i with
  | none => rw [e] at h; cases h
  | some j =>
    rw [e] at h
    exact r.get (by simpa using h)
theorem RepOs.atI {vs : List V} {os : List O} {i : Int} {F : List Addr} (r : RepOs K ca nm G H vs os F) (h : atI os i = some o) : ∃ v F1, atI vs i = some v ∧ RepO K ca nm G H v o F1 ∧ List.Sublist F1 F := by
  unfold L2.atI at h ⊢
  rw [r.length]
  cases e : ixN os.length i with
  | none => rw [e] at h; cases h
  | some j =>
    rw [e] at h
    obtain ⟨v, F1, F0, F2, h1, h2, h3⟩ := r.get (i := j) (by simpa using h)
    exact ⟨v, F1, by simpa using h1, h2, by rw [h3]; exact (List.sublist_append_left F1 F2).trans (List.sublist_append_right F0 _)⟩
/-- what an item is: a part of what it is taken of -/
theorem ixO_ok {i : Int} {Q : VK} (gh : Sub G H) (rx : RepO K ca nm G H x xo Fx) (h : ixO xo i = some o) (k : ∀ v F, RepO K ca nm G H v o F → List.Sublist F Fx → Q v H) : rIx K x (.int i) H Q := by
  unfold ixO at h
  split at h
  · rename_i ds
    obtain ⟨_, rx⟩ := sh_F rx
    cases rx with
    | lst hg hr =>
      cases e : atI ds i with
      | none => rw [e] at h; cases h
      | some d =>
        rw [e] at h
        cases h
        obtain ⟨v, h1, h2⟩ := hr.atI e
        exact .inl ⟨_, _, _, v, rfl, rfl, SqL.of (gh _ _ hg), h1, k v [] (.sh h2) (List.nil_sublist _)⟩
  · rename_i ds
    obtain ⟨_, rx⟩ := sh_F rx
    cases rx with
    | tup hg hr =>
      cases e : atI ds i with
      | none => rw [e] at h; cases h
      | some d =>
        rw [e] at h
        cases h
        obtain ⟨v, h1, h2⟩ := hr.atI e
        exact .inr (.inl ⟨_, _, _, v, rfl, rfl, hg, h1, k v [] (.sh h2) (List.nil_sublist _)⟩)
  · rename_i ns
    obtain ⟨_, rx⟩ := sh_F rx
    cases rx with
    | scr hs =>
      cases e : atI ns i with
      | none => rw [e] at h; cases h
      | some n =>
        rw [e] at h
        cases h
        exact .inl ⟨_, _, _, .int n, rfl, rfl, gh.sqL hs, by rw [atI_map, e]; rfl, k _ [] (.sh (.int n)) (List.nil_sublist _)⟩
  · cases rx with
    | lst hh hr =>
      obtain ⟨v, F1, h1, h2, h3⟩ := hr.atI h
      exact .inl ⟨_, _, _, v, rfl, rfl, SqL.of hh, h1, k v F1 h2 (h3.trans (List.sublist_cons_self _ _))⟩
  · cases rx with
    | tup hh hr =>
      obtain ⟨v, F1, h1, h2, h3⟩ := hr.atI h
      exact .inr (.inl ⟨_, _, _, v, rfl, rfl, hh, h1, k v F1 h2 h3⟩)
  · rename_i z
    split at h
    · rename_i hz
      obtain ⟨_, rx⟩ := sh_F rx
      cases rx
      cases e : atI z.cps.toList i with
      | none => rw [e] at h; cases h
      | some c =>
        rw [e] at h
        cases h
        exact .inr (.inr ⟨z, i, c, rfl, rfl, lim_line hz, e, k _ [] (.sh (.str _)) (List.nil_sublist _)⟩)
    · cases h
  · cases h

/-! ### slices -/
def rSl (K : PySem.W.Frag) : V → Option Int → Option Int → Hp → VK → Prop := fun x lo hi H Q => rSlA K x lo hi H Q ∨ rSlL K x lo hi H Q ∨ rSlS x lo hi H Q
theorem sl_all {X : Cx} : SlR X (rSl X.K) := sl_tupA.or (sl_list.or sl_str)
theorem RepDs.cut {vs : List V} {ds : List D} (r : RepDs K ca nm G H vs ds) (lo hi : Option Int) : RepDs K ca nm G H (cutV vs lo hi) (cutD ds lo hi) := by
  unfold cutV cutD
  rw [r.length]
  exact (r.drop _).take _
theorem slO_ok {lo hi : Option Int} {Q : VK} (gh : Sub G H) (rx : RepO K ca nm G H x xo Fx) (h : slO xo lo hi = some o) (k : rRes K ca nm G H o Q) : rSl K x lo hi H Q := by
  have lists : ∀ ds, lstOf xo = some ds → o = lsO (cutD ds lo hi) → rSl K x lo hi H Q := fun ds e eo => by
    subst eo
    obtain ⟨a, vs, rfl, ha, ra⟩ := lst_at e rx gh
    exact .inr (.inl ⟨a, vs, rfl, SqL.of ha, fun p hp => Res.lst k (ra.cut lo hi) hp⟩)
  unfold slO at h
  split at h
  · rename_i ds
    cases h
    obtain ⟨_, rx⟩ := sh_F rx
    cases rx with
    | tup hs hr =>
      refine .inl ⟨_, _, rfl, hs, fun hw => ?_, fun _ p hp => Res.tup k (hr.cut lo hi) hp⟩
      have e : cutD ds lo hi = ds := by
        unfold cutD
        rw [← hr.length, hw.1, hw.2, hr.length]
        simp
      rw [e] at k
      exact Res.sh k (.tup hs hr)
  · rename_i ns
    cases h
    obtain ⟨_, rx⟩ := sh_F rx
    cases rx with
    | scr hs => exact .inr (.inl ⟨_, _, rfl, gh.sqL hs, fun p hp => Res.lst k ((RepDs.ints ns).cut lo hi) hp⟩)
  · rename_i z
    split at h
    · rename_i hz
      cases h
      obtain ⟨_, rx⟩ := sh_F rx
      cases rx
      exact .inr (.inr ⟨z, rfl, lim_line hz, Res.sh k (.str _)⟩)
    · cases h
  · cases e : lstOf xo with
    | none => rw [e] at h; cases h
    | some ds =>
      rw [e] at h
      cases h
      exact lists ds e rfl
end
end Ev

namespace Ev
open PySem L2

/-! ### built-ins by name -/
def fBl : Blt → Value
  | .len => .builtin "len" | .abs => .builtin "abs" | .int1 => .type "int" | .list => .type "list" | .tuple => .type "tuple"
  | .all => .builtin "all" | .any => .builtin "any" | .max2 => .builtin "max" | .min2 => .builtin "min"
  | .isInt => .builtin "isinstance" | .isBool => .builtin "isinstance" | .isTuple => .builtin "isinstance" | .isList => .builtin "isinstance" | .isStr => .builtin "isinstance"
def tyBl : Blt → String
  | .isInt => "int" | .isBool => "bool" | .isTuple => "tuple" | .isList => "list" | .isStr => "str"
  | _ => "int"
def isIs : Blt → Bool
  | .isInt => true | .isBool => true | .isTuple => true | .isList => true | .isStr => true
  | _ => false
def rBl (K : PySem.W.Frag) : Blt → List V → Hp → VK → Prop
  | .len => fun xs H Q => ∃ x n, xs = [x] ∧ LenV K x H n ∧ Q (.int n) H
  | .abs => fun xs H Q => ∃ i, xs = [.int i] ∧ Q (.int (if i < 0 then -i else i)) H
  | .int1 => fun xs H Q => (∃ i, xs = [.int i] ∧ Q (.int i) H) ∨ ∃ k, xs = [.bl k] ∧ Q (.int (if k then 1 else 0)) H
  | .list => fun xs H Q => ∃ p ys, xs = [.ref p] ∧ (SqL K H p ys ∨ SqT K H p ys) ∧ ∀ l, H l = none → Q (.ref l) (upd H l (.lst ys))
  | .tuple => fun xs H Q => ∃ p ys, xs = [.ref p] ∧ ((SqL K H p ys ∧ ∀ l, H l = none → Q (.ref l) (upd H l (.tup ys))) ∨ (SqT K H p ys ∧ Q (.ref p) H))
  | .all => rAll K
  | .any => rAny K
  | .max2 => fun xs H Q => ∃ i j, xs = [.int i, .int j] ∧ Q (.int (if j > i then j else i)) H
  | .min2 => fun xs H Q => ∃ i j, xs = [.int i, .int j] ∧ Q (.int (if j < i then j else i)) H
  | .isInt => rIsi K | .isBool => rIsi K | .isTuple => rIsi K | .isList => rIsi K | .isStr => rIsi K
theorem cr_blt {X : Cx} (hc : X.calm = true) : ∀ b, CallR X (fBl b) (rBl X.K b)
  | .len => call_len | .abs => call_abs | .int1 => call_int1 | .list => call_list_of | .tuple => call_tuple_of
  | .all => cr_all hc | .any => cr_any hc | .max2 => call_max2 hc | .min2 => call_min2 hc
  | .isInt => call_isi | .isBool => call_isi | .isTuple => call_isi | .isList => call_isi | .isStr => call_isi

section
variable {K : PySem.W.Frag} {ca : Nat → Addr} {nm : Nat → Str} {G H G' H' : Hp} {v x y : V} {o xo yo : O} {F Fx Fy : List Addr}
theorem tyX_of {b : Blt} {d : D} {c : Bool} (hb : isIs b = true) (r : RepD K ca nm H H x d) (h : isK b d = some c) : ∃ n, TyX K H x (.type n) ∧ kitB n (tyBl b) = some c := by
  cases r with
  | non => exact ⟨_, .base .non, by cases b <;> first | (exact absurd hb (by decide)) | (cases h; decide +kernel)⟩
  | bl k => exact ⟨_, .base (.bl k), by cases b <;> first | (exact absurd hb (by decide)) | (cases h; decide +kernel)⟩
  | int i => exact ⟨_, .base (.int i), by cases b <;> first | (exact absurd hb (by decide)) | (cases h; decide +kernel)⟩
  | str z => exact ⟨_, .base (.str z), by cases b <;> first | (exact absurd hb (by decide)) | (cases h; decide +kernel)⟩
  | tup hs hr =>
    refine ⟨"tuple", ?_, by cases b <;> first | (exact absurd hb (by decide)) | (cases h; decide +kernel)⟩
    rcases hs with (hs | ⟨u, hs⟩) | ⟨u, its, n, e, hc, _⟩
    · exact .base (.tup hs)
    · exact .fTuple hs
    · exact .kTuple e hc
  | lst hs hr => exact ⟨_, .base (.lst hs), by cases b <;> first | (exact absurd hb (by decide)) | (cases h; decide +kernel)⟩
  | scr hs => cases h
  | ins hs hr => cases h
theorem bools_vs : ∀ {vs : List V} {ds : List D} {bs : List Bool}, RepDs K ca nm G H vs ds → bools ds = some bs → vs = bs.map V.bl
  | _, _, _, .nil, h => by cases h; rfl
  | _, _, bs, .cons (d := d) (ds := ds) h r, e => by
    cases h with
    | bl b =>
      have e' : (bools ds).map (b :: ·) = some bs := e
      cases q : bools ds with
      | none => rw [q] at e'; cases e'
      | some bs' =>
        rw [q] at e'
        cases e'
        rw [bools_vs r q]
        rfl
    | _ => cases e
/-- seen things, from the left -/
inductive RepBs (K : PySem.W.Frag) (ca : Nat → Addr) (nm : Nat → Str) (G H : Hp) : List V → List O → Prop
  | nil : RepBs K ca nm G H [] []
  | cons {v : V} {vs : List V} {o : O} {os : List O} {F : List Addr} : RepO K ca nm G H v o F → RepBs K ca nm G H vs os → RepBs K ca nm G H (v :: vs) (o :: os)
def withTy (b : Blt) (vs : List V) : List V := if isIs b = true then vs ++ [.ty (tyBl b)] else vs
theorem bltO_ok {b : Blt} {vs : List V} {os : List O} {Q : VK} (gh : Sub G H) (r : RepBs K ca nm G H vs os) (h : bltO b os = some o) (k : rRes K ca nm G H o Q) : rBl K b (withTy b vs) H Q := by
  have len_seq : ∀ x v F, RepO K ca nm G H v x F → ∀ ds, seqOf x = some ds → o = .sh (.int ds.length) → rBl K .len [v] H Q := fun x v F r ds e eo => by
    subst eo
    obtain ⟨a, ws, rfl, hs, hr⟩ := seq_at e r gh
    refine ⟨_, ws.length, rfl, ?_, ?_⟩
    · rcases hs with hs | hs
      · exact .inl ⟨ws, hs, rfl⟩
      · exact .inr ⟨ws, hs, rfl⟩
    · rw [hr.length]
      exact Res.sh k (.int _)
  have isx : ∀ b, isIs b = true → ∀ x v F, RepO K ca nm G H v x F → (isK b x.d).map (fun c => O.sh (.bl c)) = some o → rIsi K [v, .ty (tyBl b)] H Q := fun b hb x v F r e => by
    cases q : isK b x.d with
    | none => rw [q] at e; cases e
    | some c =>
      rw [q] at e
      cases e
      obtain ⟨n, t1, t2⟩ := tyX_of hb (r.cur gh) q
      exact ⟨v, .ty (tyBl b), _, .type (tyBl b), c, rfl, .ty _, t1, kit_ty t2, Res.sh k (.bl c)⟩
  unfold bltO at h
  split at h
  · cases r with
    | cons r rr =>
      cases rr
      split at h
      · split at h
        · rename_i hz
          cases h
          obtain ⟨_, r⟩ := sh_F r
          cases r
          exact ⟨_, _, rfl, ⟨lim_line hz, rfl⟩, Res.sh k (.int _)⟩
        · cases h
      · cases h
        cases r with
        | lst hh hr =>
          refine ⟨_, _, rfl, .inl ⟨_, SqL.of hh, rfl⟩, ?_⟩
          rw [hr.length]
          exact Res.sh k (.int _)
      · obtain ⟨ds, e, rfl⟩ := Option.map_eq_some_iff.mp h
        exact len_seq _ _ _ r ds e rfl
  · cases r with
    | cons r rr =>
      cases rr
      cases h
      obtain ⟨_, r⟩ := sh_F r
      cases r
      exact ⟨_, rfl, Res.sh k (.int _)⟩
  · cases r with
    | cons r rr =>
      cases rr
      cases h
      obtain ⟨_, r⟩ := sh_F r
      cases r
      exact .inl ⟨_, rfl, Res.sh k (.int _)⟩
  · cases r with
    | cons r rr =>
      cases rr
      cases h
      obtain ⟨_, r⟩ := sh_F r
      cases r
      exact .inr ⟨_, rfl, Res.sh k (.int _)⟩
  · cases r with
    | cons r rr =>
      cases rr with
      | cons r2 rr =>
        cases rr
        cases h
        obtain ⟨_, r⟩ := sh_F r
        obtain ⟨_, r2⟩ := sh_F r2
        cases r; cases r2
        exact ⟨_, _, rfl, Res.sh k (.int _)⟩
  · cases r with
    | cons r rr =>
      cases rr with
      | cons r2 rr =>
        cases rr
        cases h
        obtain ⟨_, r⟩ := sh_F r
        obtain ⟨_, r2⟩ := sh_F r2
        cases r; cases r2
        exact ⟨_, _, rfl, Res.sh k (.int _)⟩
  · rename_i z
    cases r with
    | cons r rr =>
      cases rr
      cases e : seqOf z with
      | none => rw [e] at h; cases h
      | some ds =>
        rw [e] at h
        cases h
        obtain ⟨a, ws, rfl, hs, hr⟩ := seq_at e r gh
        exact ⟨a, ws, rfl, hs, fun l hl => Res.lst k hr hl⟩
  · rename_i z
    cases r with
    | cons r rr =>
      cases rr
      cases e : seqOf z with
      | none => rw [e] at h; cases h
      | some ds =>
        rw [e] at h
        cases h
        obtain ⟨a, ws, rfl, hs, hr⟩ := seq_at e r gh
        refine ⟨a, ws, rfl, ?_⟩
        rcases hs with hs | hs
        · exact .inl ⟨hs, fun l hl => Res.tup k hr hl⟩
        · exact .inr ⟨hs, Res.sh k (.tup hs hr)⟩
  · rename_i z
    cases r with
    | cons r rr =>
      cases rr
      cases e : lstOf z with
      | none => rw [e] at h; cases h
      | some ds =>
        rw [e] at h
        have h' : (bools ds).map (fun bs => O.sh (.bl (bs.all id))) = some o := h
        cases q : bools ds with
        | none => rw [q] at h'; cases h'
        | some bs =>
          rw [q] at h'
          cases h'
          obtain ⟨a, ws, rfl, hs, hr⟩ := lst_at e r gh
          exact ⟨a, bs, rfl, by rw [← bools_vs hr q]; exact SqL.of hs, Res.sh k (.bl _)⟩
  · rename_i z
    cases r with
    | cons r rr =>
      cases rr
      cases e : lstOf z with
      | none => rw [e] at h; cases h
      | some ds =>
        rw [e] at h
        have h' : (bools ds).map (fun bs => O.sh (.bl (bs.any id))) = some o := h
        cases q : bools ds with
        | none => rw [q] at h'; cases h'
        | some bs =>
          rw [q] at h'
          cases h'
          obtain ⟨a, ws, rfl, hs, hr⟩ := lst_at e r gh
          exact ⟨a, bs, rfl, by rw [← bools_vs hr q]; exact SqL.of hs, Res.sh k (.bl _)⟩
  all_goals first
    | (cases r with
       | cons r rr =>
         cases rr
         exact isx _ rfl _ _ _ r h)
    | cases h
end
end Ev

namespace Ev
open PySem L2

section
variable {K : PySem.W.Frag} {ca : Nat → Addr} {nm : Nat → Str} {S : Sg} {σ : L2.St} {G H G1 H1 G2 H2 : Hp} {Fs Fs1 Fs2 : Nat → List Addr} {ρ ρ1 ρ2 : Env} {v : V} {o : O} {F : List Addr} {pu : Bool}
/-- a new thing behind a state -/
theorem aft_new (st : Step G H Fs G1 H1 Fs1) (en : EnvR K ca nm G1 H1 σ ρ1 Fs1) (sm : pu = true → Same H H1) {Q : VK} (k : ∀ v G' H' Fs' F, Aft K ca nm σ pu G H Fs o none ρ1 v G' H' Fs' F → Q v H') : rRes K ca nm G1 H1 o Q :=
  fun v H' F s r nd nw => k v G1 H' Fs1 F ⟨st.trans (Step.of_same s), en.ext s, r, ⟨nd, fun a ha => ⟨en.new (nw a ha), en.gnew (nw a ha), .inr (st.al a (nw a ha))⟩⟩, fun h => (sm h).trans s⟩
theorem aft_sh {d : D} (st : Step G H Fs G1 H1 Fs1) (en : EnvR K ca nm G1 H1 σ ρ1 Fs1) (sm : pu = true → Same H H1) (p : Option Nat) (r : RepD K ca nm G1 H1 v d) : Aft K ca nm σ pu G H Fs (.sh d) p ρ1 v G1 H1 Fs1 [] :=
  ⟨st, en, .sh r, by cases p with
    | none => exact ⟨List.nodup_nil, fun a h => absurd h (by simp)⟩
    | some i => exact List.nil_sublist _, sm⟩
/-- a seen thing behind one more expression -/
theorem keep_b (h : (o.isSh || pu) = true) (r : RepO K ca nm G1 H1 v o F) (st : Step G1 H1 Fs1 G2 H2 Fs2) (sm : pu = true → Same H1 H2) : RepO K ca nm G2 H2 v o F := by
  rcases Bool.or_eq_true_iff.mp h with h | h
  · obtain ⟨d, rfl⟩ := O.of_isSh h
    obtain ⟨e, r'⟩ := sh_F r
    subst e
    exact .sh (r'.mono st.g st.fx)
  · exact r.mono st.g st.fx fun a _ u e => sm h a u e
theorem and_l {a b : Bool} (h : (a && b) = true) : a = true := (Bool.and_eq_true_iff.mp h).1
theorem and_r {a b : Bool} (h : (a && b) = true) : b = true := (Bool.and_eq_true_iff.mp h).2

/-- behind several expressions, each kept -/
structure AftL (K : PySem.W.Frag) (ca : Nat → Addr) (nm : Nat → Str) (σ : L2.St) (pu : Bool) (G H : Hp) (Fs : Nat → List Addr) (os : List O) (ρ' : Env) (vs : List V) (G' H' : Hp) (Fs' : Nat → List Addr) (F : List Addr) : Prop where
  st : Step G H Fs G' H' Fs'
  en : EnvR K ca nm G' H' σ ρ' Fs'
  rp : RepOs K ca nm G' H' vs os F
  pv : Pv G' H' Fs' G H Fs none F
  pu : pu = true → Same H H'
theorem mono_out (r : RepO K ca nm G1 H1 v o F) (n : ∀ a ∈ F, ¬ InF Fs1 a) (st : Step G1 H1 Fs1 G2 H2 Fs2) : RepO K ca nm G2 H2 v o F := r.mono st.g st.fx fun a ha u e => st.fr a u e (n a ha)
theorem AftL.cons {pu1 pu2 : Bool} {os : List O} {vs : List V} {F1 F2 : List Addr} (A : Aft K ca nm σ pu1 G H Fs o none ρ1 v G1 H1 Fs1 F1) (B : AftL K ca nm σ pu2 G1 H1 Fs1 os ρ2 vs G2 H2 Fs2 F2) : AftL K ca nm σ (pu1 && pu2) G H Fs (o :: os) ρ2 (v :: vs) G2 H2 Fs2 (F1 ++ F2) := by
  obtain ⟨nd1, o1⟩ := A.pv
  obtain ⟨nd2, o2⟩ := B.pv
  have th : ∀ a ∈ F1, H1 a ≠ none := fun a ha z => by
    obtain ⟨u, e, _⟩ := A.rp.there a ha
    rw [z] at e; cases e
  refine ⟨A.st.trans B.st, B.en, .cons (mono_out A.rp (fun a ha => (o1 a ha).1) B.st) B.rp, ⟨?_, fun a ha => ?_⟩, fun h => (A.pu (and_l h)).trans (B.pu (and_r h))⟩
  · refine List.nodup_append.mpr ⟨nd1, nd2, fun a ha b hb e => ?_⟩
    subst e
    rcases (o2 a hb).2.2 with z | z
    · exact (o1 a ha).1 z
    · exact th a ha z
  · rcases List.mem_append.mp ha with ha | ha
    · refine ⟨fun z => ?_, ?_, (o1 a ha).2.2⟩
      · rcases B.st.nf a z with z | z
        · exact (o1 a ha).1 z
        · exact th a ha z
      · cases e : G2 a with
        | none => rfl
        | some u =>
          rcases B.st.ng a u e with z | z | z
          · rw [(o1 a ha).2.1] at z; cases z
          · exact absurd z (o1 a ha).1
          · exact absurd z (th a ha)
    · refine ⟨(o2 a ha).1, (o2 a ha).2.1, ?_⟩
      rcases (o2 a ha).2.2 with z | z
      · exact A.st.nf a z
      · exact .inr (A.st.al a z)
end
section
variable (K : PySem.W.Frag) (ca : Nat → Addr) (nm : Nat → Str) (S : Sg)
def tKs (xs : Exs) : TA := fun σ H Q => ∃ G Fs ρ, EnvR K ca nm G H σ ρ Fs ∧ ∃ r, evs S xs ρ = some r ∧
  ∀ vs G' H' Fs' F, AftL K ca nm σ (pureXs S xs) G H Fs r.1 r.2 vs G' H' Fs' F → Q vs H'
/-- seen things -/
structure AftB (K : PySem.W.Frag) (ca : Nat → Addr) (nm : Nat → Str) (σ : L2.St) (pu : Bool) (G H : Hp) (Fs : Nat → List Addr) (os : List O) (ρ' : Env) (vs : List V) (G' H' : Hp) (Fs' : Nat → List Addr) : Prop where
  st : Step G H Fs G' H' Fs'
  en : EnvR K ca nm G' H' σ ρ' Fs'
  rp : RepBs K ca nm G' H' vs os
  pu : pu = true → Same H H'
def tBs (xs : Exs) : TA := fun σ H Q => ∃ G Fs ρ, EnvR K ca nm G H σ ρ Fs ∧ ∃ r, evB S xs ρ = some r ∧
  ∀ vs G' H' Fs', AftB K ca nm σ (pureXs S xs) G H Fs r.1 r.2 vs G' H' Fs' → Q vs H'
/-- a test -/
def tT (x : Ex) : TT := fun σ H Q => ∃ G Fs ρ, EnvR K ca nm G H σ ρ Fs ∧ ∃ r b, ev S x ρ = some r ∧ boolOf r.1 = some b ∧
  ∀ G' H' Fs', Step G H Fs G' H' Fs' → EnvR K ca nm G' H' σ r.2.2 Fs' → (pureX S x = true → Same H H') → Q b H'
end
theorem boolOf_eq {o : O} {b : Bool} (h : boolOf o = some b) : o = .sh (.bl b) := by
  unfold boolOf at h
  split at h
  · cases h; rfl
  · cases h
theorem intOf_eq {o : O} {i : Int} (h : intOf o = some i) : o = .sh (.int i) := by
  unfold intOf at h
  split at h
  · cases h; rfl
  · cases h

section
variable {ca : Nat → Addr} {nm : Nat → Str} {S : Sg} {X : Cx} {e ea eb ec : Expr} {es : List Expr} {x a b c : Ex} {xs : Exs} {pos : Pos}

theorem bind_some {α β : Type} {o : Option α} {f : α → Option β} {r : β} (h : o.bind f = some r) : ∃ x, o = some x ∧ f x = some r := by
  cases o with
  | none => cases h
  | some x => exact ⟨x, rfl, h⟩
theorem map_some {α β : Type} {o : Option α} {f : α → β} {r : β} (h : o.map f = some r) : ∃ x, o = some x ∧ f x = r := by
  cases o with
  | none => cases h
  | some x => exact ⟨x, rfl, Option.some.inj h⟩

theorem s_var (i : Nat) {y : Str} (hN : X.N[i]? = some y) (hv : Vis X.env.scope y) (hd : (y == ("__debug__" : Str)) = false) (hcd : (y == ("__classdict__" : Str)) = false) : PE X (.Name y pos) (tE X.K ca nm S (.var i)) := by
  refine (pe_var hN hv hd hcd).imp fun σ H Q ⟨G, Fs, ρ, E, o, p, ρ', h, k⟩ => ?_
  unfold ev at h
  obtain ⟨o', hg, e⟩ := map_some h
  cases e
  obtain ⟨v, hs, r⟩ := E.sl i _ hg
  exact ⟨v, hs, k v G H Fs (Fs i) ⟨Step.refl G H Fs, E, r, List.Sublist.refl _, fun _ => Same.refl H⟩⟩
theorem s_con {d : D} {v : V} (h : PE X e (tC v)) (r : ∀ (G H : Hp), RepD X.K ca nm G H v d) : PE X e (tE X.K ca nm S (.con d)) := by
  refine h.imp fun σ H Q ⟨G, Fs, ρ, E, o, p, ρ', hh, k⟩ => ?_
  unfold ev at hh
  cases hh
  exact k v G H Fs [] (aft_sh (Step.refl G H Fs) E (fun _ => Same.refl H) none (r G H))
theorem s_int {i : Int} {j : Nat} : PE X (.Constant (.int i) j pos) (tE X.K ca nm S (.con (.int i))) := s_con pe_int fun _ _ => .int i
theorem s_bl {i : Bool} {j : Nat} : PE X (.Constant (.bool i) j pos) (tE X.K ca nm S (.con (.bl i))) := s_con pe_bl fun _ _ => .bl i
theorem s_str {i : Str} {j : Nat} : PE X (.Constant (.str i) j pos) (tE X.K ca nm S (.con (.str i))) := s_con pe_str fun _ _ => .str i
theorem s_non {j : Nat} : PE X (.Constant .none j pos) (tE X.K ca nm S (.con .non)) := s_con pe_non fun _ _ => .non

theorem s_bin (op : Bop) (ha : PE X ea (tE X.K ca nm S a)) (hb : PE X eb (tE X.K ca nm S b)) : PE X (.BinOp ea (opOf op) eb pos) (tE X.K ca nm S (.bin op a b)) := by
  refine (pe_op (op_bin op) ha hb).imp fun σ H Q ⟨G, Fs, ρ, E, o, p, ρ', h, k⟩ => ?_
  unfold ev at h
  obtain ⟨x, hx, h⟩ := bind_some h
  obtain ⟨y, hy, h⟩ := bind_some h
  split at h
  · rename_i hc
    obtain ⟨o', ho, e⟩ := map_some h
    cases e
    refine ⟨G, Fs, ρ, E, _, _, _, hx, fun v1 G1 H1 Fs1 F1 A => ⟨G1, Fs1, _, A.en, _, _, _, hy, fun v2 G2 H2 Fs2 F2 B => ?_⟩⟩
    exact binO_ok B.en.gh (keep_b hc A.rp B.st B.pu) B.rp ho (aft_new (A.st.trans B.st) B.en (fun q => (A.pu (and_l q)).trans (B.pu (and_r q))) k)
  · cases h
theorem s_neg (ha : PE X ea (tE X.K ca nm S a)) : PE X (.UnaryOp .USub ea pos) (tE X.K ca nm S (.neg a)) := by
  refine (pe_un un_neg ha).imp fun σ H Q ⟨G, Fs, ρ, E, o, p, ρ', h, k⟩ => ?_
  unfold ev at h
  obtain ⟨x, hx, h⟩ := bind_some h
  obtain ⟨i, hi, e⟩ := map_some h
  cases e
  refine ⟨G, Fs, ρ, E, _, _, _, hx, fun v1 G1 H1 Fs1 F1 A => ?_⟩
  have rp := A.rp
  rw [intOf_eq hi] at rp
  obtain ⟨_, rp⟩ := sh_F rp
  cases rp
  exact ⟨i, rfl, k _ G1 H1 Fs1 [] (aft_sh A.st A.en A.pu none (.int _))⟩
theorem s_cmp (op : Cop) (hu : X.A.units + 65 < cLine) (ha : PE X ea (tE X.K ca nm S a)) (hb : PE X eb (tE X.K ca nm S b)) (hm : behindInMarks (cOf op) eb = false) : PE X (.Compare ea [cOf op] [eb] pos) (tE X.K ca nm S (.cmp op a b)) := by
  refine (pe_cmpR (op_cmp hu op) ha hb hm).imp fun σ H Q ⟨G, Fs, ρ, E, o, p, ρ', h, k⟩ => ?_
  unfold ev at h
  obtain ⟨x, hx, h⟩ := bind_some h
  obtain ⟨y, hy, h⟩ := bind_some h
  split at h
  · rename_i hc
    obtain ⟨o', ho, e⟩ := map_some h
    cases e
    refine ⟨G, Fs, ρ, E, _, _, _, hx, fun v1 G1 H1 Fs1 F1 A => ⟨G1, Fs1, _, A.en, _, _, _, hy, fun v2 G2 H2 Fs2 F2 B => ?_⟩⟩
    exact cmpO_ok B.en.gh (keep_b hc A.rp B.st B.pu) B.rp ho (k _ G2 H2 Fs2 [] (aft_sh (A.st.trans B.st) B.en (fun q => (A.pu (and_l q)).trans (B.pu (and_r q))) none (.bl _)))
  · cases h
theorem t_cmp (op : Cop) (hu : X.A.units + 65 < cLine) (ha : PE X ea (tE X.K ca nm S a)) (hb : PE X eb (tE X.K ca nm S b)) (hm : behindInMarks (cOf op) eb = false) : PT X (.Compare ea [cOf op] [eb] pos) (tT X.K ca nm S (.cmp op a b)) := by
  refine (pt_cmpR (op_cmp hu op) ha hb hm).imp fun σ H Q ⟨G, Fs, ρ, E, r, b, h, hb, k⟩ => ?_
  unfold ev at h
  obtain ⟨x, hx, h⟩ := bind_some h
  obtain ⟨y, hy, h⟩ := bind_some h
  split at h
  · rename_i hc
    obtain ⟨o', ho, e⟩ := map_some h
    cases e
    cases hb
    refine ⟨G, Fs, ρ, E, _, _, _, hx, fun v1 G1 H1 Fs1 F1 A => ⟨G1, Fs1, _, A.en, _, _, _, hy, fun v2 G2 H2 Fs2 F2 B => ?_⟩⟩
    exact cmpO_ok B.en.gh (keep_b hc A.rp B.st B.pu) B.rp ho ⟨_, rfl, k G2 H2 Fs2 (A.st.trans B.st) B.en (fun q => (A.pu (and_l q)).trans (B.pu (and_r q)))⟩
  · cases h
/-- an expression as a test -/
theorem t_val (ha : PE X e (tE X.K ca nm S a)) (he : ∀ whole, isTrue e X.env whole = (do let v ← whole; standAt e.pos; holding [v] (truthy v))) : PT X e (tT X.K ca nm S a) := by
  refine (pt_val ha he).imp fun σ H Q ⟨G, Fs, ρ, E, r, b, h, hb, k⟩ => ?_
  refine ⟨G, Fs, ρ, E, r.1, r.2.1, r.2.2, h, fun v G' H' Fs' F A => ?_⟩
  have rp := A.rp
  rw [boolOf_eq hb] at rp
  obtain ⟨_, rp⟩ := sh_F rp
  cases rp
  exact ⟨b, rfl, k G' H' Fs' A.st A.en A.pu⟩
theorem t_not (ha : PT X ea (tT X.K ca nm S a)) : PT X (.UnaryOp .Not ea pos) (tT X.K ca nm S (.not_ a)) := by
  refine (pt_not ha).imp fun σ H Q ⟨G, Fs, ρ, E, r, b, h, hb, k⟩ => ?_
  unfold ev at h
  obtain ⟨x, hx, h⟩ := bind_some h
  obtain ⟨c, hc, e⟩ := map_some h
  cases e
  cases hb
  exact ⟨G, Fs, ρ, E, x, c, hx, hc, fun G' H' Fs' st en pu => k G' H' Fs' st en pu⟩
theorem s_not (ha : PE X ea (tE X.K ca nm S a)) : PE X (.UnaryOp .Not ea pos) (tE X.K ca nm S (.not_ a)) := by
  refine (pe_not ha).imp fun σ H Q ⟨G, Fs, ρ, E, o, p, ρ', h, k⟩ => ?_
  unfold ev at h
  obtain ⟨x, hx, h⟩ := bind_some h
  obtain ⟨c, hc, e⟩ := map_some h
  cases e
  refine ⟨G, Fs, ρ, E, _, _, _, hx, fun v G' H' Fs' F A => ?_⟩
  have rp := A.rp
  rw [boolOf_eq hc] at rp
  obtain ⟨_, rp⟩ := sh_F rp
  cases rp
  exact ⟨c, rfl, k _ G' H' Fs' [] (aft_sh A.st A.en A.pu none (.bl _))⟩
theorem w_one {op : BoolOp} {r : TT} (h : PT X (.BoolOp op [ea] pos) r) : PT X (.BoolOp op [ea] pos) r := h
/-- and, or: the last one -/
theorem w_and1 (ha : PT X ea (tT X.K ca nm S a)) : PW X (.BoolOp .And [ea] pos) (tT X.K ca nm S a) := pw_and1 ha
theorem w_or1 (ha : PT X ea (tT X.K ca nm S a)) : PW X (.BoolOp .Or [ea] pos) (tT X.K ca nm S a) := pw_or1 ha
theorem w_and {rest : List Expr} (ha : PT X ea (tT X.K ca nm S a)) (hb : PW X (.BoolOp .And (eb :: rest) pos) (tT X.K ca nm S b)) : PW X (.BoolOp .And (ea :: eb :: rest) pos) (tT X.K ca nm S (.and_ a b)) := by
  have h0 := pw_and ha hb
  refine ⟨fun wh pins s σ H Q I q => h0.run wh pins s σ H Q I ?_⟩
  obtain ⟨G, Fs, ρ, E, r, b', h, hb', k⟩ := q
  unfold ev at h
  obtain ⟨x, hx, h⟩ := bind_some h
  obtain ⟨c, hc, h⟩ := bind_some h
  refine ⟨G, Fs, ρ, E, x, c, hx, hc, fun G1 H1 Fs1 st en pu => ?_⟩
  cases c with
  | true =>
    obtain ⟨y, hy, h⟩ := bind_some h
    obtain ⟨d, hd, e⟩ := map_some h
    cases e
    cases hb'
    exact ⟨G1, Fs1, _, en, y, _, hy, hd, fun G2 H2 Fs2 st2 en2 pu2 => k G2 H2 Fs2 (st.trans st2) en2 fun q => (pu (and_l q)).trans (pu2 (and_r q))⟩
  | false =>
    cases h
    cases hb'
    exact k G1 H1 Fs1 st en fun q => pu (and_l q)
theorem w_or {rest : List Expr} (ha : PT X ea (tT X.K ca nm S a)) (hb : PW X (.BoolOp .Or (eb :: rest) pos) (tT X.K ca nm S b)) : PW X (.BoolOp .Or (ea :: eb :: rest) pos) (tT X.K ca nm S (.or_ a b)) := by
  have h0 := pw_or ha hb
  refine ⟨fun wh pins s σ H Q I q => h0.run wh pins s σ H Q I ?_⟩
  obtain ⟨G, Fs, ρ, E, r, b', h, hb', k⟩ := q
  unfold ev at h
  obtain ⟨x, hx, h⟩ := bind_some h
  obtain ⟨c, hc, h⟩ := bind_some h
  refine ⟨G, Fs, ρ, E, x, c, hx, hc, fun G1 H1 Fs1 st en pu => ?_⟩
  cases c with
  | true =>
    cases h
    cases hb'
    exact k G1 H1 Fs1 st en fun q => pu (and_l q)
  | false =>
    obtain ⟨y, hy, h⟩ := bind_some h
    obtain ⟨d, hd, e⟩ := map_some h
    cases e
    cases hb'
    exact ⟨G1, Fs1, _, en, y, _, hy, hd, fun G2 H2 Fs2 st2 en2 pu2 => k G2 H2 Fs2 (st.trans st2) en2 fun q => (pu (and_l q)).trans (pu2 (and_r q))⟩
theorem s_one {op : BoolOp} (ha : PE X ea (tE X.K ca nm S a)) : PE X (.BoolOp op [ea] pos) (tE X.K ca nm S a) := pe_one ha
theorem s_and {rest : List Expr} (ha : PE X ea (tE X.K ca nm S a)) (hb : PE X (.BoolOp .And (eb :: rest) pos) (tE X.K ca nm S b)) : PE X (.BoolOp .And (ea :: eb :: rest) pos) (tE X.K ca nm S (.and_ a b)) := by
  refine (pe_and ha hb).imp fun σ H Q ⟨G, Fs, ρ, E, o, p, ρ', h, k⟩ => ?_
  unfold ev at h
  obtain ⟨x, hx, h⟩ := bind_some h
  obtain ⟨c, hc, h⟩ := bind_some h
  refine ⟨G, Fs, ρ, E, _, _, _, hx, fun v G1 H1 Fs1 F A => ?_⟩
  have rp := A.rp
  rw [boolOf_eq hc] at rp
  obtain ⟨_, rp⟩ := sh_F rp
  cases rp
  refine ⟨c, rfl, ?_⟩
  cases c with
  | true =>
    obtain ⟨y, hy, h⟩ := bind_some h
    obtain ⟨d, hd, e⟩ := map_some h
    cases e
    rw [if_pos rfl]
    refine ⟨G1, Fs1, _, A.en, _, _, _, hy, fun v2 G2 H2 Fs2 F2 B => ?_⟩
    have rp := B.rp
    rw [boolOf_eq hd] at rp
    obtain ⟨_, rp⟩ := sh_F rp
    exact k _ G2 H2 Fs2 [] (aft_sh (A.st.trans B.st) B.en (fun q => (A.pu (and_l q)).trans (B.pu (and_r q))) none rp)
  | false =>
    cases h
    rw [if_neg Bool.false_ne_true]
    exact k _ G1 H1 Fs1 [] (aft_sh A.st A.en (fun q => A.pu (and_l q)) none (.bl _))
theorem s_or {rest : List Expr} (ha : PE X ea (tE X.K ca nm S a)) (hb : PE X (.BoolOp .Or (eb :: rest) pos) (tE X.K ca nm S b)) : PE X (.BoolOp .Or (ea :: eb :: rest) pos) (tE X.K ca nm S (.or_ a b)) := by
  refine (pe_or ha hb).imp fun σ H Q ⟨G, Fs, ρ, E, o, p, ρ', h, k⟩ => ?_
  unfold ev at h
  obtain ⟨x, hx, h⟩ := bind_some h
  obtain ⟨c, hc, h⟩ := bind_some h
  refine ⟨G, Fs, ρ, E, _, _, _, hx, fun v G1 H1 Fs1 F A => ?_⟩
  have rp := A.rp
  rw [boolOf_eq hc] at rp
  obtain ⟨_, rp⟩ := sh_F rp
  cases rp
  refine ⟨c, rfl, ?_⟩
  cases c with
  | true =>
    cases h
    rw [if_pos rfl]
    exact k _ G1 H1 Fs1 [] (aft_sh A.st A.en (fun q => A.pu (and_l q)) none (.bl _))
  | false =>
    obtain ⟨y, hy, h⟩ := bind_some h
    obtain ⟨d, hd, e⟩ := map_some h
    cases e
    rw [if_neg Bool.false_ne_true]
    refine ⟨G1, Fs1, _, A.en, _, _, _, hy, fun v2 G2 H2 Fs2 F2 B => ?_⟩
    have rp := B.rp
    rw [boolOf_eq hd] at rp
    obtain ⟨_, rp⟩ := sh_F rp
    exact k _ G2 H2 Fs2 [] (aft_sh (A.st.trans B.st) B.en (fun q => (A.pu (and_l q)).trans (B.pu (and_r q))) none rp)
theorem Aft.more {K : PySem.W.Frag} {σ : L2.St} {G H G1 H1 G2 H2 : Hp} {Fs Fs1 Fs2 : Nat → List Addr} {o : O} {p : Option Nat} {ρ' : Env} {v : V} {F : List Addr} {pu pu1 : Bool} (st : Step G H Fs G1 H1 Fs1) (sm : pu1 = true → Same H H1) (hp : pu1 = true → pu = true)
    (B : Aft K ca nm σ pu G1 H1 Fs1 o p ρ' v G2 H2 Fs2 F) : Aft K ca nm σ pu1 G H Fs o p ρ' v G2 H2 Fs2 F := by
  refine ⟨st.trans B.st, B.en, B.rp, ?_, fun h => (sm h).trans (B.pu (hp h))⟩
  have pv := B.pv
  cases p with
  | some i => exact pv
  | none =>
    refine ⟨pv.1, fun a ha => ⟨(pv.2 a ha).1, (pv.2 a ha).2.1, ?_⟩⟩
    rcases (pv.2 a ha).2.2 with z | z
    · exact st.nf a z
    · exact .inr (st.al a z)
theorem s_ite (hc : PT X ec (tT X.K ca nm S c)) (ha : PE X ea (tE X.K ca nm S a)) (hb : PE X eb (tE X.K ca nm S b)) : PE X (.IfExp ec ea eb pos) (tE X.K ca nm S (.ite c a b)) := by
  refine (pe_ifExp hc ha hb).imp fun σ H Q ⟨G, Fs, ρ, E, o, p, ρ', h, k⟩ => ?_
  unfold ev at h
  obtain ⟨x, hx, h⟩ := bind_some h
  obtain ⟨d, hd, h⟩ := bind_some h
  refine ⟨G, Fs, ρ, E, x, d, hx, hd, fun G1 H1 Fs1 st en pu => ?_⟩
  cases d with
  | true => exact ⟨G1, Fs1, _, en, _, _, _, h, fun v G2 H2 Fs2 F B => k v G2 H2 Fs2 F (B.more st (fun q => pu (and_l q)) fun q => and_l (and_r q))⟩
  | false => exact ⟨G1, Fs1, _, en, _, _, _, h, fun v G2 H2 Fs2 F B => k v G2 H2 Fs2 F (B.more st (fun q => pu (and_l q)) fun q => and_r (and_r q))⟩
/-! ### lists of expressions -/
theorem k_nil : PA X [] (tKs X.K ca nm S .nil) := by
  refine pa_nil.imp fun σ H Q ⟨G, Fs, ρ, E, r, h, k⟩ => ?_
  cases h
  exact k [] G H Fs [] ⟨Step.refl G H Fs, E, .nil, ⟨List.nodup_nil, fun a h => absurd h (by simp)⟩, fun _ => Same.refl H⟩
theorem k_cons (ha : PE X e (tE X.K ca nm S x)) (hr : PA X es (tKs X.K ca nm S xs)) (hs : starEach (e :: es) X.env = (false, eval e X.env) :: starEach es X.env := by rfl) : PA X (e :: es) (tKs X.K ca nm S (.cons x xs)) := by
  refine (pa_cons ha.ret hr hs).imp fun σ H Q ⟨G, Fs, ρ, E, r, h, k⟩ => ?_
  unfold evs at h
  obtain ⟨y, hy, h⟩ := bind_some h
  obtain ⟨q, hq, h⟩ := map_some h
  cases h
  exact ⟨G, Fs, ρ, E, y, hy, fun v G1 H1 Fs1 F1 A => ⟨G1, Fs1, _, A.en, q, hq, fun vs G2 H2 Fs2 F2 B => k _ G2 H2 Fs2 _ (AftL.cons A B)⟩⟩
theorem b_nil : PA X [] (tBs X.K ca nm S .nil) := by
  refine pa_nil.imp fun σ H Q ⟨G, Fs, ρ, E, r, h, k⟩ => ?_
  cases h
  exact k [] G H Fs ⟨Step.refl G H Fs, E, .nil, fun _ => Same.refl H⟩
theorem b_cons (ha : PE X e (tE X.K ca nm S x)) (hr : PA X es (tBs X.K ca nm S xs)) (hs : starEach (e :: es) X.env = (false, eval e X.env) :: starEach es X.env := by rfl) : PA X (e :: es) (tBs X.K ca nm S (.cons x xs)) := by
  refine (pa_cons ha hr hs).imp fun σ H Q ⟨G, Fs, ρ, E, r, h, k⟩ => ?_
  unfold evB at h
  obtain ⟨y, hy, h⟩ := bind_some h
  split at h
  · rename_i hc
    obtain ⟨q, hq, h⟩ := map_some h
    cases h
    exact ⟨G, Fs, ρ, E, _, _, _, hy, fun v G1 H1 Fs1 F1 A => ⟨G1, Fs1, _, A.en, q, hq, fun vs G2 H2 Fs2 B => k _ G2 H2 Fs2 ⟨A.st.trans B.st, B.en, .cons (keep_b hc A.rp B.st B.pu) B.rp, fun q => (A.pu (and_l q)).trans (B.pu (and_r q))⟩⟩⟩
  · cases h
end
end Ev

namespace Ev
open PySem L2

section
variable {ca : Nat → Addr} {nm : Nat → Str} {S : Sg} {X : Cx} {e ea eb ec : Expr} {es : List Expr} {x a b c : Ex} {xs : Exs} {pos : Pos}

theorem ixO_sh {x o : O} {i : Int} (h : ixO x i = some o) (hs : x.isSh = true) : o.isSh = true := by
  obtain ⟨d, rfl⟩ := O.of_isSh hs
  unfold ixO at h
  split at h
  · obtain ⟨_, _, e⟩ := map_some h; rw [← e]; rfl
  · obtain ⟨_, _, e⟩ := map_some h; rw [← e]; rfl
  · obtain ⟨_, _, e⟩ := map_some h; rw [← e]; rfl
  · rename_i hx; cases hx
  · rename_i hx; cases hx
  · split at h
    · obtain ⟨_, _, e⟩ := map_some h; rw [← e]; rfl
    · cases h
  · cases h
theorem s_idx (ha : PE X ea (tE X.K ca nm S a)) (hb : PE X eb (tE X.K ca nm S b)) (hs : PlainIx eb) : PE X (.Subscript ea eb pos) (tE X.K ca nm S (.idx a b)) := by
  refine (pe_ix ix_seq ha hb hs).imp fun σ H Q ⟨G, Fs, ρ, E, o, p, ρ', h, k⟩ => ?_
  unfold ev at h
  obtain ⟨x, hx, h⟩ := bind_some h
  obtain ⟨y, hy, h⟩ := bind_some h
  obtain ⟨i, hi, h⟩ := bind_some h
  obtain ⟨o', ho, h⟩ := bind_some h
  refine ⟨G, Fs, ρ, E, _, _, _, hx, fun v1 G1 H1 Fs1 F1 A => ⟨G1, Fs1, _, A.en, _, _, _, hy, fun v2 G2 H2 Fs2 F2 B => ?_⟩⟩
  have rp := B.rp
  rw [intOf_eq hi] at rp
  obtain ⟨_, rp⟩ := sh_F rp
  cases rp
  split at h
  · rename_i hc
    cases h
    refine ixO_ok B.en.gh (keep_b (and_r hc) A.rp B.st B.pu) ho fun v F r _ => ?_
    obtain ⟨d, rfl⟩ := O.of_isSh (and_l hc)
    obtain ⟨e, r'⟩ := sh_F r
    exact k v G2 H2 Fs2 [] (aft_sh (A.st.trans B.st) B.en (fun q => (A.pu (and_l q)).trans (B.pu (and_r q))) none r')
  · cases h
theorem pe_negint {i : Int} {j : Nat} {p : Pos} : PE X (.UnaryOp .USub (.Constant (.int i) j p) pos) (tC (.int (-i))) := (pe_un un_neg pe_int).imp fun _ _ _ q => ⟨i, rfl, q⟩
theorem s_idc {i : Int} (ha : PE X ea (tE X.K ca nm S a)) (hb : PE X eb (tC (.int i))) (hs : PlainIx eb) : PE X (.Subscript ea eb pos) (tE X.K ca nm S (.idc a i)) := by
  refine (pe_ix ix_seq ha hb hs).imp fun σ H Q ⟨G, Fs, ρ, E, o, p, ρ', h, k⟩ => ?_
  unfold ev at h
  obtain ⟨x, hx, h⟩ := bind_some h
  obtain ⟨o', ho, h⟩ := map_some h
  refine ⟨G, Fs, ρ, E, _, _, _, hx, fun v1 G1 H1 Fs1 F1 A => ?_⟩
  refine ixO_ok A.en.gh A.rp ho fun v F r hF => ?_
  obtain ⟨e1, e2, e3⟩ : o' = o ∧ (if o'.isSh = true then none else x.2.1) = p ∧ x.2.2 = ρ' := by simpa using h
  subst e1 e2 e3
  refine k v G1 H1 Fs1 F ⟨A.st, A.en, r, ?_, A.pu⟩
  by_cases hs : o'.isSh = true
  · rw [if_pos hs]
    obtain ⟨d, rfl⟩ := O.of_isSh hs
    obtain ⟨e, r'⟩ := sh_F r
    subst e
    exact ⟨List.nodup_nil, fun a h => absurd h (by simp)⟩
  · rw [if_neg hs]
    have pv := A.pv
    cases e : x.2.1 with
    | some i =>
      rw [e] at pv
      exact hF.trans pv
    | none =>
      rw [e] at pv
      exact ⟨List.Nodup.sublist hF pv.1, fun a ha => pv.2 a (hF.subset ha)⟩
/-! ### slices -/
theorem optI_t {o : O} {i : Option Int} (h : optI true o = some i) : o = .sh .non ∧ i = none := by
  unfold optI at h
  split at h
  · cases h; exact ⟨rfl, rfl⟩
  · exact absurd ‹true = false› (by decide)
  · cases h
theorem optI_f {o : O} {i : Option Int} (h : optI false o = some i) : ∃ n, o = .sh (.int n) ∧ i = some n := by
  unfold optI at h
  split at h
  · exact absurd ‹false = true› (by decide)
  · cases h; exact ⟨_, rfl, rfl⟩
  · cases h
/-- a part of a slice: none, or a whole number -/
def tPt (K : PySem.W.Frag) (ca : Nat → Addr) (nm : Nat → Str) (S : Sg) (x : Ex) : TO := fun σ H Q => ∃ G Fs ρ, EnvR K ca nm G H σ ρ Fs ∧ ∃ r i, ev S x ρ = some r ∧ optI (isNonX x) r.1 = some i ∧
  ∀ G' H' Fs', Step G H Fs G' H' Fs' → EnvR K ca nm G' H' σ r.2.2 Fs' → (pureX S x = true → Same H H') → Q i H'
theorem PO.imp {X : Cx} {e : Option Expr} {t t' : TO} (h : PO X e t) (w : ∀ σ H Q, t' σ H Q → t σ H Q) : PO X e t' := ⟨fun pins s σ H Q I q => h.run pins s σ H Q I (w σ H Q q)⟩
theorem p_none : PO X none (tPt X.K ca nm S (.con .non)) := PO.imp po_none fun σ H Q ⟨G, Fs, ρ, E, r, i, h, hi, k⟩ => by
  cases h
  obtain ⟨_, rfl⟩ := optI_t hi
  exact k G H Fs (Step.refl G H Fs) E fun _ => Same.refl H
theorem p_some (ha : PE X e (tE X.K ca nm S x)) (hn : isNonX x = false) : PO X (some e) (tPt X.K ca nm S x) := PO.imp (po_some ha) fun σ H Q ⟨G, Fs, ρ, E, r, i, h, hi, k⟩ => by
  refine ⟨G, Fs, ρ, E, r.1, r.2.1, r.2.2, h, fun v G' H' Fs' F A => ?_⟩
  rw [hn] at hi
  obtain ⟨n, e1, e2⟩ := optI_f hi
  subst e2
  have rp := A.rp
  rw [e1] at rp
  obtain ⟨_, rp⟩ := sh_F rp
  cases rp
  exact ⟨n, rfl, k G' H' Fs' A.st A.en A.pu⟩
theorem s_slc {lo hi : Option Expr} {l h : Ex} {p2 : Pos} (ha : PE X ea (tE X.K ca nm S a)) (hl : PO X lo (tPt X.K ca nm S l)) (hh : PO X hi (tPt X.K ca nm S h)) : PE X (.Subscript ea (.Slice lo hi none p2) pos) (tE X.K ca nm S (.slc a l h)) := by
  refine (pe_slice sl_all ha hl hh).imp fun σ H Q ⟨G, Fs, ρ, E, o, p, ρ', hv, k⟩ => ?_
  unfold ev at hv
  obtain ⟨x, hx, hv⟩ := bind_some hv
  obtain ⟨y, hy, hv⟩ := bind_some hv
  obtain ⟨z, hz, hv⟩ := bind_some hv
  obtain ⟨i, hi, hv⟩ := bind_some hv
  obtain ⟨j, hj, hv⟩ := bind_some hv
  split at hv
  · rename_i hc
    obtain ⟨o', ho, hv⟩ := map_some hv
    cases hv
    refine ⟨G, Fs, ρ, E, _, _, _, hx, fun v1 G1 H1 Fs1 F1 A => ⟨G1, Fs1, _, A.en, y, i, hy, hi, fun G2 H2 Fs2 st2 en2 pu2 => ⟨G2, Fs2, _, en2, z, j, hz, hj, fun G3 H3 Fs3 st3 en3 pu3 => ?_⟩⟩⟩
    have sm : (pureX S l && pureX S h) = true → Same H1 H3 := fun q => (pu2 (and_l q)).trans (pu3 (and_r q))
    exact slO_ok en3.gh (keep_b hc A.rp (st2.trans st3) sm) ho (aft_new (A.st.trans (st2.trans st3)) en3 (fun q => (A.pu (and_l q)).trans (sm (and_r q))) k)
  · cases hv
theorem s_srev {kk : Nat} {p1 p2 p3 : Pos} (ha : PE X ea (tE X.K ca nm S a)) : PE X (.Subscript ea (.Slice none none (some (.UnaryOp .USub (.Constant (.int 1) kk p1) p2)) p3) pos) (tE X.K ca nm S (.srev a)) := by
  refine (pe_revL ha).imp fun σ H Q ⟨G, Fs, ρ, E, o, p, ρ', hv, k⟩ => ?_
  unfold ev at hv
  obtain ⟨x, hx, hv⟩ := bind_some hv
  obtain ⟨ds, hd, hv⟩ := map_some hv
  cases hv
  refine ⟨G, Fs, ρ, E, _, _, _, hx, fun v1 G1 H1 Fs1 F1 A => ?_⟩
  obtain ⟨q, vs, rfl, hq, hr⟩ := lst_at hd A.rp A.en.gh
  exact ⟨q, vs, rfl, SqL.of hq, fun p hp => Res.lst (aft_new A.st A.en A.pu k) hr.reverse hp⟩
/-! ### displays -/
theorem LIM_line : LIM ≤ sizeLine := by decide
/-- how many expressions -/
def Exs.len : Exs → Nat
  | .nil => 0
  | .cons _ es => es.len + 1
theorem evs_len : ∀ (xs : Exs) {ρ : Env} {r : List O × Env}, evs S xs ρ = some r → r.1.length = xs.len
  | .nil, _, _, h => by cases h; rfl
  | .cons x xs, ρ, r, h => by
    unfold evs at h
    obtain ⟨y, hy, h⟩ := bind_some h
    obtain ⟨q, hq, h⟩ := map_some h
    cases h
    simp [Exs.len, evs_len xs hq]
theorem s_tup {k1 : Nat} (h : PA X es (tKs X.K ca nm S xs)) (hl : xs.len ≤ LIM) : PE X (.Tuple es k1 pos) (tE X.K ca nm S (.tup xs)) := by
  refine (pe_tup h).imp fun σ H Q ⟨G, Fs, ρ, E, o, p, ρ', hv, k⟩ => ?_
  unfold ev at hv
  obtain ⟨r, hr, hv⟩ := bind_some hv
  cases hv
  refine ⟨G, Fs, ρ, E, r, hr, fun vs G1 H1 Fs1 F A => ⟨by rw [A.rp.length, evs_len xs hr]; exact lim_line hl, fun p hp => ?_⟩⟩
  have s := same_new (u := .tup vs) hp
  have no : ∀ a ∈ F, ¬ InF Fs1 a := fun a ha => (A.pv.2 a ha).1
  have rp : RepOs X.K ca nm G1 (upd H1 p (.tup vs)) vs r.1 F := A.rp.mono (Sub.refl G1) (Fix.of_same s) fun a _ u e => s a u e
  unfold mkTup at k
  cases e : unSh r.1 with
  | some ds =>
    have e2 := unSh_eq e
    rw [e2] at rp
    rw [e] at k
    exact k _ G1 _ Fs1 [] (aft_sh (A.st.trans (Step.of_same s)) (A.en.ext s) (fun q => (A.pu q).trans s) none (.tup (SqT.of upd_same) rp.to_D.1))
  | none =>
    rw [e] at k
    exact k _ G1 _ Fs1 F ⟨A.st.trans (Step.of_same s), A.en.ext s, .tup (SqT.of upd_same) rp, A.pv, fun q => (A.pu q).trans s⟩
theorem s_lst (h : PA X es (tKs X.K ca nm S xs)) (hl : xs.len ≤ LIM) : PE X (.List es pos) (tE X.K ca nm S (.lst xs)) := by
  refine (pe_lst h).imp fun σ H Q ⟨G, Fs, ρ, E, o, p, ρ', hv, k⟩ => ?_
  unfold ev at hv
  obtain ⟨r, hr, hv⟩ := bind_some hv
  cases hv
  refine ⟨G, Fs, ρ, E, r, hr, fun vs G1 H1 Fs1 F A => ⟨by rw [A.rp.length, evs_len xs hr]; exact lim_line hl, fun p hp => ?_⟩⟩
  have s := same_new (u := .lst vs) hp
  have rp : RepOs X.K ca nm G1 (upd H1 p (.lst vs)) vs r.1 F := A.rp.mono (Sub.refl G1) (Fix.of_same s) fun a _ u e => s a u e
  have hpF : p ∉ F := fun z => by
    obtain ⟨u, e, _⟩ := A.rp.there p z
    rw [hp] at e; cases e
  refine k _ G1 _ Fs1 (p :: F) ⟨A.st.trans (Step.of_same s), A.en.ext s, .lst upd_same rp, ⟨List.nodup_cons.mpr ⟨hpF, A.pv.1⟩, fun a ha => ?_⟩, fun q => (A.pu q).trans s⟩
  rcases List.mem_cons.mp ha with z | ha
  · subst z
    exact ⟨A.en.new hp, A.en.gnew hp, .inr (A.st.al _ hp)⟩
  · exact A.pv.2 a ha
/-! ### built-ins -/
theorem s_blt (bb : Blt) {y : Str} {p2 : Pos} {id : String} (hc : X.calm = true) (hg : Gl X y) (hm : X.mg y = none) (hv : bootBuiltins y = some (.builtin id)) (hf : fBl bb = .builtin id) (hi : isIs bb = false) (hn : y ≠ "__name__") (hd : (y == ("__debug__" : Str)) = false) (h : PA X (e :: es) (tBs X.K ca nm S xs)) (he : starEach (e :: es) X.env = (false, eval e X.env) :: starEach es X.env := by rfl) (hpl : (backTo pos (starEach es X.env)).any (·.1) = false := by rfl) :
    PE X (.Call (.Name y p2) (e :: es) [] pos) (tE X.K ca nm S (.blt bb xs)) := by
  have cr := cr_blt hc bb
  rw [hf] at cr
  refine (pe_callB cr hg hm hv h hn hd he hpl).imp fun σ H Q ⟨G, Fs, ρ, E, o, p, ρ', hv, k⟩ => ?_
  unfold ev at hv
  obtain ⟨r, hr, hv⟩ := bind_some hv
  obtain ⟨o', ho, hv⟩ := map_some hv
  cases hv
  refine ⟨G, Fs, ρ, E, r, hr, fun vs G1 H1 Fs1 A => ?_⟩
  have := bltO_ok A.en.gh A.rp ho (aft_new A.st A.en A.pu k)
  unfold withTy at this
  rw [if_neg (by rw [hi]; exact Bool.false_ne_true)] at this
  exact this
theorem s_bltT (bb : Blt) {y : Str} {p2 : Pos} {id : String} (hc : X.calm = true) (hg : Gl X y) (hm : X.mg y = none) (hv : bootBuiltins y = some (.type id)) (hf : fBl bb = .type id) (hi : isIs bb = false) (hn : y ≠ "__name__") (hd : (y == ("__debug__" : Str)) = false) (h : PA X (e :: es) (tBs X.K ca nm S xs)) (he : starEach (e :: es) X.env = (false, eval e X.env) :: starEach es X.env := by rfl) (hpl : (backTo pos (starEach es X.env)).any (·.1) = false := by rfl) :
    PE X (.Call (.Name y p2) (e :: es) [] pos) (tE X.K ca nm S (.blt bb xs)) := by
  have cr := cr_blt hc bb
  rw [hf] at cr
  refine (pe_callTy cr hg hm hv h hn hd he hpl).imp fun σ H Q ⟨G, Fs, ρ, E, o, p, ρ', hv, k⟩ => ?_
  unfold ev at hv
  obtain ⟨r, hr, hv⟩ := bind_some hv
  obtain ⟨o', ho, hv⟩ := map_some hv
  cases hv
  refine ⟨G, Fs, ρ, E, r, hr, fun vs G1 H1 Fs1 A => ?_⟩
  have := bltO_ok A.en.gh A.rp ho (aft_new A.st A.en A.pu k)
  unfold withTy at this
  rw [if_neg (by rw [hi]; exact Bool.false_ne_true)] at this
  exact this
/-- isinstance(x, T), T a built-in class -/
theorem s_isi (bb : Blt) {y : Str} {p2 p3 : Pos} (hc : X.calm = true) (hi : isIs bb = true) (hg : Gl X "isinstance") (hm : X.mg "isinstance" = none) (hgt : Gl X y) (hmt : X.mg y = none) (hvt : bootBuiltins y = some (.type (tyBl bb))) (hn : y ≠ "__name__") (hd : (y == ("__debug__" : Str)) = false)
    (h : PE X e (tE X.K ca nm S x)) (he : starEach [e, .Name y p3] X.env = (false, eval e X.env) :: starEach [.Name y p3] X.env := by rfl) (hpl : (backTo pos (starEach [.Name y p3] X.env)).any (·.1) = false := by rfl) : PE X (.Call (.Name "isinstance" p2) [e, .Name y p3] [] pos) (tE X.K ca nm S (.blt bb (.cons x .nil))) := by
  have cr := cr_blt hc bb
  have hf : fBl bb = .builtin "isinstance" := by cases bb <;> first | rfl | (exact absurd hi (by decide))
  rw [hf] at cr
  have pt : PE X (.Name y p3) (tC (.ty (tyBl bb))) := pe_bltn hgt hmt hvt rfl hn hd
  refine (pe_callB cr hg hm (by decide +kernel) (pa_cons h (pa_cons pt pa_nil rfl) he) (by decide) (by decide) he hpl).imp fun σ H Q ⟨G, Fs, ρ, E, o, p, ρ', hv, k⟩ => ?_
  unfold ev at hv
  obtain ⟨r, hr, hv⟩ := bind_some hv
  obtain ⟨o', ho, hv⟩ := map_some hv
  cases hv
  unfold evB at hr
  obtain ⟨y1, hy, hr⟩ := bind_some hr
  split at hr
  · obtain ⟨q, hq, hr⟩ := map_some hr
    cases hr
    cases hq
    refine ⟨G, Fs, ρ, E, _, _, _, hy, fun v G1 H1 Fs1 F A => ?_⟩
    have := bltO_ok A.en.gh (.cons A.rp .nil) ho (aft_new A.st A.en (fun q => A.pu (and_l q)) k)
    unfold withTy at this
    rw [if_pos hi] at this
    exact this
  · cases hr
end
end Ev

namespace Ev
open PySem L2

def one (F : List Addr) : Nat → List Addr := fun i => match i with
  | 0 => F
  | _ + 1 => []
def addF (F : List Addr) (Fs : Nat → List Addr) : Nat → List Addr := fun i => match i with
  | 0 => F
  | j + 1 => Fs j
theorem in_one {F : List Addr} {a : Addr} : InF (one F) a ↔ a ∈ F := by
  constructor
  · intro h
    obtain ⟨i, h⟩ := h
    cases i with
    | zero => exact h
    | succ j => exact absurd h (by simp [one])
  · exact fun h => ⟨0, h⟩
theorem in_addF {F : List Addr} {Fs : Nat → List Addr} {a : Addr} : InF (addF F Fs) a ↔ a ∈ F ∨ InF Fs a := by
  constructor
  · intro h
    obtain ⟨i, h⟩ := h
    cases i with
    | zero => exact .inl h
    | succ j => exact .inr ⟨j, h⟩
  · intro h
    rcases h with h | ⟨j, h⟩
    · exact ⟨0, h⟩
    · exact ⟨j + 1, h⟩
def ioOk : List Bool → List O → Bool
  | _, [] => true
  | true :: fs, _ :: os => ioOk fs os
  | false :: fs, o :: os => o.isSh && ioOk fs os
  | [], o :: os => o.isSh && ioOk [] os
def pick {α : Type} : List Bool → List α → List α
  | true :: fs, v :: vs => v :: pick fs vs
  | false :: fs, _ :: vs => pick fs vs
  | _, _ => []
section
variable (K : PySem.W.Frag) (ca : Nat → Addr) (nm : Nat → Str)
/-- what a def of the text promises: it gives what Φ says -/
def spOf (Φ : List O → Option (O × List O)) (io : List Bool) (n : Nat) : Sp := fun vs H Q _ => vs.length = n ∧ ∃ G os F res, Sub G H ∧ Φ os = some res ∧ RepOs K ca nm G H vs os F ∧ ioOk io os = true ∧ F.Nodup ∧ (∀ a ∈ F, G a = none) ∧
  ∀ v G' H' F', Step G H (one F) G' H' (one F') → Sub G' H' → RepOs K ca nm G' H' (v :: pick io vs) (res.1 :: res.2) F' → F'.Nodup → (∀ a ∈ F', G' a = none) → Q v H'
/-- the names that arguments were taken from -/
def SlotOk (σ : L2.St) (ρ : Env) : List (Option Nat) → List V → Prop
  | none :: is, _ :: vs => SlotOk σ ρ is vs
  | some i :: is, v :: vs => σ[i]? = some (some v) ∧ gt ρ i = none ∧ some i ∉ is ∧ SlotOk σ ρ is vs
  | [], [] => True
  | _, _ => False
structure AftA (σ : L2.St) (fs : List Bool) (pu : Bool) (G H : Hp) (Fs : Nat → List Addr) (os : List O) (is : List (Option Nat)) (ρ' : Env) (vs : List V) (G' H' : Hp) (Fs' : Nat → List Addr) (F : List Addr) : Prop where
  st : Step G H Fs G' H' Fs'
  en : EnvR K ca nm G' H' σ ρ' Fs'
  rp : RepOs K ca nm G' H' vs os F
  pv : Pv G' H' Fs' G H Fs none F
  pu : pu = true → Same H H'
  io : ioOk fs os = true
  sl : SlotOk σ ρ' is (pick fs vs)
def tAs (S : Sg) (fs : List Bool) (xs : Exs) : TA := fun σ H Q => ∃ G Fs ρ, EnvR K ca nm G H σ ρ Fs ∧ ∃ r, evA S fs xs ρ = some r ∧
  ∀ vs G' H' Fs' F, AftA K ca nm σ fs (pureXs S xs) G H Fs r.1 r.2.1 r.2.2 vs G' H' Fs' F → Q vs H'
end

section
variable {K : PySem.W.Frag} {ca : Nat → Addr} {nm : Nat → Str} {S : Sg} {σ : L2.St} {G H G1 H1 G2 H2 : Hp} {Fs Fs1 Fs2 : Nat → List Addr} {ρ ρ1 ρ2 : Env} {v : V} {o : O} {F : List Addr} {pu : Bool}
def setF (Fs : Nat → List Addr) (i : Nat) (F : List Addr) : Nat → List Addr := fun j => if j = i then F else Fs j
theorem in_setF {i : Nat} {F : List Addr} {a : Addr} (h : InF (setF Fs i F) a) : InF Fs a ∨ a ∈ F := by
  obtain ⟨j, h⟩ := h
  unfold setF at h
  split at h
  · exact .inr h
  · exact .inl ⟨j, h⟩
/-- a name takes a thing that stands apart -/
theorem EnvR.put (E : EnvR K ca nm G H σ ρ Fs) {i : Nat} (hi : gt ρ i = none) (hv : σ[i]? = some (some v)) (r : RepO K ca nm G H v o F) (nd : F.Nodup) (n : ∀ a ∈ F, ¬ InF Fs a) (g : ∀ a ∈ F, G a = none) : EnvR K ca nm G H σ (pt ρ i (some o)) (setF Fs i F) := by
  have hl : i < ρ.length := by rw [E.ln]; exact (List.getElem?_eq_some_iff.mp hv).1
  refine ⟨E.gh, by rw [pt_length]; exact E.ln, fun j u e => ?_, fun j e => ?_, fun j => ?_, fun j k a h1 h2 => ?_, fun j a h => ?_⟩
  · unfold setF
    by_cases hj : j = i
    · subst hj
      rw [gt_pt_same hl] at e
      cases e
      rw [if_pos rfl]
      exact ⟨v, hv, r⟩
    · rw [gt_pt_ne hj] at e
      rw [if_neg hj]
      exact E.sl j u e
  · unfold setF
    by_cases hj : j = i
    · subst hj
      rw [gt_pt_same hl] at e
      cases e
    · rw [gt_pt_ne hj] at e
      rw [if_neg hj]
      exact E.nl j e
  · unfold setF
    split
    · exact nd
    · exact E.nd j
  · unfold setF at h1 h2
    split at h1
    · split at h2
      · rename_i e1 e2
        rw [e1, e2]
      · exact absurd ⟨k, h2⟩ (n a h1)
    · split at h2
      · exact absurd ⟨j, h1⟩ (n a h2)
      · exact E.dj j k a h1 h2
  · unfold setF at h
    split at h
    · exact g a h
    · exact E.gf j a h
theorem slot_pt {i : Nat} {o : Option O} : ∀ {is : List (Option Nat)} {vs : List V}, some i ∉ is → SlotOk σ ρ is vs → SlotOk σ (pt ρ i o) is vs
  | [], [], _, _ => True.intro
  | none :: is, v :: vs, h, s => slot_pt (is := is) (fun z => h (List.mem_cons_of_mem _ z)) s
  | some j :: is, v :: vs, h, ⟨h1, h2, h3, h4⟩ => ⟨h1, by rw [gt_pt_ne fun z => h (by rw [z]; exact List.mem_cons_self)]; exact h2, h3, slot_pt (fun z => h (List.mem_cons_of_mem _ z)) h4⟩
  | [], _ :: _, _, s => s.elim
  | none :: _, [], _, s => s.elim
  | some _ :: _, [], _, s => s.elim
theorem back_ok : ∀ {is : List (Option Nat)} {ws : List V} {os : List O} {F : List Addr} {ρ : Env} {Fs : Nat → List Addr}, EnvR K ca nm G H σ ρ Fs → SlotOk σ ρ is ws → RepOs K ca nm G H ws os F → F.Nodup → (∀ a ∈ F, ¬ InF Fs a) → (∀ a ∈ F, G a = none) →
    ∃ Fs', EnvR K ca nm G H σ (backA is os ρ) Fs' ∧ ∀ a, InF Fs' a → InF Fs a ∨ a ∈ F
  | [], [], _, _, ρ, Fs, E, _, r, _, _, _ => by
    cases r
    exact ⟨Fs, E, fun a h => .inl h⟩
  | none :: is, w :: ws, os, F, ρ, Fs, E, s, r, nd, n, g => by
    cases r with
    | cons r1 r2 =>
      obtain ⟨Fs', E', h⟩ := back_ok (is := is) E s r2 (List.nodup_append.mp nd).2.1 (fun a ha => n a (List.mem_append_right _ ha)) fun a ha => g a (List.mem_append_right _ ha)
      exact ⟨Fs', E', fun a ha => (h a ha).imp id fun z => List.mem_append_right _ z⟩
  | some i :: is, w :: ws, os, F, ρ, Fs, E, ⟨h1, h2, h3, h4⟩, r, nd, n, g => by
    cases r with
    | @cons _ _ _ _ F1 F2 r1 r2 =>
      obtain ⟨nd1, nd2, nd3⟩ := List.nodup_append.mp nd
      have E1 := E.put h2 h1 r1 nd1 (fun a ha => n a (List.mem_append_left _ ha)) fun a ha => g a (List.mem_append_left _ ha)
      obtain ⟨Fs', E', h⟩ := back_ok (is := is) E1 (slot_pt h3 h4) r2 nd2 (fun a ha z => by
        rcases in_setF z with z | z
        · exact n a (List.mem_append_right _ ha) z
        · exact nd3 a z a ha rfl) fun a ha => g a (List.mem_append_right _ ha)
      refine ⟨Fs', E', fun a ha => ?_⟩
      rcases h a ha with z | z
      · exact (in_setF z).imp id fun z => List.mem_append_left _ z
      · exact .inr (List.mem_append_right _ z)
  | [], _ :: _, _, _, _, _, _, s, _, _, _, _ => s.elim
  | none :: _, [], _, _, _, _, _, s, _, _, _, _ => s.elim
  | some _ :: _, [], _, _, _, _, _, s, _, _, _, _ => s.elim
/-- a kept thing is shared from now on -/
theorem Aft.share (A : Aft K ca nm σ pu G H Fs o none ρ1 v G1 H1 Fs1 F) : ∃ G2, Aft K ca nm σ pu G H Fs (.sh o.d) none ρ1 v G2 H1 Fs1 [] := by
  have g : ∀ a ∈ F, G1 a = none := fun a ha => (A.pv.2 a ha).2.1
  refine ⟨addG G1 H1 F, ⟨A.st.g.trans (addG_sub A.en.gh g), A.st.fr, A.st.fx, A.st.al, A.st.nf, fun a u h => ?_⟩, A.en.share (fun a ha => (A.pv.2 a ha).1) g, .sh (A.rp.now (addG_sub A.en.gh g) (Fix.refl H1) fun a ha u e => by rw [addG_in ha]; exact e), ⟨List.nodup_nil, fun a h => absurd h (by simp)⟩, A.pu⟩
  by_cases hm : a ∈ F
  · exact .inr (A.pv.2 a hm).2.2
  · unfold addG at h
    rw [if_neg hm] at h
    exact A.st.ng a u h
theorem AftA.cons {fs : List Bool} {f : Bool} {pu1 pu2 : Bool} {os : List O} {vs : List V} {F1 F2 : List Addr} {is : List (Option Nat)} (hf : f = false → o.isSh = true) (j : Option Nat)
    (hj : ∀ i, j = some i → σ[i]? = some (some v) ∧ gt ρ2 i = none ∧ some i ∉ is)
    (A : Aft K ca nm σ pu1 G H Fs o none ρ1 v G1 H1 Fs1 F1) (B : AftA K ca nm σ fs pu2 G1 H1 Fs1 os is ρ2 vs G2 H2 Fs2 F2) :
    AftA K ca nm σ (f :: fs) (pu1 && pu2) G H Fs (o :: os) (if f then j :: is else is) ρ2 (v :: vs) G2 H2 Fs2 (F1 ++ F2) := by
  have C := AftL.cons A ⟨B.st, B.en, B.rp, B.pv, B.pu⟩
  refine ⟨C.st, C.en, C.rp, C.pv, C.pu, ?_, ?_⟩
  · cases f with
    | true => exact B.io
    | false => show (o.isSh && ioOk fs os) = true; rw [hf rfl, B.io]; rfl
  · cases f with
    | true =>
      cases j with
      | none => exact B.sl
      | some i =>
        obtain ⟨h1, h2, h3⟩ := hj i rfl
        exact ⟨h1, h2, h3, B.sl⟩
    | false => exact B.sl
end

section
variable {ca : Nat → Addr} {nm : Nat → Str} {S : Sg} {X : Cx} {e ea eb ec : Expr} {es : List Expr} {x a b c : Ex} {xs : Exs} {pos : Pos} {fs : List Bool}
theorem a_nil : PA X [] (tAs X.K ca nm S fs .nil) := by
  refine pa_nil.imp fun σ H Q ⟨G, Fs, ρ, E, r, h, k⟩ => ?_
  have e : r = ([], [], ρ) := by
    cases fs with
    | nil => exact (Option.some.inj h).symm
    | cons f fs => cases f <;> exact (Option.some.inj h).symm
  subst e
  exact k [] G H Fs [] ⟨Step.refl G H Fs, E, .nil, ⟨List.nodup_nil, fun a h => absurd h (by simp)⟩, fun _ => Same.refl H, by cases fs with
    | nil => rfl
    | cons f fs => cases f <;> rfl, by cases fs with
    | nil => exact True.intro
    | cons f fs => cases f <;> exact True.intro⟩
/-- an argument to be read -/
theorem a_sh (ha : PE X e (tE X.K ca nm S x)) (hr : PA X es (tAs X.K ca nm S fs xs)) (hs : starEach (e :: es) X.env = (false, eval e X.env) :: starEach es X.env := by rfl) : PA X (e :: es) (tAs X.K ca nm S (false :: fs) (.cons x xs)) := by
  refine (pa_cons ha.ret hr hs).imp fun σ H Q ⟨G, Fs, ρ, E, r, h, k⟩ => ?_
  obtain ⟨y, hy, h⟩ : ∃ y, ev S x ρ = some y ∧ (evA S fs xs (retE x y).2).map (fun r => (O.sh (retE x y).1.d :: r.1, r.2.1, r.2.2)) = some r := by
    unfold evA at h
    exact bind_some (by simpa using h)
  obtain ⟨q, hq, h⟩ := map_some h
  subst h
  refine ⟨G, Fs, ρ, E, y, hy, fun v G1 H1 Fs1 F1 A => ?_⟩
  obtain ⟨G1', A'⟩ := A.share
  exact ⟨G1', Fs1, _, A'.en, q, hq, fun vs G2 H2 Fs2 F2 B => k _ G2 H2 Fs2 _ (AftA.cons (f := false) (fun _ => rfl) none (fun i z => nomatch z) A' B)⟩
/-- .. behind the last one to be changed -/
theorem a_shN (ha : PE X e (tE X.K ca nm S x)) (hr : PA X es (tAs X.K ca nm S [] xs)) (hs : starEach (e :: es) X.env = (false, eval e X.env) :: starEach es X.env := by rfl) : PA X (e :: es) (tAs X.K ca nm S [] (.cons x xs)) := by
  refine (pa_cons ha.ret hr hs).imp fun σ H Q ⟨G, Fs, ρ, E, r, h, k⟩ => ?_
  obtain ⟨y, hy, h⟩ : ∃ y, ev S x ρ = some y ∧ (evA S [] xs (retE x y).2).map (fun r => (O.sh (retE x y).1.d :: r.1, r.2.1, r.2.2)) = some r := by
    unfold evA at h
    exact bind_some (by simpa using h)
  obtain ⟨q, hq, h⟩ := map_some h
  subst h
  refine ⟨G, Fs, ρ, E, y, hy, fun v G1 H1 Fs1 F1 A => ?_⟩
  obtain ⟨G1', A'⟩ := A.share
  refine ⟨G1', Fs1, _, A'.en, q, hq, fun vs G2 H2 Fs2 F2 B => k _ G2 H2 Fs2 ([] ++ F2) ?_⟩
  have C := AftA.cons (f := false) (fun _ => rfl) none (fun i z => nomatch z) A' B
  exact ⟨C.st, C.en, C.rp, C.pv, C.pu, C.io, by
    have := C.sl
    simpa [pick] using this⟩
/-- an argument to be changed that is no name -/
theorem a_own (hv : isVar x = false) (ha : PE X e (tE X.K ca nm S x)) (hr : PA X es (tAs X.K ca nm S fs xs)) (hs : starEach (e :: es) X.env = (false, eval e X.env) :: starEach es X.env := by rfl) : PA X (e :: es) (tAs X.K ca nm S (true :: fs) (.cons x xs)) := by
  refine (pa_cons ha.ret hr hs).imp fun σ H Q ⟨G, Fs, ρ, E, r, h, k⟩ => ?_
  obtain ⟨y, hy, h⟩ : ∃ y, ev S x ρ = some y ∧ (evA S fs xs (retE x y).2).map (fun r => ((retE x y).1 :: r.1, none :: r.2.1, r.2.2)) = some r := by
    have e : evA S (true :: fs) (.cons x xs) ρ = (ev S x ρ).bind fun y => (evA S fs xs (retE x y).2).map fun r => ((retE x y).1 :: r.1, none :: r.2.1, r.2.2) := by
      cases x <;> first | rfl | (exact absurd hv (by decide)) | (exact absurd hv (by intro z; cases z))
    rw [e] at h
    exact bind_some h
  obtain ⟨q, hq, h⟩ := map_some h
  subst h
  exact ⟨G, Fs, ρ, E, y, hy, fun v G1 H1 Fs1 F1 A => ⟨G1, Fs1, _, A.en, q, hq, fun vs G2 H2 Fs2 F2 B => k _ G2 H2 Fs2 _ (AftA.cons (f := true) (fun z => nomatch z) none (fun i z => nomatch z) A B)⟩⟩
/-- .. that is one -/
theorem a_io (i : Nat) {y : Str} {pv : Pos} (hN : X.N[i]? = some y) (hv : Vis X.env.scope y) (hd : (y == ("__debug__" : Str)) = false) (hcd : (y == ("__classdict__" : Str)) = false) (hr : PA X es (tAs X.K ca nm S fs xs)) :
    PA X (.Name y pv :: es) (tAs X.K ca nm S (true :: fs) (.cons (.var i) xs)) := by
  refine (pa_cons (pe_var hN hv hd hcd) hr rfl).imp fun σ H Q ⟨G, Fs, ρ, E, r, h, k⟩ => ?_
  unfold evA at h
  obtain ⟨o, ho, h⟩ := bind_some h
  obtain ⟨q, hq, h⟩ := bind_some h
  split at h
  · rename_i hc
    cases h
    obtain ⟨v, hs, r⟩ := E.sl i o ho
    have st : Step G H Fs G H (dropF Fs i) := ⟨Sub.refl G, fun a o h _ => h, Fix.refl H, fun _ h => h, fun a h => .inl (dropF_in h), fun a o h => .inl h⟩
    have A : Aft X.K ca nm σ true G H Fs o none (pt ρ i none) v G H (dropF Fs i) (Fs i) := ⟨st, E.drop i, r, ⟨E.nd i, fun a ha => ⟨dropF_out E ha, E.gf i a ha, .inl ⟨i, ha⟩⟩⟩, fun _ => Same.refl H⟩
    refine ⟨v, hs, G, dropF Fs i, _, E.drop i, q, hq, fun vs G2 H2 Fs2 F2 B => k _ G2 H2 Fs2 (Fs i ++ F2) ?_⟩
    have hn : gt q.2.2 i = none := by
      have := and_l hc
      cases e : gt q.2.2 i with
      | none => rfl
      | some z => rw [e] at this; cases this
    have hm : some i ∉ q.2.1 := fun z => by
      have := and_r hc
      rw [List.contains_iff_mem.mpr z] at this
      cases this
    exact AftA.cons (f := true) (fun z => nomatch z) (some i) (fun j z => by cases z; exact ⟨hs, hn, hm⟩) A B
  · cases h
end
end Ev

namespace Ev
open PySem L2

section
variable {K : PySem.W.Frag} {ca : Nat → Addr} {nm : Nat → Str} {S : Sg} {σ : L2.St} {G H G1 H1 G2 H2 : Hp} {Fs Fs1 Fs2 : Nat → List Addr} {ρ ρ1 ρ2 : Env} {v : V} {o : O} {F F1 F2 : List Addr} {pu : Bool}
theorem io_nil : ∀ {fs : List Bool} {os : List O} {vs : List V} {F : List Addr}, ioOk fs os = true → fs.any id = false → RepOs K ca nm G H vs os F → F = []
  | _, [], _, _, _, _, r => by cases r; rfl
  | [], o :: os, _, _, h, hf, r => by
    cases r with
    | cons r1 r2 =>
      obtain ⟨d, rfl⟩ := O.of_isSh (and_l h)
      rw [(sh_F r1).1, io_nil (fs := []) (and_r h) hf r2]
      rfl
  | false :: fs, o :: os, _, _, h, hf, r => by
    cases r with
    | cons r1 r2 =>
      obtain ⟨d, rfl⟩ := O.of_isSh (and_l h)
      rw [(sh_F r1).1, io_nil (fs := fs) (and_r h) hf r2]
      rfl
  | true :: fs, _ :: _, _, _, _, hf, _ => by cases hf
/-- what stands apart from a call's own places -/
theorem EnvR.across (E : EnvR K ca nm G1 H1 σ ρ Fs) (n : ∀ a ∈ F1, ¬ InF Fs a) (st : Step G1 H1 (one F1) G2 H2 (one F2)) (gh : Sub G2 H2) : EnvR K ca nm G2 H2 σ ρ Fs := by
  refine ⟨gh, E.ln, fun i o e => ?_, E.nl, E.nd, E.dj, fun i a ha => ?_⟩
  · obtain ⟨v, h, r⟩ := E.sl i o e
    exact ⟨v, h, r.mono st.g st.fx fun a ha u hu => st.fr a u hu fun z => n a (in_one.mp z) ⟨i, ha⟩⟩
  · cases e : G2 a with
    | none => rfl
    | some u =>
      rcases st.ng a u e with z | z | z
      · rw [E.gf i a ha] at z; cases z
      · exact absurd ⟨i, ha⟩ (n a (in_one.mp z))
      · exact absurd ⟨i, ha⟩ (E.new z)
theorem Step.withF (st : Step G1 H1 (one F1) G2 H2 (one F2)) : Step G1 H1 (addF F1 Fs) G2 H2 (addF F2 Fs) := by
  refine ⟨st.g, fun a o h n => st.fr a o h fun z => n (in_addF.mpr (.inl (in_one.mp z))), st.fx, st.al, fun a h => ?_, fun a o h => ?_⟩
  · rcases in_addF.mp h with h | h
    · rcases st.nf a (in_one.mpr h) with z | z
      · exact .inl (in_addF.mpr (.inl (in_one.mp z)))
      · exact .inr z
    · exact .inl (in_addF.mpr (.inr h))
  · rcases st.ng a o h with z | z | z
    · exact .inl z
    · exact .inr (.inl (in_addF.mpr (.inl (in_one.mp z))))
    · exact .inr (.inr z)
theorem Step.toF (st : Step G H Fs G1 H1 Fs1) (n : ∀ a ∈ F, InF Fs a ∨ H a = none) : Step G H Fs G1 H1 (addF F Fs1) :=
  ⟨st.g, st.fr, st.fx, st.al, fun a h => (in_addF.mp h).elim (n a) (st.nf a), st.ng⟩
theorem Step.weakF (st : Step G H Fs G1 H1 Fs1) (w : ∀ a, InF Fs2 a → InF Fs1 a) : Step G H Fs G1 H1 Fs2 := ⟨st.g, st.fr, st.fx, st.al, fun a h => st.nf a (w a h), st.ng⟩
theorem sp_of_aft {fs : List Bool} {pu' : Bool} {os : List O} {is : List (Option Nat)} {vs : List V} {n : Nat} {Φ : List O → Option (O × List O)} {res : O × List O} {Q : VK} {E : XK}
    (A : AftA K ca nm σ fs pu G H Fs os is ρ1 vs G1 H1 Fs1 F1) (hn : vs.length = n) (h : Φ os = some res) (hp : pu' = true → pu = true ∧ fs.any id = false)
    (k : ∀ v G' H' Fs' F, Aft K ca nm σ pu' G H Fs res.1 none (backA is res.2 ρ1) v G' H' Fs' F → Q v H') : spOf K ca nm Φ fs n vs H1 Q E := by
  refine ⟨hn, G1, os, F1, res, A.en.gh, h, A.rp, A.io, A.pv.1, fun a ha => (A.pv.2 a ha).2.1, fun v G2 H2 F2 st gh rp nd g => ?_⟩
  have apart : ∀ a ∈ F2, ¬ InF Fs1 a := fun a ha => by
    rcases st.nf a (in_one.mpr ha) with z | z
    · exact (A.pv.2 a (in_one.mp z)).1
    · exact A.en.new z
  have E1 := A.en.across (fun a ha => (A.pv.2 a ha).1) st gh
  cases rp with
  | @cons _ _ _ _ Fv Fi rv ri =>
    obtain ⟨nd1, nd2, nd3⟩ := List.nodup_append.mp nd
    obtain ⟨Fs3, E3, h3⟩ := back_ok E1 A.sl ri nd2 (fun a ha => apart a (List.mem_append_right _ ha)) fun a ha => g a (List.mem_append_right _ ha)
    have S1 : Step G H Fs G1 H1 (addF F1 Fs1) := A.st.toF fun a ha => (A.pv.2 a ha).2.2
    have S3 : Step G H Fs G2 H2 Fs3 := (S1.trans st.withF).weakF fun a ha => in_addF.mpr ((h3 a ha).elim .inr fun z => .inl (List.mem_append_right _ z))
    refine k v G2 H2 Fs3 Fv ⟨S3, E3, rv, ⟨nd1, fun a ha => ⟨fun z => ?_, g a (List.mem_append_left _ ha), ?_⟩⟩, fun q => ?_⟩
    · rcases h3 a z with z | z
      · exact apart a (List.mem_append_left _ ha) z
      · exact nd3 a ha a z rfl
    · rcases st.nf a (in_one.mpr (List.mem_append_left _ ha)) with z | z
      · exact (A.pv.2 a (in_one.mp z)).2.2
      · exact .inr (A.st.al a z)
    · obtain ⟨q1, q2⟩ := hp q
      have e := io_nil A.io q2 A.rp
      refine (A.pu q1).trans fun a u hu => st.fr a u hu fun z => ?_
      have := in_one.mp z
      rw [e] at this
      cases this
end

/-- a def of the text at its name, at level k, of n arguments -/
def FnAt (X : Cx) (ca : Nat → Addr) (nm : Nat → Str) (S : Sg) (k g n : Nat) (y : Str) : Prop :=
  ∃ f fd ps, X.mg y = some (.ref f) ∧ PySem.W.keepIn X.K (.ref f) = true ∧ Binds X.K fd ps [] ∧ FnOk X.prog X.w X.K X.mg X.base CX0 k f fd ps (spOf X.K ca nm (S.Φ g) (S.sig g) n)
/-- a class's method m is g, for each class that has it -/
def MtAt (X : Cx) (ca : Nat → Addr) (nm : Nat → Str) (S : Sg) (k m n : Nat) (y : Str) : Prop :=
  ∀ c g, S.mth c m = some g → ∃ f fd ps, Cls X.K (ca c) ∧ Meth X.K (ca c) y f ∧ Binds X.K fd ps [] ∧ S.sig g = S.msg m ∧ FnOk X.prog X.w X.K X.mg X.base CX0 k f fd ps (spOf X.K ca nm (S.Φ g) (S.sig g) n)
/-- a class c is made by g -/
def MkAt (X : Cx) (ca : Nat → Addr) (nm : Nat → Str) (S : Sg) (k c n : Nat) (y : Str) : Prop :=
  ∀ g, S.ini c = some g → ∃ f fd ps, X.mg y = some (.ref (ca c)) ∧ Mk X.K (ca c) f ∧ Binds X.K fd ps [] ∧ FnOk X.prog X.w X.K X.mg X.base CX0 k f fd ps (spOf X.K ca nm (S.Φm g) (true :: []) (n + 1))
section
variable {ca : Nat → Addr} {nm : Nat → Str} {S : Sg} {X : Cx} {e ea eb ec : Expr} {es : List Expr} {x a b c : Ex} {xs : Exs} {pos : Pos} {fs : List Bool} {k g m : Nat} {y : Str} {p2 apos : Pos}
theorem sp_len {K : PySem.W.Frag} {Φ : List O → Option (O × List O)} {n : Nat} {vs : List V} {H : Hp} {Q : VK} {E : XK} (h : spOf K ca nm Φ fs n vs H Q E) : vs.length = n := h.1
/-- how many arguments -/
theorem evA_len : ∀ (fs : List Bool) (xs : Exs) {ρ : Env} {r : List O × List (Option Nat) × Env}, evA S fs xs ρ = some r → r.1.length = xs.len
  | fs, .nil, ρ, r, h => by
    have e : r = ([], [], ρ) := by
      cases fs with
      | nil => exact (Option.some.inj h).symm
      | cons f fs => cases f <;> exact (Option.some.inj h).symm
    subst e
    rfl
  | [], .cons x xs, ρ, r, h => by
    obtain ⟨y, hy, h⟩ : ∃ y, ev S x ρ = some y ∧ (evA S [] xs (retE x y).2).map (fun r => (O.sh (retE x y).1.d :: r.1, r.2.1, r.2.2)) = some r := by
      unfold evA at h
      exact bind_some (by simpa using h)
    obtain ⟨q, hq, h⟩ := map_some h
    subst h
    simp [Exs.len, evA_len [] xs hq]
  | false :: fs, .cons x xs, ρ, r, h => by
    obtain ⟨y, hy, h⟩ : ∃ y, ev S x ρ = some y ∧ (evA S fs xs (retE x y).2).map (fun r => (O.sh (retE x y).1.d :: r.1, r.2.1, r.2.2)) = some r := by
      unfold evA at h
      exact bind_some (by simpa using h)
    obtain ⟨q, hq, h⟩ := map_some h
    subst h
    simp [Exs.len, evA_len fs xs hq]
  | true :: fs, .cons x xs, ρ, r, h => by
    by_cases hv : isVar x = true
    · cases x with
      | var i =>
        unfold evA at h
        obtain ⟨o, ho, h⟩ := bind_some h
        obtain ⟨q, hq, h⟩ := bind_some h
        split at h
        · cases h
          simp [Exs.len, evA_len fs xs hq]
        · cases h
      | _ => cases hv
    · have e : evA S (true :: fs) (.cons x xs) ρ = (ev S x ρ).bind fun y => (evA S fs xs (retE x y).2).map fun r => ((retE x y).1 :: r.1, none :: r.2.1, r.2.2) := by
        cases x <;> first | rfl | exact absurd rfl hv
      rw [e] at h
      obtain ⟨y, hy, h⟩ := bind_some h
      obtain ⟨q, hq, h⟩ := map_some h
      subst h
      simp [Exs.len, evA_len fs xs hq]
theorem s_call {n : Nat} (A : FnAt X ca nm S k g n y) (hr : Room k X.A) (hg : Gl X y) (hsig : S.sig g = fs) (hn : xs.len = n) (hd : (y == ("__debug__" : Str)) = false) (ha : PA X (e :: es) (tAs X.K ca nm S fs xs))
    (he : starEach (e :: es) X.env = (false, eval e X.env) :: starEach es X.env := by rfl) (hpl : (backTo pos (starEach es X.env)).any (·.1) = false := by rfl) :
    PE X (.Call (.Name y p2) (e :: es) [] pos) (tE X.K ca nm S (.call g xs)) := by
  obtain ⟨f, fd, ps, hm, hk, hb, F⟩ := A
  refine (pe_call F hr hg hm hk hb (dvs := []) .nil pass0 ha hd he hpl).imp fun σ H Q ⟨G, Fs, ρ, E, o, p, ρ', hv, k⟩ => ?_
  unfold ev at hv
  obtain ⟨r, hr, hv⟩ := bind_some hv
  obtain ⟨q, hq, hv⟩ := map_some hv
  cases hv
  rw [hsig] at hr
  refine ⟨G, Fs, ρ, E, r, hr, fun vs G1 H1 Fs1 F1 A => ?_⟩
  have hl : vs.length = n := by rw [A.rp.length, evA_len fs xs hr, hn]
  have key := sp_of_aft (Q := Q) (E := E0) (pu' := pureX S (.call g xs)) A hl hq (fun z => ⟨and_r z, by
    have := and_l z
    rw [hsig] at this
    simpa using this⟩) k
  show spOf X.K ca nm (S.Φ g) (S.sig g) n (vs ++ []) H1 Q E0
  rw [hsig, List.append_nil]
  exact key
theorem s_call0 (A : FnAt X ca nm S k g 0 y) (hr : Room k X.A) (hg : Gl X y) (hsig : S.sig g = []) (hd : (y == ("__debug__" : Str)) = false) : PE X (.Call (.Name y p2) [] [] pos) (tE X.K ca nm S (.call g .nil)) := by
  obtain ⟨f, fd, ps, hm, hk, hb, F⟩ := A
  refine (pe_call0 F hr hg hm hk hb (dvs := []) .nil pass0 hd).imp fun σ H Q ⟨G, Fs, ρ, E, o, p, ρ', hv, k⟩ => ?_
  unfold ev at hv
  obtain ⟨r, hr, hv⟩ := bind_some hv
  obtain ⟨q, hq, hv⟩ := map_some hv
  cases hv
  rw [hsig] at hr
  have e : r = ([], [], ρ) := (Option.some.inj hr).symm
  subst e
  have A : AftA X.K ca nm σ [] true G H Fs [] [] ρ [] G H Fs [] := ⟨Step.refl G H Fs, E, .nil, ⟨List.nodup_nil, fun a h => absurd h (by simp)⟩, fun _ => Same.refl H, rfl, True.intro⟩
  have key := sp_of_aft (Q := Q) (E := E0) (n := 0) (pu' := pureX S (.call g .nil)) A rfl hq (fun z => ⟨rfl, rfl⟩) k
  show spOf X.K ca nm (S.Φ g) (S.sig g) 0 ([] ++ []) H Q E0
  rw [hsig]
  exact key
/-! ### methods -/
theorem cls_at {K : PySem.W.Frag} {G H : Hp} {vs : List V} {os : List O} {F : List Addr} {c : Nat} (r : RepOs K ca nm G H vs os F) (gh : Sub G H) (h : clsO os = some c) : ∃ a dx fs vs', vs = .ref a :: vs' ∧ H a = some (.ins (ca c) dx fs) ∧ ∃ ks : List Nat, ∃ ws, fs = (ks.map nm).zip ws := by
  cases os with
  | nil => cases h
  | cons o os =>
    cases o with
    | sh d =>
      cases d with
      | ins c' ks ds =>
        cases h
        cases r with
        | cons r1 r2 =>
          obtain ⟨_, r1⟩ := sh_F r1
          cases r1 with
          | ins hg hr => exact ⟨_, _, _, _, rfl, gh _ _ hg, _, _, rfl⟩
      | _ => cases h
    | ins c' ks os' =>
      cases h
      cases r with
      | cons r1 r2 =>
        cases r1 with
        | ins hh hr => exact ⟨_, _, _, _, rfl, hh, _, _, rfl⟩
    | _ => cases h
theorem look_no {ks : List Nat} {ws : List V} {y : Str} (h : ∀ k, nm k ≠ y) : ((ks.map nm).zip ws).lookup y = none := by
  induction ks generalizing ws with
  | nil => rfl
  | cons k ks ih =>
    cases ws with
    | nil => rfl
    | cons w ws =>
      show (match y == nm k with | true => some w | false => ((ks.map nm).zip ws).lookup y) = none
      have : (y == nm k) = false := by
        cases e : y == nm k with
        | false => rfl
        | true => exact absurd (eq_of_beq e).symm (h k)
      rw [this]
      exact ih
theorem ins_cls {K : PySem.W.Frag} {G H : Hp} {v : V} {o : O} {F : List Addr} {c : Nat} {os : List O} (r : RepO K ca nm G H v o F) (gh : Sub G H) (h : clsO (o :: os) = some c) : ∃ a dx fs, v = .ref a ∧ H a = some (.ins (ca c) dx fs) ∧ ∃ ks : List Nat, ∃ ws, fs = (ks.map nm).zip ws := by
  cases o with
  | sh d =>
    cases d with
    | ins c' ks ds =>
      cases h
      obtain ⟨_, r⟩ := sh_F r
      cases r with
      | ins hg hr => exact ⟨_, _, _, rfl, gh _ _ hg, _, _, rfl⟩
    | _ => cases h
  | ins c' ks os' =>
    cases h
    cases r with
    | ins hh hr => exact ⟨_, _, _, rfl, hh, _, _, rfl⟩
  | _ => cases h
section
variable {n : Nat} {eo : Expr} {pl : Sem Bool}
/-- o.m(e, ..), o only read -/
theorem s_meth (A : MtAt X ca nm S k m n y) (hr : Room k X.A) (hny : ∀ k, nm k ≠ y) (hsig : S.msg m = false :: fs) (hn : xs.len + 1 = n) (ho : PE X eo (tE X.K ca nm S x)) (ha : PA X (e :: es) (tAs X.K ca nm S fs xs))
    (hst : starEach (e :: es) X.env = (false, eval e X.env) :: starEach es X.env := by rfl) (hpl : (backTo pos (starEach es X.env)).any (·.1) = false := by rfl)
    (ht : eval (.Call (.Attribute eo y apos) (e :: es) [] pos) X.env = (do
      let ov ← eval eo X.env
      standAt apos.atName
      let (f, first) ← holding [ov] (getMethod ov y pl)
      callWith pos f first (backTo pos (starEach (e :: es) X.env)) (backToKw pos (keywordEach [] X.env))) := by rfl) :
    PE X (.Call (.Attribute eo y apos) (e :: es) [] pos) (tE X.K ca nm S (.meth m (.cons x xs))) := by
  refine ⟨fun pins s σ H Q I hq => ?_⟩
  obtain ⟨G, Fs, ρ, E, o, p, ρ', hv, k⟩ := hq
  unfold ev at hv
  rw [hsig] at hv
  obtain ⟨r, hv1, hv⟩ := bind_some hv
  obtain ⟨c, hc, hv⟩ := bind_some hv
  obtain ⟨g, hg, hv⟩ := bind_some hv
  obtain ⟨q, hq, hv⟩ := map_some hv
  cases hv
  obtain ⟨z, hz, h⟩ : ∃ z, ev S x ρ = some z ∧ (evA S fs xs (retE x z).2).map (fun r => (O.sh (retE x z).1.d :: r.1, r.2.1, r.2.2)) = some r := by
    unfold evA at hv1
    exact bind_some (by simpa using hv1)
  obtain ⟨t, ht1, h⟩ := map_some h
  subst h
  obtain ⟨f, fd, ps, hcl, hm, hb, hs, F⟩ := A c g hg
  refine (pe_meth (apos := apos) ho.ret hcl hm F hr hb (dvs := []) .nil pass0 ha hst hpl ht).run pins s σ H Q I ?_
  refine ⟨G, Fs, ρ, E, z, hz, fun v G1 H1 Fs1 F1 A => ?_⟩
  obtain ⟨G1', A'⟩ := A.share
  obtain ⟨a, dx, fl, rfl, hH, ks, ws, efl⟩ := ins_cls A'.rp A'.en.gh hc
  refine ⟨a, dx, fl, rfl, hH, by rw [efl]; exact look_no hny, ?_⟩
  refine ⟨G1', Fs1, _, A'.en, t, ht1, fun vs G2 H2 Fs2 F2 B => ?_⟩
  have C := AftA.cons (f := false) (fun _ => rfl) none (fun i z => nomatch z) A' B
  have hl : (V.ref a :: vs).length = n := by rw [List.length_cons, B.rp.length, evA_len fs xs ht1, hn]
  have key := sp_of_aft (Q := Q) (E := E0) (pu' := pureX S (.meth m (.cons x xs))) C hl hq (fun z => ⟨and_r z, by
    have := and_l z
    rw [hsig] at this
    simpa using this⟩) k
  show spOf X.K ca nm (S.Φ g) (S.sig g) n (.ref a :: (vs ++ [])) H2 Q E0
  rw [hs, hsig, List.append_nil]
  exact key
theorem s_meth0 (A : MtAt X ca nm S k m 1 y) (hr : Room k X.A) (hny : ∀ k, nm k ≠ y) (hsig : S.msg m = [false]) (ho : PE X eo (tE X.K ca nm S x))
    (ht : eval (.Call (.Attribute eo y apos) [] [] pos) X.env = (do
      let ov ← eval eo X.env
      standAt apos.atName
      let (f, first) ← holding [ov] (getMethod ov y pl)
      callWith pos f first (backTo pos (starEach [] X.env)) (backToKw pos (keywordEach [] X.env))) := by rfl) :
    PE X (.Call (.Attribute eo y apos) [] [] pos) (tE X.K ca nm S (.meth m (.cons x .nil))) := by
  refine ⟨fun pins s σ H Q I hq => ?_⟩
  obtain ⟨G, Fs, ρ, E, o, p, ρ', hv, k⟩ := hq
  unfold ev at hv
  rw [hsig] at hv
  obtain ⟨r, hv1, hv⟩ := bind_some hv
  obtain ⟨c, hc, hv⟩ := bind_some hv
  obtain ⟨g, hg, hv⟩ := bind_some hv
  obtain ⟨q, hq, hv⟩ := map_some hv
  cases hv
  obtain ⟨z, hz, h⟩ : ∃ z, ev S x ρ = some z ∧ (evA S [] .nil (retE x z).2).map (fun r => (O.sh (retE x z).1.d :: r.1, r.2.1, r.2.2)) = some r := by
    unfold evA at hv1
    exact bind_some (by simpa using hv1)
  obtain ⟨t, ht1, h⟩ := map_some h
  subst h
  have et : t = ([], [], (retE x z).2) := (Option.some.inj ht1).symm
  subst et
  obtain ⟨f, fd, ps, hcl, hm, hb, hs, F⟩ := A c g hg
  refine (pe_meth0 (apos := apos) ho.ret hcl hm F hr hb (dvs := []) .nil pass0 ht).run pins s σ H Q I ?_
  refine ⟨G, Fs, ρ, E, z, hz, fun v G1 H1 Fs1 F1 A => ?_⟩
  obtain ⟨G1', A'⟩ := A.share
  obtain ⟨a, dx, fl, rfl, hH, ks, ws, efl⟩ := ins_cls A'.rp A'.en.gh hc
  refine ⟨a, dx, fl, rfl, hH, by rw [efl]; exact look_no hny, ?_⟩
  have B : AftA X.K ca nm σ [] true G1' H1 Fs1 [] [] (retE x z).2 [] G1' H1 Fs1 [] := ⟨Step.refl G1' H1 Fs1, A'.en, .nil, ⟨List.nodup_nil, fun a h => absurd h (by simp)⟩, fun _ => Same.refl H1, rfl, True.intro⟩
  have C := AftA.cons (f := false) (fun _ => rfl) none (fun i z => nomatch z) A' B
  have key := sp_of_aft (Q := Q) (E := E0) (n := 1) (pu' := pureX S (.meth m (.cons x .nil))) C rfl hq (fun z => ⟨and_r z, rfl⟩) k
  show spOf X.K ca nm (S.Φ g) (S.sig g) 1 (.ref a :: ([] ++ [])) H1 Q E0
  rw [hs, hsig]
  exact key
end
/-! ### fields -/
theorem fld_look (hi : ∀ i j, nm i = nm j → i = j) : ∀ {K : PySem.W.Frag} {G H : Hp} {ks : List Nat} {vs : List V} {ds : List D} {f : Nat} {d : D}, RepDs K ca nm G H vs ds → fldD ks ds f = some d → ∃ v, ((ks.map nm).zip vs).lookup (nm f) = some v ∧ RepD K ca nm G H v d
  | _, _, _, [], _, ds, _, _, _, h => by cases ds <;> cases h
  | _, _, _, k :: ks, _, _, f, d, .nil, h => by cases h
  | K, G, H, k :: ks, _, _, f, d, .cons (v := v) r rr, h => by
    unfold fldD at h
    show ∃ w, (match nm f == nm k with | true => some v | false => ((ks.map nm).zip _).lookup (nm f)) = some w ∧ _
    split at h
    · rename_i e
      cases h
      subst e
      rw [beq_self_eq_true]
      exact ⟨v, rfl, r⟩
    · rename_i e
      have : (nm f == nm k) = false := by
        cases q : nm f == nm k with
        | false => rfl
        | true => exact absurd (hi _ _ (eq_of_beq q)).symm e
      rw [this]
      exact fld_look hi rr h
theorem fld_lookO (hi : ∀ i j, nm i = nm j → i = j) : ∀ {K : PySem.W.Frag} {G H : Hp} {ks : List Nat} {vs : List V} {os : List O} {f : Nat} {o : O} {F : List Addr}, RepOs K ca nm G H vs os F → fldO ks os f = some o → ∃ v F1, ((ks.map nm).zip vs).lookup (nm f) = some v ∧ RepO K ca nm G H v o F1 ∧ List.Sublist F1 F
  | _, _, _, [], _, os, _, _, _, _, h => by cases os <;> cases h
  | _, _, _, k :: ks, _, _, f, o, _, .nil, h => by cases h
  | K, G, H, k :: ks, _, _, f, o, _, .cons (v := v) (F := F) (F' := F') r rr, h => by
    unfold fldO at h
    show ∃ w F1, (match nm f == nm k with | true => some v | false => ((ks.map nm).zip _).lookup (nm f)) = some w ∧ _
    split at h
    · rename_i e
      cases h
      subst e
      rw [beq_self_eq_true]
      exact ⟨v, F, rfl, r, List.sublist_append_left _ _⟩
    · rename_i e
      have : (nm f == nm k) = false := by
        cases q : nm f == nm k with
        | false => rfl
        | true => exact absurd (hi _ _ (eq_of_beq q)).symm e
      rw [this]
      obtain ⟨w, F1, h1, h2, h3⟩ := fld_lookO hi rr h
      exact ⟨w, F1, h1, h2, h3.trans (List.sublist_append_right _ _)⟩
/-- what the fields of the classes ask -/
def AtOk (X : Cx) (ca : Nat → Addr) (nm : Nat → Str) (S : Sg) : Prop := ∀ c f, S.atr c f = true → Cls X.K (ca c) ∧ NoAttr X.K (ca c) (nm f)
theorem s_attr {f : Nat} (hi : ∀ i j, nm i = nm j → i = j) (hA : AtOk X ca nm S) (hf : nm f = y) (ha : PE X ea (tE X.K ca nm S a)) (hb : attributeBase ea y X.env (eval ea X.env) = eval ea X.env := by rfl) : PE X (.Attribute ea y pos) (tE X.K ca nm S (.attr a f)) := by
  subst hf
  refine (pe_fld ha hb).imp fun σ H Q ⟨G, Fs, ρ, E, o, p, ρ', hv, k⟩ => ?_
  unfold ev at hv
  obtain ⟨x, hx, hv⟩ := bind_some hv
  refine ⟨G, Fs, ρ, E, _, _, _, hx, fun v1 G1 H1 Fs1 F1 A => ?_⟩
  have rp := A.rp
  have pv := A.pv
  split at hv
  · rename_i c ks ds ex
    split at hv
    · rename_i hat
      obtain ⟨d, hd, hv⟩ := map_some hv
      cases hv
      rw [ex] at rp
      obtain ⟨_, rp⟩ := sh_F rp
      cases rp with
      | ins hg hr =>
        obtain ⟨v, h1, h2⟩ := fld_look hi hr hd
        exact ⟨_, _, _, _, v, rfl, A.en.gh _ _ hg, (hA c f hat).1, (hA c f hat).2, h1, k v G1 H1 Fs1 [] (aft_sh A.st A.en A.pu none h2)⟩
    · cases hv
  · rename_i c ks os ex
    split at hv
    · rename_i hat
      obtain ⟨o', ho, hv⟩ := map_some hv
      cases hv
      rw [ex] at rp
      cases rp with
      | ins hh hr =>
        obtain ⟨v, F2, h1, h2, h3⟩ := fld_lookO hi hr ho
        refine ⟨_, _, _, _, v, rfl, hh, (hA c f hat).1, (hA c f hat).2, h1, k v G1 H1 Fs1 F2 ⟨A.st, A.en, h2, ?_, A.pu⟩⟩
        cases e : x.2.1 with
        | some i =>
          rw [e] at pv
          exact (h3.trans (List.sublist_cons_self _ _)).trans pv
        | none =>
          rw [e] at pv
          exact ⟨List.Nodup.sublist (h3.trans (List.sublist_cons_self _ _)) pv.1, fun a ha => pv.2 a ((h3.trans (List.sublist_cons_self _ _)).subset ha)⟩
    · cases hv
  · cases hv
/-! ### instances made -/
theorem mk_ok {σ : L2.St} {G H G1 H1 : Hp} {Fs Fs1 : Nat → List Addr} {ρ1 : Env} {F1 : List Addr} {pu : Bool} {c n : Nat} {is : List (Option Nat)} {vs : List V} {os : List O} {s : O} {Φ : List O → Option (O × List O)} {Q : VK} {K : PySem.W.Frag}
    (A : AftA K ca nm σ [] pu G H Fs os is ρ1 vs G1 H1 Fs1 F1) (hl : vs.length = n) (hq : Φ (.ins c [] [] :: os) = some (.sh .non, [s]))
    (k : ∀ v G' H' Fs' F, Aft K ca nm σ pu G H Fs s none ρ1 v G' H' Fs' F → Q v H') (x dx : Addr) (nx : H1 x = none) (ndx : H1 dx = none) (hne : dx ≠ x) :
    spOf K ca nm Φ [true] (n + 1) (.ref x :: (vs ++ [])) (upd (upd H1 dx (.own x)) x (.ins (ca c) dx [])) (fun v H2 => v = .non ∧ Q (.ref x) H2) E0 := by
  have e1 : F1 = [] := io_nil A.io rfl A.rp
  subst e1
  have nx2 : (upd H1 dx (.own x)) x = none := by rw [upd_ne (Ne.symm hne)]; exact nx
  have s1 : Same H1 (upd (upd H1 dx (.own x)) x (.ins (ca c) dx [])) := (same_new ndx).trans (same_new nx2)
  have E1 := A.en.ext s1
  rw [List.append_nil]
  refine ⟨by rw [List.length_cons, hl], G1, .ins c [] [] :: os, [x], _, E1.gh, hq, ?_, A.io, by simp, fun a ha => ?_, fun v G2 H2 F2 st gh rp nd g => ?_⟩
  · have r1 : RepO K ca nm G1 (upd (upd H1 dx (.own x)) x (.ins (ca c) dx [])) (.ref x) (.ins c [] []) [x] := .ins (vs := []) (F := []) upd_same .nil
    exact .cons (F := [x]) (F' := []) r1 (A.rp.mono (Sub.refl G1) (Fix.of_same s1) fun a ha => absurd ha (by simp))
  · have e : a = x := by simpa using ha
    rw [e]
    exact A.en.gnew nx
  · cases rp with
    | @cons _ _ _ _ Fv Fi rv ri =>
      obtain ⟨eF, rv2⟩ := sh_F rv
      subst eF
      have ev : v = .non := by cases rv2; rfl
      cases ri with
      | @cons _ _ _ _ Fa Fb ra rb =>
        cases rb
        rw [List.nil_append, List.append_nil] at nd g st
        have nF : ∀ a, a ∈ [x] → ¬ InF Fs1 a := fun a ha => by
          have e : a = x := by simpa using ha
          rw [e]
          exact A.en.new nx
        have apart : ∀ a ∈ Fa, ¬ InF Fs1 a := fun a ha => by
          rcases st.nf a (in_one.mpr ha) with z | z
          · exact nF a (in_one.mp z)
          · exact E1.new z
        have E2 := E1.across nF st gh
        have S1 : Step G H Fs G1 (upd (upd H1 dx (.own x)) x (.ins (ca c) dx [])) (addF [x] Fs1) := (A.st.trans (Step.of_same s1)).toF fun a ha => by
          have e : a = x := by simpa using ha
          rw [e]
          exact .inr (A.st.al x nx)
        have back : ∀ a ∈ Fa, InF Fs a ∨ H a = none := fun a ha => by
          rcases st.nf a (in_one.mpr ha) with z | z
          · have e : a = x := by simpa using in_one.mp z
            rw [e]
            exact .inr (A.st.al x nx)
          · exact .inr (A.st.al a (s1.free z))
        refine ⟨ev, k _ G2 H2 Fs1 Fa ⟨(S1.trans st.withF).weakF fun a ha => in_addF.mpr (.inr ha), E2, ra, ⟨nd, fun a ha => ⟨apart a ha, g a ha, back a ha⟩⟩, fun q => ?_⟩⟩
        intro a u hu
        have h1 := A.pu q a u hu
        exact st.fr a u (s1 a u h1) fun z => ne_of_none h1 nx (by simpa using in_one.mp z)
theorem s_mk {n c : Nat} (A : MkAt X ca nm S k c n y) (hr : Room (k + 1) X.A) (hg : Gl X y) (hn : xs.len = n) (hd : (y == ("__debug__" : Str)) = false) (ha : PA X (e :: es) (tAs X.K ca nm S [] xs))
    (he : starEach (e :: es) X.env = (false, eval e X.env) :: starEach es X.env := by rfl) (hpl : (backTo pos (starEach es X.env)).any (·.1) = false := by rfl) :
    PE X (.Call (.Name y p2) (e :: es) [] pos) (tE X.K ca nm S (.mk c xs)) := by
  refine ⟨fun pins s σ H Q I hq => ?_⟩
  obtain ⟨G, Fs, ρ, E, o, p, ρ', hv, k⟩ := hq
  unfold ev at hv
  obtain ⟨r, hv1, hv⟩ := bind_some hv
  obtain ⟨g, hg1, hv⟩ := bind_some hv
  obtain ⟨q, hq, hv⟩ := bind_some hv
  split at hv
  · rename_i s1 e1 e2
    cases hv
    obtain ⟨f, fd, ps, hm, M, hb, F⟩ := A g hg1
    refine (pe_make M F hr hg hm hb (dvs := []) .nil pass0 ha hd he hpl).run pins s σ H Q I ?_
    refine ⟨G, Fs, ρ, E, r, hv1, fun vs G1 H1 Fs1 F1 A x dx nx ndx hne => ?_⟩
    have hl : vs.length = n := by rw [A.rp.length, evA_len [] xs hv1, hn]
    have eq : q = (.sh .non, [o]) := by
      obtain ⟨q1, q2⟩ := q
      cases e1
      cases e2
      rfl
    rw [eq] at hq
    exact mk_ok A hl hq (fun v G' H' Fs' F A' => k v G' H' Fs' F ⟨A'.st, A'.en, A'.rp, A'.pv, A'.pu⟩) x dx nx ndx hne
  · cases hv
theorem s_mk0 {c : Nat} (A : MkAt X ca nm S k c 0 y) (hr : Room (k + 1) X.A) (hg : Gl X y) (hd : (y == ("__debug__" : Str)) = false) : PE X (.Call (.Name y p2) [] [] pos) (tE X.K ca nm S (.mk c .nil)) := by
  refine ⟨fun pins s σ H Q I hq => ?_⟩
  obtain ⟨G, Fs, ρ, E, o, p, ρ', hv, k⟩ := hq
  unfold ev at hv
  obtain ⟨r, hv1, hv⟩ := bind_some hv
  obtain ⟨g, hg1, hv⟩ := bind_some hv
  obtain ⟨q, hq, hv⟩ := bind_some hv
  split at hv
  · rename_i s1 e1 e2
    cases hv
    have e : r = ([], [], ρ) := (Option.some.inj hv1).symm
    subst e
    obtain ⟨f, fd, ps, hm, M, hb, F⟩ := A g hg1
    refine (pe_make0 M F hr hg hm hb (dvs := []) .nil pass0 hd).run pins s σ H Q I ?_
    intro x dx nx ndx hne
    have A : AftA X.K ca nm σ [] true G H Fs [] [] ρ [] G H Fs [] := ⟨Step.refl G H Fs, E, .nil, ⟨List.nodup_nil, fun a h => absurd h (by simp)⟩, fun _ => Same.refl H, rfl, True.intro⟩
    have eq : q = (.sh .non, [o]) := by
      obtain ⟨q1, q2⟩ := q
      cases e1
      cases e2
      rfl
    rw [eq] at hq
    exact mk_ok (n := 0) A rfl hq (fun v G' H' Fs' F A' => k v G' H' Fs' F ⟨A'.st, A'.en, A'.rp, A'.pv, A'.pu⟩) x dx nx ndx hne
  · cases hv
end
end Ev

namespace Ev
open PySem L2

section
variable {K : PySem.W.Frag} {ca : Nat → Addr} {nm : Nat → Str} {S : Sg} {σ σ' : L2.St} {G H G1 H1 G2 H2 : Hp} {Fs Fs1 Fs2 : Nat → List Addr} {ρ ρ1 ρ2 : Env} {v : V} {o : O} {F F1 F2 : List Addr} {pu : Bool}
/-- things that stand apart from all names -/
structure Apart (K : PySem.W.Frag) (ca : Nat → Addr) (nm : Nat → Str) (G H : Hp) (Fs : Nat → List Addr) (vs : List V) (os : List O) (F : List Addr) : Prop where
  rp : RepOs K ca nm G H vs os F
  nd : F.Nodup
  no : ∀ a ∈ F, ¬ InF Fs a
  ng : ∀ a ∈ F, G a = none
theorem Apart.step {vs : List V} {os : List O} (A : Apart K ca nm G H Fs vs os F) (st : Step G H Fs G1 H1 Fs1) : Apart K ca nm G1 H1 Fs1 vs os F := by
  have th : ∀ a ∈ F, H a ≠ none := fun a ha z => by
    obtain ⟨u, e, _⟩ := A.rp.there a ha
    rw [z] at e; cases e
  refine ⟨A.rp.mono st.g st.fx fun a ha u e => st.fr a u e (A.no a ha), A.nd, fun a ha z => ?_, fun a ha => ?_⟩
  · rcases st.nf a z with z | z
    · exact A.no a ha z
    · exact th a ha z
  · cases e : G1 a with
    | none => rfl
    | some u =>
      rcases st.ng a u e with z | z | z
      · rw [A.ng a ha] at z; cases z
      · exact absurd z (A.no a ha)
      · exact absurd z (th a ha)
/-- the names by the values of a later frame -/
theorem EnvR.sig (E : EnvR K ca nm G H σ ρ Fs) (hl : σ'.length = σ.length) (h : ∀ i, gt ρ i ≠ none → σ'[i]? = σ[i]?) : EnvR K ca nm G H σ' ρ Fs :=
  ⟨E.gh, by rw [hl]; exact E.ln, fun i o e => let ⟨v, h1, r⟩ := E.sl i o e; ⟨v, by rw [h i (by rw [e]; exact fun z => nomatch z)]; exact h1, r⟩, E.nl, E.nd, E.dj, E.gf⟩
theorem pt_pt {i : Nat} {a b : Option O} : pt (pt ρ i a) i b = pt ρ i b := by unfold pt; exact List.set_set _
theorem pt_same {i : Nat} {o : Option O} (h : gt ρ i = o) : pt ρ i o = ρ := by
  unfold pt
  unfold gt at h
  refine List.ext_getElem? fun j => ?_
  by_cases hj : j = i
  · subst hj
    rcases Nat.lt_or_ge j ρ.length with q | q
    · rw [List.getElem?_set_self q, ← h, List.getElem?_eq_getElem q]
      rfl
    · rw [List.getElem?_eq_none (by simpa using q), List.getElem?_eq_none q]
  · rw [List.getElem?_set_ne (Ne.symm hj)]
/-- a name is stored -/
theorem EnvR.assign {i : Nat} (E : EnvR K ca nm G H σ ρ Fs) (hi : i < σ.length) (A : Apart K ca nm G H Fs [v] [o] F) : ∃ Fs', EnvR K ca nm G H (σ.set i (some v)) (pt ρ i (some o)) Fs' ∧ ∀ a, InF Fs' a → InF Fs a ∨ a ∈ F := by
  have E1 := E.drop i
  have E2 : EnvR K ca nm G H (σ.set i (some v)) (pt ρ i none) (dropF Fs i) := E1.sig (by simp) fun j hj => by
    have : j ≠ i := fun z => hj (by
      subst z
      exact gt_pt_same (by rw [E.ln]; exact hi))
    rw [List.getElem?_set_ne (Ne.symm this)]
  cases A.rp with
  | @cons _ _ _ _ Fa Fb r rr =>
    cases rr
    have nd := A.nd
    have no := A.no
    have ng := A.ng
    rw [List.append_nil] at nd no ng
    have E3 := E2.put (i := i) (v := v) (o := o) (F := Fa) (gt_pt_same (by rw [E.ln]; exact hi)) (List.getElem?_set_self hi) r nd (fun a ha z => no a ha (dropF_in z)) ng
    rw [pt_pt] at E3
    refine ⟨_, E3, fun a ha => ?_⟩
    rcases in_setF ha with z | z
    · exact .inl (dropF_in z)
    · exact .inr (by rw [List.append_nil]; exact z)
end

/-! ### targets -/
section
variable (K : PySem.W.Frag) (ca : Nat → Addr) (nm : Nat → Str)
/-- behind a store -/
structure AftS (P : Nat → Bool) (G H : Hp) (Fs : Nat → List Addr) (F : List Addr) (σ : L2.St) (ρ' : Env) (σ' : L2.St) (Fs' : Nat → List Addr) : Prop where
  en : EnvR K ca nm G H σ' ρ' Fs'
  fs : ∀ a, InF Fs' a → InF Fs a ∨ a ∈ F
  ln : σ'.length = σ.length
  sg : ∀ j, P j = false → σ'[j]? = σ[j]?
def tG (tg : Tg) : TG := fun v σ H Q => ∃ G Fs ρ o F, EnvR K ca nm G H σ ρ Fs ∧ Apart K ca nm G H Fs [v] [o] F ∧ ∃ ρ', setTg tg o ρ = some ρ' ∧
  ∀ σ' Fs', AftS K ca nm (tgSets tg) G H Fs F σ ρ' σ' Fs' → Q σ' H
def tGs (is : List Nat) : TGs := fun vs σ H Q => ∃ G Fs ρ os F, EnvR K ca nm G H σ ρ Fs ∧ Apart K ca nm G H Fs vs os F ∧ os.length = is.length ∧
  ∀ σ' Fs', AftS K ca nm (fun j => is.contains j) G H Fs F σ ((is.zip os).foldl (fun ρ p => pt ρ p.1 (some p.2)) ρ) σ' Fs' → Q σ' H
end
theorem _root_.L2.PG.imp {X : Cx} {e : Expr} {t t' : TG} (h : PG X e t) (w : ∀ v σ H Q, t' v σ H Q → t v σ H Q) : PG X e t' := ⟨fun pins s σ H v u Q I r q => h.run pins s σ H v u Q I r (w v σ H Q q)⟩
theorem _root_.L2.PGs.imp {X : Cx} {e : List Expr} {t t' : TGs} (h : PGs X e t) (w : ∀ v σ H Q, t' v σ H Q → t v σ H Q) : PGs X e t' := ⟨fun pins s σ H v u Q I r q => h.run pins s σ H v u Q I r (w v σ H Q q)⟩
theorem _root_.L2.PG.or {X : Cx} {e : Expr} {t t' : TG} (h : PG X e t) (h' : PG X e t') : PG X e (fun v σ H Q => t v σ H Q ∨ t' v σ H Q) := ⟨fun pins s σ H v u Q I r q => q.elim (h.run pins s σ H v u Q I r) (h'.run pins s σ H v u Q I r)⟩
section
variable {ca : Nat → Addr} {nm : Nat → Str} {S : Sg} {X : Cx} {pos : Pos} {is : List Nat} {es : List Expr}
theorem Apart.nilF {K : PySem.W.Frag} {G H : Hp} {Fs : Nat → List Addr} {v : V} {d : D} (h : RepD K ca nm G H v d) : Apart K ca nm G H Fs [v] [.sh d] [] :=
  ⟨.cons (F := []) (F' := []) (.sh h) .nil, List.nodup_nil, fun a h => absurd h (by simp), fun a h => absurd h (by simp)⟩
theorem Apart.split {K : PySem.W.Frag} {G H : Hp} {Fs : Nat → List Addr} {v : V} {vs : List V} {o : O} {os : List O} {F : List Addr} (A : Apart K ca nm G H Fs (v :: vs) (o :: os) F) :
    ∃ F1 F2, F = F1 ++ F2 ∧ Apart K ca nm G H Fs [v] [o] F1 ∧ Apart K ca nm G H Fs vs os F2 ∧ ∀ a ∈ F1, a ∉ F2 := by
  have nd := A.nd
  have no := A.no
  have ng := A.ng
  cases A.rp with
  | @cons _ _ _ _ F1 F2 r rr =>
    obtain ⟨n1, n2, n3⟩ := List.nodup_append.mp nd
    refine ⟨F1, F2, rfl, ⟨?_, n1, fun a ha => no a (List.mem_append_left _ ha), fun a ha => ng a (List.mem_append_left _ ha)⟩, ⟨rr, n2, fun a ha => no a (List.mem_append_right _ ha), fun a ha => ng a (List.mem_append_right _ ha)⟩, fun a h1 h2 => n3 a h1 a h2 rfl⟩
    have := RepOs.cons r (RepOs.nil (K := K) (ca := ca) (nm := nm) (G := G) (H := H))
    rw [List.append_nil] at this
    exact this
theorem g_nm (i : Nat) {y : Str} (hN : X.N.Nodup) (hi : X.N[i]? = some y) (hx : Loc X.env.scope y) (hf : X.fn y = true ∨ X.env.scope.names.lookup y = some .local) (hl : i < X.N.length) : PG X (.Name y pos) (tG X.K ca nm (.nm i)) := by
  have h0 := pg_name (pos := pos) hN hi hx hf
  refine ⟨fun pins s σ H v u Q I r q => ?_⟩
  obtain ⟨G, Fs, ρ, o, F, E, A, ρ', h, k⟩ := q
  cases h
  have hl2 : i < σ.length := by rw [I.len]; exact hl
  obtain ⟨Fs', E', hF⟩ := E.assign hl2 A
  refine h0.run pins s σ H v u Q I r (k _ Fs' ⟨E', hF, by simp, fun j hj => ?_⟩)
  have : j ≠ i := fun z => by
    subst z
    have : (j == j) = false := hj
    simp at this
  exact List.getElem?_set_ne (Ne.symm this)
theorem gs_nil : PGs X [] (tGs X.K ca nm []) := pgs_nil.imp fun vs σ H Q ⟨G, Fs, ρ, os, F, E, A, hl, k⟩ => by
  cases os with
  | nil =>
    cases A.rp
    exact ⟨rfl, k σ Fs ⟨E, fun a h => .inl h, rfl, fun _ _ => rfl⟩⟩
  | cons o os => cases hl
theorem gs_cons {e : Expr} {i : Nat} (h1 : PG X e (tG X.K ca nm (.nm i))) (h2 : PGs X es (tGs X.K ca nm is)) (hs : (assignEach (e :: es) X.env).map (·.2) = assign e X.env :: (assignEach es X.env).map (·.2) := by rfl) : PGs X (e :: es) (tGs X.K ca nm (i :: is)) := by
  refine (pgs_cons h1 h2 hs).imp fun vs σ H Q ⟨G, Fs, ρ, os, F, E, A, hl, k⟩ => ?_
  cases os with
  | nil => cases hl
  | cons o os =>
    cases vs with
    | nil => cases A.rp
    | cons v vs =>
      obtain ⟨F1, F2, e, A1, A2, dj⟩ := A.split
      refine ⟨v, vs, rfl, G, Fs, ρ, o, F1, E, A1, _, rfl, fun σ1 Fs1 B => ?_⟩
      have A2' : Apart X.K ca nm G H Fs1 vs os F2 := ⟨A2.rp, A2.nd, fun a ha z => (B.fs a z).elim (A2.no a ha) fun z => dj a z ha, A2.ng⟩
      refine ⟨G, Fs1, _, os, F2, B.en, A2', by simpa using hl, fun σ2 Fs2 C => k σ2 Fs2 ⟨C.en, fun a ha => ?_, C.ln.trans B.ln, fun j hj => ?_⟩⟩
      · rcases C.fs a ha with z | z
        · rcases B.fs a z with z | z
          · exact .inl z
          · exact .inr (by rw [e]; exact List.mem_append_left _ z)
        · exact .inr (by rw [e]; exact List.mem_append_right _ z)
      · have hj' : ((i :: is).contains j) = false := hj
        rw [List.contains_cons, Bool.or_eq_false_iff] at hj'
        have e1 : tgSets (.nm i) j = false := by
          show (i == j) = false
          have := hj'.1
          cases q : i == j with
          | false => rfl
          | true => rw [beq_iff_eq.mp q, beq_self_eq_true] at this; cases this
        exact (C.sg j hj'.2).trans (B.sg j e1)
theorem g_tp {k : Nat} {n : Nat} (hc : X.calm = true) (hl : n = is.length) (h : PGs X es (tGs X.K ca nm is)) (hn : (assignEach es X.env).length = n := by rfl) (hst : (assignEach es X.env).findIdx? (·.1) = none := by rfl) : PG X (.Tuple es k pos) (tG X.K ca nm (.tp is)) := by
  subst hl
  refine ((pg_tup (pos := pos) (k := k) hc h hn hst).or (pg_unl (pos := pos) (k := k) hc h hn hst)).imp fun v σ H Q ⟨G, Fs, ρ, o, F, E, A, ρ', hv, k⟩ => ?_
  unfold setTg at hv
  have fin : ∀ os, (if os.length = is.length then some ((is.zip os).foldl (fun ρ p => pt ρ p.1 (some p.2)) ρ) else none) = some ρ' → ∀ vs F', Apart X.K ca nm G H Fs vs os F' → (∀ a ∈ F', a ∈ F) → os.length = is.length ∧ tGs X.K ca nm is vs σ H Q := fun os e vs F' A' hF => by
    split at e
    · rename_i hl
      cases e
      exact ⟨hl, G, Fs, ρ, os, F', E, A', hl, fun σ' Fs' B => k σ' Fs' ⟨B.en, fun a ha => (B.fs a ha).imp id (hF a), B.ln, B.sg⟩⟩
    · cases e
  have nd := A.nd
  have no := A.no
  have ng := A.ng
  cases A.rp with
  | @cons _ _ _ _ Fa Fb r rr =>
    cases rr
    rw [List.append_nil] at nd no ng fin
    cases o with
    | sh d =>
      obtain ⟨_, r⟩ := sh_F r
      cases d with
      | tup ds =>
        cases r with
        | tup hs hr =>
          obtain ⟨hl, t⟩ := fin (ds.map O.sh) hv _ [] ⟨RepOs.of_D hr, List.nodup_nil, fun a h => absurd h (by simp), fun a h => absurd h (by simp)⟩ fun a h => absurd h (by simp)
          exact .inl ⟨_, _, rfl, hs, by rw [hr.length, ← hl]; simp, t⟩
      | lst ds =>
        cases r with
        | lst hs hr =>
          obtain ⟨hl, t⟩ := fin (ds.map O.sh) hv _ [] ⟨RepOs.of_D hr, List.nodup_nil, fun a h => absurd h (by simp), fun a h => absurd h (by simp)⟩ fun a h => absurd h (by simp)
          exact .inr ⟨_, _, rfl, SqL.of (E.gh _ _ hs), by rw [hr.length, ← hl]; simp, t⟩
      | _ => cases hv
    | tup os =>
      cases r with
      | tup hs hr =>
        obtain ⟨hl, t⟩ := fin os hv _ Fa ⟨hr, nd, no, ng⟩ fun a h => h
        exact .inl ⟨_, _, rfl, hs, by rw [hr.length]; exact hl, t⟩
    | lst os =>
      cases r with
      | @lst _ _ _ F0 hs hr =>
        obtain ⟨hl, t⟩ := fin os hv _ F0 ⟨hr, (List.nodup_cons.mp nd).2, fun a h => no a (List.mem_cons_of_mem _ h), fun a h => ng a (List.mem_cons_of_mem _ h)⟩ fun a h => List.mem_cons_of_mem _ h
        exact .inr ⟨_, _, rfl, SqL.of hs, by rw [hr.length]; exact hl, t⟩
    | ins c ks os => cases hv
end
end Ev

namespace Ev
open PySem L2

theorem _root_.L2.PI.imp {X : Cx} {tg it : Expr} {t t' : TI} (h : PI X tg it t) (w : ∀ σ H Q, t' σ H Q → t σ H Q) : PI X tg it t' := ⟨fun pins s σ H R I q => h.run pins s σ H R I (w σ H R q)⟩
theorem _root_.L2.PI.or {X : Cx} {tg it : Expr} {t t' : TI} (h : PI X tg it t) (h' : PI X tg it t') : PI X tg it (fun σ H Q => t σ H Q ∨ t' σ H Q) := ⟨fun pins s σ H R I q => q.elim (h.run pins s σ H R I) (h'.run pins s σ H R I)⟩

section
variable (K : PySem.W.Frag) (ca : Nat → Addr) (nm : Nat → Str)
/-- an iterator gives these, in order, while P stands -/
structure Feeds (J : L2.It) (ds : List D) (P : Hp → Hp → (Nat → List Addr) → Prop) : Prop where
  keep : ∀ G H Fs G' H' Fs', Step G H Fs G' H' Fs' → Sub G' H' → P G H Fs → P G' H' Fs'
  stop : ∀ G H Fs, P G H Fs → J.stop ds.length H
  go : ∀ G H Fs i, P G H Fs → i < ds.length → J.go i H
  yld : ∀ G H Fs i x H' d, P G H Fs → ds[i]? = some d → J.yld i H x H' → Same H H' ∧ RepD K ca nm G H' x d
/-- a name that is hidden meanwhile -/
def Hid (σ : L2.St) (ρ : Env) (G H : Hp) (Fs : Nat → List Addr) (F : List Addr) : Option (Nat × O) → Prop
  | none => F = []
  | some (i, o) => ∃ v, σ[i]? = some (some v) ∧ Apart K ca nm G H Fs [v] [o] F
structure AftI (σ : L2.St) (pu : Bool) (G H : Hp) (Fs : Nat → List Addr) (r : List D × Env × Option (Nat × O)) (J : L2.It) (G' H' : Hp) (Fs' : Nat → List Addr) (F : List Addr) (P : Hp → Hp → (Nat → List Addr) → Prop) : Prop where
  st : Step G H Fs G' H' Fs'
  en : EnvR K ca nm G' H' σ r.2.1 Fs'
  fd : Feeds K ca nm J r.1 P
  pp : P G' H' Fs'
  hd : Hid K ca nm σ r.2.1 G' H' Fs' F r.2.2
  bk : ∀ a ∈ F, InF Fs a ∨ H a = none
  pu : pu = true → Same H H'
def tIt (S : Sg) (it : It) : TI := fun σ H R => ∃ G Fs ρ, EnvR K ca nm G H σ ρ Fs ∧ ∃ r, itE S it ρ = some r ∧
  ∀ J G' H' Fs' F P, AftI K ca nm σ (pureIt S it) G H Fs r J G' H' Fs' F P → R J H'
end
section
variable {K : PySem.W.Frag} {ca : Nat → Addr} {nm : Nat → Str} {S : Sg} {σ σ' : L2.St} {G H G1 H1 G2 H2 : Hp} {Fs Fs1 Fs2 : Nat → List Addr} {ρ ρ1 ρ2 : Env} {v : V} {o : O} {F F1 F2 : List Addr} {pu : Bool}
/-- a list as it is walked -/
def SrcL (K : PySem.W.Frag) (ca : Nat → Addr) (nm : Nat → Str) (a : Addr) (vs : List V) (ds : List D) (G H : Hp) (Fs : Nat → List Addr) : Prop := (SqL K H a vs ∧ (SqL K G a vs ∨ H a = some (.lst vs) ∧ ¬ InF Fs a)) ∧ RepDs K ca nm G H vs ds
theorem SrcL.keep {a : Addr} {vs : List V} {ds : List D} (st : Step G H Fs G1 H1 Fs1) (gh : Sub G1 H1) (h : SrcL K ca nm a vs ds G H Fs) : SrcL K ca nm a vs ds G1 H1 Fs1 := by
  obtain ⟨⟨_, h⟩, r⟩ := h
  refine ⟨?_, r.mono st.g st.fx⟩
  rcases h with h | ⟨h, n⟩
  · have := st.g.sqL h
    exact ⟨gh.sqL this, .inl this⟩
  · have e := st.fr a _ h n
    refine ⟨SqL.of e, .inr ⟨e, fun z => ?_⟩⟩
    rcases st.nf a z with z | z
    · exact n z
    · rw [h] at z; cases z
def SrcT (K : PySem.W.Frag) (ca : Nat → Addr) (nm : Nat → Str) (a : Addr) (vs : List V) (ds : List D) (G H : Hp) (Fs : Nat → List Addr) : Prop := SqT K H a vs ∧ RepDs K ca nm G H vs ds
theorem feedL {a : Addr} {vs : List V} {ds : List D} : Feeds K ca nm (Itl K a) ds (SrcL K ca nm a vs ds) := by
  refine ⟨fun G H Fs G' H' Fs' st gh h => h.keep st gh, fun G H Fs h => ⟨vs, h.1.1, by rw [h.2.length]; exact Nat.le_refl _⟩, fun G H Fs i h hi => ?_, fun G H Fs i x H' d h hd hy => ?_⟩
  · have hi' : i < vs.length := by rw [h.2.length]; exact hi
    exact ⟨vs, vs[i], h.1.1, List.getElem?_eq_getElem hi'⟩
  · obtain ⟨e, hx⟩ := hy
    subst e
    obtain ⟨d', h1, h2⟩ := h.2.get' (hx vs h.1.1)
    rw [hd] at h1
    cases h1
    exact ⟨Same.refl _, h2⟩
theorem feedT {a : Addr} {vs : List V} {ds : List D} : Feeds K ca nm (Itt K a) ds (SrcT K ca nm a vs ds) := by
  refine ⟨fun G H Fs G' H' Fs' st gh h => ⟨st.fx.sqT h.1, h.2.mono st.g st.fx⟩, fun G H Fs h => ⟨vs, h.1, by rw [h.2.length]; exact Nat.le_refl _⟩, fun G H Fs i h hi => ?_, fun G H Fs i x H' d h hd hy => ?_⟩
  · have hi' : i < vs.length := by rw [h.2.length]; exact hi
    exact ⟨vs, vs[i], h.1, List.getElem?_eq_getElem hi'⟩
  · obtain ⟨e, hx⟩ := hy
    subst e
    obtain ⟨d', h1, h2⟩ := h.2.get' (hx vs h.1)
    rw [hd] at h1
    cases h1
    exact ⟨Same.refl _, h2⟩
theorem lst_src {ds : List D} (h : lstOf o = some ds) (r : RepO K ca nm G H v o F) (gh : Sub G H) (n : ∀ a ∈ F, ¬ InF Fs a) : ∃ a vs, v = .ref a ∧ SrcL K ca nm a vs ds G H Fs := by
  cases o with
  | sh d =>
    obtain ⟨_, r⟩ := sh_F r
    cases d with
    | lst es =>
      cases h
      cases r with
      | lst hg hr => exact ⟨_, _, rfl, ⟨SqL.of (gh _ _ hg), .inl (SqL.of hg)⟩, hr⟩
    | _ => cases h
  | lst os =>
    have e := unSh_eq (show unSh os = some ds from h)
    subst e
    cases r with
    | lst hh hr => exact ⟨_, _, rfl, ⟨SqL.of hh, .inr ⟨hh, n _ List.mem_cons_self⟩⟩, hr.to_D.1⟩
  | tup os => cases h
  | ins c ks os => cases h
def isLo : O → Bool
  | .sh (.scr _) => true
  | o => (lstOf o).isSome
theorem seq_src {ds : List D} (h : seqOf o = some ds) (r : RepO K ca nm G H v o F) (gh : Sub G H) (n : ∀ a ∈ F, ¬ InF Fs a) : ∃ a vs, v = .ref a ∧ (isLo o = true ∧ SrcL K ca nm a vs ds G H Fs ∨ isLo o = false ∧ SrcT K ca nm a vs ds G H Fs) := by
  have gen : (match lstOf o with
    | some ds => some ds
    | none => tupOf o) = some ds → ∃ a vs, v = .ref a ∧ ((lstOf o).isSome = true ∧ SrcL K ca nm a vs ds G H Fs ∨ (lstOf o).isSome = false ∧ SrcT K ca nm a vs ds G H Fs) := fun h => by
    cases e : lstOf o with
    | some es =>
      rw [e] at h
      cases h
      obtain ⟨a, vs, h1, h2⟩ := lst_src e r gh n
      exact ⟨a, vs, h1, .inl ⟨rfl, h2⟩⟩
    | none =>
      rw [e] at h
      obtain ⟨a, vs, h1, h2, h3⟩ := tup_at h r
      exact ⟨a, vs, h1, .inr ⟨rfl, h2, h3⟩⟩
  cases o with
  | sh d =>
    cases d with
    | scr ns =>
      cases h
      obtain ⟨_, r⟩ := sh_F r
      cases r with
      | scr hs => exact ⟨_, _, rfl, .inl ⟨rfl, ⟨gh.sqL hs, .inl hs⟩, RepDs.ints ns⟩⟩
    | _ => exact gen h
  | _ => exact gen h
theorem enumD_get : ∀ (ds : List D) (n i : Nat), (enumD ds n)[i]? = (ds[i]?).map fun d => tupD (.int ((n + i : Nat) : Int)) d
  | [], _, _ => rfl
  | d :: ds, n, 0 => rfl
  | d :: ds, n, i + 1 => by
    rw [enumD, List.getElem?_cons_succ, enumD_get ds (n + 1) i, List.getElem?_cons_succ]
    have : n + 1 + i = n + (i + 1) := by omega
    rw [this]
theorem enumD_len : ∀ (ds : List D) (n : Nat), (enumD ds n).length = ds.length
  | [], _ => rfl
  | d :: ds, n => by simp [enumD, enumD_len ds (n + 1)]
theorem new_tup2 {x y : V} {d e : D} {T : Addr} (h : H T = none) (rx : RepD K ca nm G H x d) (ry : RepD K ca nm G H y e) : Same H (upd H T (.tup [x, y])) ∧ RepD K ca nm G (upd H T (.tup [x, y])) (.ref T) (tupD d e) := by
  have s := same_new (u := .tup [x, y]) h
  exact ⟨s, .tup (SqT.of upd_same) (.cons (rx.mono (Sub.refl G) (Fix.of_same s)) (.cons (ry.mono (Sub.refl G) (Fix.of_same s)) .nil))⟩
theorem feedE {a : Addr} {vs : List V} {ds : List D} : Feeds K ca nm (Ite K a) (enumD ds 0) (SrcL K ca nm a vs ds) := by
  refine ⟨fun G H Fs G' H' Fs' st gh h => h.keep st gh, fun G H Fs h => ⟨vs, h.1.1, by rw [h.2.length, enumD_len]; exact Nat.le_refl _⟩, fun G H Fs i h hi => ?_, fun G H Fs i x H' d h hd hy => ?_⟩
  · rw [enumD_len] at hi
    have hi' : i < vs.length := by rw [h.2.length]; exact hi
    exact ⟨vs, vs[i], h.1.1, List.getElem?_eq_getElem hi'⟩
  · obtain ⟨T, y, rfl, hT, e, hx⟩ := hy
    subst e
    obtain ⟨d', h1, h2⟩ := h.2.get' (hx vs h.1.1)
    rw [enumD_get, h1] at hd
    have hd' : tupD (.int ((0 + i : Nat) : Int)) d' = d := Option.some.inj hd
    subst hd'
    rw [Nat.zero_add]
    exact new_tup2 hT (.int _) h2
theorem zipD_get : ∀ (ds es : List D) (i : Nat) (d e : D), ds[i]? = some d → es[i]? = some e → (zipD ds es)[i]? = some (tupD d e)
  | [], _, _, _, _, h, _ => by simp at h
  | _ :: _, [], _, _, _, _, h => by simp at h
  | d :: ds, e :: es, 0, d', e', h, h' => by simp at h h'; subst h h'; rfl
  | d :: ds, e :: es, i + 1, d', e', h, h' => by
    rw [zipD, List.getElem?_cons_succ]
    exact zipD_get ds es i d' e' (by simpa using h) (by simpa using h')
theorem zipD_len : ∀ (ds es : List D), (zipD ds es).length = min ds.length es.length
  | [], _ => by simp [zipD]
  | _ :: _, [] => by simp [zipD]
  | d :: ds, e :: es => by simp [zipD, zipD_len ds es, Nat.add_min_add_right]
theorem feedZ {a b : Addr} {vs ws : List V} {ds es : List D} : Feeds K ca nm (Itz K a b) (zipD ds es) (fun G H Fs => SrcL K ca nm a vs ds G H Fs ∧ SrcL K ca nm b ws es G H Fs) := by
  refine ⟨fun G H Fs G' H' Fs' st gh h => ⟨h.1.keep st gh, h.2.keep st gh⟩, fun G H Fs h => ?_, fun G H Fs i h hi => ?_, fun G H Fs i x H' d h hd hy => ?_⟩
  · refine ⟨vs, ws, h.1.1.1, h.2.1.1, ?_⟩
    rw [zipD_len, h.1.2.length, h.2.2.length]
    omega
  · rw [zipD_len] at hi
    have h1 : i < vs.length := by rw [h.1.2.length]; omega
    have h2 : i < ws.length := by rw [h.2.2.length]; omega
    exact ⟨vs, ws, vs[i], ws[i], h.1.1.1, h.2.1.1, List.getElem?_eq_getElem h1, List.getElem?_eq_getElem h2⟩
  · obtain ⟨T, y, z, rfl, hT, e, hx, hz⟩ := hy
    subst e
    obtain ⟨d1, h1, r1⟩ := h.1.2.get' (hx vs h.1.1.1)
    obtain ⟨d2, h2, r2⟩ := h.2.2.get' (hz ws h.2.1.1)
    rw [zipD_get ds es i d1 d2 h1 h2] at hd
    cases hd
    exact new_tup2 hT r1 r2
theorem feedZT {a b : Addr} {vs ws : List V} {ds es : List D} : Feeds K ca nm (RZ.ItzT K a b) (zipD ds es) (fun G H Fs => SrcT K ca nm a vs ds G H Fs ∧ SrcT K ca nm b ws es G H Fs) := by
  refine ⟨fun G H Fs G' H' Fs' st gh h => ⟨feedT.keep _ _ _ _ _ _ st gh h.1, feedT.keep _ _ _ _ _ _ st gh h.2⟩, fun G H Fs h => ?_, fun G H Fs i h hi => ?_, fun G H Fs i x H' d h hd hy => ?_⟩
  · refine ⟨vs, ws, h.1.1, h.2.1, ?_⟩
    rw [zipD_len, h.1.2.length, h.2.2.length]
    omega
  · rw [zipD_len] at hi
    have h1 : i < vs.length := by rw [h.1.2.length]; omega
    have h2 : i < ws.length := by rw [h.2.2.length]; omega
    exact ⟨vs, ws, vs[i], ws[i], h.1.1, h.2.1, List.getElem?_eq_getElem h1, List.getElem?_eq_getElem h2⟩
  · obtain ⟨T, y, z, rfl, hT, e, hx, hz⟩ := hy
    subst e
    obtain ⟨d1, h1, r1⟩ := h.1.2.get' (hx vs h.1.1)
    obtain ⟨d2, h2, r2⟩ := h.2.2.get' (hz ws h.2.1)
    rw [zipD_get ds es i d1 d2 h1 h2] at hd
    cases hd
    exact new_tup2 hT r1 r2
theorem feedV {a : Addr} {vs : List V} {ds : List D} : Feeds K ca nm (Itv K a vs.length) ds.reverse (SrcL K ca nm a vs ds) := by
  refine ⟨fun G H Fs G' H' Fs' st gh h => h.keep st gh, fun G H Fs h => ?_, fun G H Fs i h hi => ?_, fun G H Fs i x H' d h hd hy => ?_⟩
  · show vs.length ≤ _
    rw [List.length_reverse, h.2.length]
    exact Nat.le_refl _
  · rw [List.length_reverse, ← h.2.length] at hi
    have h1 : vs.length - 1 - i < vs.length := by omega
    exact ⟨hi, vs, vs[vs.length - 1 - i], h.1.1, List.getElem?_eq_getElem h1⟩
  · obtain ⟨e, hx⟩ := hy
    subst e
    obtain ⟨d', h1, h2⟩ := h.2.get' (hx vs h.1.1)
    have hi : i < ds.reverse.length := (List.getElem?_eq_some_iff.mp hd).1
    rw [List.length_reverse] at hi
    rw [h.2.length] at h1
    rw [List.getElem?_reverse hi, h1] at hd
    cases hd
    exact ⟨Same.refl _, h2⟩
theorem rangeD_get {lo hi : Int} {i : Nat} {d : D} (h : (rangeD lo hi)[i]? = some d) : d = .int (lo + i) := by
  unfold rangeD at h
  rw [List.getElem?_map] at h
  cases e : (List.range (hi - lo).toNat)[i]? with
  | none => rw [e] at h; cases h
  | some k =>
    rw [e] at h
    obtain ⟨_, e2⟩ := List.getElem?_eq_some_iff.mp e
    rw [List.getElem_range] at e2
    subst e2
    exact (Option.some.inj h).symm
theorem feedR {lo hi : Int} : Feeds K ca nm (Itr lo (hi - lo).toNat) (rangeD lo hi) (fun _ _ _ => True) := by
  have hl : (rangeD lo hi).length = (hi - lo).toNat := by unfold rangeD; simp
  refine ⟨fun _ _ _ _ _ _ _ _ h => h, fun G H Fs h => ?_, fun G H Fs i h hi => ?_, fun G H Fs i x H' d h hd hy => ?_⟩
  · show (hi - lo).toNat ≤ _
    rw [hl]
    exact Nat.le_refl _
  · rw [hl] at hi
    exact hi
  · obtain ⟨e, hx⟩ := hy
    subst e hx
    rw [rangeD_get hd]
    exact ⟨Same.refl _, .int _⟩
end
section
variable {ca : Nat → Addr} {nm : Nat → Str} {S : Sg} {X : Cx} {e ea eb tg : Expr} {es : List Expr} {x a b : Ex} {xs : Exs} {pos p2 : Pos}
theorem aftI_of {K : PySem.W.Frag} {σ : L2.St} {G H G1 H1 : Hp} {Fs Fs1 : Nat → List Addr} {pu : Bool} {ds : List D} {ρ' : Env} {J : L2.It} {P : Hp → Hp → (Nat → List Addr) → Prop} (st : Step G H Fs G1 H1 Fs1) (en : EnvR K ca nm G1 H1 σ ρ' Fs1) (fd : Feeds K ca nm J ds P) (pp : P G1 H1 Fs1) (sm : pu = true → Same H H1) :
    AftI K ca nm σ pu G H Fs (ds, ρ', none) J G1 H1 Fs1 [] P := ⟨st, en, fd, pp, rfl, fun a h => absurd h (by simp), sm⟩
theorem i_seq (ha : PE X e (tE X.K ca nm S x)) : PI X tg e (tIt X.K ca nm S (.seq x)) := by
  refine ((pi_list ha.ret).or (pi_tup ha.ret)).imp fun σ H R ⟨G, Fs, ρ, E, r, h, k⟩ => ?_
  unfold itE at h
  obtain ⟨y, hy, h⟩ := bind_some h
  obtain ⟨ds, hd, h⟩ := map_some h
  subst h
  cases hk : isLo (retE x y).1 with
  | true =>
    left
    refine ⟨G, Fs, ρ, E, y, hy, fun v G1 H1 Fs1 F1 A => ?_⟩
    obtain ⟨a, vs, rfl, ⟨_, hs⟩ | ⟨q, _⟩⟩ := seq_src hd A.rp A.en.gh fun a ha => (A.pv.2 a ha).1
    · exact ⟨a, rfl, ⟨vs, hs.1.1⟩, k _ G1 H1 Fs1 [] _ (aftI_of A.st A.en feedL hs A.pu)⟩
    · rw [hk] at q; cases q
  | false =>
    right
    refine ⟨G, Fs, ρ, E, y, hy, fun v G1 H1 Fs1 F1 A => ?_⟩
    obtain ⟨a, vs, rfl, ⟨q, _⟩ | ⟨_, hs⟩⟩ := seq_src hd A.rp A.en.gh fun a ha => (A.pv.2 a ha).1
    · rw [hk] at q; cases q
    · exact ⟨a, rfl, ⟨vs, hs.1⟩, k _ G1 H1 Fs1 [] _ (aftI_of A.st A.en feedT hs A.pu)⟩
theorem i_hid (i : Nat) {y : Str} (hN : X.N[i]? = some y) (hv : Vis X.env.scope y) (hd : (y == ("__debug__" : Str)) = false) (hcd : (y == ("__classdict__" : Str)) = false) : PI X tg (.Name y pos) (tIt X.K ca nm S (.hid i)) := by
  have pv := pe_var (pos := pos) hN hv hd hcd
  refine ((pi_list pv).or (pi_tup pv)).imp fun σ H R ⟨G, Fs, ρ, E, r, h, k⟩ => ?_
  unfold itE at h
  obtain ⟨o, ho, h⟩ := bind_some h
  obtain ⟨ds, hds, h⟩ := map_some h
  subst h
  obtain ⟨v, hs, r⟩ := E.sl i o ho
  have st : Step G H Fs G H (dropF Fs i) := ⟨Sub.refl G, fun a o h _ => h, Fix.refl H, fun _ h => h, fun a h => .inl (dropF_in h), fun a o h => .inl h⟩
  have ap : Apart X.K ca nm G H (dropF Fs i) [v] [o] (Fs i) := ⟨by
    have := RepOs.cons r (RepOs.nil (K := X.K) (ca := ca) (nm := nm) (G := G) (H := H))
    rw [List.append_nil] at this
    exact this, E.nd i, fun a ha => dropF_out E ha, fun a ha => E.gf i a ha⟩
  obtain ⟨a, vs, rfl, hh⟩ := seq_src (Fs := dropF Fs i) hds r E.gh fun a ha => dropF_out E ha
  rcases hh with ⟨_, hh⟩ | ⟨_, hh⟩
  · exact .inl ⟨_, hs, a, rfl, ⟨vs, hh.1.1⟩, k _ G H (dropF Fs i) (Fs i) _ ⟨st, E.drop i, feedL, hh, ⟨_, hs, ap⟩, fun a ha => .inl ⟨i, ha⟩, fun _ => Same.refl H⟩⟩
  · exact .inr ⟨_, hs, a, rfl, ⟨vs, hh.1⟩, k _ G H (dropF Fs i) (Fs i) _ ⟨st, E.drop i, feedT, hh, ⟨_, hs, ap⟩, fun a ha => .inl ⟨i, ha⟩, fun _ => Same.refl H⟩⟩
theorem i_rng1 (hg : Gl X "range") (hm : X.mg "range" = none) (ha : PA X [e] (tBs X.K ca nm S (.cons x .nil))) (hs : starEach [e] X.env = [(false, eval e X.env)] := by rfl) : PI X tg (.Call (.Name "range" p2) [e] [] pos) (tIt X.K ca nm S (.rng (.cons x .nil))) := by
  refine (pi_range1 hg hm ha hs).imp fun σ H R ⟨G, Fs, ρ, E, r, h, k⟩ => ?_
  unfold itE at h
  obtain ⟨y, hy, h⟩ := bind_some h
  refine ⟨G, Fs, ρ, E, y, hy, fun vs G1 H1 Fs1 A => ?_⟩
  have rp := A.rp
  split at h
  · rename_i j e1
    split at h
    · rename_i hc
      cases h
      rw [e1] at rp
      cases rp with
      | cons r1 r2 =>
        cases r2
        obtain ⟨_, r1⟩ := sh_F r1
        cases r1
        refine ⟨j, rfl, hc.1, hc.2, ?_⟩
        have := k (Itr 0 (j - 0).toNat) G1 H1 Fs1 [] _ (aftI_of A.st A.en feedR True.intro A.pu)
        rw [Int.sub_zero] at this
        exact this
    · cases h
  · rename_i e1
    rw [e1] at rp
    cases hy' : evB S (.cons x .nil) ρ with
    | none => rw [hy'] at hy; cases hy
    | some z =>
      have : y.1.length = 1 := by
        rw [hy'] at hy
        cases hy
        unfold evB at hy'
        obtain ⟨w, _, hy'⟩ := bind_some hy'
        split at hy'
        · obtain ⟨q, hq, e⟩ := map_some hy'
          cases hq
          rw [← e]
          rfl
        · cases hy'
      rw [e1] at this
      cases this
  · cases h
theorem i_rng2 (hg : Gl X "range") (hm : X.mg "range" = none) (ha : PA X [ea, eb] (tBs X.K ca nm S (.cons a (.cons b .nil)))) (hs : starEach [ea, eb] X.env = [(false, eval ea X.env), (false, eval eb X.env)] := by rfl) (hs2 : starEach [eb] X.env = [(false, eval eb X.env)] := by rfl) :
    PI X tg (.Call (.Name "range" p2) [ea, eb] [] pos) (tIt X.K ca nm S (.rng (.cons a (.cons b .nil)))) := by
  refine (pi_range2 hg hm ha hs hs2).imp fun σ H R ⟨G, Fs, ρ, E, r, h, k⟩ => ?_
  unfold itE at h
  obtain ⟨y, hy, h⟩ := bind_some h
  have hl : y.1.length = 2 := by
    unfold evB at hy
    obtain ⟨w, _, hy⟩ := bind_some hy
    split at hy
    · obtain ⟨q, hq, e⟩ := map_some hy
      unfold evB at hq
      obtain ⟨w2, _, hq⟩ := bind_some hq
      split at hq
      · obtain ⟨q2, hq2, e2⟩ := map_some hq
        cases hq2
        rw [← e, ← e2]
        rfl
      · cases hq
    · cases hy
  refine ⟨G, Fs, ρ, E, y, hy, fun vs G1 H1 Fs1 A => ?_⟩
  have rp := A.rp
  split at h
  · rename_i j e1
    rw [e1] at hl
    cases hl
  · rename_i i j e1
    split at h
    · rename_i hc
      cases h
      rw [e1] at rp
      cases rp with
      | cons r1 r2 =>
        cases r2 with
        | cons r2 r3 =>
          cases r3
          obtain ⟨_, r1⟩ := sh_F r1
          obtain ⟨_, r2⟩ := sh_F r2
          cases r1
          cases r2
          exact ⟨i, j, rfl, hc, k (Itr i (j - i).toNat) G1 H1 Fs1 [] _ (aftI_of A.st A.en feedR True.intro A.pu)⟩
    · cases h
  · cases h
theorem i_enm {elts : List Expr} {kk : Nat} {tpos : Pos} (hg : Gl X "enumerate") (hm : X.mg "enumerate" = none) (ha : PE X e (tE X.K ca nm S x)) (hs : starEach [e] X.env = [(false, eval e X.env)] := by rfl) : PI X (.Tuple elts kk tpos) (.Call (.Name "enumerate" p2) [e] [] pos) (tIt X.K ca nm S (.enm x)) := by
  refine (pi_enum hg hm (pa_cons ha.ret pa_nil hs) hs).imp fun σ H R ⟨G, Fs, ρ, E, r, h, k⟩ => ?_
  unfold itE at h
  obtain ⟨y, hy, h⟩ := bind_some h
  obtain ⟨ds, hd, h⟩ := map_some h
  subst h
  refine ⟨G, Fs, ρ, E, y, hy, fun v G1 H1 Fs1 F1 A => ?_⟩
  obtain ⟨a, vs, rfl, hh⟩ := lst_src hd A.rp A.en.gh fun a ha => (A.pv.2 a ha).1
  exact ⟨a, vs, rfl, hh.1.1, k _ G1 H1 Fs1 [] _ (aftI_of A.st A.en feedE hh A.pu)⟩
theorem i_rev (hg : Gl X "reversed") (hm : X.mg "reversed" = none) (ha : PE X e (tE X.K ca nm S x)) (hs : starEach [e] X.env = [(false, eval e X.env)] := by rfl) : PI X tg (.Call (.Name "reversed" p2) [e] [] pos) (tIt X.K ca nm S (.rev x)) := by
  refine (pi_reversed hg hm (pa_cons ha.ret pa_nil hs) hs).imp fun σ H R ⟨G, Fs, ρ, E, r, h, k⟩ => ?_
  unfold itE at h
  obtain ⟨y, hy, h⟩ := bind_some h
  obtain ⟨ds, hd, h⟩ := map_some h
  subst h
  refine ⟨G, Fs, ρ, E, y, hy, fun v G1 H1 Fs1 F1 A => ?_⟩
  obtain ⟨a, vs, rfl, hh⟩ := lst_src hd A.rp A.en.gh fun a ha => (A.pv.2 a ha).1
  exact ⟨a, vs, rfl, hh.1.1, k _ G1 H1 Fs1 [] _ (aftI_of A.st A.en feedV hh A.pu)⟩
theorem i_zip {elts : List Expr} {kk : Nat} {tpos : Pos} (hg : Gl X "zip") (hm : X.mg "zip" = none) (ha : PE X ea (tE X.K ca nm S a)) (hb : PE X eb (tE X.K ca nm S b))
    (hs : starEach [ea, eb] X.env = (false, eval ea X.env) :: starEach [eb] X.env := by rfl) (hs2 : starEach [eb] X.env = (false, eval eb X.env) :: starEach [] X.env := by rfl) (hpl : (backTo pos (starEach [eb] X.env)).any (·.1) = false := by rfl) :
    PI X (.Tuple elts kk tpos) (.Call (.Name "zip" p2) [ea, eb] [] pos) (tIt X.K ca nm S (.zip a b)) := by
  refine (RZ.pi_zipA hg hm (pa_cons ha.ret (pa_cons hb.ret pa_nil hs2) hs) hs hpl).imp fun σ H R ⟨G, Fs, ρ, E, r, h, k⟩ => ?_
  unfold itE at h
  obtain ⟨y, hy, h⟩ := bind_some h
  obtain ⟨z, hz, h⟩ := bind_some h
  refine ⟨G, Fs, ρ, E, y, hy, fun v G1 H1 Fs1 F1 A => ⟨G1, Fs1, _, A.en, z, hz, fun w G2 H2 Fs2 F2 B => ?_⟩⟩
  have A1 : Apart X.K ca nm G1 H1 Fs1 [v] [(retE a y).1] F1 := ⟨by
    have := RepOs.cons A.rp (RepOs.nil (K := X.K) (ca := ca) (nm := nm) (G := G1) (H := H1))
    rw [List.append_nil] at this
    exact this, A.pv.1, fun a ha => (A.pv.2 a ha).1, fun a ha => (A.pv.2 a ha).2.1⟩
  have A2 := A1.step B.st
  have r1 : RepO X.K ca nm G2 H2 v (retE a y).1 F1 := by
    have := A2.rp
    cases this with
    | cons r rr =>
      cases rr
      rw [List.append_nil]
      exact r
  have n1 := A2.no
  have sm : pureIt S (.zip a b) = true → Same H H2 := fun q => (A.pu (and_l q)).trans (B.pu (and_r q))
  split at h
  · rename_i ds es h1 h2
    cases h
    obtain ⟨p, vs, rfl, hv⟩ := lst_src h1 r1 B.en.gh n1
    obtain ⟨q, ws, rfl, hw⟩ := lst_src h2 B.rp B.en.gh fun a ha => (B.pv.2 a ha).1
    exact ⟨p, q, vs, ws, rfl, .inl ⟨hv.1.1, hw.1.1, k _ G2 H2 Fs2 [] _ (aftI_of (A.st.trans B.st) B.en feedZ ⟨hv, hw⟩ sm)⟩⟩
  · split at h
    · rename_i ds es h1 h2
      cases h
      obtain ⟨p, vs, rfl, hv, rv⟩ := tup_at h1 r1
      obtain ⟨q, ws, rfl, hw, rw_⟩ := tup_at h2 B.rp
      exact ⟨p, q, vs, ws, rfl, .inr ⟨hv, hw, k _ G2 H2 Fs2 [] _ (aftI_of (A.st.trans B.st) B.en feedZT ⟨⟨hv, rv⟩, ⟨hw, rw_⟩⟩ sm)⟩⟩
    · cases h
end
end Ev

namespace Ev
open PySem L2

section
variable (K : PySem.W.Frag) (ca : Nat → Addr) (nm : Nat → Str)
/-- behind a statement -/
structure AftN (P : Nat → Bool) (G H : Hp) (Fs : Nat → List Addr) (σ : L2.St) (ρ' : Env) (G' H' : Hp) (Fs' : Nat → List Addr) (σ' : L2.St) : Prop where
  st : Step G H Fs G' H' Fs'
  en : EnvR K ca nm G' H' σ' ρ' Fs'
  ln : σ'.length = σ.length
  sg : ∀ j, P j = false → σ'[j]? = σ[j]?
def PostS (P : Nat → Bool) (G H : Hp) (Fs : Nat → List Addr) (σ : L2.St) (D : Ends) : Out → Prop
  | .nx ρ' => ∀ G' H' Fs' σ', AftN K ca nm P G H Fs σ ρ' G' H' Fs' σ' → D.nx σ' H'
  | .bk ρ' => ∀ G' H' Fs' σ', AftN K ca nm P G H Fs σ ρ' G' H' Fs' σ' → D.bk σ' H'
  | .ct ρ' => ∀ G' H' Fs' σ', AftN K ca nm P G H Fs σ ρ' G' H' Fs' σ' → D.ct σ' H'
  | .rt o ρ' => ∀ v G' H' Fs' σ' F, AftN K ca nm P G H Fs σ ρ' G' H' Fs' σ' → Apart K ca nm G' H' Fs' [v] [o] F → (∀ a ∈ F, InF Fs a ∨ H a = none) → D.rt v H'
def tS (S : Sg) (s : St) : TS := fun D σ H => ∃ G Fs ρ, EnvR K ca nm G H σ ρ Fs ∧ ∃ out, ex S s ρ = some out ∧ PostS K ca nm (fun j => sets j s) G H Fs σ D out
def tSs (S : Sg) (s : Sts) : TS := fun D σ H => ∃ G Fs ρ, EnvR K ca nm G H σ ρ Fs ∧ ∃ out, exs S s ρ = some out ∧ PostS K ca nm (fun j => setss j s) G H Fs σ D out
end
section
variable {K : PySem.W.Frag} {ca : Nat → Addr} {nm : Nat → Str} {S : Sg} {σ σ1 σ2 : L2.St} {G H G1 H1 G2 H2 : Hp} {Fs Fs1 Fs2 : Nat → List Addr} {ρ ρ1 ρ2 : Env} {v : V} {o : O} {F F1 F2 : List Addr} {P P1 P2 : Nat → Bool} {D : Ends} {out : Out}
theorem AftN.refl (E : EnvR K ca nm G H σ ρ Fs) : AftN K ca nm P G H Fs σ ρ G H Fs σ := ⟨Step.refl G H Fs, E, rfl, fun _ _ => rfl⟩
theorem AftN.trans (A : AftN K ca nm P1 G H Fs σ ρ1 G1 H1 Fs1 σ1) (B : AftN K ca nm P2 G1 H1 Fs1 σ1 ρ2 G2 H2 Fs2 σ2) (h1 : ∀ j, P j = false → P1 j = false) (h2 : ∀ j, P j = false → P2 j = false) : AftN K ca nm P G H Fs σ ρ2 G2 H2 Fs2 σ2 :=
  ⟨A.st.trans B.st, B.en, B.ln.trans A.ln, fun j hj => (B.sg j (h2 j hj)).trans (A.sg j (h1 j hj))⟩
theorem AftN.of_aft {pu : Bool} {p : Option Nat} (A : Aft K ca nm σ pu G H Fs o p ρ1 v G1 H1 Fs1 F) : AftN K ca nm P G H Fs σ ρ1 G1 H1 Fs1 σ := ⟨A.st, A.en, rfl, fun _ _ => rfl⟩
theorem PostS.from (A : AftN K ca nm P1 G H Fs σ ρ1 G1 H1 Fs1 σ1) (h1 : ∀ j, P j = false → P1 j = false) (h2 : ∀ j, P j = false → P2 j = false) (k : PostS K ca nm P G H Fs σ D out) : PostS K ca nm P2 G1 H1 Fs1 σ1 D out := by
  cases out with
  | nx ρ' => exact fun G' H' Fs' σ' B => k G' H' Fs' σ' (A.trans B h1 h2)
  | bk ρ' => exact fun G' H' Fs' σ' B => k G' H' Fs' σ' (A.trans B h1 h2)
  | ct ρ' => exact fun G' H' Fs' σ' B => k G' H' Fs' σ' (A.trans B h1 h2)
  | rt o ρ' =>
    exact fun v G' H' Fs' σ' F B ap bk => k v G' H' Fs' σ' F (A.trans B h1 h2) ap fun a ha => (bk a ha).elim (A.st.nf a) fun z => .inr (A.st.al a z)
theorem Aft.apart {pu : Bool} (A : Aft K ca nm σ pu G H Fs o none ρ1 v G1 H1 Fs1 F) : Apart K ca nm G1 H1 Fs1 [v] [o] F := ⟨by
  have := RepOs.cons A.rp (RepOs.nil (K := K) (ca := ca) (nm := nm) (G := G1) (H := H1))
  rw [List.append_nil] at this
  exact this, A.pv.1, fun a ha => (A.pv.2 a ha).1, fun a ha => (A.pv.2 a ha).2.1⟩
theorem Apart.one (A : Apart K ca nm G H Fs [v] [o] F) : RepO K ca nm G H v o F := by
  cases A.rp with
  | cons r rr =>
    cases rr
    rw [List.append_nil]
    exact r
theorem Step.to2 (st : Step G H Fs G1 H1 Fs1) (h : ∀ a, InF Fs2 a → InF Fs1 a ∨ a ∈ F) (bk : ∀ a ∈ F, InF Fs a ∨ H a = none) : Step G H Fs G1 H1 Fs2 :=
  ⟨st.g, st.fr, st.fx, st.al, fun a ha => (h a ha).elim (st.nf a) (bk a), st.ng⟩
/-- a kept value is stored -/
theorem store_aft {pu : Bool} {i : Nat} (A : Aft K ca nm σ pu G H Fs o none ρ1 v G1 H1 Fs1 F) (hi : i < σ.length) (hP : ∀ j, P j = false → j ≠ i) : ∃ Fs2, AftN K ca nm P G H Fs σ (pt ρ1 i (some o)) G1 H1 Fs2 (σ.set i (some v)) := by
  obtain ⟨Fs2, E2, h2⟩ := A.en.assign hi A.apart
  refine ⟨Fs2, A.st.to2 h2 fun a ha => (A.pv.2 a ha).2.2, E2, by simp, fun j hj => List.getElem?_set_ne (Ne.symm (hP j hj))⟩
end

section
variable {ca : Nat → Addr} {nm : Nat → Str} {S : Sg} {X : Cx} {e ea eb ec tg : Expr} {es : List Expr} {x a b c : Ex} {xs : Exs} {pos p2 p3 : Pos} {st : Stmt} {sts sa sb : List Stmt} {s : St} {r u : Sts}
/-! ### blocks -/
theorem ss_nil : PSs X [] (tSs X.K ca nm S .nil) := pss_nil.imp fun D σ H ⟨G, Fs, ρ, E, out, h, k⟩ => by
  cases h
  exact k G H Fs σ (AftN.refl E)
theorem ss_cons (h1 : PS X st (tS X.K ca nm S s)) (h2 : PSs X sts (tSs X.K ca nm S r)) : PSs X (st :: sts) (tSs X.K ca nm S (.cons s r)) := by
  refine (pss_cons h1 h2).imp fun D σ H ⟨G, Fs, ρ, E, out, h, k⟩ => ?_
  unfold exs at h
  obtain ⟨o, ho, h⟩ := bind_some h
  have p1 : ∀ j, setss j (.cons s r) = false → sets j s = false := fun j hj => (Bool.or_eq_false_iff.mp hj).1
  have p2 : ∀ j, setss j (.cons s r) = false → setss j r = false := fun j hj => (Bool.or_eq_false_iff.mp hj).2
  refine ⟨G, Fs, ρ, E, o, ho, ?_⟩
  cases o with
  | nx ρ1 =>
    exact fun G1 H1 Fs1 σ1 A => ⟨G1, Fs1, ρ1, A.en, out, h, PostS.from A p1 p2 k⟩
  | bk ρ1 =>
    cases h
    exact fun G1 H1 Fs1 σ1 A => k G1 H1 Fs1 σ1 ⟨A.st, A.en, A.ln, fun j hj => A.sg j (p1 j hj)⟩
  | ct ρ1 =>
    cases h
    exact fun G1 H1 Fs1 σ1 A => k G1 H1 Fs1 σ1 ⟨A.st, A.en, A.ln, fun j hj => A.sg j (p1 j hj)⟩
  | rt o ρ1 =>
    cases h
    exact fun v G1 H1 Fs1 σ1 F A => k v G1 H1 Fs1 σ1 F ⟨A.st, A.en, A.ln, fun j hj => A.sg j (p1 j hj)⟩
theorem ss_one (h1 : PS X st (tS X.K ca nm S s)) : PSs X [st] (tSs X.K ca nm S (.cons s .nil)) := ss_cons h1 ss_nil
/-! ### simple ones -/
theorem z_pass : PS X (.Pass pos) (tS X.K ca nm S .pass) := ps_pass.imp fun D σ H ⟨G, Fs, ρ, E, out, h, k⟩ => by
  cases h
  exact k G H Fs σ (AftN.refl E)
theorem z_brk : PS X (.Break pos) (tS X.K ca nm S .brk) := ps_break.imp fun D σ H ⟨G, Fs, ρ, E, out, h, k⟩ => by
  cases h
  exact k G H Fs σ (AftN.refl E)
theorem z_cont : PS X (.Continue pos) (tS X.K ca nm S .cont) := ps_continue.imp fun D σ H ⟨G, Fs, ρ, E, out, h, k⟩ => by
  cases h
  exact k G H Fs σ (AftN.refl E)
theorem z_retN : PS X (.Return none pos) (tS X.K ca nm S .retN) := ps_retN.imp fun D σ H ⟨G, Fs, ρ, E, out, h, k⟩ => by
  cases h
  exact k .non G H Fs σ [] (AftN.refl E) (Apart.nilF .non) fun a h => absurd h (by simp)
theorem z_ret (h : PE X e (tE X.K ca nm S x)) : PS X (.Return (some e) pos) (tS X.K ca nm S (.ret x)) := (ps_ret h).imp fun D σ H ⟨G, Fs, ρ, E, out, hv, k⟩ => by
  unfold ex at hv
  obtain ⟨y, hy, hv⟩ := map_some hv
  subst hv
  refine ⟨G, Fs, ρ, E, y.1, y.2.1, y.2.2, hy, fun v G1 H1 Fs1 F A => ?_⟩
  obtain ⟨Fs2, A2⟩ := mv_ok A
  exact k v G1 H1 Fs2 σ F (AftN.of_aft A2) A2.apart fun a ha => (A2.pv.2 a ha).2.2
theorem z_exp (h : PE X e (tE X.K ca nm S x)) (hs : swapsWith e none pos.line X.env = pure false := by rfl) : PS X (.Expr e pos) (tS X.K ca nm S (.exp x)) := (ps_expr h hs).imp fun D σ H ⟨G, Fs, ρ, E, out, hv, k⟩ => by
  unfold ex at hv
  obtain ⟨y, hy, hv⟩ := map_some hv
  subst hv
  exact ⟨G, Fs, ρ, E, y.1, y.2.1, y.2.2, hy, fun v G1 H1 Fs1 F A => k G1 H1 Fs1 σ (AftN.of_aft A)⟩
/-- name = e -/
theorem z_set (i : Nat) {y : Str} (hN : X.N.Nodup) (hi : X.N[i]? = some y) (hx : Loc X.env.scope y) (hf : X.fn y = true ∨ X.env.scope.names.lookup y = some .local) (h : PE X e (tE X.K ca nm S x))
    (hs : swapsWithSole [.Name y p2] e pos.line X.env = pure false := by rfl) (hw : swappedStores [.Name y p2] e X.env = pure none := by rfl) (h1 : (assignEach [.Name y p2] X.env).map (·.2) = [assign (.Name y p2) X.env] := by rfl) : PS X (.Assign [.Name y p2] e pos) (tS X.K ca nm S (.set i x)) := by
  have hl : i < X.N.length := (List.getElem?_eq_some_iff.mp hi).1
  refine (ps_asg h.ret (g_nm (ca := ca) (nm := nm) (pos := p2) i hN hi hx hf hl) hs hw h1).imp fun D σ H ⟨G, Fs, ρ, E, out, hv, k⟩ => ?_
  unfold ex at hv
  obtain ⟨z, hz, hv⟩ := map_some hv
  subst hv
  refine ⟨G, Fs, ρ, E, z, hz, fun v G1 H1 Fs1 F1 A => ⟨G1, Fs1, _, _, F1, A.en, A.apart, _, rfl, fun σ' Fs' B => ?_⟩⟩
  exact k G1 H1 Fs' σ' ⟨A.st.to2 B.fs fun a ha => (A.pv.2 a ha).2.2, B.en, B.ln, B.sg⟩
/-- a, b = e -/
theorem z_unp {is : List Nat} {kk : Nat} (hg : PG X (.Tuple es kk p2) (tG X.K ca nm (.tp is))) (h : PE X e (tE X.K ca nm S x))
    (hs : swapsWithSole [.Tuple es kk p2] e pos.line X.env = pure false := by rfl) (hw : swappedStores [.Tuple es kk p2] e X.env = pure none := by rfl) (h1 : (assignEach [.Tuple es kk p2] X.env).map (·.2) = [assign (.Tuple es kk p2) X.env] := by rfl) : PS X (.Assign [.Tuple es kk p2] e pos) (tS X.K ca nm S (.unp is x)) := by
  refine (ps_asg h.ret hg hs hw h1).imp fun D σ H ⟨G, Fs, ρ, E, out, hv, k⟩ => ?_
  unfold ex at hv
  obtain ⟨z, hz, hv⟩ := bind_some hv
  obtain ⟨ρ', hr, hv⟩ := map_some hv
  subst hv
  refine ⟨G, Fs, ρ, E, z, hz, fun v G1 H1 Fs1 F1 A => ⟨G1, Fs1, _, _, F1, A.en, A.apart, ρ', hr, fun σ' Fs' B => ?_⟩⟩
  exact k G1 H1 Fs' σ' ⟨A.st.to2 B.fs fun a ha => (A.pv.2 a ha).2.2, B.en, B.ln, B.sg⟩
/-- a, b = e, f -/
theorem z_par {i j : Nat} {y z : Str} {px py pt : Pos} {kt k2 : Nat} {pt2 : Pos} (hc : X.calm = true) (hN : X.N.Nodup) (hi : X.N[i]? = some y) (hj : X.N[j]? = some z) (hij : i ≠ j)
    (hx : X.env.scope.names.lookup y = some .local) (hy : X.env.scope.names.lookup z = some .local) (ha : PE X ea (tE X.K ca nm S a)) (hb : PE X eb (tE X.K ca nm S b))
    (hw : swappedStores [.Tuple [.Name y px, .Name z py] kt pt] (.Tuple [ea, eb] k2 pt2) X.env = pure (some [y, z]))
    (hs : swapsWithSole [.Tuple [.Name y px, .Name z py] kt pt] (.Tuple [ea, eb] k2 pt2) pos.line X.env = pure false := by rfl)
    (hs1 : starEach [ea, eb] X.env = (false, eval ea X.env) :: starEach [eb] X.env := by rfl) (hs2 : starEach [eb] X.env = (false, eval eb X.env) :: starEach [] X.env := by rfl) :
    PS X (.Assign [.Tuple [.Name y px, .Name z py] kt pt] (.Tuple [ea, eb] k2 pt2) pos) (tS X.K ca nm S (.par [i, j] (.cons a (.cons b .nil)))) := by
  have hl1 : i < X.N.length := (List.getElem?_eq_some_iff.mp hi).1
  have hl2 : j < X.N.length := (List.getElem?_eq_some_iff.mp hj).1
  have h0 := ps_par (pos := pos) hc hN hi hj hij hx hy (k_cons (ca := ca) (nm := nm) (S := S) ha (k_cons hb k_nil hs2) hs1) hw hs
  refine ⟨fun pins s σ H D I q => h0.run pins s σ H D I ?_⟩
  obtain ⟨G, Fs, ρ, E, out, hv, k⟩ := q
  have hn := I.len
  unfold ex at hv
  obtain ⟨r, hr, hv⟩ := bind_some hv
  obtain ⟨ρ', hp, hv⟩ := map_some hv
  subst hv
  refine ⟨G, Fs, ρ, E, r, hr, fun vs G1 H1 Fs1 F A => ?_⟩
  have hl := evs_len _ hr
  obtain ⟨os, ρ1⟩ := r
  have ap : Apart X.K ca nm G1 H1 Fs1 vs os F := ⟨A.rp, A.pv.1, fun a ha => (A.pv.2 a ha).1, fun a ha => (A.pv.2 a ha).2.1⟩
  match os, vs, hl, ap, A, hp with
  | [o1, o2], [v1, v2], _, ap, A, hp =>
    cases hp
    obtain ⟨F1, F2, e, A1, A2, dj⟩ := ap.split
    obtain ⟨Fs2, E2, h2⟩ := A.en.assign (by rw [hn]; exact hl1) A1
    have A2' : Apart X.K ca nm G1 H1 Fs2 [v2] [o2] F2 := ⟨A2.rp, A2.nd, fun a ha z => (h2 a z).elim (A2.no a ha) fun z => dj a z ha, A2.ng⟩
    obtain ⟨Fs3, E3, h3⟩ := E2.assign (i := j) (by rw [List.length_set, hn]; exact hl2) A2'
    refine ⟨v1, v2, rfl, k G1 H1 Fs3 _ ⟨A.st.to2 (F := F) (fun a ha => ?_) fun a ha => (A.pv.2 a ha).2.2, E3, by simp, fun l hl => ?_⟩⟩
    · rcases h3 a ha with z | z
      · rcases h2 a z with z | z
        · exact .inl z
        · exact .inr (by rw [e]; exact List.mem_append_left _ z)
      · exact .inr (by rw [e]; exact List.mem_append_right _ z)
    · have hl' : ([i, j].contains l) = false := hl
      have h1 : l ≠ i := fun z => by rw [z] at hl'; simp at hl'
      have h2 : l ≠ j := fun z => by rw [z] at hl'; simp at hl'
      rw [List.getElem?_set_ne (Ne.symm h2), List.getElem?_set_ne (Ne.symm h1)]
  | [_, _], [], _, ap, _, _ => cases ap.rp; done
  | [_, _], [_], _, ap, _, _ =>
    have := ap.rp.length
    simp at this
  | [_, _], _ :: _ :: _ :: _, _, ap, _, _ =>
    have := ap.rp.length
    simp at this
/-! ### ways -/
theorem z_iff (hc : PT X ec (tT X.K ca nm S c)) (ha : PSs X sa (tSs X.K ca nm S r)) (hb : PSs X sb (tSs X.K ca nm S u)) : PS X (.If ec sa sb pos) (tS X.K ca nm S (.iff c r u)) := by
  refine (ps_if hc ha hb).imp fun D σ H ⟨G, Fs, ρ, E, out, h, k⟩ => ?_
  unfold ex at h
  obtain ⟨y, hy, h⟩ := bind_some h
  obtain ⟨d, hd, h⟩ := bind_some h
  refine ⟨G, Fs, ρ, E, y, d, hy, hd, fun G1 H1 Fs1 st en pu => ?_⟩
  have A : AftN X.K ca nm (fun _ => false) G H Fs σ y.2.2 G1 H1 Fs1 σ := ⟨st, en, rfl, fun _ _ => rfl⟩
  cases d with
  | true => exact ⟨G1, Fs1, _, en, out, h, PostS.from A (fun _ _ => rfl) (fun j hj => (Bool.or_eq_false_iff.mp hj).1) k⟩
  | false => exact ⟨G1, Fs1, _, en, out, h, PostS.from A (fun _ _ => rfl) (fun j hj => (Bool.or_eq_false_iff.mp hj).2) k⟩
/-! ### while -/
theorem z_whl (hp : PassesOwn (model X.prog X.w) X.A X.env X.xe) (hc : PT X ec (tT X.K ca nm S c)) (hb : PSs X sts (tSs X.K ca nm S r)) : PS X (.While ec sts [] pos) (tS X.K ca nm S (.whl c r)) := by
  refine (ps_while hp hc hb).imp fun D σ H ⟨G, Fs, ρ, E, out, h, k⟩ => ?_
  unfold ex at h
  refine ⟨fun m σ' H' => ∃ G' Fs' ρ', AftN X.K ca nm (fun j => setss j r) G H Fs σ ρ' G' H' Fs' σ' ∧ whlL (fun ρ => (ev S c ρ).bind fun x => (boolOf x.1).map fun k => (k, x.2.2)) (fun ρ => exs S r ρ) m ρ' = some out, ⟨FUEL, G, Fs, ρ, AftN.refl E, h⟩, ?_⟩
  rintro m σ1 H1 ⟨G1, Fs1, ρ1, A, hw⟩
  cases m with
  | zero => cases hw
  | succ m =>
    unfold whlL at hw
    obtain ⟨q, hq, hw⟩ := bind_some hw
    obtain ⟨y, hy, hq⟩ := bind_some hq
    obtain ⟨d, hd, hq⟩ := map_some hq
    subst hq
    refine ⟨G1, Fs1, ρ1, A.en, y, d, hy, hd, fun G2 H2 Fs2 st en pu => ?_⟩
    have A2 : AftN X.K ca nm (fun j => setss j r) G H Fs σ y.2.2 G2 H2 Fs2 σ1 := ⟨A.st.trans st, en, A.ln, A.sg⟩
    cases d with
    | true =>
      obtain ⟨o, ho, hw⟩ := bind_some hw
      refine iteT ?_
      refine ⟨fun σ' H' => ∃ G' Fs' ρ', AftN X.K ca nm (fun j => setss j r) G H Fs σ ρ' G' H' Fs' σ' ∧ whlL (fun ρ => (ev S c ρ).bind fun x => (boolOf x.1).map fun k => (k, x.2.2)) (fun ρ => exs S r ρ) m ρ' = some out, fun σ' H' q => ⟨m, Nat.lt_succ_self m, q⟩, ?_⟩
      refine ⟨G2, Fs2, y.2.2, en, o, ho, ?_⟩
      cases o with
      | nx ρ2 => exact fun G3 H3 Fs3 σ3 B => ⟨G3, Fs3, ρ2, A2.trans B (fun _ z => z) (fun _ z => z), hw⟩
      | ct ρ2 => exact fun G3 H3 Fs3 σ3 B => ⟨G3, Fs3, ρ2, A2.trans B (fun _ z => z) (fun _ z => z), hw⟩
      | bk ρ2 =>
        cases hw
        exact fun G3 H3 Fs3 σ3 B => k G3 H3 Fs3 σ3 (A2.trans B (fun _ z => z) (fun _ z => z))
      | rt o ρ2 =>
        cases hw
        exact fun v G3 H3 Fs3 σ3 F B ap bk => k v G3 H3 Fs3 σ3 F (A2.trans B (fun _ z => z) (fun _ z => z)) ap fun a ha => (bk a ha).elim (A2.st.nf a) fun z => .inr (A2.st.al a z)
    | false =>
      cases hw
      exact iteF (k G2 H2 Fs2 σ1 A2)
end
end Ev

namespace Ev
open PySem L2

section
variable {K : PySem.W.Frag} {ca : Nat → Addr} {nm : Nat → Str} {S : Sg} {σ σ1 σ2 : L2.St} {G H G1 H1 G2 H2 : Hp} {Fs Fs1 Fs2 : Nat → List Addr} {ρ ρ1 ρ2 : Env} {v : V} {o : O} {F F1 F2 : List Addr} {P P1 P2 : Nat → Bool} {out : Out} {pu : Bool}
theorem hid_back {h : Option (Nat × O)} (E : EnvR K ca nm G H σ1 ρ Fs) (hd : Hid K ca nm σ ρ1 G H Fs F h) (hs : ∀ i o, h = some (i, o) → σ1[i]? = σ[i]?) : ∃ Fs', EnvR K ca nm G H σ1 (backH h ρ) Fs' ∧ ∀ a, InF Fs' a → InF Fs a ∨ a ∈ F := by
  cases h with
  | none => exact ⟨Fs, E, fun a h => .inl h⟩
  | some p =>
    obtain ⟨i, o⟩ := p
    obtain ⟨v, hv, A⟩ := hd
    have hv1 : σ1[i]? = some (some v) := (hs i o rfl).trans hv
    have hl : i < ρ.length := by rw [E.ln]; exact (List.getElem?_eq_some_iff.mp hv1).1
    have E2 := (E.drop i).put (i := i) (v := v) (o := o) (F := F) (gt_pt_same hl) hv1 A.one A.nd (fun a ha z => A.no a ha (dropF_in z)) A.ng
    rw [pt_pt] at E2
    exact ⟨_, E2, fun a ha => (in_setF ha).imp dropF_in id⟩
theorem Hid.step {h : Option (Nat × O)} (hd : Hid K ca nm σ ρ1 G H Fs F h) (st : Step G H Fs G1 H1 Fs1) : Hid K ca nm σ ρ2 G1 H1 Fs1 F h := by
  cases h with
  | none => exact hd
  | some p => exact let ⟨v, hv, A⟩ := hd; ⟨v, hv, A.step st⟩
theorem Hid.outs {h : Option (Nat × O)} (hd : Hid K ca nm σ ρ1 G H Fs F h) {a : Addr} (ha : a ∈ F) : ¬ InF Fs a ∧ H a ≠ none := by
  cases h with
  | none =>
    have e : F = [] := hd
    rw [e] at ha
    cases ha
  | some p =>
    obtain ⟨v, hv, A⟩ := hd
    refine ⟨A.no a ha, fun z => ?_⟩
    obtain ⟨u, e, _⟩ := A.rp.there a ha
    rw [z] at e; cases e
theorem PostS.hide {r : List D × Env × Option (Nat × O)} {J : L2.It} {Pp : Hp → Hp → (Nat → List Addr) → Prop} (A : AftI K ca nm σ pu G H Fs r J G1 H1 Fs1 F Pp) (hf : ∀ i o, r.2.2 = some (i, o) → P i = false) {De : Ends} (k : PostS K ca nm P G H Fs σ De (backO r.2.2 out)) : PostS K ca nm P G1 H1 Fs1 σ De out := by
  have key : ∀ {ρ' G' H' Fs' σ'}, AftN K ca nm P G1 H1 Fs1 σ ρ' G' H' Fs' σ' → ∃ Fs'', AftN K ca nm P G H Fs σ (backH r.2.2 ρ') G' H' Fs'' σ' ∧ ∀ a, InF Fs'' a → InF Fs' a ∨ a ∈ F := fun {ρ' G' H' Fs' σ'} B => by
    obtain ⟨Fs'', E, h⟩ := hid_back B.en (A.hd.step (ρ2 := ρ') B.st) fun i o e => B.sg i (hf i o e)
    have S1 : Step G H Fs G' H' Fs' := A.st.trans B.st
    exact ⟨Fs'', ⟨S1.to2 h A.bk, E, B.ln, B.sg⟩, h⟩
  cases out with
  | nx ρ' => exact fun G' H' Fs' σ' B => let ⟨Fs'', C, _⟩ := key B; k G' H' Fs'' σ' C
  | bk ρ' => exact fun G' H' Fs' σ' B => let ⟨Fs'', C, _⟩ := key B; k G' H' Fs'' σ' C
  | ct ρ' => exact fun G' H' Fs' σ' B => let ⟨Fs'', C, _⟩ := key B; k G' H' Fs'' σ' C
  | rt o ρ' =>
    intro v G' H' Fs' σ' Fv B ap bk
    obtain ⟨Fs'', C, h⟩ := key B
    refine k v G' H' Fs'' σ' Fv C ⟨ap.rp, ap.nd, fun a ha z => ?_, ap.ng⟩ fun a ha => (bk a ha).elim (A.st.nf a) fun z => .inr (A.st.al a z)
    rcases h a z with z | z
    · exact ap.no a ha z
    · obtain ⟨n1, n2⟩ := A.hd.outs z
      exact (bk a ha).elim n1 n2
end
section
variable {ca : Nat → Addr} {nm : Nat → Str} {S : Sg} {X : Cx} {e ea eb ec tg it : Expr} {es : List Expr} {x a b c : Ex} {xs : Exs} {pos p2 p3 : Pos} {st : Stmt} {sts sa sb : List Stmt} {s : St} {r u : Sts}
/-! ### for -/
theorem z_for {t : Tg} {i : It} (hp : PassesOwn (model X.prog X.w) X.A X.env X.xe) (hc : X.calm = true) (hi : PI X tg it (tIt X.K ca nm S i)) (hg : PG X tg (tG X.K ca nm t)) (hb : PSs X sts (tSs X.K ca nm S r)) (hfd : ∀ x, foldedSetIterable it X.env x = pure x := by intro _; rfl) :
    PS X (.For tg it sts [] pos) (tS X.K ca nm S (.for_ t i r)) := by
  refine (ps_for hp hc hi hg hb hfd).imp fun D σ H ⟨G, Fs, ρ, E, out, h, k⟩ => ?_
  unfold ex at h
  obtain ⟨q, hq, h⟩ := bind_some h
  split at h
  · rename_i hfree
    obtain ⟨o0, ho, h⟩ := map_some h
    subst h
    refine ⟨G, Fs, ρ, E, q, hq, fun J G1 H1 Fs1 F1 Pp A => ?_⟩
    have k1 : PostS X.K ca nm (fun j => sets j (.for_ t i r)) G1 H1 Fs1 σ D o0 := PostS.hide A (fun j o e => by
      rw [e] at hfree
      have : (!(tgSets t j || setss j r)) = true := hfree
      show (tgSets t j || setss j r) = false
      simpa using this) k
    refine ⟨fun n m σ' H' => m = q.1.length - n ∧ n ≤ q.1.length ∧ ∃ G' Fs' ρ', AftN X.K ca nm (fun j => sets j (.for_ t i r)) G1 H1 Fs1 σ ρ' G' H' Fs' σ' ∧ Pp G' H' Fs' ∧ forL t (fun ρ => exs S r ρ) (q.1.drop n) ρ' = some o0,
      ⟨q.1.length, by simp, Nat.zero_le _, G1, Fs1, q.2.1, AftN.refl A.en, A.pp, by simpa using ho⟩, ?_⟩
    rintro n m σ2 H2 ⟨rfl, hn, G2, Fs2, ρ2, B, hP, hw⟩
    rcases Nat.lt_or_ge n q.1.length with hlt | hge
    · refine .inr ⟨A.fd.go G2 H2 Fs2 n hP hlt, fun σ' H' => ∃ G' Fs' ρ', AftN X.K ca nm (fun j => sets j (.for_ t i r)) G1 H1 Fs1 σ ρ' G' H' Fs' σ' ∧ Pp G' H' Fs' ∧ forL t (fun ρ => exs S r ρ) (q.1.drop (n + 1)) ρ' = some o0,
        fun σ' H' z => ⟨q.1.length - (n + 1), by omega, rfl, hlt, z⟩, fun y H3 hy => ?_⟩
      have hd : q.1[n]? = some q.1[n] := List.getElem?_eq_getElem hlt
      obtain ⟨sm, ry⟩ := A.fd.yld G2 H2 Fs2 n y H3 q.1[n] hP hd hy
      rw [List.drop_eq_getElem_cons hlt] at hw
      unfold forL at hw
      obtain ⟨ρ3, ht, hw⟩ := bind_some hw
      obtain ⟨o1, ho1, hw⟩ := bind_some hw
      have B1 : AftN X.K ca nm (fun j => sets j (.for_ t i r)) G1 H1 Fs1 σ ρ2 G2 H3 Fs2 σ2 := ⟨B.st.trans (Step.of_same sm), B.en.ext sm, B.ln, B.sg⟩
      have hP3 : Pp G2 H3 Fs2 := A.fd.keep _ _ _ _ _ _ (Step.of_same sm) B1.en.gh hP
      refine ⟨G2, Fs2, ρ2, _, [], B1.en, Apart.nilF ry, ρ3, ht, fun σ3 Fs3 C => ?_⟩
      have st3 : Step G2 H3 Fs2 G2 H3 Fs3 := (Step.refl G2 H3 Fs2).to2 (F := []) C.fs fun a ha => absurd ha (by simp)
      have B2 : AftN X.K ca nm (fun j => sets j (.for_ t i r)) G1 H1 Fs1 σ ρ3 G2 H3 Fs3 σ3 := ⟨B1.st.trans st3, C.en, C.ln.trans B1.ln, fun j hj => (C.sg j (Bool.or_eq_false_iff.mp hj).1).trans (B1.sg j hj)⟩
      have hP4 : Pp G2 H3 Fs3 := A.fd.keep _ _ _ _ _ _ st3 C.en.gh hP3
      have p2 : ∀ j, sets j (.for_ t i r) = false → setss j r = false := fun j hj => (Bool.or_eq_false_iff.mp hj).2
      refine ⟨G2, Fs3, ρ3, C.en, o1, ho1, ?_⟩
      cases o1 with
      | nx ρ4 => exact fun G5 H5 Fs5 σ5 Z => ⟨G5, Fs5, ρ4, B2.trans Z (fun _ z => z) p2, A.fd.keep _ _ _ _ _ _ Z.st Z.en.gh hP4, hw⟩
      | ct ρ4 => exact fun G5 H5 Fs5 σ5 Z => ⟨G5, Fs5, ρ4, B2.trans Z (fun _ z => z) p2, A.fd.keep _ _ _ _ _ _ Z.st Z.en.gh hP4, hw⟩
      | bk ρ4 =>
        cases hw
        exact fun G5 H5 Fs5 σ5 Z => k1 G5 H5 Fs5 σ5 (B2.trans Z (fun _ z => z) p2)
      | rt o ρ4 =>
        cases hw
        exact fun v G5 H5 Fs5 σ5 F Z ap bk => k1 v G5 H5 Fs5 σ5 F (B2.trans Z (fun _ z => z) p2) ap fun a ha => (bk a ha).elim (B2.st.nf a) fun z => .inr (B2.st.al a z)
    · have e : n = q.1.length := by omega
      subst e
      rw [List.drop_length] at hw
      cases hw
      exact .inl ⟨A.fd.stop G2 H2 Fs2 hP, k1 G2 H2 Fs2 σ2 B⟩
  · cases h
/-! ### comprehensions -/
theorem _root_.L2.PTs.imp {X : Cx} {e : List Expr} {t t' : TT} (h : PTs X e t) (w : ∀ σ H Q, t' σ H Q → t σ H Q) : PTs X e t' := ⟨fun pins s σ H Q I q => h.run pins s σ H Q I (w σ H Q q)⟩
theorem ts_nil : PTs X [] (tT X.K ca nm S (.con (.bl true))) := pts_nil.imp fun σ H Q ⟨G, Fs, ρ, E, r, b, h, hb, k⟩ => by
  cases h
  cases hb
  exact k G H Fs (Step.refl G H Fs) E fun _ => Same.refl H
theorem ts_one (h : PT X ec (tT X.K ca nm S c)) : PTs X [ec] (tT X.K ca nm S c) := pts_one h
end
end Ev

namespace Ev
open PySem L2

section
variable {K : PySem.W.Frag} {ca : Nat → Addr} {nm : Nat → Str} {S : Sg} {σ σ1 σ2 : L2.St} {G H G1 H1 G2 H2 : Hp} {Fs Fs1 Fs2 : Nat → List Addr} {ρ ρ1 ρ2 : Env} {v : V} {o : O} {F F1 F2 : List Addr} {pu : Bool} {a : Addr} {w w' : HO}
theorem fix_upd (h : H a = some w) (m : isMut w = true) : Fix H (upd H a w') := fun b u e n => by
  have : b ≠ a := fun z => by
    rw [z, h] at e
    cases e
    rw [m] at n
    cases n
  rw [upd_ne this]
  exact e
/-- a thing that no name holds changes -/
theorem EnvR.upd (E : EnvR K ca nm G H σ ρ Fs) (h : H a = some w) (m : isMut w = true) (no : ¬ InF Fs a) (ng : G a = none) : EnvR K ca nm G (L2.upd H a w') σ ρ Fs := by
  have k : ∀ b ∈ ([] : List Addr), True := fun _ _ => trivial
  refine ⟨fun b u e => ?_, E.ln, fun i o e => ?_, E.nl, E.nd, E.dj, E.gf⟩
  · have : b ≠ a := fun z => by rw [z, ng] at e; cases e
    rw [upd_ne this]
    exact E.gh b u e
  · obtain ⟨v, h1, r⟩ := E.sl i o e
    exact ⟨v, h1, r.mono (Sub.refl G) (fix_upd h m) fun b hb u hu => by
      have : b ≠ a := fun z => no (by rw [← z]; exact ⟨i, hb⟩)
      rw [upd_ne this]
      exact hu⟩
/-- what changes was new at the start -/
theorem Step.upd (st : Step G H Fs G1 H1 Fs1) (h : H1 a = some w) (n : H a = none) : Step G H Fs G1 (L2.upd H1 a w') Fs1 := by
  refine ⟨st.g, fun b u e nn => ?_, fun b u e mm => ?_, fun b e => ?_, st.nf, st.ng⟩
  · rw [upd_ne (ne_of_none e n)]
    exact st.fr b u e nn
  · rw [upd_ne (ne_of_none e n)]
    exact st.fx b u e mm
  · by_cases hb : b = a
    · rw [hb]; exact n
    · rw [upd_ne hb] at e
      exact st.al b e
theorem wipeE_get : ∀ (own : List Nat) (ρ : Env) (i : Nat), gt (wipeE ρ own) i = if i ∈ own then none else gt ρ i
  | [], ρ, i => by simp [wipeE]
  | j :: own, ρ, i => by
    rw [wipeE, wipeE_get own]
    by_cases h1 : i ∈ own
    · simp [h1]
    · by_cases h2 : i = j
      · subst h2
        simp [h1]
        rcases Nat.lt_or_ge i ρ.length with q | q
        · rw [gt_pt_same q]
        · unfold gt pt
          rw [List.getElem?_eq_none (by simpa using q)]
          rfl
      · simp [h1, h2, gt_pt_ne h2]
theorem wipeE_len : ∀ (own : List Nat) (ρ : Env), (wipeE ρ own).length = ρ.length
  | [], _ => rfl
  | j :: own, ρ => by rw [wipeE, wipeE_len own, pt_length]
theorem backE_get : ∀ (own : List Nat) (ρ0 ρ : Env) (i : Nat), i < ρ.length → gt (backE ρ0 own ρ) i = if i ∈ own then gt ρ0 i else gt ρ i
  | [], _, ρ, i, _ => by simp [backE]
  | j :: own, ρ0, ρ, i, hi => by
    rw [backE, backE_get own _ _ i (by rw [pt_length]; exact hi)]
    by_cases h1 : i ∈ own
    · simp [h1]
    · by_cases h2 : i = j
      · subst h2
        simp [h1, gt_pt_same hi]
      · simp [h1, h2, gt_pt_ne h2]
theorem backE_len : ∀ (own : List Nat) (ρ0 ρ : Env), (backE ρ0 own ρ).length = ρ.length
  | [], _, _ => rfl
  | j :: own, ρ0, ρ => by rw [backE, backE_len own, pt_length]
def lessF (Fs : Nat → List Addr) (own : List Nat) : Nat → List Addr := fun i => if i ∈ own then [] else Fs i
theorem in_lessF {own : List Nat} {a : Addr} (h : InF (lessF Fs own) a) : ∃ i, i ∉ own ∧ a ∈ Fs i := by
  obtain ⟨i, h⟩ := h
  unfold lessF at h
  split at h
  · cases h
  · exact ⟨i, ‹_›, h⟩
theorem wipe_in {vs : List Nat} {i : Nat} (h : i ∉ vs) : (wipe σ vs)[i]? = σ[i]? := wipe_out h
theorem EnvR.wiped (E : EnvR K ca nm G H σ ρ Fs) (own : List Nat) : EnvR K ca nm G H (wipe σ own) (wipeE ρ own) (lessF Fs own) := by
  refine ⟨E.gh, by rw [wipeE_len, wipe_length]; exact E.ln, fun i o e => ?_, fun i e => ?_, fun i => ?_, fun i j a h1 h2 => ?_, fun i a h => ?_⟩
  · rw [wipeE_get] at e
    split at e
    · cases e
    · rename_i hi
      obtain ⟨v, h1, r⟩ := E.sl i o e
      refine ⟨v, by rw [wipe_in hi]; exact h1, ?_⟩
      unfold lessF
      rw [if_neg hi]
      exact r
  · rw [wipeE_get] at e
    unfold lessF
    split
    · rfl
    · rename_i hi
      rw [if_neg hi] at e
      exact E.nl i e
  · unfold lessF
    split
    · exact List.nodup_nil
    · exact E.nd i
  · unfold lessF at h1 h2
    split at h1
    · cases h1
    · split at h2
      · cases h2
      · exact E.dj i j a h1 h2
  · unfold lessF at h
    split at h
    · cases h
    · exact E.gf i a h
/-- the comprehension's own names have their old things again -/
theorem EnvR.unwiped {own : List Nat} (E : EnvR K ca nm G H σ ρ Fs) (st : Step G H (lessF Fs own) G1 H1 Fs1) (E1 : EnvR K ca nm G1 H1 σ1 ρ1 Fs1) (hs : wipe σ1 own = wipe σ own) (hl : ρ1.length = ρ.length) :
    EnvR K ca nm G1 H1 σ (backE ρ own ρ1) (fun i => if i ∈ own then Fs i else Fs1 i) := by
  have out : ∀ i a, i ∈ own → a ∈ Fs i → ¬ InF (lessF Fs own) a := fun i a hi ha z => by
    obtain ⟨j, hj, hz⟩ := in_lessF z
    have := E.dj i j a ha hz
    exact hj (this ▸ hi)
  have notF1 : ∀ i a, i ∈ own → a ∈ Fs i → ¬ InF Fs1 a := fun i a hi ha z => by
    rcases st.nf a z with z | z
    · exact out i a hi ha z
    · exact E.new z ⟨i, ha⟩
  have notG1 : ∀ i a, i ∈ own → a ∈ Fs i → G1 a = none := fun i a hi ha => by
    cases e : G1 a with
    | none => rfl
    | some u =>
      rcases st.ng a u e with z | z | z
      · rw [E.gf i a ha] at z; cases z
      · exact absurd z (out i a hi ha)
      · exact absurd ⟨i, ha⟩ (E.new z)
  have len1 : ∀ i o, gt (backE ρ own ρ1) i = some o → i < ρ1.length := fun i o e => by
    have := gt_lt e
    rw [backE_len] at this
    exact this
  refine ⟨E1.gh, by rw [backE_len, hl]; exact E.ln, fun i o e => ?_, fun i e => ?_, fun i => ?_, fun i j a h1 h2 => ?_, fun i a h => ?_⟩
  · have hi := len1 i o e
    rw [backE_get own ρ ρ1 i hi] at e
    by_cases ho : i ∈ own
    · rw [if_pos ho] at e
      obtain ⟨v, h1, r⟩ := E.sl i o e
      refine ⟨v, h1, ?_⟩
      show RepO K ca nm G1 H1 v o (if i ∈ own then Fs i else Fs1 i)
      rw [if_pos ho]
      exact r.mono st.g st.fx fun a ha u hu => st.fr a u hu (out i a ho ha)
    · rw [if_neg ho] at e
      obtain ⟨v, h1, r⟩ := E1.sl i o e
      refine ⟨v, ?_, ?_⟩
      · rw [← wipe_in (σ := σ) ho, ← hs, wipe_in ho]
        exact h1
      · show RepO K ca nm G1 H1 v o (if i ∈ own then Fs i else Fs1 i)
        rw [if_neg ho]
        exact r
  · show (if i ∈ own then Fs i else Fs1 i) = []
    rcases Nat.lt_or_ge i ρ1.length with hi | hi
    · rw [backE_get own ρ ρ1 i hi] at e
      split
      · rename_i ho
        rw [if_pos ho] at e
        exact E.nl i e
      · rename_i ho
        rw [if_neg ho] at e
        exact E1.nl i e
    · split
      · refine E.nl i ?_
        unfold gt
        rw [List.getElem?_eq_none (by rw [← hl]; exact hi)]
        rfl
      · refine E1.nl i ?_
        unfold gt
        rw [List.getElem?_eq_none hi]
        rfl
  · show (if i ∈ own then Fs i else Fs1 i).Nodup
    split
    · exact E.nd i
    · exact E1.nd i
  · have h1' : a ∈ (if i ∈ own then Fs i else Fs1 i) := h1
    have h2' : a ∈ (if j ∈ own then Fs j else Fs1 j) := h2
    split at h1'
    · split at h2'
      · exact E.dj i j a h1' h2'
      · exact absurd ⟨j, h2'⟩ (notF1 i a ‹_› h1')
    · split at h2'
      · exact absurd ⟨i, h1'⟩ (notF1 j a ‹_› h2')
      · exact E1.dj i j a h1' h2'
  · have h' : a ∈ (if i ∈ own then Fs i else Fs1 i) := h
    split at h'
    · exact notG1 i a ‹_› h'
    · exact E1.gf i a h'
theorem Step.moreF (st : Step G H Fs G1 H1 Fs1) (w : ∀ a, InF Fs a → InF Fs2 a) : Step G H Fs2 G1 H1 Fs1 :=
  ⟨st.g, fun a o h n => st.fr a o h fun z => n (w a z), st.fx, st.al, fun a h => (st.nf a h).imp (w a) id, fun a o h => (st.ng a o h).imp id (Or.imp (w a) id)⟩
theorem env_ext {ρ ρ' : Env} (hl : ρ.length = ρ'.length) (h : ∀ i, gt ρ i = gt ρ' i) : ρ = ρ' := by
  refine List.ext_getElem? fun i => ?_
  have := h i
  unfold gt at this
  rcases Nat.lt_or_ge i ρ.length with q | q
  · rw [List.getElem?_eq_getElem q, List.getElem?_eq_getElem (hl ▸ q)] at this ⊢
    exact congrArg some this
  · rw [List.getElem?_eq_none q, List.getElem?_eq_none (hl ▸ q)]
theorem backE_wipe (ρ0 ρ : Env) (own : List Nat) : backE ρ0 own (wipeE ρ own) = backE ρ0 own ρ := by
  refine env_ext (by rw [backE_len, backE_len, wipeE_len]) fun i => ?_
  rcases Nat.lt_or_ge i ρ.length with q | q
  · rw [backE_get own _ _ i (by rw [wipeE_len]; exact q), backE_get own _ _ i q]
    split
    · rfl
    · rw [wipeE_get, if_neg ‹_›]
  · unfold gt
    rw [List.getElem?_eq_none (by rw [backE_len, wipeE_len]; exact q), List.getElem?_eq_none (by rw [backE_len]; exact q)]
theorem Apart.upd {vs : List V} {os : List O} (A : Apart K ca nm G H Fs vs os F) (h : H a = some w) (m : isMut w = true) (no : a ∉ F) : Apart K ca nm G (L2.upd H a w') Fs vs os F :=
  ⟨A.rp.mono (Sub.refl G) (fix_upd h m) fun b hb u hu => by
    have : b ≠ a := fun z => no (by rw [← z]; exact hb)
    rw [upd_ne this]
    exact hu, A.nd, A.no, A.ng⟩
end
section
variable {ca : Nat → Addr} {nm : Nat → Str} {S : Sg} {X : Cx} {elt tg it : Expr} {ifs : List Expr} {x c : Ex} {t : Tg} {i : It} {scope : Scope} {own : List (Str × Nat)} {pos : Pos}
/-- the comprehension's reading -/
theorem comp_ok {σ : L2.St} {H : Hp} {Q : VK} (hn : σ.length = X.N.length) (h : tE X.K ca nm S (.comp t i c x (own.map (·.2))) σ H Q) (hown : ∀ j, tgSets t j = true → j ∈ own.map (·.2)) :
    tLc (tIt X.K ca nm S i) (tG X.K ca nm t) (tT X.K ca nm S c) (tR X.K ca nm S x) (own.map (·.2)) σ H Q := by
  obtain ⟨G, Fs, ρ, E, o, p, ρ', hv, k⟩ := h
  unfold ev at hv
  obtain ⟨r, hr, hv⟩ := bind_some hv
  split at hv
  · rename_i hlim
    obtain ⟨q, hq, hv⟩ := map_some hv
    cases hv
    generalize hvs : own.map (·.2) = vs at *
    refine ⟨G, Fs, ρ, E, r, hr, fun J G1 H1 Fs1 F1 Pp A D hD => ?_⟩
    -- the state at the turns
    let LI : Nat → Hp → Prop := fun n H' => ∃ G' Fs' ρn acc os F, EnvR X.K ca nm G' H' (wipe σ vs) (wipeE ρn vs) Fs' ∧ ρn.length = r.2.1.length ∧ Step G1 H1 (lessF Fs1 vs) G' H' Fs' ∧ ((pureX S c && pureX S x) = true → Same H1 H') ∧ H' D = some (.lst acc) ∧ D ∉ F ∧ ¬ InF Fs' D ∧ G' D = none ∧
      Apart X.K ca nm G' H' Fs' acc os F ∧ (∀ a ∈ F, InF (lessF Fs1 vs) a ∨ H1 a = none) ∧ os.length ≤ n ∧ compL vs t (fun ρ => (ev S c ρ).map fun x => (x.1, x.2.2)) (fun ρ => (ev S x ρ).map (retE x)) (r.1.drop n) ρn os = some q
    have E1 := A.en.wiped vs
    have sD := same_new (u := .lst []) hD
    have h0 : LI 0 (upd H1 D (.lst [])) := by
      exact ⟨G1, lessF Fs1 vs, r.2.1, [], [], [], E1.ext sD, rfl, Step.of_same sD, fun _ => sD, upd_same, by simp, E1.new hD, E1.gnew hD, ⟨.nil, List.nodup_nil, fun a h => absurd h (by simp), fun a h => absurd h (by simp)⟩, fun a h => absurd h (by simp), Nat.le_refl _, by simpa using hq⟩
    have less1 : ∀ a, InF (lessF Fs1 vs) a → InF Fs1 a := fun a ha => by
      obtain ⟨j, _, hj⟩ := in_lessF ha
      exact ⟨j, hj⟩
    have getP : ∀ {G' H' Fs'}, Step G1 H1 (lessF Fs1 vs) G' H' Fs' → Sub G' H' → Pp G' H' Fs' := fun st gh => A.fd.keep _ _ _ _ _ _ (st.moreF less1) gh A.pp
    refine ⟨fun n m H' => m = r.1.length - n ∧ n ≤ r.1.length ∧ LI n H', ⟨r.1.length, by simp, Nat.zero_le _, h0⟩, ?_⟩
    rintro n m H2 ⟨rfl, hn2, hLI⟩
    obtain ⟨G2, Fs2, ρ2, acc, os, F, E2, hl2, st2, sm2, hD2, hDF, hDn, hDg, ap2, bk2, hlen2, hw⟩ := hLI
    have hP2 : Pp G2 H2 Fs2 := getP st2 E2.gh
    rcases Nat.lt_or_ge n r.1.length with hlt | hge
    · refine .inr ⟨A.fd.go G2 H2 Fs2 n hP2 hlt, LI (n + 1), fun H' z => ⟨r.1.length - (n + 1), by omega, rfl, hlt, z⟩, fun y H3 hy => ?_⟩
      have hd : r.1[n]? = some r.1[n] := List.getElem?_eq_getElem hlt
      obtain ⟨sm, ry⟩ := A.fd.yld G2 H2 Fs2 n y H3 r.1[n] hP2 hd hy
      rw [List.drop_eq_getElem_cons hlt] at hw
      unfold compL at hw
      obtain ⟨ρ3, ht, hw⟩ := bind_some hw
      obtain ⟨rc, hc, hw⟩ := bind_some hw
      obtain ⟨b, hb, hw⟩ := bind_some hw
      obtain ⟨zc, hzc, ec⟩ := map_some hc
      have E3 := E2.ext sm
      have st3 : Step G2 H2 Fs2 G2 H3 Fs2 := Step.of_same sm
      refine ⟨G2, Fs2, _, _, [], E3, Apart.nilF ry, ρ3, ht, fun σ4 Fs4 C => ⟨?_, ?_⟩⟩
      · -- the own names alone have changed
        refine List.ext_getElem? fun j => ?_
        by_cases hj : j ∈ vs
        · have e1 : ∀ σ : L2.St, j < σ.length → (wipe σ vs)[j]? = some none := fun σ' hl => by
            cases e : (wipe σ' vs)[j]? with
            | none =>
              have := List.getElem?_eq_none_iff.mp e
              rw [wipe_length] at this
              omega
            | some z =>
              cases z with
              | none => rfl
              | some z => exact absurd hj (wipe_some e).2
          rcases Nat.lt_or_ge j σ.length with q1 | q1
          · rw [e1 σ q1, e1 σ4 (by rw [C.ln, wipe_length]; exact q1)]
          · rw [List.getElem?_eq_none (by rw [wipe_length, C.ln, wipe_length]; exact q1), List.getElem?_eq_none (by rw [wipe_length]; exact q1)]
        · rw [wipe_in hj]
          refine C.sg j ?_
          cases e : tgSets t j with
          | false => rfl
          | true => exact absurd (hown j e) hj
      · have st4 : Step G2 H3 Fs2 G2 H3 Fs4 := (Step.refl G2 H3 Fs2).to2 (F := []) C.fs fun a ha => absurd ha (by simp)
        refine ⟨G2, Fs4, ρ3, C.en, zc, b, hzc, by rw [← ec] at hb; exact hb, fun G5 H5 Fs5 st5 en5 pu5 => ?_⟩
        have stA : Step G2 H2 Fs2 G5 H5 Fs5 := (st3.trans st4).trans st5
        -- what stands apart stands on
        have keepD : ∀ {G6 H6 Fs6}, Step G2 H2 Fs2 G6 H6 Fs6 → H6 D = some (.lst acc) ∧ ¬ InF Fs6 D ∧ G6 D = none := fun {G6 H6 Fs6} s6 => by
          refine ⟨s6.fr D _ hD2 hDn, fun z => ?_, ?_⟩
          · rcases s6.nf D z with z | z
            · exact hDn z
            · rw [hD2] at z; cases z
          · cases e : G6 D with
            | none => rfl
            | some u =>
              rcases s6.ng D u e with z | z | z
              · rw [hDg] at z; cases z
              · exact absurd z hDn
              · rw [hD2] at z; cases z
        subst ec
        have lenE : ∀ {σ' ρ'' G6 H6 Fs6}, EnvR X.K ca nm G6 H6 σ' ρ'' Fs6 → σ'.length = σ4.length → ρ''.length = r.2.1.length := fun {σ' ρ'' G6 H6 Fs6} E6 e => by
          rw [E6.ln, e, C.ln, wipe_length, ← A.en.ln]
        have rewipe : ∀ {ρ'' G6 H6 Fs6}, EnvR X.K ca nm G6 H6 σ4 ρ'' Fs6 → EnvR X.K ca nm G6 H6 (wipe σ vs) (wipeE ρ'' vs) (lessF Fs6 vs) := fun {ρ'' G6 H6 Fs6} E6 => by
          have := E6.wiped vs
          have es : wipe σ4 vs = wipe σ vs := by
            refine List.ext_getElem? fun j => ?_
            by_cases hj : j ∈ vs
            · have e1 : ∀ σ : L2.St, j < σ.length → (wipe σ vs)[j]? = some none := fun σ' hl => by
                cases e : (wipe σ' vs)[j]? with
                | none =>
                  have := List.getElem?_eq_none_iff.mp e
                  rw [wipe_length] at this
                  omega
                | some z =>
                  cases z with
                  | none => rfl
                  | some z => exact absurd hj (wipe_some e).2
              rcases Nat.lt_or_ge j σ.length with q1 | q1
              · rw [e1 σ q1, e1 σ4 (by rw [C.ln, wipe_length]; exact q1)]
              · rw [List.getElem?_eq_none (by rw [wipe_length, C.ln, wipe_length]; exact q1), List.getElem?_eq_none (by rw [wipe_length]; exact q1)]
            · rw [wipe_in hj, C.sg j (by
                cases e : tgSets t j with
                | false => rfl
                | true => exact absurd (hown j e) hj), wipe_in hj]
          rw [es] at this
          exact this
        have lessW : ∀ {Fs6 : Nat → List Addr} a, InF (lessF Fs6 vs) a → InF Fs6 a := fun {Fs6} a ha => by
          obtain ⟨j, _, hj⟩ := in_lessF ha
          exact ⟨j, hj⟩
        cases b with
        | true =>
          refine iteT ?_
          obtain ⟨qe, hqe, hw⟩ := bind_some hw
          obtain ⟨ze, hze, ee⟩ := map_some hqe
          subst ee
          refine ⟨G5, Fs5, _, en5, ze, hze, fun v G6 H6 Fs6 F6 B => ?_⟩
          have st6 : Step G2 H2 Fs2 G6 H6 Fs6 := stA.trans B.st
          obtain ⟨d1, d2, d3⟩ := keepD st6
          have ap6 := ap2.step st6
          have hDF6 : D ∉ F6 := fun z => by
            rcases (B.pv.2 D z).2.2 with w | w
            · exact (keepD stA).2.1 w
            · rw [(keepD stA).1] at w; cases w
          have th : ∀ a ∈ F, H2 a ≠ none := fun a ha z => by
            obtain ⟨u, e, _⟩ := ap2.rp.there a ha
            rw [z] at e; cases e
          have back6 : ∀ a ∈ F6, InF Fs2 a ∨ H2 a = none := fun a ha => by
            rcases (B.pv.2 a ha).2.2 with z | z
            · exact stA.nf a z
            · exact .inr (stA.al a z)
          have dj : ∀ a ∈ F, a ∉ F6 := fun a ha z => by
            rcases back6 a z with w | w
            · exact ap2.no a ha w
            · exact th a ha w
          refine ⟨acc, d1, ?_, ?_⟩
          · have := ap2.rp.length
            rw [this]
            exact Nat.lt_of_le_of_lt hlen2 (Nat.lt_of_lt_of_le hlt (lim_line hlim))
          · have Ew := (rewipe B.en)
            have nD : ¬ InF (lessF Fs6 vs) D := fun z => d2 (lessW D z)
            have st6' : Step G1 H1 (lessF Fs1 vs) G6 H6 (lessF Fs6 vs) := (st2.trans st6).weakF lessW
            refine ⟨G6, lessF Fs6 vs, _, acc ++ [v], os ++ [(retE x ze).1], F ++ F6, Ew.upd d1 rfl nD d3, lenE B.en rfl, st6'.upd d1 hD, fun pq => ?_, upd_same, fun z => (List.mem_append.mp z).elim hDF hDF6, nD, d3, ?_, fun a ha => ?_, ?_, hw⟩
            · intro a u hu
              have h5 : H6 a = some u := B.pu (and_r pq) a u (pu5 (and_l pq) a u (sm a u (sm2 pq a u hu)))
              rw [upd_ne (ne_of_none hu hD)]
              exact h5
            · have a1 := ap6.upd (w' := .lst (acc ++ [v])) d1 rfl hDF
              have a2 := B.apart.upd (w' := .lst (acc ++ [v])) d1 rfl hDF6
              refine ⟨a1.rp.append a2.rp, List.nodup_append.mpr ⟨a1.nd, a2.nd, fun a h1 b h2 e => dj a h1 (e ▸ h2)⟩, fun a ha z => ?_, fun a ha => ?_⟩
              · rcases List.mem_append.mp ha with h | h
                · exact a1.no a h (lessW a z)
                · exact a2.no a h (lessW a z)
              · rcases List.mem_append.mp ha with h | h
                · exact a1.ng a h
                · exact a2.ng a h
            · rcases List.mem_append.mp ha with h | h
              · exact bk2 a h
              · rcases back6 a h with z | z
                · exact st2.nf a z
                · exact .inr (st2.al a z)
            · rw [List.length_append, List.length_singleton]
              omega
        | false =>
          refine iteF ?_
          refine ⟨G5, lessF Fs5 vs, _, acc, os, F, rewipe en5, lenE en5 rfl, (st2.trans stA).weakF lessW, fun pq => ((sm2 pq).trans sm).trans (pu5 (and_l pq)), (keepD stA).1, hDF, fun z => (keepD stA).2.1 (lessW D z), (keepD stA).2.2, ?_, bk2, by omega, hw⟩
          · have := ap2.step stA
            exact ⟨this.rp, this.nd, fun a ha z => this.no a ha (lessW a z), this.ng⟩
    · have e : n = r.1.length := by omega
      subst e
      rw [List.drop_length] at hw
      cases hw
      refine .inl ⟨A.fd.stop G2 H2 Fs2 hP2, ?_⟩
      have hww : wipe (wipe σ vs) vs = wipe σ vs := by
        refine List.ext_getElem? fun j => ?_
        by_cases hj : j ∈ vs
        · have e1 : ∀ σ : L2.St, j < σ.length → (wipe σ vs)[j]? = some none := fun σ' hl => by
            cases e : (wipe σ' vs)[j]? with
            | none =>
              have := List.getElem?_eq_none_iff.mp e
              rw [wipe_length] at this
              omega
            | some z =>
              cases z with
              | none => rfl
              | some z => exact absurd hj (wipe_some e).2
          rcases Nat.lt_or_ge j σ.length with q1 | q1
          · rw [e1 σ q1, e1 (wipe σ vs) (by rw [wipe_length]; exact q1)]
          · rw [List.getElem?_eq_none (by rw [wipe_length, wipe_length]; exact q1), List.getElem?_eq_none (by rw [wipe_length]; exact q1)]
        · rw [wipe_in hj]
      have U := EnvR.unwiped A.en st2 E2 hww (by rw [wipeE_len]; exact hl2)
      rw [backE_wipe] at U
      have stU : Step G1 H1 Fs1 G2 H2 (fun i => if i ∈ vs then Fs1 i else Fs2 i) := by
        have s1 := st2.moreF less1
        refine ⟨s1.g, s1.fr, s1.fx, s1.al, fun a ⟨i, ha⟩ => ?_, s1.ng⟩
        have ha' : a ∈ (if i ∈ vs then Fs1 i else Fs2 i) := ha
        split at ha'
        · exact .inl ⟨i, ha'⟩
        · exact s1.nf a ⟨i, ha'⟩
      obtain ⟨Fs3, E3, h3⟩ := hid_back U (A.hd.step (ρ2 := r.2.1) stU) fun i o e => rfl
      have no1 : ∀ a ∈ F, ¬ InF (fun i => if i ∈ vs then Fs1 i else Fs2 i) a := fun a ha ⟨i, z⟩ => by
        have z' : a ∈ (if i ∈ vs then Fs1 i else Fs2 i) := z
        split at z'
        · rename_i hi
          rcases bk2 a ha with w | w
          · obtain ⟨j, hj, hz⟩ := in_lessF w
            exact hj (A.en.dj i j a z' hz ▸ hi)
          · exact A.en.new w ⟨i, z'⟩
        · exact ap2.no a ha ⟨i, z'⟩
      have noD : ¬ InF (fun i => if i ∈ vs then Fs1 i else Fs2 i) D := fun ⟨i, z⟩ => by
        have z' : D ∈ (if i ∈ vs then Fs1 i else Fs2 i) := z
        split at z'
        · exact A.en.new hD ⟨i, z'⟩
        · exact hDn ⟨i, z'⟩
      have S2 : Step G H Fs G2 H2 Fs3 := (A.st.trans stU).to2 h3 A.bk
      refine k _ G2 H2 Fs3 (D :: F) ⟨S2, E3, .lst hD2 ap2.rp, ⟨List.nodup_cons.mpr ⟨hDF, ap2.nd⟩, fun a ha => ?_⟩, fun pq => (A.pu (and_l pq)).trans (sm2 (and_r pq))⟩
      rcases List.mem_cons.mp ha with z | ha
      · subst z
        refine ⟨fun z => ?_, hDg, .inr (A.st.al _ hD)⟩
        rcases h3 _ z with z | z
        · exact noD z
        · exact (A.hd.outs z).2 hD
      · refine ⟨fun z => ?_, ap2.ng a ha, ?_⟩
        · rcases h3 a z with z | z
          · exact no1 a ha z
          · rcases bk2 a ha with w | w
            · exact (A.hd.outs z).1 (less1 a w)
            · exact (A.hd.outs z).2 w
        · rcases bk2 a ha with w | w
          · exact A.st.nf a (less1 a w)
          · exact .inr (A.st.al a w)
  · cases hv
theorem s_comp {it : Expr} (hc : X.calm = true) (hN : X.N.Nodup) (hi : PI X tg it (tIt X.K ca nm S i)) (ok : BlkOk X.N X.env.scope scope own)
    (hg : ∀ (s : Shared) (H : Hp) (C : Addr) (cl : List (Str × Addr)) (fp : List Addr), PG (X.blk s H scope (compEnvC scope cl C X.env) fp) tg (tG X.K ca nm t))
    (ht : ∀ (s : Shared) (H : Hp) (C : Addr) (cl : List (Str × Addr)) (fp : List Addr), PTs (X.blk s H scope (compEnvC scope cl C X.env) fp) ifs (tT X.K ca nm S c))
    (he : ∀ (s : Shared) (H : Hp) (C : Addr) (cl : List (Str × Addr)) (fp : List Addr), PE (X.blk s H scope (compEnvC scope cl C X.env) fp) elt (tE X.K ca nm S x))
    (hown : ∀ j, tgSets t j = true → j ∈ own.map (·.2)) (hfd : ∀ x, foldedSetIterable it X.env x = pure x := by intro _; rfl) :
    PE X (.ListComp elt [⟨tg, it, ifs, 0⟩] scope pos) (tE X.K ca nm S (.comp t i c x (own.map (·.2)))) := by
  have h0 := pe_lc (te := tR X.K ca nm S x) (pos := pos) hc hN hi ok hg ht (fun s H C cl fp => (he s H C cl fp).ret) hfd
  exact ⟨fun pins s σ H Q I q => h0.run pins s σ H Q I (comp_ok I.len q hown)⟩
/-- y = [..] -/
theorem z_setC {it : Expr} {k : Nat} {y : Str} {py spos : Pos} (hc : X.calm = true) (hN : X.N.Nodup) (hk : X.N[k]? = some y) (hy : X.env.scope.names.lookup y = some .local)
    (hsw : swapsWith (.ListComp elt [⟨tg, it, ifs, 0⟩] scope pos) (some (.Name y py)) spos.line X.env = pure true)
    (hi : PI X tg it (tIt X.K ca nm S i)) (ok : BlkOk X.N X.env.scope scope own)
    (hg : ∀ (s : Shared) (H : Hp) (C : Addr) (cl : List (Str × Addr)) (fp : List Addr), PG (X.blk s H scope (compEnvC scope cl C X.env) fp) tg (tG X.K ca nm t))
    (ht : ∀ (s : Shared) (H : Hp) (C : Addr) (cl : List (Str × Addr)) (fp : List Addr), PTs (X.blk s H scope (compEnvC scope cl C X.env) fp) ifs (tT X.K ca nm S c))
    (he : ∀ (s : Shared) (H : Hp) (C : Addr) (cl : List (Str × Addr)) (fp : List Addr), PE (X.blk s H scope (compEnvC scope cl C X.env) fp) elt (tE X.K ca nm S x))
    (hown : ∀ j, tgSets t j = true → j ∈ own.map (·.2)) (hfd : ∀ x, foldedSetIterable it X.env x = pure x := by intro _; rfl) :
    PS X (.Assign [.Name y py] (.ListComp elt [⟨tg, it, ifs, 0⟩] scope pos) spos) (tS X.K ca nm S (.set k (.comp t i c x (own.map (·.2))))) := by
  have h0 := ps_setLc (te := tR X.K ca nm S x) (pos := pos) hc hN hk hy hsw hi ok hg ht (fun s H C cl fp => (he s H C cl fp).ret) hfd
  refine ⟨fun pins s σ H D I q => h0.run pins s σ H D I ?_⟩
  have hl : k < σ.length := by rw [I.len]; exact (List.getElem?_eq_some_iff.mp hk).1
  obtain ⟨G, Fs, ρ, E, out, hv, kk⟩ := q
  unfold ex at hv
  obtain ⟨z, hz, hv⟩ := map_some hv
  subst hv
  obtain ⟨o, p, ρ'⟩ := z
  refine comp_ok I.len ⟨G, Fs, ρ, E, o, p, ρ', hz, fun v G1 H1 Fs1 F1 A => ?_⟩ hown
  obtain ⟨G2, Fs2, F2, A2⟩ := ret_ok (x := .comp t i c x (own.map (·.2))) (fun hv => by cases hv) A
  obtain ⟨Fs3, B⟩ := store_aft (P := fun j => sets j (.set k (.comp t i c x (own.map (·.2))))) A2 hl fun j hj z => by
    subst z
    have : (j == j) = false := hj
    simp at this
  exact kk G2 H1 Fs3 _ B
end
end Ev

namespace Ev
open PySem L2

section
variable {K : PySem.W.Frag} {ca : Nat → Addr} {nm : Nat → Str} {S : Sg} {σ σ1 σ2 : L2.St} {G H G1 H1 G2 H2 : Hp} {Fs Fs1 Fs2 : Nat → List Addr} {ρ ρ1 ρ2 : Env} {v : V} {o o' : O} {F F1 F2 Fe : List Addr} {pu : Bool} {a : Addr} {w w' : HO}
/-- an own thing changes -/
theorem Step.updIn (E : EnvR K ca nm G H σ ρ Fs) (h : H a = some w) (m : isMut w = true) (hi : InF Fs a) : Step G H Fs G (L2.upd H a w') Fs :=
  ⟨Sub.refl G, fun b u e n => by
    have : b ≠ a := fun z => n (by rw [z]; exact hi)
    rw [upd_ne this]
    exact e, fix_upd h m, fun b e => by
    by_cases hb : b = a
    · rw [hb, upd_same] at e; cases e
    · rw [upd_ne hb] at e; exact e, fun b hb => .inl hb, fun b u e => .inl e⟩
theorem root_mut {i : Nat} (E : EnvR K ca nm G H σ ρ Fs) (hv : σ[i]? = some (some v)) (h : H a = some w) (m : isMut w = true) (hi : a ∈ Fs i)
    (r : RepO K ca nm G (L2.upd H a w') v o' F) (nd : F.Nodup) (hF : ∀ b ∈ F, b ∈ Fs i ∨ b ∈ Fe) (no : ∀ b ∈ Fe, ¬ InF Fs b) (ng : ∀ b ∈ Fe, G b = none) :
    ∃ Fs', EnvR K ca nm G (L2.upd H a w') σ (pt ρ i (some o')) Fs' ∧ ∀ b, InF Fs' b → InF Fs b ∨ b ∈ Fe := by
  have E2 := (E.drop i).upd (w' := w') h m (dropF_out E hi) (E.gf i a hi)
  have hl : i < ρ.length := by rw [E.ln]; exact (List.getElem?_eq_some_iff.mp hv).1
  have E3 := E2.put (i := i) (v := v) (o := o') (F := F) (gt_pt_same hl) hv r nd (fun b hb z => by
    rcases hF b hb with q | q
    · exact dropF_out E q z
    · exact no b q (dropF_in z)) fun b hb => (hF b hb).elim (E.gf i b) (ng b)
  rw [pt_pt] at E3
  refine ⟨_, E3, fun b hb => ?_⟩
  rcases in_setF hb with z | z
  · exact .inl (dropF_in z)
  · exact (hF b z).imp (fun q => ⟨i, q⟩) id
theorem ownL_eq {o : O} {os : List O} (h : ownL o = some os) : o = .lst os := by
  cases o with
  | lst os' => cases h; rfl
  | _ => cases h
theorem RepOs.set {vs : List V} {os : List O} {F : List Addr} : ∀ {n : Nat}, RepOs K ca nm G H vs os F → n < os.length → RepO K ca nm G H v o Fe → ∃ F', RepOs K ca nm G H (vs.set n v) (os.set n o) F' ∧ (F.Nodup → Fe.Nodup → (∀ b ∈ Fe, b ∉ F) → F'.Nodup) ∧ ∀ b ∈ F', b ∈ F ∨ b ∈ Fe := by
  intro n r
  induction r using RepOs.rec (motive_1 := fun _ _ _ _ => True) generalizing n with
  | nil => intro h; cases h
  | @cons v0 vs0 o0 os0 Fa Fb r rr _ ih =>
    intro h re
    cases n with
    | zero =>
      refine ⟨Fe ++ Fb, .cons re rr, fun n1 n2 d => ?_, fun b hb => ?_⟩
      · obtain ⟨_, h2, _⟩ := List.nodup_append.mp n1
        exact List.nodup_append.mpr ⟨n2, h2, fun x hx y hy e => d x hx (List.mem_append_right _ (e ▸ hy))⟩
      · rcases List.mem_append.mp hb with z | z
        · exact .inr z
        · exact .inl (List.mem_append_right _ z)
    | succ n =>
      obtain ⟨F', r', h1, h2⟩ := ih (n := n) (by simpa using h) re
      refine ⟨Fa ++ F', .cons r r', fun n1 n2 d => ?_, fun b hb => ?_⟩
      · obtain ⟨g1, g2, g3⟩ := List.nodup_append.mp n1
        refine List.nodup_append.mpr ⟨g1, h1 g2 n2 fun b hb z => d b hb (List.mem_append_right _ z), fun x hx y hy e => ?_⟩
        rcases h2 y hy with z | z
        · exact g3 x hx y z e
        · exact d y z (List.mem_append_left _ (e ▸ hx))
      · rcases List.mem_append.mp hb with z | z
        · exact .inl (List.mem_append_left _ z)
        · exact (h2 b z).imp (List.mem_append_right _) id
  | _ => trivial
/-- the nodes below, where their own root changes -/
theorem RepOs.updN {vs : List V} {os : List O} {F : List Addr} (r : RepOs K ca nm G H vs os F) (h : H a = some w) (m : isMut w = true) (no : a ∉ F) : RepOs K ca nm G (L2.upd H a w') vs os F :=
  r.mono (Sub.refl G) (fix_upd h m) fun b hb u e => by
    have : b ≠ a := fun z => no (z ▸ hb)
    rw [upd_ne this]
    exact e
theorem RepO.updN (r : RepO K ca nm G H v o F) (h : H a = some w) (m : isMut w = true) (no : a ∉ F) : RepO K ca nm G (L2.upd H a w') v o F :=
  r.mono (Sub.refl G) (fix_upd h m) fun b hb u e => by
    have : b ≠ a := fun z => no (z ▸ hb)
    rw [upd_ne this]
    exact e
theorem own_at {os : List O} {i : Nat} (E : EnvR K ca nm G H σ ρ Fs) (hg : gt ρ i = some o) (ho : ownL o = some os) : ∃ a vs F', σ[i]? = some (some (.ref a)) ∧ H a = some (.lst vs) ∧ RepOs K ca nm G H vs os F' ∧ Fs i = a :: F' := by
  have e := ownL_eq ho
  subst e
  obtain ⟨v, hv, r⟩ := E.sl i _ hg
  generalize hF : Fs i = Fi at r
  cases r with
  | lst hh hr => exact ⟨_, _, _, hv, hh, hr, rfl⟩
end
section
variable {ca : Nat → Addr} {nm : Nat → Str} {S : Sg} {X : Cx} {e ea eb ec tg it : Expr} {es : List Expr} {x a b c : Ex} {xs : Exs} {pos p2 p3 apos : Pos} {y : Str}
/-- name.append(e) -/
theorem z_app (i : Nat) (hN : X.N[i]? = some y) (hv : Vis X.env.scope y) (hd : (y == ("__debug__" : Str)) = false) (hcd : (y == ("__classdict__" : Str)) = false) (h : PE X e (tE X.K ca nm S x))
    (hfew : ((backTo p2 (starEach [e] X.env)).all (fun x => !x.1) && (backToKw p2 (keywordEach [] X.env)).all (fun x => x.1.isSome) && decide (([e] : List Expr).length + ([] : List Keyword).length + (if ([] : List Keyword).isEmpty then 0 else 1) < 30)) = true := by rfl)
    (hline : (apos.endLine == p2.line) = true := by rfl) (hs : starEach [e] X.env = (false, eval e X.env) :: starEach [] X.env := by rfl) :
    PS X (.Expr (.Call (.Attribute (.Name y p3) "append" apos) [e] [] p2) pos) (tS X.K ca nm S (.app i x)) := by
  have h0 := ps_expr (pos := pos) (pe_bm (apos := apos) (cpos := p2) PySem.F.plainAttrs_list PySem.F.slot_list_append PySem.F.type_list_append mt_append (pe_var (pos := p3) hN hv hd hcd) (pa_cons h.ret pa_nil hs) rfl hfew hline hs rfl) rfl
  refine h0.imp fun D σ H ⟨G, Fs, ρ, E, out, hv, k⟩ => ?_
  unfold ex at hv
  obtain ⟨o0, hg0, hv⟩ := bind_some hv
  obtain ⟨os0, ho0, hv⟩ := bind_some hv
  obtain ⟨z, hz, hv⟩ := bind_some hv
  obtain ⟨o1, hg1, hv⟩ := bind_some hv
  obtain ⟨os1, ho1, hv⟩ := bind_some hv
  split at hv
  · rename_i hlim
    cases hv
    obtain ⟨a0, vs0, F0, hs0, hH0, _, _⟩ := own_at E hg0 ho0
    refine ⟨_, hs0, .inl ⟨rfl, vs0, SqL.of hH0⟩, G, Fs, ρ, E, z, hz, fun v G1 H1 Fs1 F1 A => ?_⟩
    obtain ⟨a1, vs1, F1', hs1, hH1, hr1, hF1⟩ := own_at A.en hg1 ho1
    rw [hs0] at hs1
    cases hs1
    refine ⟨a0, vs1, v, rfl, rfl, hH1, by rw [hr1.length]; exact lim_lt (Nat.le_of_lt hlim), ?_⟩
    have hnd := A.en.nd i
    rw [hF1] at hnd
    obtain ⟨n1, n2⟩ := List.nodup_cons.mp hnd
    have ha0 : a0 ∈ Fs1 i := by rw [hF1]; exact List.mem_cons_self
    have hn1 : a0 ∉ F1 := fun q => (A.pv.2 a0 q).1 ⟨i, ha0⟩
    have r2 := (hr1.updN (w' := .lst (vs1 ++ [v])) hH1 rfl n1).append (A.apart.rp.updN (w' := .lst (vs1 ++ [v])) hH1 rfl hn1)
    obtain ⟨Fs3, E3, h3⟩ := root_mut (Fe := F1) A.en hs0 hH1 rfl ha0 (.lst upd_same r2) (List.nodup_cons.mpr ⟨fun q => (List.mem_append.mp q).elim n1 hn1, List.nodup_append.mpr ⟨n2, A.pv.1, fun p hp q hq e => (A.pv.2 q hq).1 ⟨i, by rw [hF1]; exact List.mem_cons_of_mem _ (e ▸ hp)⟩⟩⟩)
      (fun b hb => by
        rcases List.mem_cons.mp hb with q | q
        · exact .inl (by rw [q]; exact ha0)
        · exact (List.mem_append.mp q).imp (fun q => by rw [hF1]; exact List.mem_cons_of_mem _ q) id) (fun b hb => (A.pv.2 b hb).1) fun b hb => (A.pv.2 b hb).2.1
    have st := A.st.trans (Step.updIn (w' := .lst (vs1 ++ [v])) A.en hH1 rfl ⟨i, ha0⟩)
    exact k G1 _ Fs3 σ ⟨st.to2 h3 fun b hb => (A.pv.2 b hb).2.2, E3, rfl, fun _ _ => rfl⟩
  · cases hv
/-- name[k] = e -/
theorem z_setI (i : Nat) (hN : X.N[i]? = some y) (hv : Vis X.env.scope y) (hd : (y == ("__debug__" : Str)) = false) (hcd : (y == ("__classdict__" : Str)) = false) (h : PE X e (tE X.K ca nm S x)) (hk : PE X ea (tE X.K ca nm S a))
    (ha : ∀ v, assign (.Subscript (.Name y p3) ea p2) X.env v = (do
      let ov ← holding [v] (eval (.Name y p3) X.env)
      let iv ← holding [v, ov] (eval ea X.env)
      standAt p2
      holding [v, ov, iv] (setItem ov iv v)
      release [v, ov, iv] []) := by intro _; rfl)
    (hs : swapsWithSole [.Subscript (.Name y p3) ea p2] e pos.line X.env = pure false := by rfl) (hw : swappedStores [.Subscript (.Name y p3) ea p2] e X.env = pure none := by rfl) (h1 : (assignEach [.Subscript (.Name y p3) ea p2] X.env).map (·.2) = [assign (.Subscript (.Name y p3) ea p2) X.env] := by rfl) :
    PS X (.Assign [.Subscript (.Name y p3) ea p2] e pos) (tS X.K ca nm S (.setI i a x)) := by
  have h0 := ps_asg (pos := pos) h.ret (pg_sub (pos := p2) (pe_var (pos := p3) hN hv hd hcd) hk set_list ha) hs hw h1
  refine h0.imp fun D σ H ⟨G, Fs, ρ, E, out, hv, k⟩ => ?_
  unfold ex at hv
  obtain ⟨z, hz, hv⟩ := bind_some hv
  obtain ⟨o0, hg0, hv⟩ := bind_some hv
  obtain ⟨q, hq, hv⟩ := bind_some hv
  obtain ⟨j, hj, hv⟩ := bind_some hv
  obtain ⟨o1, hg1, hv⟩ := bind_some hv
  obtain ⟨os1, ho1, hv⟩ := bind_some hv
  obtain ⟨n, hn, hv⟩ := map_some hv
  subst hv
  refine ⟨G, Fs, ρ, E, z, hz, fun v G1 H1 Fs1 F1 A => ?_⟩
  obtain ⟨vi, hvi, _⟩ := A.en.sl i o0 hg0
  refine ⟨vi, hvi, G1, Fs1, _, A.en, q.1, q.2.1, q.2.2, hq, fun vk G2 H2 Fs2 F2 B => ?_⟩
  have rk := B.rp
  rw [intOf_eq hj] at rk
  obtain ⟨_, rk⟩ := sh_F rk
  cases rk
  have ap := A.apart.step B.st
  obtain ⟨a1, vs1, F1', hs1, hH1, hr1, hF1⟩ := own_at B.en hg1 ho1
  rw [hvi] at hs1
  cases hs1
  refine ⟨a1, vs1, j, n, rfl, rfl, hH1, by rw [hr1.length]; exact hn, ?_⟩
  have hnd := B.en.nd i
  rw [hF1] at hnd
  obtain ⟨n1, n2⟩ := List.nodup_cons.mp hnd
  have ha0 : a1 ∈ Fs2 i := by rw [hF1]; exact List.mem_cons_self
  have hn1 : a1 ∉ F1 := fun q => ap.no a1 q ⟨i, ha0⟩
  have hlt : n < os1.length := (ixN_seq hn).2.1
  obtain ⟨F', r', h1, h2⟩ := RepOs.set (n := n) (hr1.updN (w' := .lst (vs1.set n v)) hH1 rfl n1) hlt (ap.one.updN (w' := .lst (vs1.set n v)) hH1 rfl hn1)
  obtain ⟨Fs3, E3, h3⟩ := root_mut (Fe := F1) B.en hvi hH1 rfl ha0 (.lst upd_same r') (List.nodup_cons.mpr ⟨fun q => (h2 a1 q).elim n1 hn1, h1 n2 ap.nd fun b hb hb' => ap.no b hb ⟨i, by rw [hF1]; exact List.mem_cons_of_mem _ hb'⟩⟩)
    (fun b hb => by
      rcases List.mem_cons.mp hb with q | q
      · exact .inl (by rw [q]; exact ha0)
      · exact (h2 b q).imp (fun q => by rw [hF1]; exact List.mem_cons_of_mem _ q) id) ap.no ap.ng
  have st := (A.st.trans B.st).trans (Step.updIn (w' := .lst (vs1.set n v)) B.en hH1 rfl ⟨i, ha0⟩)
  exact k G2 _ Fs3 σ ⟨st.to2 h3 fun b hb => (A.pv.2 b hb).2.2, E3, rfl, fun _ _ => rfl⟩
theorem put_new (hi : ∀ i j, nm i = nm j → i = j) {f : Nat} {v : V} : ∀ {ks : List Nat} {vs : List V}, f ∉ ks → ks.length = vs.length → putF (nm f) v ((ks.map nm).zip vs) = ((ks ++ [f]).map nm).zip (vs ++ [v])
  | [], [], _, _ => rfl
  | [], _ :: _, _, h => by cases h
  | _ :: _, [], _, h => by cases h
  | k :: ks, w :: vs, h, hl => by
    have hne : nm k ≠ nm f := fun e => h (by rw [hi _ _ e]; exact List.mem_cons_self)
    show (if nm k = nm f then (nm k, v) :: (ks.map nm).zip vs else (nm k, w) :: putF (nm f) v ((ks.map nm).zip vs)) = _
    rw [if_neg hne, put_new hi (fun z => h (List.mem_cons_of_mem _ z)) (by simpa using hl)]
    rfl
theorem put_old (hi : ∀ i j, nm i = nm j → i = j) {f : Nat} {v : V} : ∀ {ks : List Nat} {vs : List V}, f ∈ ks → ks.length = vs.length → putF (nm f) v ((ks.map nm).zip vs) = (ks.map nm).zip (setFl ks vs f v)
  | [], _, h, _ => by cases h
  | _ :: _, [], _, h => by cases h
  | k :: ks, w :: vs, h, hl => by
    show (if nm k = nm f then (nm k, v) :: (ks.map nm).zip vs else (nm k, w) :: putF (nm f) v ((ks.map nm).zip vs)) = _
    unfold setFl
    by_cases e : k = f
    · subst e
      rw [if_pos rfl, if_pos rfl]
      rfl
    · rw [if_neg fun z => e (hi _ _ z), if_neg e, put_old hi (by rcases List.mem_cons.mp h with z | z; exact absurd z.symm e; exact z) (by simpa using hl)]
      rfl
theorem put_rep {K : PySem.W.Frag} {G H : Hp} {f : Nat} {v : V} {o : O} {Fe : List Addr} (re : RepO K ca nm G H v o Fe) : ∀ {ks : List Nat} {vs : List V} {os : List O} {F : List Addr}, f ∈ ks → ks.length = os.length → RepOs K ca nm G H vs os F →
    ∃ F', RepOs K ca nm G H (setFl ks vs f v) (setFl ks os f o) F' ∧ (F.Nodup → Fe.Nodup → (∀ b ∈ Fe, b ∉ F) → F'.Nodup) ∧ ∀ b ∈ F', b ∈ F ∨ b ∈ Fe := by
  intro ks
  induction ks with
  | nil => intro _ _ _ h; cases h
  | cons k ks ih =>
    intro vs os F h hl r
    cases r with
    | nil => cases hl
    | @cons w vs u os Fa Fb r rr =>
      unfold setFl
      by_cases e : k = f
      · rw [if_pos e, if_pos e]
        refine ⟨Fe ++ Fb, .cons re rr, fun n1 n2 d => ?_, fun b hb => ?_⟩
        · obtain ⟨_, h2, _⟩ := List.nodup_append.mp n1
          exact List.nodup_append.mpr ⟨n2, h2, fun x hx y hy e => d x hx (List.mem_append_right _ (e ▸ hy))⟩
        · rcases List.mem_append.mp hb with z | z
          · exact .inr z
          · exact .inl (List.mem_append_right _ z)
      · rw [if_neg e, if_neg e]
        obtain ⟨F', r', h1, h2⟩ := ih (by rcases List.mem_cons.mp h with z | z; exact absurd z.symm e; exact z) (by simpa using hl) rr
        refine ⟨Fa ++ F', .cons r r', fun n1 n2 d => ?_, fun b hb => ?_⟩
        · obtain ⟨g1, g2, g3⟩ := List.nodup_append.mp n1
          refine List.nodup_append.mpr ⟨g1, h1 g2 n2 fun b hb z => d b hb (List.mem_append_right _ z), fun x hx y hy e => ?_⟩
          rcases h2 y hy with z | z
          · exact g3 x hx y z e
          · exact d y z (List.mem_append_left _ (e ▸ hx))
        · rcases List.mem_append.mp hb with z | z
          · exact .inl (List.mem_append_left _ z)
          · exact (h2 b z).imp (List.mem_append_right _) id
/-- name.f = e -/
theorem z_setF (i f : Nat) {yf : Str} (hinj : ∀ i j, nm i = nm j → i = j) (hA : AtOk X ca nm S) (hf : nm f = yf) (hN : X.N[i]? = some y) (hv : Vis X.env.scope y) (hd : (y == ("__debug__" : Str)) = false) (hcd : (y == ("__classdict__" : Str)) = false) (h : PE X e (tE X.K ca nm S x))
    (hs : swapsWith e (some (.Attribute (.Name y p3) yf p2)) pos.line X.env = pure false := by rfl) : PS X (.Assign [.Attribute (.Name y p3) yf p2] e pos) (tS X.K ca nm S (.setF i f x)) := by
  subst hf
  have h0 := ps_fld (pos := pos) (pe_var (pos := p3) hN hv hd hcd) h.ret hs
  refine h0.imp fun D σ H ⟨G, Fs, ρ, E, out, hv, k⟩ => ?_
  unfold ex at hv
  obtain ⟨z, hz, hv⟩ := bind_some hv
  obtain ⟨o1, hg1, hv⟩ := bind_some hv
  refine ⟨G, Fs, ρ, E, z, hz, fun v G1 H1 Fs1 F1 A => ?_⟩
  obtain ⟨vi, hvi, ri⟩ := A.en.sl i o1 hg1
  refine ⟨vi, hvi, ?_⟩
  split at hv
  · rename_i c ks os
    generalize hF : Fs1 i = Fi at ri
    cases ri with
    | @ins a1 dx _ _ vs _ F1' hH1 hr1 =>
      split at hv
      · rename_i hc
        have hnd := A.en.nd i
        rw [hF] at hnd
        obtain ⟨n1, n2⟩ := List.nodup_cons.mp hnd
        have ha0 : a1 ∈ Fs1 i := by rw [hF]; exact List.mem_cons_self
        have hn1 : a1 ∉ F1 := fun q => (A.pv.2 a1 q).1 ⟨i, ha0⟩
        have hvs : ks.length = vs.length := by rw [hr1.length]; exact hc.2.1
        refine ⟨a1, ca c, dx, _, rfl, hH1, (hA c f hc.1).1, (hA c f hc.1).2, by rw [List.length_zip, List.length_map, hvs, Nat.min_self, ← hvs]; exact hc.2.2, ?_⟩
        have fin : ∀ ks' vs' os' F', putF (nm f) v ((ks.map nm).zip vs) = (ks'.map nm).zip vs' → RepOs X.K ca nm G1 (L2.upd H1 a1 (.ins (ca c) dx ((ks'.map nm).zip vs'))) vs' os' F' → F'.Nodup → (∀ b ∈ F', b ∈ F1' ∨ b ∈ F1) → some (Out.nx (pt (retE x z).2 i (some (.ins c ks' os')))) = some out → D.nx σ (L2.upd H1 a1 (.ins (ca c) dx (putF (nm f) v ((ks.map nm).zip vs)))) := fun ks' vs' os' F' ep rp nd hsub eo => by
          cases eo
          rw [ep]
          obtain ⟨Fs3, E3, h3⟩ := root_mut (Fe := F1) A.en hvi hH1 rfl ha0 (.ins upd_same rp) (List.nodup_cons.mpr ⟨fun q => (hsub a1 q).elim n1 hn1, nd⟩)
            (fun b hb => by
              rcases List.mem_cons.mp hb with q | q
              · exact .inl (by rw [q]; exact ha0)
              · exact (hsub b q).imp (fun q => by rw [hF]; exact List.mem_cons_of_mem _ q) id) (fun b hb => (A.pv.2 b hb).1) fun b hb => (A.pv.2 b hb).2.1
          have st := A.st.trans (Step.updIn (w' := .ins (ca c) dx ((ks'.map nm).zip vs')) A.en hH1 rfl ⟨i, ha0⟩)
          exact k G1 _ Fs3 σ ⟨st.to2 h3 fun b hb => (A.pv.2 b hb).2.2, E3, rfl, fun _ _ => rfl⟩
        split at hv
        · rename_i hin
          obtain ⟨F2, rp2, nd2, sub2⟩ := put_rep (A.rp.updN (w' := .ins (ca c) dx ((ks.map nm).zip (setFl ks vs f v))) hH1 rfl hn1) hin hc.2.1 (hr1.updN (w' := .ins (ca c) dx ((ks.map nm).zip (setFl ks vs f v))) hH1 rfl n1)
          exact fin ks _ _ F2 (put_old hinj hin hvs) rp2 (nd2 n2 A.pv.1 fun b hb hb' => (A.pv.2 b hb).1 ⟨i, by rw [hF]; exact List.mem_cons_of_mem _ hb'⟩) sub2 hv
        · rename_i hin
          exact fin (ks ++ [f]) (vs ++ [v]) (os ++ [(retE x z).1]) (F1' ++ F1) (put_new hinj hin hvs) ((hr1.updN hH1 rfl n1).append (A.apart.rp.updN hH1 rfl hn1))
            (List.nodup_append.mpr ⟨n2, A.pv.1, fun p hp q hq e => (A.pv.2 q hq).1 ⟨i, by rw [hF]; exact List.mem_cons_of_mem _ (e ▸ hp)⟩⟩) (fun b hb => List.mem_append.mp hb) hv
      · cases hv
  · cases hv
end
end Ev

namespace Ev
open PySem L2

section
variable {K : PySem.W.Frag} {ca : Nat → Addr} {nm : Nat → Str} {S : Sg} {σ σ1 σ2 : L2.St} {G H G1 H1 G2 H2 : Hp} {Fs Fs1 Fs2 : Nat → List Addr} {ρ ρ1 ρ2 : Env} {v : V} {o o' : O} {F F1 F2 Fe : List Addr}
theorem gt_rep (m i : Nat) : gt (List.replicate m none) i = none := by
  unfold gt
  rcases Nat.lt_or_ge i m with h | h
  · rw [List.getElem?_eq_getElem (by simpa using h)]
    simp
  · rw [List.getElem?_eq_none (by simpa using h)]
    rfl
theorem env_nil (gh : Sub G H) (m : Nat) : EnvR K ca nm G H (List.replicate m none) (List.replicate m none) (fun _ => []) :=
  ⟨gh, by simp, fun i o e => (by rw [gt_rep] at e; exact nomatch e), fun _ _ => rfl, fun _ => List.nodup_nil, fun _ _ _ h => absurd h (by simp), fun _ _ h => absurd h (by simp)⟩
theorem env_cons (E : EnvR K ca nm G H σ ρ Fs) (r : RepO K ca nm G H v o F) (nd : F.Nodup) (no : ∀ a ∈ F, ¬ InF Fs a) (ng : ∀ a ∈ F, G a = none) : EnvR K ca nm G H (some v :: σ) (some o :: ρ) (addF F Fs) := by
  refine ⟨E.gh, by simp [E.ln], fun i u e => ?_, fun i e => ?_, fun i => ?_, fun i j a h1 h2 => ?_, fun i a h => ?_⟩
  · cases i with
    | zero =>
      have : o = u := Option.some.inj e
      subst this
      exact ⟨v, rfl, r⟩
    | succ i => exact E.sl i u e
  · cases i with
    | zero => cases e
    | succ i => exact E.nl i e
  · cases i with
    | zero => exact nd
    | succ i => exact E.nd i
  · cases i with
    | zero =>
      cases j with
      | zero => rfl
      | succ j => exact absurd ⟨j, h2⟩ (no a h1)
    | succ i =>
      cases j with
      | zero => exact absurd ⟨i, h1⟩ (no a h2)
      | succ j => rw [E.dj i j a h1 h2]
  · cases i with
    | zero => exact ng a h
    | succ i => exact E.gf i a h
theorem env_start (gh : Sub G H) (m : Nat) : ∀ {vs : List V} {os : List O} {F : List Addr}, RepOs K ca nm G H vs os F → F.Nodup → (∀ a ∈ F, G a = none) → ∃ Fs, EnvR K ca nm G H (vs.map some ++ List.replicate m none) (os.map some ++ List.replicate m none) Fs ∧ ∀ a, InF Fs a ↔ a ∈ F
  | _, _, _, .nil, _, _ => ⟨_, env_nil gh m, fun a => ⟨fun ⟨_, h⟩ => h, fun h => absurd h (by simp)⟩⟩
  | _, _, _, .cons r rr, nd, ng => by
    obtain ⟨n1, n2, n3⟩ := List.nodup_append.mp nd
    obtain ⟨Fs, E, h⟩ := env_start gh m rr n2 fun a ha => ng a (List.mem_append_right _ ha)
    refine ⟨_, env_cons E r n1 (fun a ha z => n3 a ha a ((h a).mp z) rfl) fun a ha => ng a (List.mem_append_left _ ha), fun a => ?_⟩
    rw [in_addF, h a, List.mem_append]
theorem ios_ok : ∀ {io : List Bool} {i : Nat} {vs : List V} {us : List O}, EnvR K ca nm G H σ ρ Fs → iosOf io i ρ = some us → io.length ≤ vs.length → (∀ k v, io[k]? = some true → vs[k]? = some v → σ[i + k]? = some (some v)) →
    ∃ F, RepOs K ca nm G H (pick io vs) us F ∧ F.Nodup ∧ ∀ a ∈ F, ∃ j, i ≤ j ∧ a ∈ Fs j
  | [], i, vs, us, E, h, _, _ => by
    cases h
    exact ⟨[], by cases vs <;> exact .nil, List.nodup_nil, fun a h => absurd h (by simp)⟩
  | true :: io, i, [], us, E, h, hl, _ => by cases hl
  | false :: io, i, [], us, E, h, hl, _ => by cases hl
  | true :: io, i, v :: vs, us, E, h, hl, hs => by
    unfold iosOf at h
    obtain ⟨o, ho, h⟩ := bind_some h
    obtain ⟨ws, hw, h⟩ := map_some h
    subst h
    obtain ⟨F, r, nd, hF⟩ := ios_ok E hw (by simpa using hl) fun k w h1 h2 => by
      have := hs (k + 1) w (by simpa using h1) (by simpa using h2)
      rw [show i + 1 + k = i + (k + 1) by omega]
      exact this
    obtain ⟨v', hv', rv⟩ := E.sl i o ho
    have hvv : σ[i]? = some (some v) := hs 0 v rfl rfl
    rw [hv'] at hvv
    cases hvv
    refine ⟨Fs i ++ F, .cons rv r, List.nodup_append.mpr ⟨E.nd i, nd, fun a h1 b h2 e => ?_⟩, fun a ha => ?_⟩
    · subst e
      obtain ⟨j, hj, hm⟩ := hF a h2
      have := E.dj i j a h1 hm
      omega
    · rcases List.mem_append.mp ha with z | z
      · exact ⟨i, Nat.le_refl _, z⟩
      · obtain ⟨j, hj, hm⟩ := hF a z
        exact ⟨j, by omega, hm⟩
  | false :: io, i, v :: vs, us, E, h, hl, hs => by
    unfold iosOf at h
    obtain ⟨F, r, nd, hF⟩ := ios_ok (vs := vs) E h (by simpa using hl) fun k w h1 h2 => by
      have := hs (k + 1) w (by simpa using h1) (by simpa using h2)
      rw [show i + 1 + k = i + (k + 1) by omega]
      exact this
    exact ⟨F, r, nd, fun a ha => let ⟨j, hj, hm⟩ := hF a ha; ⟨j, by omega, hm⟩⟩
theorem ioFree_at : ∀ {io : List Bool} {i : Nat} {b : Sts} {k : Nat}, ioFree io i b = true → io[k]? = some true → setss (i + k) b = false
  | [], _, _, _, _, h => by simp at h
  | true :: io, i, b, 0, h, _ => by
    have := and_l h
    simpa using this
  | true :: io, i, b, k + 1, h, hk => by
    have := ioFree_at (k := k) (and_r h) (by simpa using hk)
    rw [show i + (k + 1) = i + 1 + k by omega]
    exact this
  | false :: io, i, b, 0, h, hk => by simp at hk
  | false :: io, i, b, k + 1, h, hk => by
    have := ioFree_at (k := k) (show ioFree io (i + 1) b = true from h) (by simpa using hk)
    rw [show i + (k + 1) = i + 1 + k by omega]
    exact this
/-- a def's body keeps the promise -/
theorem body_ok {d : Def} {N : List Str} {vs : List V} {Q : VK} {E : XK} (hN : N.length = d.nl) (hio : d.io.length ≤ d.np) (hfree : ioFree d.io 0 d.body = true)
    (h : spOf K ca nm (callD S d) d.io d.np vs H Q E) : tSs K ca nm S d.body { nx := fun _ H' => Q .non H', rt := Q } (L2.start N vs) H := by
  obtain ⟨hl, G, os, F, res, gh, hc, rp, _, nd, ng, k⟩ := h
  unfold callD at hc
  split at hc
  · rename_i hol
    obtain ⟨out, ho, hc⟩ := bind_some hc
    obtain ⟨Fs, E0, hF⟩ := env_start gh (d.nl - d.np) rp nd ng
    have es : L2.start N vs = vs.map some ++ List.replicate (d.nl - d.np) none := by
      unfold L2.start
      rw [hN, hl]
    have sg0 : ∀ k v, vs[k]? = some v → (L2.start N vs)[k]? = some (some v) := fun k v hk => by
      have hlt : k < vs.length := (List.getElem?_eq_some_iff.mp hk).1
      rw [es, List.getElem?_append_left (by simpa using hlt), List.getElem?_map, hk]
      rfl
    rw [← es] at E0
    refine ⟨G, Fs, _, E0, out, ho, ?_⟩
    have fin : ∀ {ρ' G' H' Fs' σ' us v o Fv}, AftN K ca nm (fun j => setss j d.body) G H Fs (L2.start N vs) ρ' G' H' Fs' σ' → iosOf d.io 0 ρ' = some us → res = (o, us) → Apart K ca nm G' H' Fs' [v] [o] Fv → (∀ a ∈ Fv, InF Fs a ∨ H a = none) → Q v H' := fun {ρ' G' H' Fs' σ' us v o Fv} A hi e ap bk => by
      subst e
      obtain ⟨Fi, ri, ni, hi2⟩ := ios_ok (vs := vs) A.en hi (by rw [hl]; exact hio) fun k v h1 h2 => by
        rw [A.sg (0 + k) (ioFree_at hfree h1), Nat.zero_add]
        exact sg0 k v h2
      have inFi : ∀ a ∈ Fi, InF Fs' a := fun a ha => let ⟨j, _, hm⟩ := hi2 a ha; ⟨j, hm⟩
      refine k v G' H' (Fv ++ Fi) ⟨A.st.g, fun a u h n => A.st.fr a u h fun z => n (in_one.mpr ((hF a).mp z)), A.st.fx, A.st.al, fun a h => ?_, fun a u h => ?_⟩ A.en.gh (.cons ap.one ri)
        (List.nodup_append.mpr ⟨ap.nd, ni, fun a h1 b h2 e => ap.no a h1 (e ▸ inFi b h2)⟩) fun a ha => ?_
      · rcases List.mem_append.mp (in_one.mp h) with z | z
        · exact (bk a z).imp (fun w => in_one.mpr ((hF a).mp w)) id
        · exact (A.st.nf a (inFi a z)).imp (fun w => in_one.mpr ((hF a).mp w)) id
      · rcases A.st.ng a u h with z | z | z
        · exact .inl z
        · exact .inr (.inl (in_one.mpr ((hF a).mp z)))
        · exact .inr (.inr z)
      · rcases List.mem_append.mp ha with z | z
        · exact ap.ng a z
        · obtain ⟨j, hm⟩ := inFi a z
          exact A.en.gf j a hm
    cases out with
    | nx ρ' =>
      obtain ⟨us, hu, e⟩ := map_some hc
      exact fun G' H' Fs' σ' A => fin A hu e.symm (Apart.nilF .non) fun a h => absurd h (by simp)
    | rt o ρ' =>
      obtain ⟨us, hu, e⟩ := map_some hc
      exact fun v G' H' Fs' σ' Fv A ap bk => fin A hu e.symm ap bk
    | bk ρ' => cases hc
    | ct ρ' => cases hc
  · cases hc
end
/-- a def of the text, at one level more than those it calls -/
theorem def_ok {P : Program} {w : World} {K : PySem.W.Frag} {mg : Str → Option Value} {base : Heap} {ca : Nat → Addr} {nm : Nat → Str} {S : Sg} {d : Def} {x qual : Str} {params : Arguments} {body : List Stmt} {scope : Scope} {f : Addr} {fd : FuncData} {N ps : List Str} {k : Nat}
    (F : FunD K x qual params body scope [] [] f fd) (Sc : FnScope N ps scope) (hps : ps.length = d.np) (hN : N.length = d.nl) (hio : d.io.length ≤ d.np) (hfree : ioFree d.io 0 d.body = true)
    (hb : ∀ (cdv : Value) (A : Around) (outer : List PySem.Env) (s : Shared) (H : Hp) (E : XK), Room k (A.deeper (PyProof.Rows.envOfC qual scope s.heap.objs.size f cdv)) →
      PSs (cxOf CX0 P w K mg base N qual scope f cdv A outer s H E).nox body (tSs K ca nm S d.body)) :
    FnOk P w K mg base CX0 (k + 1) f fd ps (spOf K ca nm (callD S d) d.io d.np) := by
  refine F.ok Sc (fun vs H Q E h => by rw [hps]; exact h.1) fun cdv A outer s H vs Q E hr hsp => ⟨_, PSs.nox (hb cdv A outer s H E hr), body_ok hN hio hfree hsp⟩
theorem none_ok {P : Program} {w : World} {K : PySem.W.Frag} {mg : Str → Option Value} {base : Heap} {ca : Nat → Addr} {nm : Nat → Str} {f : Addr} {fd : FuncData} {ps : List Str} {io : List Bool} {n k : Nat} {Φ : List O → Option (O × List O)} (hΦ : ∀ os, Φ os = none) (hn : n = ps.length) : FnOk P w K mg base CX0 k f fd ps (spOf K ca nm Φ io n) :=
  ⟨fun vs H Q E h => by rw [← hn]; exact h.1, fun A outer s H args us vs Q E _ _ _ _ h => by
    obtain ⟨_, _, os, _, res, _, hc, _⟩ := h
    rw [hΦ] at hc
    cases hc⟩
end Ev

namespace Ev
open PySem L2

/-- a name that is read, stored -/
def Nm (X : Cx) (i : Nat) (y : Str) : Prop := X.N[i]? = some y ∧ Vis X.env.scope y ∧ (y == ("__debug__" : Str)) = false ∧ (y == ("__classdict__" : Str)) = false
def Ln (X : Cx) (i : Nat) (y : Str) : Prop := X.N[i]? = some y ∧ Loc X.env.scope y ∧ (X.fn y = true ∨ X.env.scope.names.lookup y = some .local)
def Gn (X : Cx) (y : Str) : Prop := Gl X y ∧ (y == ("__debug__" : Str)) = false ∧ y ≠ "__name__"
structure At (X : Cx) (N : List Str) (sc : Scope) : Prop where
  hN : X.N = N
  hs : X.env.scope = sc
def chkV (N : List Str) (sc : Scope) (js : List Nat) : Bool := js.all fun j => match N[j]? with
  | some y => (match sc.names.lookup y with
    | some .local => true | some .cell => true | some .free => true
    | _ => false) && (!(y == ("__debug__" : Str)) && !(y == ("__classdict__" : Str)))
  | none => true
def chkG (sc : Scope) (ys : List Str) : Bool := ys.all fun y => decide (sc.names.lookup y = some .globalImplicit) && (!(y == ("__debug__" : Str)) && decide (y ≠ ("__name__" : Str)))
def chkL (N : List Str) (sc : Scope) (js : List Nat) : Bool := js.all fun j => match N[j]? with
  | some y => (match sc.names.lookup y with
    | some .local => true
    | _ => false)
  | none => true
section
variable {X : Cx} {N : List Str} {sc : Scope} {js : List Nat} {ys : List Str}
theorem nm_at (A : At X N sc) (h : chkV N sc js = true) {j : Nat} {y : Str} (hj : js.contains j = true) (e : N[j]? = some y) : Nm X j y := by
  have h1 := List.all_eq_true.mp h j (List.contains_iff_mem.mp hj)
  rw [e] at h1
  have h2 := and_l h1
  have h3 := and_r h1
  refine ⟨by rw [A.hN]; exact e, ?_, by simpa using and_l h3, by simpa using and_r h3⟩
  rw [A.hs]
  unfold Vis
  cases q : sc.names.lookup y with
  | none => simp only [q] at h2; cases h2
  | some k =>
    simp only [q] at h2
    cases k <;> first | exact .inl rfl | exact .inr (.inl rfl) | exact .inr (.inr rfl) | cases h2
theorem gn_at (A : At X N sc) (h : chkG sc ys = true) {k : Nat} {y : Str} (e : ys[k]? = some y) : Gn X y := by
  have h1 := List.all_eq_true.mp h y (List.mem_of_getElem? e)
  have h3 := and_r h1
  refine ⟨?_, by simpa using and_l h3, of_decide_eq_true (and_r h3)⟩
  unfold Gl PySem.Env.kindOf
  rw [A.hs]
  exact of_decide_eq_true (and_l h1)
/-- in a def's own frame every name may be stored -/
theorem ln_at (A : At X N sc) (hf : ∀ y, X.fn y = true) (h : chkV N sc js = true) (hfree : ∀ y ∈ sc.names, y.2 ≠ .free) {j : Nat} {y : Str} (hj : js.contains j = true) (e : N[j]? = some y) : Ln X j y := by
  have h1 := List.all_eq_true.mp h j (List.contains_iff_mem.mp hj)
  rw [e] at h1
  have h2 := and_l h1
  refine ⟨by rw [A.hN]; exact e, ?_, .inl (hf y)⟩
  rw [A.hs]
  unfold L2.Loc
  cases q : sc.names.lookup y with
  | none => simp only [q] at h2; cases h2
  | some k =>
    simp only [q] at h2
    cases k with
    | «local» => exact .inl rfl
    | cell => exact .inr rfl
    | free =>
      have : ∀ (l : List (Str × NameKind)) k, l.lookup y = some k → (y, k) ∈ l := by
        intro l
        induction l with
        | nil => intro k h; cases h
        | cons p l ih =>
          intro k h
          obtain ⟨a, b⟩ := p
          have h' : (match y == a with | true => some b | false => l.lookup y) = some k := h
          cases t : y == a with
          | true =>
            rw [t] at h'
            cases h'
            rw [eq_of_beq t]
            exact List.mem_cons_self
          | false =>
            rw [t] at h'
            exact List.mem_cons_of_mem _ (ih k h')
      exact absurd rfl (hfree _ (this _ _ q))
    | _ => cases h2
theorem ll_at (A : At X N sc) (h : chkL N sc js = true) {j : Nat} {y : Str} (hj : js.contains j = true) (e : N[j]? = some y) : Ln X j y := by
  have h1 := List.all_eq_true.mp h j (List.contains_iff_mem.mp hj)
  rw [e] at h1
  have h2 : sc.names.lookup y = some .local := by
    cases q : sc.names.lookup y with
    | none => simp only [q] at h1; cases h1
    | some k =>
      simp only [q] at h1
      cases k <;> first | rfl | cases h1
  refine ⟨by rw [A.hN]; exact e, ?_, ?_⟩
  · rw [A.hs]; exact .inl h2
  · rw [A.hs]; exact .inr h2
theorem At.blkOk {scope : Scope} {own : List (Str × Nat)} (A : At X N sc) (h : blkC N sc scope own = true) : BlkOk X.N X.env.scope scope own := by
  rw [A.hN, A.hs]
  exact blkOk_by h
theorem At.blk {scope : Scope} {cl : List (Str × Addr)} {C : Addr} {s : Shared} {H : Hp} {fp : List Addr} (A : At X N sc) : At (X.blk s H scope (compEnvC scope cl C X.env) fp) N (relS scope sc) := by
  refine ⟨A.hN, ?_⟩
  rw [← A.hs]
  rfl
end
/-- what runs around -/
structure Cal (X : Cx) (n : Nat) : Prop where
  calm : X.calm = true
  room : Room (2 * n + 1) X.A
section
variable {X : Cx} {n : Nat}
theorem Cal.r0 (A : Cal X n) : Room (2 * n) X.A := A.room.mono (Nat.le_succ _)
theorem Cal.hu (A : Cal X n) : X.A.units + 65 < cLine := by
  have := A.room.un
  omega
end
section
variable {ca : Nat → Addr} {nm : Nat → Str} {S : Sg} {X : Cx} {e ea eb ec tg it : Expr} {es : List Expr} {x a b c : Ex} {xs : Exs} {pos p2 p3 apos : Pos} {y yf : Str} {i : Nat} {fs : List Bool}
theorem v_ (h : Nm X i y) : PE X (.Name y pos) (tE X.K ca nm S (.var i)) := s_var i h.1 h.2.1 h.2.2.1 h.2.2.2
theorem aio_ (h : Nm X i y) (hr : PA X es (tAs X.K ca nm S fs xs)) : PA X (.Name y p3 :: es) (tAs X.K ca nm S (true :: fs) (.cons (.var i) xs)) := a_io i h.1 h.2.1 h.2.2.1 h.2.2.2 hr
theorem gnm_ (hN : X.N.Nodup) (h : Ln X i y) : PG X (.Name y pos) (tG X.K ca nm (.nm i)) := g_nm i hN h.1 h.2.1 h.2.2 (List.getElem?_eq_some_iff.mp h.1).1
theorem ihid_ (h : Nm X i y) : PI X tg (.Name y pos) (tIt X.K ca nm S (.hid i)) := i_hid i h.1 h.2.1 h.2.2.1 h.2.2.2
end
end Ev

namespace Ev
open PySem L2

section
variable {ca : Nat → Addr} {nm : Nat → Str} {S : Sg} {X : Cx} {e ea eb ec tg it : Expr} {es : List Expr} {x a b c : Ex} {xs : Exs} {pos p2 p3 apos : Pos} {y yf : Str} {i : Nat} {fs : List Bool} {st : Stmt}
theorem s_shr (ha : PE X e (tE X.K ca nm S x)) : PE X e (tE X.K ca nm S (.shr x)) := by
  refine ha.ret.imp fun σ H Q ⟨G, Fs, ρ, E, o, p, ρ', h, k⟩ => ?_
  unfold ev at h
  obtain ⟨z, hz, h⟩ := map_some h
  cases h
  refine ⟨G, Fs, ρ, E, z, hz, fun v G1 H1 Fs1 F1 A => ?_⟩
  obtain ⟨G2, A'⟩ := A.share
  exact k v G2 H1 Fs1 [] ⟨A'.st, A'.en, A'.rp, A'.pv, A'.pu⟩
/-- what is not reached -/
def bad : St := .exp (.neg (.con .non))
theorem z_bad : PS X st (tS X.K ca nm S bad) := ⟨fun pins s σ H D I ⟨G, Fs, ρ, E, out, h, k⟩ => nomatch h⟩
end

/-! ### the fields' names -/
def nmOf (ys : List Str) (i : Nat) : Str := match ys[i]? with
  | some y => y
  | none => ⟨Array.replicate (i + 1000) 97⟩
def nmOk (ys : List Str) : Bool := decide ys.Nodup && ys.all fun y => decide (y.cps.size < 1000)
theorem nmOf_inj {ys : List Str} (h : nmOk ys = true) : ∀ i j, nmOf ys i = nmOf ys j → i = j := by
  have h1 : ys.Nodup := of_decide_eq_true (and_l h)
  have h2 : ∀ y ∈ ys, y.cps.size < 1000 := fun y hy => of_decide_eq_true (List.all_eq_true.mp (and_r h) y hy)
  intro i j e
  unfold nmOf at e
  cases hi : ys[i]? with
  | some y =>
    cases hj : ys[j]? with
    | some z =>
      simp only [hi, hj] at e
      subst e
      obtain ⟨li, ei⟩ := List.getElem?_eq_some_iff.mp hi
      obtain ⟨lj, ej⟩ := List.getElem?_eq_some_iff.mp hj
      have pw := List.pairwise_iff_getElem.mp h1
      rcases Nat.lt_trichotomy i j with t | t | t
      · exact absurd (ei.trans ej.symm) (pw i j li lj t)
      · exact t
      · exact absurd (ej.trans ei.symm) (pw j i lj li t)
    | none =>
      simp only [hi, hj] at e
      have := h2 y (List.mem_of_getElem? hi)
      rw [e] at this
      simp at this
      exact absurd this (by omega)
  | none =>
    cases hj : ys[j]? with
    | some z =>
      simp only [hi, hj] at e
      have := h2 z (List.mem_of_getElem? hj)
      rw [← e] at this
      simp at this
      exact absurd this (by omega)
    | none =>
      simp only [hi, hj] at e
      have := congrArg (fun z : Str => z.cps.size) e
      simpa using this
theorem nmOf_ne {ys : List Str} {y : Str} (h : (decide (y ∉ ys) && decide (y.cps.size < 1000)) = true) : ∀ k, nmOf ys k ≠ y := by
  intro k e
  unfold nmOf at e
  split at e
  · rename_i z hz
    subst e
    exact of_decide_eq_true (and_l h) (List.mem_of_getElem? hz)
  · subst e
    have : _ < 1000 := of_decide_eq_true (and_r h)
    simp at this
    exact absurd this (by omega)

/-! ### the text's tables, what is around a body -/
structure Tab where
  fn : List (Str × Nat)
  mt : List (Str × Nat)
  cl : List (Str × Nat)
  free : List Str
  con : List (Str × D)
structure Wo (P : Prog) (T : Tab) (ca : Nat → Addr) (nm : Nat → Str) (n : Nat) (X : Cx) : Prop where
  cal : Cal X n
  fns : ∀ g y k, T.fn[g]? = some (y, k) → y ≠ Str.empty → FnAt X ca nm (P.sg n) (2 * n) g k y
  mts : ∀ m y k, T.mt[m]? = some (y, k) → MtAt X ca nm (P.sg n) (2 * n) m k y
  mks : ∀ c y k, T.cl[c]? = some (y, k) → MkAt X ca nm (P.sg n) (2 * n) c k y
  att : AtOk X ca nm (P.sg n)
  free : ∀ (i : Nat) (y : Str), T.free[i]? = some y → X.mg y = none
  con : ∀ (i : Nat) (y : Str) (d : D), T.con[i]? = some (y, d) → ∃ u v, X.mg y = some u ∧ RelV v u ∧ ∀ G H, RepD X.K ca nm G H v d
  inj : ∀ i j, nm i = nm j → i = j
section
variable {P : Prog} {T : Tab} {ca : Nat → Addr} {nm : Nat → Str} {n : Nat} {X : Cx} {N : List Str} {sc : Scope} {js : List Nat} {ys : List Str} {S : Sg} {pos p2 px py pt pt2 : Pos} {y z : Str} {i j : Nat} {e ea eb tg it elt : Expr} {x a b c : Ex}
theorem Wo.blk (W : Wo P T ca nm n X) {s : Shared} {H : Hp} {scope : Scope} {ce : PySem.Env} {fp : List Addr} : Wo P T ca nm n (X.blk s H scope ce fp) := ⟨⟨W.cal.calm, W.cal.room⟩, W.fns, W.mts, W.mks, W.att, W.free, W.con, W.inj⟩
theorem vr (L : At X N sc) (V : chkV N sc js = true) (h1 : js.contains i = true) (h2 : N[i]? = some y) : PE X (.Name y pos) (tE X.K ca nm S (.var i)) := v_ (nm_at L V h1 h2)
theorem cn (W : Wo P T ca nm n X) (L : At X N sc) (V : chkG sc ys = true) {d : D} (h1 : ys[j]? = some y) (h2 : T.con[i]? = some (y, d)) : PE X (.Name y pos) (tE X.K ca nm S (.con d)) := by
  obtain ⟨u, v, hm, hr, r⟩ := W.con i y d h2
  have g := gn_at L V h1
  exact s_con (pe_glob g.1 hm hr g.2.1) r
theorem sw_env {targets : List Expr} {value : Expr} {env : PySem.Env} {r : Sem (Option (List Str))} (hs : env.scope = sc) (h : swappedStores targets value { scope := sc, locals := 0, globals := 0, cells := [] } = r) : swappedStores targets value env = r := by
  subst hs
  exact h
theorem lk_at (L : At X N sc) (h : decide (sc.names.lookup y = some .local) = true) : X.env.scope.names.lookup y = some .local := by
  rw [L.hs]
  exact of_decide_eq_true h
structure Bd (X : Cx) (N : List Str) (sc : Scope) : Prop where
  at_ : At X N sc
  fn : ∀ y, X.fn y = true
  po : PassesOwn (model X.prog X.w) X.A X.env X.xe
def tgIx : Tg → List Nat
  | .nm i => [i]
  | .tp is => is
theorem own_in {t : Tg} {l : List Nat} (h : (tgIx t).all (fun j => l.contains j) = true) : ∀ j, tgSets t j = true → j ∈ l := by
  intro j hj
  refine List.contains_iff_mem.mp (List.all_eq_true.mp h j ?_)
  cases t with
  | nm i =>
    have : i = j := by simpa [tgSets] using hj
    simp [tgIx, this]
  | tp is => simpa [tgSets, tgIx] using hj
variable {own : List (Str × Nat)} {scope : Scope} {ts : List Nat} {t : Tg} {i' : It} {ifs : List Expr} {k : Nat} {spos : Pos}
theorem s_cmpr (own : List (Str × Nat)) (L : At X N sc) (W : Wo P T ca nm n X) (hN : X.N.Nodup) (hi : PI X tg it (tIt X.K ca nm S i')) (ok : blkC N sc scope own = true)
    (hv : chkV N (relS scope sc) js = true) (hgl : chkG (relS scope sc) ys = true) (hl : chkL N (relS scope sc) ts = true)
    (hg : ∀ Y : Cx, At Y N (relS scope sc) → Y.N.Nodup → Wo P T ca nm n Y → chkV N (relS scope sc) js = true → chkG (relS scope sc) ys = true → chkL N (relS scope sc) ts = true → PG Y tg (tG Y.K ca nm t))
    (ht : ∀ Y : Cx, At Y N (relS scope sc) → Y.N.Nodup → Wo P T ca nm n Y → chkV N (relS scope sc) js = true → chkG (relS scope sc) ys = true → chkL N (relS scope sc) ts = true → PTs Y ifs (tT Y.K ca nm S c))
    (he : ∀ Y : Cx, At Y N (relS scope sc) → Y.N.Nodup → Wo P T ca nm n Y → chkV N (relS scope sc) js = true → chkG (relS scope sc) ys = true → chkL N (relS scope sc) ts = true → PE Y elt (tE Y.K ca nm S x))
    (hown : (tgIx t).all (fun j => (own.map (·.2)).contains j) = true) (hfd : ∀ x, foldedSetIterable it X.env x = pure x := by intro _; rfl) :
    PE X (.ListComp elt [⟨tg, it, ifs, 0⟩] scope pos) (tE X.K ca nm S (.comp t i' c x (own.map (·.2)))) :=
  s_comp W.cal.calm hN hi (L.blkOk ok) (fun s H C cl fp => hg _ L.blk hN W.blk hv hgl hl) (fun s H C cl fp => ht _ L.blk hN W.blk hv hgl hl) (fun s H C cl fp => he _ L.blk hN W.blk hv hgl hl) (own_in hown) hfd
theorem z_setcmpr (own : List (Str × Nat)) (L : At X N sc) (W : Wo P T ca nm n X) (hN : X.N.Nodup) (hk : X.N[k]? = some y) (hy : decide (sc.names.lookup y = some .local) = true) (hki : sc.kind = .function) (hln : (py.line == pos.line) = true)
    (ha : (scope.names.any fun (n, k) => n == y && (k == .local || k == .cell)) = false) (hi : PI X tg it (tIt X.K ca nm S i')) (ok : blkC N sc scope own = true)
    (hv : chkV N (relS scope sc) js = true) (hgl : chkG (relS scope sc) ys = true) (hl : chkL N (relS scope sc) ts = true)
    (hg : ∀ Y : Cx, At Y N (relS scope sc) → Y.N.Nodup → Wo P T ca nm n Y → chkV N (relS scope sc) js = true → chkG (relS scope sc) ys = true → chkL N (relS scope sc) ts = true → PG Y tg (tG Y.K ca nm t))
    (ht : ∀ Y : Cx, At Y N (relS scope sc) → Y.N.Nodup → Wo P T ca nm n Y → chkV N (relS scope sc) js = true → chkG (relS scope sc) ys = true → chkL N (relS scope sc) ts = true → PTs Y ifs (tT Y.K ca nm S c))
    (he : ∀ Y : Cx, At Y N (relS scope sc) → Y.N.Nodup → Wo P T ca nm n Y → chkV N (relS scope sc) js = true → chkG (relS scope sc) ys = true → chkL N (relS scope sc) ts = true → PE Y elt (tE Y.K ca nm S x))
    (hown : (tgIx t).all (fun j => (own.map (·.2)).contains j) = true) (hfd : ∀ x, foldedSetIterable it X.env x = pure x := by intro _; rfl) :
    PS X (.Assign [.Name y py] (.ListComp elt [⟨tg, it, ifs, 0⟩] scope pos) spos) (tS X.K ca nm S (.set k (.comp t i' c x (own.map (·.2))))) :=
  z_setC W.cal.calm hN hk (lk_at L hy) (sw_true (by rw [L.hs]; exact hki) (lk_at L hy) hln ha) hi (L.blkOk ok) (fun s H C cl fp => hg _ L.blk hN W.blk hv hgl hl) (fun s H C cl fp => ht _ L.blk hN W.blk hv hgl hl) (fun s H C cl fp => he _ L.blk hN W.blk hv hgl hl) (own_in hown) hfd
end
end Ev

namespace Ev
open PySem L2

/-- one def: its body keeps the promise wherever the others do -/
structure DefOk (P : Prog) (T : Tab) (nm : Nat → Str) (dd : He.DefD) (d : Def) (N ps : List Str) : Prop where
  sc : FnScope N ps dd.scope
  np : ps.length = d.np
  nl : N.length = d.nl
  io : d.io.length ≤ d.np
  fr : ioFree d.io 0 d.body = true
  df : dd.dfl = []
  kw : dd.kwd = []
  bd : ∀ (kV doc pm : Value) (an : Option Addr) (cdv ct : Value) (us : List Value), us.length = ps.length → bindArgs (PySem.W.fnOf dd.name dd.qual dd.params dd.body dd.scope Value.none kV doc pm an cdv ct) { pos := us } = pure (ps.zip us)
  ok : ∀ {X : Cx} {ca : Nat → Addr} {n : Nat}, Bd X N dd.scope → Wo P T ca nm n X → PSs X dd.body (tSs X.K ca nm (P.sg n) d.body)
/-- what the module holds -/
structure Facts (P : Prog) (T : Tab) (fnL : List He.DefD) (K : PySem.W.Frag) (mg : Str → Option Value) (ca : Nat → Addr) (nm : Nat → Str) : Prop where
  df : ∀ (g : Nat) (d : Def), P.defs[g]? = some d → ∃ dd N ps, fnL[g]? = some dd ∧ DefOk P T nm dd d N ps
  fn : ∀ (g : Nat) (y : Str) (k : Nat), T.fn[g]? = some (y, k) → y ≠ Str.empty → ∃ d dd, P.defs[g]? = some d ∧ fnL[g]? = some dd ∧ d.np = k ∧ dd.at_ = (y, none) ∧ mg y = some (.ref (He.ga K y))
  mt : ∀ (m : Nat) (y : Str) (k c g : Nat), T.mt[m]? = some (y, k) → P.mth c m = some g → ∃ d dd, P.defs[g]? = some d ∧ fnL[g]? = some dd ∧ d.np = k ∧ P.sig g = P.msg m ∧ Cls K (ca c) ∧ Meth K (ca c) y (He.fAd K dd.at_)
  mks : ∀ (c : Nat) (y : Str) (k g : Nat), T.cl[c]? = some (y, k) → P.ini c = some g → ∃ d dd, P.defs[g]? = some d ∧ fnL[g]? = some dd ∧ d.np = k + 1 ∧ d.io = [true] ∧ mg y = some (.ref (ca c)) ∧ Mk K (ca c) (He.fAd K dd.at_)
  at_ : ∀ c f, P.atr c f = true → Cls K (ca c) ∧ NoAttr K (ca c) (nm f)
  fr : ∀ (i : Nat) (y : Str), T.free[i]? = some y → mg y = none
  co : ∀ (i : Nat) (y : Str) (d : D), T.con[i]? = some (y, d) → ∃ u v, mg y = some u ∧ RelV v u ∧ ∀ G H, RepD K ca nm G H v d
  inj : ∀ i j, nm i = nm j → i = j
section
variable {P : Prog} {T : Tab} {fa : List He.Fa} {fnL : List He.DefD} {K : PySem.W.Frag} {mg : Str → Option Value} {ca : Nat → Addr} {nm : Nat → Str} {Pg : Program} {w : World} {base : Heap}
theorem sig_of {g : Nat} {d : Def} (h : P.defs[g]? = some d) : P.sig g = d.io := by
  unfold Prog.sig
  rw [h]
def Ih (P : Prog) (T : Tab) (fnL : List He.DefD) (K : PySem.W.Frag) (mg : Str → Option Value) (ca : Nat → Addr) (nm : Nat → Str) (Pg : Program) (w : World) (base : Heap) (n : Nat) : Prop := ∀ (g : Nat) (d : Def), P.defs[g]? = some d → ∃ dd N ps fd, fnL[g]? = some dd ∧ DefOk P T nm dd d N ps ∧ FunD K dd.name dd.qual dd.params dd.body dd.scope [] [] (He.fAd K dd.at_) fd ∧ Binds K fd ps [] ∧
    FnOk Pg w K mg base CX0 (2 * n) (He.fAd K dd.at_) fd ps (spOf K ca nm (run P n g) (P.sig g) d.np)
theorem wo_ih (F : Facts P T fnL K mg ca nm) (n : Nat) {X : Cx} (hr : Room (2 * n + 1) X.A) (ih : Ih P T fnL K mg ca nm X.prog X.w X.base n) (hK : X.K = K := by rfl) (hmg : X.mg = mg := by rfl) (hc : X.calm = true := by rfl) : Wo P T ca nm n X := by
  subst hK
  subst hmg
  refine ⟨⟨hc, hr⟩, fun g y k h hy => ?_, fun m y k h c' g hg => ?_, fun c' y k h g hg => ?_, fun c' f h => F.at_ c' f h, F.fr, F.co, F.inj⟩
  · obtain ⟨d', dd', h1, h2, h3, h4, h5⟩ := F.fn g y k h hy
    obtain ⟨dd2, N2, ps2, fd2, g1, g2, g3, g4, g5⟩ := ih g d' h1
    have ed : dd2 = dd' := Option.some.inj (g1.symm.trans h2)
    subst ed
    rw [h4] at g3 g5
    rw [h3] at g5
    exact ⟨_, fd2, ps2, h5, g3.kp, g4, g5⟩
  · obtain ⟨d', dd', h1, h2, h3, h4, h5, h6⟩ := F.mt m y k c' g h hg
    obtain ⟨dd2, N2, ps2, fd2, g1, g2, g3, g4, g5⟩ := ih g d' h1
    have ed : dd2 = dd' := Option.some.inj (g1.symm.trans h2)
    subst ed
    rw [h3] at g5
    exact ⟨_, fd2, ps2, h5, h6, g4, h4, g5⟩
  · obtain ⟨d', dd', h1, h2, h3, h4, h5, h6⟩ := F.mks c' y k g h hg
    obtain ⟨dd2, N2, ps2, fd2, g1, g2, g3, g4, g5⟩ := ih g d' h1
    have ed : dd2 = dd' := Option.some.inj (g1.symm.trans h2)
    subst ed
    rw [h3, sig_of h1, h4] at g5
    exact ⟨_, fd2, ps2, h5, h6, g4, g5⟩
theorem prog_ok (c : He.SaysD fa fnL K) (F : Facts P T fnL K mg ca nm) : ∀ n : Nat, Ih P T fnL K mg ca nm Pg w base n := by
  intro n
  induction n with
  | zero =>
    intro g d hd
    obtain ⟨dd, N, ps, hL, D⟩ := F.df g d hd
    obtain ⟨fd, FD⟩ := c.def_ g hL
    have e1 : He.DefD.dvs K dd = [] := by unfold He.DefD.dvs; rw [D.df]; rfl
    have e2 : He.DefD.kws K dd = [] := by unfold He.DefD.kws; rw [D.kw]; rfl
    rw [e1, e2] at FD
    exact ⟨dd, N, ps, fd, hL, D, FD, FunD.bindsN FD D.bd, none_ok (fun _ => rfl) D.np.symm⟩
  | succ n ih =>
    intro g d hd
    obtain ⟨dd, N, ps, hL, D⟩ := F.df g d hd
    obtain ⟨fd, FD⟩ := c.def_ g hL
    have e1 : He.DefD.dvs K dd = [] := by unfold He.DefD.dvs; rw [D.df]; rfl
    have e2 : He.DefD.kws K dd = [] := by unfold He.DefD.kws; rw [D.kw]; rfl
    rw [e1, e2] at FD
    refine ⟨dd, N, ps, fd, hL, D, FD, FunD.bindsN FD D.bd, ?_⟩
    have er : run P (n + 1) g = callD (P.sg n) d := by
      funext os
      unfold run
      rw [hd]
      rfl
    rw [er, sig_of hd, show 2 * (n + 1) = (2 * n + 1) + 1 by omega]
    refine def_ok FD D.sc D.np D.nl D.io D.fr fun cdv A outer s H E hr => ?_
    exact D.ok ⟨⟨rfl, rfl⟩, fun _ => rfl, PassesOwn.never⟩ (wo_ih F n hr ih)
theorem prog_base (c : He.SaysD fa fnL K) (F : Facts P T fnL K mg ca nm) (n g : Nat) {d : Def} {dd : He.DefD} {N ps : List Str} (hd : P.defs[g]? = some d) (hL : fnL[g]? = some dd) (D : DefOk P T nm dd d N ps) : ∃ fd, FunD K dd.name dd.qual dd.params dd.body dd.scope [] [] (He.fAd K dd.at_) fd ∧
    ∀ base : Heap, FnOk Pg w K mg base CX0 (2 * n) (He.fAd K dd.at_) fd ps (spOf K ca nm (run P n g) (P.sig g) d.np) := by
  obtain ⟨fd, FD⟩ := c.def_ g hL
  have e1 : He.DefD.dvs K dd = [] := by unfold He.DefD.dvs; rw [D.df]; rfl
  have e2 : He.DefD.kws K dd = [] := by unfold He.DefD.kws; rw [D.kw]; rfl
  rw [e1, e2] at FD
  refine ⟨fd, FD, fun base => ?_⟩
  cases n with
  | zero => exact none_ok (fun _ => rfl) D.np.symm
  | succ n =>
    have er : run P (n + 1) g = callD (P.sg n) d := by
      funext os
      unfold run
      rw [hd]
      rfl
    rw [er, sig_of hd, show 2 * (n + 1) = (2 * n + 1) + 1 by omega]
    refine def_ok FD D.sc D.np D.nl D.io D.fr fun cdv A outer s H E hr => ?_
    exact D.ok ⟨⟨rfl, rfl⟩, fun _ => rfl, PassesOwn.never⟩ (wo_ih F n hr (prog_ok c F n))
/-- the law's own def -/
theorem law_ok (c : He.SaysD fa fnL K) (F : Facts P T fnL K mg ca nm) (n g : Nat) {d : Def} {dd : He.DefD} {y x : Str} {N : List Str} (hd : P.defs[g]? = some d) (hL : fnL[g]? = some dd) (hat : dd.at_ = (y, none)) (hio : d.io = []) (hnp : d.np = 1) (D : DefOk P T nm dd d N [x])
    (h : ∀ ns : List Int, ns.length ≤ 63 → ∃ r, run P n g [.sh (.scr ns)] = some (.sh (.bl true), r)) :
    ∃ fd sp, (∀ (s : Shared) (u : Value), BindsTo s fd { pos := [u] } [(x, u)]) ∧ (∀ (H : Hp) (a : Addr) (ns : List Int), ns.length ≤ 63 → SqL K H a (ns.map V.int) → sp [V.ref a] H (fun v _ => v = V.bl true) (fun _ _ _ => False)) ∧
      ∀ base : Heap, FnOk Pg w K mg base CX0 (2 * n) (He.ga K y) fd [x] sp := by
  obtain ⟨fd, FD, g5⟩ := prog_base (Pg := Pg) (w := w) c F n g hd hL D
  rw [hat] at FD g5
  refine ⟨fd, _, fun s u => FunD.bindsA FD D.bd s [u] rfl, ?_, g5⟩
  intro H a ns hl hS
  obtain ⟨r, hr⟩ := h ns hl
  refine ⟨hnp.symm, H, _, [], _, Sub.refl H, hr, .cons (F := []) (F' := []) (.sh (.scr hS)) .nil, ?_, List.nodup_nil, fun a h => absurd h (by simp), fun v G' H' F' st gh rp nd ng => ?_⟩
  · rw [sig_of hd, hio]
    rfl
  · cases rp with
    | cons r1 r2 =>
      obtain ⟨_, r1⟩ := sh_F r1
      cases r1
      rfl
end
end Ev

namespace Ev
open PySem L2

section
variable {P : Prog} {n g i j : Nat} {a o : Option O} {l ρ : Ev.Env} {d e : D} {p : Option Nat} {os : List O} {x : Ex} {ds : List D} {k : Nat} {S : Sg}
theorem gt0 : gt (a :: l) 0 = a := rfl
theorem gtS : gt (a :: l) (i + 1) = gt l i := rfl
theorem pt0 : pt (a :: l) 0 o = o :: l := rfl
theorem ptS : pt (a :: l) (i + 1) o = a :: pt l i o := rfl
theorem sgΦ : (P.sg n).Φ = run P n := rfl
theorem sgΦm : (P.sg n).Φm = run P n := rfl
theorem sgS : (P.sg n).sig g = P.sig g := rfl
theorem sgM : (P.sg n).msg g = P.msg g := rfl
theorem sgMt : (P.sg n).mth g k = P.mth g k := rfl
theorem sgI : (P.sg n).ini g = P.ini g := rfl
theorem sgA : (P.sg n).atr g k = P.atr g k := rfl
theorem ret1 : retE x (.sh d, p, ρ) = (.sh d, ρ) := rfl
theorem ret2 : retE x (.lst os, none, ρ) = (.lst os, ρ) := rfl
theorem ret3 : retE x (.tup os, none, ρ) = (.tup os, ρ) := rfl
theorem ret4 {ks : List Nat} : retE x (.ins k ks os, none, ρ) = (.ins k ks os, ρ) := rfl
theorem ret5 : retE (.var i) (.lst os, some j, ρ) = (.sh (O.lst os).d, pt ρ j (some (.sh (O.lst os).d))) := rfl
theorem ret6 : retE (.var i) (.tup os, some j, ρ) = (.sh (O.tup os).d, pt ρ j (some (.sh (O.tup os).d))) := rfl
theorem ret7 {ks : List Nat} : retE (.var i) (.ins k ks os, some j, ρ) = (.sh (O.ins k ks os).d, pt ρ j (some (.sh (O.ins k ks os).d))) := rfl
theorem mv1 : mvE (.sh d, p, ρ) = (.sh d, ρ) := rfl
theorem mv2 : mvE (.lst os, none, ρ) = (.lst os, ρ) := rfl
theorem mv3 : mvE (.tup os, none, ρ) = (.tup os, ρ) := rfl
theorem mv4 : mvE (.lst os, some i, ρ) = (.lst os, pt ρ i none) := rfl
theorem mv5 : mvE (.tup os, some i, ρ) = (.tup os, pt ρ i none) := rfl
theorem bo1 {b : Bool} : boolOf (.sh (.bl b)) = some b := rfl
theorem io1 {t : Int} : intOf (.sh (.int t)) = some t := rfl
theorem ba {s t : Int} : binO .add (.sh (.int s)) (.sh (.int t)) = some (.sh (.int (s + t))) := rfl
theorem bs {s t : Int} : binO .sub (.sh (.int s)) (.sh (.int t)) = some (.sh (.int (s - t))) := rfl
theorem bmod {s t : Int} (h : t ≠ 0) : binO .mod (.sh (.int s)) (.sh (.int t)) = some (.sh (.int (s.fmod t))) := if_pos h
theorem bfd {s t : Int} (h : t ≠ 0) (h2 : t.natAbs.log2 < 9000) : binO .fdiv (.sh (.int s)) (.sh (.int t)) = some (.sh (.int (s.fdiv t))) := if_pos ⟨h, h2⟩
theorem bmul {s t : Int} (h : s.natAbs.log2 + t.natAbs.log2 < 1000000) : binO .mul (.sh (.int s)) (.sh (.int t)) = some (.sh (.int (s * t))) := if_pos h
theorem ceq {x y : O} : cmpO .eq x y = eqD x.d y.d := rfl
theorem cne {x y : O} : cmpO .ne x y = (eqD x.d y.d).map (!·) := rfl
theorem cin {x y : O} : cmpO .inn x y = inD x.d y := rfl
theorem cni {x y : O} : cmpO .nin x y = (inD x.d y).map (!·) := rfl
theorem clt {s t : Int} : cmpO .lt (.sh (.int s)) (.sh (.int t)) = some (decide (s < t)) := rfl
theorem cle {s t : Int} : cmpO .le (.sh (.int s)) (.sh (.int t)) = some (decide (s ≤ t)) := rfl
theorem cgt {s t : Int} : cmpO .gt (.sh (.int s)) (.sh (.int t)) = some (decide (t < s)) := rfl
theorem cge {s t : Int} : cmpO .ge (.sh (.int s)) (.sh (.int t)) = some (decide (t ≤ s)) := rfl
theorem shd : (O.sh d).d = d := rfl
theorem is1 : (O.sh d).isSh = true := rfl
theorem is2 : (O.lst os).isSh = false := rfl
theorem is3 : (O.tup os).isSh = false := rfl
theorem eqi {s t : Int} : eqD (.int s) (.int t) = some (decide (s = t)) := by
  unfold eqD
  rw [if_pos ⟨rfl, rfl⟩]
  rfl
theorem eqs {s t : Str} (hs : SeqAt.shaped (.str s) = true) (ht : SeqAt.shaped (.str t) = true) : eqD (.str s) (.str t) = some (s == t) := by
  unfold eqD
  rw [if_pos ⟨hs, ht⟩]
  rfl
theorem ax0 {α : Type} {a : α} {l : List α} : atI (a :: l) 0 = some a := by
  unfold atI ixN
  rw [if_pos (by decide), if_pos (by simp only [List.length_cons, List.length_append, List.length_nil]; omega)]
  rfl
theorem ax1 {α : Type} {a b : α} {l : List α} : atI (a :: b :: l) 1 = some b := by
  unfold atI ixN
  rw [if_pos (by decide), if_pos (by simp only [List.length_cons, List.length_append, List.length_nil]; omega)]
  rfl
theorem ax2 {α : Type} {a b c : α} {l : List α} : atI (a :: b :: c :: l) 2 = some c := by
  unfold atI ixN
  rw [if_pos (by decide), if_pos (by simp only [List.length_cons, List.length_append, List.length_nil]; omega)]
  rfl
theorem ax3 {α : Type} {a b c d : α} {l : List α} : atI (a :: b :: c :: d :: l) 3 = some d := by
  unfold atI ixN
  rw [if_pos (by decide), if_pos (by simp only [List.length_cons, List.length_append, List.length_nil]; omega)]
  rfl
theorem axN {α : Type} {a : α} {l : List α} : atI (l ++ [a]) (-1) = some a := by
  unfold atI ixN
  rw [if_neg (by decide), if_pos (by simp only [List.length_cons, List.length_append, List.length_nil]; omega)]
  have : (-1 + ((l ++ [a]).length : Int)).toNat = l.length := by simp; omega
  rw [this]
  simp
theorem wh {c : Ev.Env → Option (Bool × Ev.Env)} {b : Ev.Env → Option Out} {k : Nat} : whlL c b (k + 1) ρ = (c ρ).bind fun r => (match r.1 with
    | true => (b r.2).bind fun o => (match o with
      | .nx ρ => whlL c b k ρ
      | .ct ρ => whlL c b k ρ
      | .bk ρ => some (.nx ρ)
      | .rt o ρ => some (.rt o ρ))
    | false => some (.nx r.2)) := rfl
theorem wh_t {c : Ev.Env → Option (Bool × Ev.Env)} {b : Ev.Env → Option Out} {k : Nat} {ρ ρ1 ρ2 : Ev.Env} (hc : c ρ = some (true, ρ1)) (hb : b ρ1 = some (.nx ρ2)) : whlL c b (k + 1) ρ = whlL c b k ρ2 := by
  rw [wh, hc]
  show (b ρ1).bind _ = _
  rw [hb]
  rfl
theorem wh_f {c : Ev.Env → Option (Bool × Ev.Env)} {b : Ev.Env → Option Out} {k : Nat} {ρ ρ1 : Ev.Env} (hc : c ρ = some (false, ρ1)) : whlL c b (k + 1) ρ = some (.nx ρ1) := by
  rw [wh, hc]
  rfl
theorem FU : FUEL = 999999999998 + 1 + 1 := rfl
theorem FU1 : FUEL = 999999999999 + 1 := rfl
theorem abs1 {t : Int} : bltO .abs [.sh (.int t)] = some (.sh (.int (if t < 0 then -t else t))) := rfl
theorem int11 {b : Bool} : bltO .int1 [.sh (.bl b)] = some (.sh (.int (if b then 1 else 0))) := rfl
theorem len1 : bltO .len [.lst os] = some (.sh (.int os.length)) := rfl
theorem len2 : bltO .len [.sh (.lst ds)] = some (.sh (.int ds.length)) := rfl
theorem len3 : bltO .len [.sh (.tup ds)] = some (.sh (.int ds.length)) := rfl
theorem len4 {ns : List Int} : bltO .len [.sh (.scr ns)] = some (.sh (.int ns.length)) := by
  have : bltO .len [.sh (.scr ns)] = some (.sh (.int (ns.map D.int).length)) := rfl
  rw [this, List.length_map]
theorem c0 : ((0 : Nat) : Int) = 0 := rfl
theorem c1 : ((1 : Nat) : Int) = 1 := rfl
theorem c2 : ((2 : Nat) : Int) = 2 := rfl
theorem c3 : ((3 : Nat) : Int) = 3 := rfl
theorem aN1 {α : Type} {a : α} : atI [a] (-1) = some a := axN (l := [])
theorem aN2 {α : Type} {a b : α} : atI [a, b] (-1) = some b := axN (l := [a])
theorem aN3 {α : Type} {a b c : α} : atI [a, b, c] (-1) = some c := axN (l := [a, b])
theorem aN4 {α : Type} {a b c d : α} : atI [a, b, c, d] (-1) = some d := axN (l := [a, b, c])
theorem sl1 {a : D} : slO (.sh (.lst [a])) none (some (-1)) = some (.lst []) := rfl
theorem sl2 {a b : D} : slO (.sh (.lst [a, b])) none (some (-1)) = some (.lst [.sh a]) := rfl
theorem sl3 {a b c : D} : slO (.sh (.lst [a, b, c])) none (some (-1)) = some (.lst [.sh a, .sh b]) := rfl
theorem sl4 {a : D} : slO (.sh (.lst [a])) (some 1) none = some (.lst []) := rfl
theorem sl5 {a b : D} : slO (.sh (.lst [a, b])) (some 1) none = some (.lst [.sh b]) := rfl
theorem sl6 {a b c : D} : slO (.sh (.lst [a, b, c])) (some 1) none = some (.lst [.sh b, .sh c]) := rfl
theorem lg {i : Int} {k : Nat} (h : i.natAbs < 2 ^ (k + 1)) : i.natAbs.log2 < k + 1 := by
  by_cases z : i.natAbs = 0
  · rw [z]; exact Nat.succ_pos k
  · exact (Nat.log2_lt z).mpr h
theorem mt1 : mkTup [] = .sh (.tup []) := rfl
theorem us1 : unSh [] = some [] := rfl
theorem us2 : unSh (.sh d :: os) = (unSh os).map (d :: ·) := rfl
theorem us3 {os2 : List O} : unSh (.lst os2 :: os) = none := rfl
theorem us4 {os2 : List O} : unSh (.tup os2 :: os) = none := rfl
theorem mtS {ds : List D} (h : unSh os = some ds) : mkTup os = .sh (.tup ds) := by unfold mkTup; rw [h]
theorem mtN (h : unSh os = none) : mkTup os = .tup os := by unfold mkTup; rw [h]
theorem mt2 {d1 d2 : D} : mkTup [.sh d1, .sh d2] = .sh (.tup [d1, d2]) := rfl
theorem mt3 {d1 d2 d3 : D} : mkTup [.sh d1, .sh d2, .sh d3] = .sh (.tup [d1, d2, d3]) := rfl
theorem mt4 {d1 d2 d3 d4 : D} : mkTup [.sh d1, .sh d2, .sh d3, .sh d4] = .sh (.tup [d1, d2, d3, d4]) := rfl
theorem mt5 {d1 : D} : mkTup [.sh d1] = .sh (.tup [d1]) := rfl
theorem ixt {t : Int} : ixO (.sh (.tup ds)) t = (atI ds t).map .sh := rfl
theorem ixl {t : Int} : ixO (.sh (.lst ds)) t = (atI ds t).map .sh := rfl
theorem ixL {t : Int} : ixO (.lst os) t = atI os t := rfl
theorem ixT {t : Int} : ixO (.tup os) t = atI os t := rfl
theorem bk0 {ρ : Ev.Env} : backA [] [] ρ = ρ := rfl
theorem bk1 {i : Nat} {is : List (Option Nat)} {o : O} {os : List O} {ρ : Ev.Env} : backA (some i :: is) (o :: os) ρ = backA is os (pt ρ i (some o)) := rfl
theorem bk2 {is : List (Option Nat)} {o : O} {os : List O} {ρ : Ev.Env} : backA (none :: is) (o :: os) ρ = backA is os ρ := rfl
end
end Ev

namespace K89
open PySem L2 Ev
def tp (i : Nat) : Stmt := PySem.Challenge.pw_arcmill_k89_papers_nearly_right.main.body.getD i (.Pass ⟨0, 0, 0, 0⟩)
abbrev s_divisor : Stmt := tp 4
abbrev s_ratio : Stmt := tp 5
abbrev s_plus : Stmt := tp 6
abbrev s_minus : Stmt := tp 7
abbrev s_times : Stmt := tp 8
abbrev s_below : Stmt := tp 9
abbrev s_together : Stmt := tp 11
abbrev s_off : Stmt := tp 12
abbrev s_grown : Stmt := tp 13
abbrev s_turned : Stmt := tp 14
abbrev s_along : Stmt := tp 15
abbrev s_across : Stmt := tp 16
abbrev s_far : Stmt := tp 17
abbrev s_sign_of : Stmt := tp 18
abbrev s_side : Stmt := tp 19
abbrev s_before : Stmt := tp 20
abbrev s_stretch : Stmt := tp 22
abbrev s_lies_on : Stmt := tp 23
abbrev s_quarter_of : Stmt := tp 25
abbrev s_ahead : Stmt := tp 26
abbrev s_on : Stmt := tp 27
abbrev s_first : Stmt := tp 30
abbrev s_led : Stmt := tp 31
abbrev s_behind : Stmt := tp 32
abbrev s_led_piece : Stmt := tp 33
abbrev s_power : Stmt := tp 36
abbrev s_frame_of : Stmt := tp 38
abbrev s_is_number : Stmt := tp 41
abbrev s_straight_chain : Stmt := tp 42
abbrev s_same_circle : Stmt := tp 43
abbrev s_comes_to : Stmt := tp 44
abbrev s_bent_chain : Stmt := tp 45
abbrev s_chain_shown : Stmt := tp 46
abbrev s_Given__init_ : Stmt := inClass (tp 47) 0
abbrev s_Given_is_one : Stmt := inClass (tp 47) 1
abbrev s_Given_piece : Stmt := inClass (tp 47) 2
abbrev s_Given_covers : Stmt := inClass (tp 47) 3
abbrev s_Given_covers_all : Stmt := inClass (tp 47) 4
abbrev s_papers_shown : Stmt := tp 48
abbrev s_alike_shown : Stmt := tp 49
abbrev s__law_cell_at : Stmt := tp 51
abbrev s__law_feed : Stmt := tp 52
abbrev s__law_draw : Stmt := tp 53
abbrev s__law_point : Stmt := tp 54
abbrev s__law_left : Stmt := tp 55
abbrev s__law_links : Stmt := tp 56
abbrev s__law_straight_ones : Stmt := tp 57
abbrev s__law_round_ones : Stmt := tp 58
abbrev s_law : Stmt := tp 59
def N_divisor : List Str := ["one", "other"]
def d_divisor : Def := { np := 2, nl := 2, io := [], body := (.cons (.set 0 (.blt .abs (.cons (.var 0) .nil))) (.cons (.set 1 (.blt .abs (.cons (.var 1) .nil))) (.cons (.whl (.cmp .gt (.var 1) (.con (.int 0))) (.cons (.par [0, 1] (.cons (.var 1) (.cons (.bin .mod (.var 0) (.var 1)) .nil))) .nil)) (.cons (.ret (.var 0)) .nil)))) }
def N_ratio : List Str := ["top", "bottom", "by"]
def d_ratio : Def := { np := 2, nl := 3, io := [], body := (.cons (.iff (.cmp .eq (.var 1) (.con (.int 0))) (.cons bad .nil) .nil) (.cons (.set 2 (.call 0 (.cons (.var 0) (.cons (.var 1) .nil)))) (.cons (.iff (.cmp .lt (.var 1) (.con (.int 0))) (.cons (.set 2 (.bin .sub (.con (.int 0)) (.var 2))) .nil) .nil) (.cons (.ret (.tup (.cons (.bin .fdiv (.var 0) (.var 2)) (.cons (.bin .fdiv (.var 1) (.var 2)) .nil)))) .nil)))) }
def N_plus : List Str := ["one", "other"]
def d_plus : Def := { np := 2, nl := 2, io := [], body := (.cons (.ret (.call 1 (.cons (.bin .add (.bin .mul (.idc (.var 0) 0) (.idc (.var 1) 1)) (.bin .mul (.idc (.var 1) 0) (.idc (.var 0) 1))) (.cons (.bin .mul (.idc (.var 0) 1) (.idc (.var 1) 1)) .nil)))) .nil) }
def N_minus : List Str := ["one", "other"]
def d_minus : Def := { np := 2, nl := 2, io := [], body := (.cons (.ret (.call 1 (.cons (.bin .sub (.bin .mul (.idc (.var 0) 0) (.idc (.var 1) 1)) (.bin .mul (.idc (.var 1) 0) (.idc (.var 0) 1))) (.cons (.bin .mul (.idc (.var 0) 1) (.idc (.var 1) 1)) .nil)))) .nil) }
def N_times : List Str := ["one", "other"]
def d_times : Def := { np := 2, nl := 2, io := [], body := (.cons (.ret (.call 1 (.cons (.bin .mul (.idc (.var 0) 0) (.idc (.var 1) 0)) (.cons (.bin .mul (.idc (.var 0) 1) (.idc (.var 1) 1)) .nil)))) .nil) }
def N_below : List Str := ["one", "other"]
def d_below : Def := { np := 2, nl := 2, io := [], body := (.cons (.ret (.cmp .lt (.bin .mul (.idc (.var 0) 0) (.idc (.var 1) 1)) (.bin .mul (.idc (.var 1) 0) (.idc (.var 0) 1)))) .nil) }
def N_together : List Str := ["p", "q"]
def d_together : Def := { np := 2, nl := 2, io := [], body := (.cons (.ret (.tup (.cons (.call 2 (.cons (.idc (.var 0) 0) (.cons (.idc (.var 1) 0) .nil))) (.cons (.call 2 (.cons (.idc (.var 0) 1) (.cons (.idc (.var 1) 1) .nil))) .nil)))) .nil) }
def N_off : List Str := ["p", "q"]
def d_off : Def := { np := 2, nl := 2, io := [], body := (.cons (.ret (.tup (.cons (.call 3 (.cons (.idc (.var 0) 0) (.cons (.idc (.var 1) 0) .nil))) (.cons (.call 3 (.cons (.idc (.var 0) 1) (.cons (.idc (.var 1) 1) .nil))) .nil)))) .nil) }
def N_grown : List Str := ["p", "number"]
def d_grown : Def := { np := 2, nl := 2, io := [], body := (.cons (.ret (.tup (.cons (.call 4 (.cons (.idc (.var 0) 0) (.cons (.var 1) .nil))) (.cons (.call 4 (.cons (.idc (.var 0) 1) (.cons (.var 1) .nil))) .nil)))) .nil) }
def N_turned : List Str := ["p", "quarters", "x", "y", "turn"]
def d_turned : Def := { np := 2, nl := 5, io := [], body := (.cons (.unp [2, 3] (.var 0)) (.cons (.for_ (.nm 4) (.rng (.cons (.bin .mod (.var 1) (.con (.int 4))) .nil)) (.cons (.par [2, 3] (.cons (.tup (.cons (.bin .sub (.con (.int 0)) (.idc (.var 3) 0)) (.cons (.idc (.var 3) 1) .nil))) (.cons (.var 2) .nil))) .nil)) (.cons (.ret (.tup (.cons (.var 2) (.cons (.var 3) .nil)))) .nil))) }
def N_along : List Str := ["p", "q"]
def d_along : Def := { np := 2, nl := 2, io := [], body := (.cons (.ret (.call 2 (.cons (.call 4 (.cons (.idc (.var 0) 0) (.cons (.idc (.var 1) 0) .nil))) (.cons (.call 4 (.cons (.idc (.var 0) 1) (.cons (.idc (.var 1) 1) .nil))) .nil)))) .nil) }
def N_across : List Str := ["p", "q"]
def d_across : Def := { np := 2, nl := 2, io := [], body := (.cons (.ret (.call 3 (.cons (.call 4 (.cons (.idc (.var 0) 0) (.cons (.idc (.var 1) 1) .nil))) (.cons (.call 4 (.cons (.idc (.var 0) 1) (.cons (.idc (.var 1) 0) .nil))) .nil)))) .nil) }
def N_far : List Str := ["p", "q", "way"]
def d_far : Def := { np := 2, nl := 3, io := [], body := (.cons (.set 2 (.call 7 (.cons (.var 0) (.cons (.var 1) .nil)))) (.cons (.ret (.call 10 (.cons (.var 2) (.cons (.var 2) .nil)))) .nil)) }
def N_sign_of : List Str := ["number"]
def d_sign_of : Def := { np := 1, nl := 1, io := [], body := (.cons (.ret (.bin .sub (.blt .int1 (.cons (.cmp .gt (.idc (.var 0) 0) (.con (.int 0))) .nil)) (.blt .int1 (.cons (.cmp .lt (.idc (.var 0) 0) (.con (.int 0))) .nil)))) .nil) }
def N_side : List Str := ["a", "b", "p"]
def d_side : Def := { np := 3, nl := 3, io := [], body := (.cons (.ret (.call 13 (.cons (.call 11 (.cons (.call 7 (.cons (.var 1) (.cons (.var 0) .nil))) (.cons (.call 7 (.cons (.var 2) (.cons (.var 0) .nil))) .nil))) .nil))) .nil) }
def N_before : List Str := ["p", "q"]
def d_before : Def := { np := 2, nl := 2, io := [], body := (.cons (.ret (.or_ (.call 5 (.cons (.idc (.var 0) 0) (.cons (.idc (.var 1) 0) .nil))) (.and_ (.cmp .eq (.idc (.var 0) 0) (.idc (.var 1) 0)) (.call 5 (.cons (.idc (.var 0) 1) (.cons (.idc (.var 1) 1) .nil)))))) .nil) }
def N_stretch : List Str := ["p", "q"]
def d_stretch : Def := { np := 2, nl := 2, io := [], body := (.cons (.iff (.cmp .eq (.var 0) (.var 1)) (.cons (.ret (.tup (.cons (.con (.str "dot")) (.cons (.var 0) .nil)))) .nil) .nil) (.cons (.iff (.call 15 (.cons (.var 1) (.cons (.var 0) .nil))) (.cons (.ret (.tup (.cons (.con (.str "stretch")) (.cons (.var 1) (.cons (.var 0) .nil))))) .nil) .nil) (.cons (.ret (.tup (.cons (.con (.str "stretch")) (.cons (.var 0) (.cons (.var 1) .nil))))) .nil))) }
def N_lies_on : List Str := ["piece", "p"]
def d_lies_on : Def := { np := 2, nl := 2, io := [], body := (.cons (.iff (.cmp .eq (.idc (.var 0) 0) (.con (.str "dot"))) (.cons (.ret (.cmp .eq (.var 1) (.idc (.var 0) 1))) .nil) .nil) (.cons (.ret (.and_ (.cmp .eq (.call 14 (.cons (.idc (.var 0) 1) (.cons (.idc (.var 0) 2) (.cons (.var 1) .nil)))) (.con (.int 0))) (.and_ (.not_ (.call 15 (.cons (.var 1) (.cons (.idc (.var 0) 1) .nil)))) (.not_ (.call 15 (.cons (.idc (.var 0) 2) (.cons (.var 1) .nil))))))) .nil)) }
def N_quarter_of : List Str := ["one", "other", "straight", "left"]
def d_quarter_of : Def := { np := 2, nl := 4, io := [], body := (.cons (.set 2 (.call 13 (.cons (.call 10 (.cons (.var 0) (.cons (.var 1) .nil))) .nil))) (.cons (.set 3 (.call 13 (.cons (.call 11 (.cons (.var 0) (.cons (.var 1) .nil))) .nil))) (.cons (.iff (.and_ (.cmp .gt (.var 2) (.con (.int 0))) (.cmp .ge (.var 3) (.con (.int 0)))) (.cons (.ret (.con (.int 0))) .nil) .nil) (.cons (.iff (.cmp .gt (.var 3) (.con (.int 0))) (.cons (.ret (.con (.int 1))) .nil) .nil) (.cons (.iff (.cmp .lt (.var 2) (.con (.int 0))) (.cons (.ret (.con (.int 2))) .nil) .nil) (.cons (.ret (.con (.int 3))) .nil)))))) }
def N_ahead : List Str := ["c", "a", "p", "q", "start", "one", "other", "here", "there"]
def d_ahead : Def := { np := 4, nl := 9, io := [], body := (.cons (.set 4 (.call 7 (.cons (.var 1) (.cons (.var 0) .nil)))) (.cons (.set 5 (.call 7 (.cons (.var 2) (.cons (.var 0) .nil)))) (.cons (.set 6 (.call 7 (.cons (.var 3) (.cons (.var 0) .nil)))) (.cons (.set 7 (.call 18 (.cons (.var 4) (.cons (.var 5) .nil)))) (.cons (.set 8 (.call 18 (.cons (.var 4) (.cons (.var 6) .nil)))) (.cons (.iff (.cmp .ne (.var 7) (.var 8)) (.cons (.ret (.cmp .lt (.var 7) (.var 8))) .nil) .nil) (.cons (.ret (.cmp .gt (.idc (.call 11 (.cons (.var 5) (.cons (.var 6) .nil))) 0) (.con (.int 0)))) .nil))))))) }
def N_on : List Str := ["piece", "p", "c"]
def d_on : Def := { np := 2, nl := 3, io := [], body := (.cons (.iff (.or_ (.cmp .eq (.idc (.var 0) 0) (.con (.str "dot"))) (.cmp .eq (.idc (.var 0) 0) (.con (.str "stretch")))) (.cons (.ret (.call 17 (.cons (.var 0) (.cons (.var 1) .nil)))) .nil) .nil) (.cons (.set 2 (.idc (.var 0) 1)) (.cons (.iff (.cmp .ne (.call 12 (.cons (.var 2) (.cons (.var 1) .nil))) (.call 12 (.cons (.var 2) (.cons (.idc (.var 0) 2) .nil)))) (.cons (.ret (.con (.bl false))) .nil) .nil) (.cons (.iff (.or_ (.cmp .eq (.idc (.var 0) 0) (.con (.str "ring"))) (.or_ (.cmp .eq (.var 1) (.idc (.var 0) 2)) (.cmp .eq (.var 1) (.idc (.var 0) 3)))) (.cons (.ret (.con (.bl true))) .nil) .nil) (.cons (.ret (.call 19 (.cons (.var 2) (.cons (.idc (.var 0) 2) (.cons (.var 1) (.cons (.idc (.var 0) 3) .nil)))))) .nil))))) }
def N_first : List Str := []
def d_first : Def := { np := 0, nl := 0, io := [], body := (.cons bad .nil) }
def N_led : List Str := ["frame", "p", "place", "turns", "hand", "size", "x", "y"]
def d_led : Def := { np := 2, nl := 8, io := [], body := (.cons (.unp [2, 3, 4, 5] (.var 0)) (.cons (.unp [6, 7] (.var 1)) (.cons (.ret (.call 6 (.cons (.call 8 (.cons (.call 9 (.cons (.tup (.cons (.var 6) (.cons (.tup (.cons (.bin .mul (.var 4) (.idc (.var 7) 0)) (.cons (.idc (.var 7) 1) .nil))) .nil))) (.cons (.var 3) .nil))) (.cons (.var 5) .nil))) (.cons (.var 2) .nil)))) .nil))) }
def N_behind : List Str := ["one", "other", "turns"]
def d_behind : Def := { np := 2, nl := 3, io := [], body := (.cons (.set 2 (.bin .mod (.bin .add (.idc (.var 0) 1) (.bin .mul (.idc (.var 0) 2) (.idc (.var 1) 1))) (.con (.int 4)))) (.cons (.ret (.tup (.cons (.call 22 (.cons (.var 0) (.cons (.idc (.var 1) 0) .nil))) (.cons (.var 2) (.cons (.bin .mul (.idc (.var 0) 2) (.idc (.var 1) 2)) (.cons (.call 4 (.cons (.idc (.var 0) 3) (.cons (.idc (.var 1) 3) .nil))) .nil)))))) .nil)) }
def N_led_piece : List Str := ["frame", "piece", "points", "p"]
def d_led_piece : Def := { np := 2, nl := 4, io := [], body := (.cons (.set 2 (.comp (.nm 3) (.seq (.slc (.var 1) (.con (.int 1)) (.con .non))) (.con (.bl true)) (.call 22 (.cons (.var 0) (.cons (.var 3) .nil))) [3])) (.cons (.iff (.cmp .eq (.idc (.var 1) 0) (.con (.str "stretch"))) (.cons (.ret (.call 16 (.cons (.idc (.var 2) 0) (.cons (.idc (.var 2) 1) .nil)))) .nil) .nil) (.cons (.iff (.and_ (.cmp .eq (.idc (.var 1) 0) (.con (.str "arc"))) (.cmp .lt (.idc (.var 0) 2) (.con (.int 0)))) (.cons (.ret (.tup (.cons (.con (.str "arc")) (.cons (.idc (.var 2) 0) (.cons (.idc (.var 2) 2) (.cons (.idc (.var 2) 1) .nil)))))) .nil) .nil) (.cons (.ret (.bin .add (.tup (.cons (.idc (.var 1) 0) .nil)) (.blt .tuple (.cons (.var 2) .nil)))) .nil)))) }
def N_power : List Str := ["frame", "n", "found", "base"]
def d_power : Def := { np := 2, nl := 4, io := [], body := (.cons (.set 2 (.call 21 .nil)) (.cons (.set 3 (.var 0)) (.cons (.whl (.cmp .gt (.var 1) (.con (.int 0))) (.cons (.iff (.cmp .eq (.bin .mod (.var 1) (.con (.int 2))) (.con (.int 1))) (.cons (.set 2 (.call 23 (.cons (.var 2) (.cons (.var 3) .nil)))) .nil) .nil) (.cons (.set 3 (.call 23 (.cons (.var 3) (.cons (.var 3) .nil)))) (.cons (.set 1 (.bin .fdiv (.var 1) (.con (.int 2)))) .nil)))) (.cons (.ret (.var 2)) .nil)))) }
def N_frame_of : List Str := ["wanted"]
def d_frame_of : Def := { np := 1, nl := 1, io := [], body := (.cons (.iff (.cmp .eq (.idc (.var 0) 0) (.con (.str "on"))) (.cons bad .nil) .nil) (.cons (.iff (.cmp .eq (.idc (.var 0) 0) (.con (.str "smaller"))) (.cons bad .nil) .nil) (.cons (.ret (.call 21 .nil)) .nil))) }
def N_is_number : List Str := ["thing"]
def d_is_number : Def := { np := 1, nl := 1, io := [], body := (.cons (.ret (.and_ (.blt .isInt (.cons (.var 0) .nil)) (.and_ (.not_ (.blt .isBool (.cons (.var 0) .nil))) (.cmp .ge (.var 0) (.con (.int 0)))))) .nil) }
def N_straight_chain : List Str := ["pieces", "piece", "one", "other"]
def d_straight_chain : Def := { np := 2, nl := 4, io := [], body := (.cons (.for_ (.nm 2) (.seq (.var 0)) (.cons (.iff (.or_ (.cmp .ne (.idc (.var 2) 0) (.con (.str "stretch"))) (.or_ (.cmp .ne (.call 14 (.cons (.idc (.var 1) 1) (.cons (.idc (.var 1) 2) (.cons (.idc (.var 2) 1) .nil)))) (.con (.int 0))) (.cmp .ne (.call 14 (.cons (.idc (.var 1) 1) (.cons (.idc (.var 1) 2) (.cons (.idc (.var 2) 2) .nil)))) (.con (.int 0))))) (.cons (.ret (.con (.bl false))) .nil) .nil) .nil)) (.cons (.iff (.or_ (.not_ (.call 20 (.cons (.idc (.var 0) 0) (.cons (.idc (.var 1) 1) .nil)))) (.not_ (.call 20 (.cons (.idc (.var 0) (-1)) (.cons (.idc (.var 1) 2) .nil))))) (.cons (.ret (.con (.bl false))) .nil) .nil) (.cons (.for_ (.tp [2, 3]) (.zip (.slc (.var 0) (.con .non) (.neg (.con (.int 1)))) (.slc (.var 0) (.con (.int 1)) (.con .non))) (.cons (.iff (.not_ (.call 20 (.cons (.var 3) (.cons (.idc (.var 2) 2) .nil)))) (.cons (.ret (.con (.bl false))) .nil) .nil) .nil)) (.cons (.ret (.con (.bl true))) .nil)))) }
def N_same_circle : List Str := ["one", "piece"]
def d_same_circle : Def := { np := 2, nl := 2, io := [], body := (.cons (.ret (.and_ (.cmp .inn (.idc (.var 0) 0) (.tup (.cons (.con (.str "arc")) (.cons (.con (.str "ring")) .nil)))) (.and_ (.cmp .eq (.idc (.var 0) 1) (.idc (.var 1) 1)) (.cmp .eq (.call 12 (.cons (.idc (.var 0) 1) (.cons (.idc (.var 0) 2) .nil))) (.call 12 (.cons (.idc (.var 1) 1) (.cons (.idc (.var 1) 2) .nil))))))) .nil) }
def N_comes_to : List Str := ["one", "here", "goal"]
def d_comes_to : Def := { np := 3, nl := 3, io := [], body := (.cons (.ret (.and_ (.cmp .ne (.var 2) (.var 1)) (.and_ (.call 20 (.cons (.var 0) (.cons (.var 2) .nil))) (.not_ (.call 19 (.cons (.idc (.var 0) 1) (.cons (.var 1) (.cons (.idc (.var 0) 3) (.cons (.var 2) .nil))))))))) .nil) }
def N_bent_chain : List Str := ["pieces", "piece", "here", "goal", "k", "one"]
def d_bent_chain : Def := { np := 2, nl := 6, io := [], body := (.cons (.set 2 (.idc (.var 1) 2)) (.cons (.set 3 (.idc (.var 1) (-1))) (.cons (.for_ (.tp [4, 5]) (.enm (.var 0)) (.cons (.iff (.or_ (.cmp .ne (.idc (.var 5) 0) (.con (.str "arc"))) (.or_ (.not_ (.call 20 (.cons (.var 5) (.cons (.var 2) .nil)))) (.cmp .eq (.idc (.var 5) 3) (.var 2)))) (.cons (.ret (.con (.bl false))) .nil) .nil) (.cons (.iff (.call 30 (.cons (.var 5) (.cons (.var 2) (.cons (.var 3) .nil)))) (.cons (.ret (.cmp .eq (.var 4) (.bin .sub (.blt .len (.cons (.var 0) .nil)) (.con (.int 1))))) .nil) .nil) (.cons (.set 2 (.idc (.var 5) 3)) .nil)))) (.cons (.ret (.con (.bl false))) .nil)))) }
def N_chain_shown : List Str := ["pieces", "piece", "one"]
def d_chain_shown : Def := { np := 2, nl := 3, io := [], body := (.cons (.iff (.cmp .eq (.var 0) (.lst .nil)) (.cons (.ret (.con (.bl false))) .nil) .nil) (.cons (.iff (.cmp .eq (.idc (.var 1) 0) (.con (.str "dot"))) (.cons (.ret (.and_ (.cmp .eq (.blt .len (.cons (.var 0) .nil)) (.con (.int 1))) (.call 20 (.cons (.idc (.var 0) 0) (.cons (.idc (.var 1) 1) .nil))))) .nil) .nil) (.cons (.iff (.cmp .eq (.idc (.var 1) 0) (.con (.str "stretch"))) (.cons (.ret (.call 28 (.cons (.var 0) (.cons (.var 1) .nil)))) .nil) .nil) (.cons (.iff (.not_ (.blt .all (.cons (.comp (.nm 2) (.seq (.var 0)) (.con (.bl true)) (.call 29 (.cons (.var 2) (.cons (.var 1) .nil))) [2]) .nil))) (.cons (.ret (.con (.bl false))) .nil) .nil) (.cons (.iff (.and_ (.cmp .eq (.blt .len (.cons (.var 0) .nil)) (.con (.int 1))) (.cmp .eq (.idc (.idc (.var 0) 0) 0) (.con (.str "ring")))) (.cons (.ret (.con (.bl true))) .nil) .nil) (.cons (.ret (.call 31 (.cons (.var 0) (.cons (.var 1) .nil)))) .nil)))))) }
def N_Given__init_ : List Str := ["self", "wanted", "still", "flow"]
def d_Given__init_ : Def := { np := 4, nl := 4, io := [true], body := (.cons (.setF 0 0 (.var 1)) (.cons (.setF 0 1 (.var 2)) (.cons (.setF 0 2 (.var 3)) .nil))) }
def N_Given_is_one : List Str := ["self", "thing"]
def d_Given_is_one : Def := { np := 2, nl := 2, io := [false], body := (.cons (.iff (.or_ (.not_ (.blt .isTuple (.cons (.var 1) .nil))) (.or_ (.cmp .ne (.blt .len (.cons (.var 1) .nil)) (.con (.int 2))) (.or_ (.not_ (.call 27 (.cons (.idc (.var 1) 0) .nil))) (.not_ (.call 27 (.cons (.idc (.var 1) 1) .nil)))))) (.cons (.ret (.con (.bl false))) .nil) .nil) (.cons (.iff (.or_ (.cmp .ge (.idc (.var 1) 0) (.bin .add (.blt .len (.cons (.attr (.var 0) 1) .nil)) (.blt .len (.cons (.attr (.var 0) 2) .nil)))) (.and_ (.cmp .lt (.idc (.var 1) 0) (.blt .len (.cons (.attr (.var 0) 1) .nil))) (.cmp .gt (.idc (.var 1) 1) (.con (.int 0))))) (.cons (.ret (.con (.bl false))) .nil) .nil) (.cons (.ret (.or_ (.cmp .ne (.idc (.attr (.var 0) 0) 0) (.con (.str "smaller"))) (.cmp .le (.idc (.var 1) 1) (.con (.int 2000))))) .nil))) }
def N_Given_piece : List Str := ["self", "number", "n"]
def d_Given_piece : Def := { np := 3, nl := 3, io := [false], body := (.cons (.iff (.cmp .lt (.var 1) (.blt .len (.cons (.attr (.var 0) 1) .nil))) (.cons (.ret (.idx (.attr (.var 0) 1) (.var 1))) .nil) .nil) (.cons (.ret (.call 24 (.cons (.call 25 (.cons (.call 26 (.cons (.attr (.var 0) 0) .nil)) (.cons (.var 2) .nil))) (.cons (.idx (.attr (.var 0) 2) (.bin .sub (.var 1) (.blt .len (.cons (.attr (.var 0) 1) .nil)))) .nil)))) .nil)) }
def N_Given_covers : List Str := ["self", "paper", "piece", "thing", "k", "number", "n"]
def d_Given_covers : Def := { np := 3, nl := 7, io := [false], body := (.cons (.iff (.or_ (.not_ (.blt .isList (.cons (.var 1) .nil))) (.not_ (.blt .all (.cons (.comp (.nm 3) (.seq (.var 1)) (.con (.bl true)) (.meth 0 (.cons (.var 0) (.cons (.var 3) .nil))) [3]) .nil)))) (.cons (.ret (.con (.bl false))) .nil) .nil) (.cons (.iff (.and_ (.cmp .eq (.idc (.var 2) 0) (.con (.str "stretch"))) (.blt .any (.cons (.comp (.nm 4) (.rng (.cons (.blt .len (.cons (.var 1) .nil)) .nil)) (.con (.bl true)) (.cmp .inn (.idx (.var 1) (.var 4)) (.slc (.var 1) (.con .non) (.var 4))) [4]) .nil))) (.cons (.ret (.con (.bl false))) .nil) .nil) (.cons (.ret (.call 32 (.cons (.comp (.tp [5, 6]) (.seq (.var 1)) (.con (.bl true)) (.meth 1 (.cons (.var 0) (.cons (.var 5) (.cons (.var 6) .nil)))) [5, 6]) (.cons (.var 2) .nil)))) .nil))) }
def N_Given_covers_all : List Str := ["self", "papers", "piece", "frame", "n", "paper", "number"]
def d_Given_covers_all : Def := { np := 3, nl := 7, io := [false], body := (.cons (.iff (.or_ (.not_ (.blt .isList (.cons (.var 1) .nil))) (.cmp .eq (.var 1) (.lst .nil))) (.cons (.ret (.con (.bl false))) .nil) .nil) (.cons (.set 3 (.call 26 (.cons (.attr (.var 0) 0) .nil))) (.cons (.for_ (.tp [4, 5]) (.enm (.var 1)) (.cons (.iff (.not_ (.meth 2 (.cons (.var 0) (.cons (.var 5) (.cons (.call 24 (.cons (.call 25 (.cons (.var 3) (.cons (.var 4) .nil))) (.cons (.var 2) .nil))) .nil))))) (.cons (.ret (.con (.bl false))) .nil) .nil) .nil)) (.cons (.ret (.blt .all (.cons (.comp (.tp [6, 4]) (.seq (.idc (.var 1) (-1))) (.con (.bl true)) (.cmp .ge (.var 6) (.blt .len (.cons (.attr (.var 0) 1) .nil))) [6, 4]) .nil))) .nil)))) }
def N_papers_shown : List Str := ["given", "one", "papers", "piece", "paper"]
def d_papers_shown : Def := { np := 3, nl := 5, io := [], body := (.cons (.iff (.or_ (.not_ (.blt .isList (.cons (.var 2) .nil))) (.cmp .ne (.blt .len (.cons (.var 2) .nil)) (.bin .add (.blt .len (.cons (.idc (.var 1) 0) .nil)) (.blt .len (.cons (.idc (.var 1) 1) .nil))))) (.cons (.ret (.con (.bl false))) .nil) .nil) (.cons (.for_ (.tp [3, 4]) (.zip (.idc (.var 1) 0) (.var 2)) (.cons (.iff (.not_ (.meth 2 (.cons (.var 0) (.cons (.var 4) (.cons (.var 3) .nil))))) (.cons (.ret (.con (.bl false))) .nil) .nil) .nil)) (.cons (.for_ (.tp [3, 4]) (.zip (.idc (.var 1) 1) (.slc (.var 2) (.blt .len (.cons (.idc (.var 1) 0) .nil)) (.con .non))) (.cons (.iff (.not_ (.meth 3 (.cons (.var 0) (.cons (.var 4) (.cons (.var 3) .nil))))) (.cons (.ret (.con (.bl false))) .nil) .nil) .nil)) (.cons (.ret (.con (.bl true))) .nil)))) }
def N_alike_shown : List Str := ["even", "papers", "one", "other"]
def d_alike_shown : Def := { np := 2, nl := 4, io := [], body := (.cons (.iff (.or_ (.not_ (.blt .isTuple (.cons (.var 1) .nil))) (.cmp .ne (.blt .len (.cons (.var 1) .nil)) (.con (.int 2)))) (.cons (.ret (.con (.bl false))) .nil) .nil) (.cons (.set 2 (.mk 0 (.cons (.idc (.var 0) 0) (.cons (.idc (.idc (.var 0) 1) 0) (.cons (.idc (.idc (.var 0) 1) 1) .nil))))) (.cons (.set 3 (.mk 0 (.cons (.idc (.var 0) 0) (.cons (.idc (.idc (.var 0) 2) 0) (.cons (.idc (.idc (.var 0) 2) 1) .nil))))) (.cons (.ret (.and_ (.call 38 (.cons (.var 3) (.cons (.idc (.var 0) 1) (.cons (.idc (.var 1) 0) .nil)))) (.call 38 (.cons (.var 2) (.cons (.idc (.var 0) 2) (.cons (.idc (.var 1) 1) .nil)))))) .nil)))) }
def N__law_cell_at : List Str := ["_law_script", "_law_k"]
def d__law_cell_at : Def := { np := 2, nl := 2, io := [], body := (.cons (.iff (.cmp .lt (.var 1) (.blt .len (.cons (.var 0) .nil))) (.cons (.ret (.idx (.var 0) (.var 1))) .nil) .nil) (.cons (.ret (.con (.int 0))) .nil)) }
def N__law_feed : List Str := ["_law_cell"]
def d__law_feed : Def := { np := 1, nl := 1, io := [], body := (.cons (.ret (.lst (.cons (.var 0) (.cons (.con (.int 0)) (.cons (.blt .int1 (.cons (.cmp .ge (.var 0) (.bin .pow (.con (.int 10)) (.con (.int 18)))) .nil)) .nil))))) .nil) }
def N__law_draw : List Str := ["_law_feed_here", "_law_many", "_law_k", "_law_found", "_law_number"]
def d__law_draw : Def := { np := 2, nl := 5, io := [true], body := (.cons (.set 2 (.idc (.var 0) 1)) (.cons (.setI 0 (.con (.int 1)) (.bin .add (.var 2) (.con (.int 1)))) (.cons (.iff (.and_ (.cmp .eq (.idc (.var 0) 2) (.con (.int 1))) (.cmp .gt (.idc (.var 0) 0) (.con (.int 0)))) (.cons (.set 3 (.bin .mod (.idc (.var 0) 0) (.var 1))) (.cons (.setI 0 (.con (.int 0)) (.bin .fdiv (.idc (.var 0) 0) (.var 1))) (.cons (.ret (.var 3)) .nil))) .nil) (.cons (.set 4 (.bin .mod (.bin .mul (.bin .add (.bin .add (.bin .mod (.idc (.var 0) 0) (.bin .pow (.con (.int 10)) (.con (.int 18)))) (.bin .mul (.bin .mul (.con (.int 7919)) (.var 2)) (.var 2))) (.var 2)) (.con (.int 48271))) (.con (.int 2305843009213693951)))) (.cons (.set 4 (.bin .mod (.bin .add (.bin .mul (.var 4) (.con (.int 1442695040888963407))) (.con (.int 4321))) (.con (.int 2305843009213693921)))) (.cons (.ret (.bin .mod (.bin .fdiv (.var 4) (.con (.int 16))) (.var 1))) .nil)))))) }
def N__law_point : List Str := ["_law_feed_here"]
def d__law_point : Def := { np := 1, nl := 1, io := [true], body := (.cons (.ret (.tup (.cons (.tup (.cons (.bin .sub (.call 42 (.cons (.var 0) (.cons (.con (.int 13)) .nil))) (.con (.int 6))) (.cons (.con (.int 1)) .nil))) (.cons (.tup (.cons (.bin .sub (.call 42 (.cons (.var 0) (.cons (.con (.int 13)) .nil))) (.con (.int 6))) (.cons (.con (.int 1)) .nil))) .nil)))) .nil) }
def N__law_left : List Str := ["_law_v"]
def d__law_left : Def := { np := 1, nl := 1, io := [], body := (.cons (.ret (.tup (.cons (.tup (.cons (.bin .sub (.con (.int 0)) (.idc (.idc (.var 0) 1) 0)) (.cons (.idc (.idc (.var 0) 1) 1) .nil))) (.cons (.idc (.var 0) 0) .nil)))) .nil) }
def N__law_links : List Str := ["_law_feed_here", "_law_links_here", "_law_due", "_law_way"]
def d__law_links : Def := { np := 3, nl := 4, io := [true], body := (.cons (.set 3 (.call 42 (.cons (.var 0) (.cons (.con (.int 5)) .nil)))) (.cons (.iff (.and_ (.cmp .eq (.var 3) (.con (.int 0))) (.cmp .gt (.blt .len (.cons (.var 1) .nil)) (.con (.int 1)))) (.cons (.ret (.lst (.cons (.slc (.var 1) (.con .non) (.neg (.con (.int 1)))) (.cons (.con (.bl false)) .nil)))) .nil) .nil) (.cons (.iff (.and_ (.cmp .eq (.var 3) (.con (.int 1))) (.cmp .ne (.srev (.var 1)) (.var 1))) (.cons (.ret (.lst (.cons (.srev (.var 1)) (.cons (.con (.bl false)) .nil)))) .nil) .nil) (.cons (.ret (.lst (.cons (.var 1) (.cons (.var 2) .nil)))) .nil)))) }
def N__law_straight_ones : List Str := ["_law_feed_here", "_law_p", "_law_a", "_law_q", "_law_way", "_law_high", "_law_r", "_law_gap", "_law_begin", "_law_due"]
def d__law_straight_ones : Def := { np := 1, nl := 10, io := [true], body := (.cons (.set 1 (.call 43 (.cons (.var 0) .nil))) (.cons (.set 2 (.call 42 (.cons (.var 0) (.cons (.con (.int 5)) .nil)))) (.cons (.set 3 (.call 6 (.cons (.var 1) (.cons (.tup (.cons (.tup (.cons (.con (.int 4)) (.cons (.con (.int 1)) .nil))) (.cons (.tup (.cons (.var 2) (.cons (.con (.int 1)) .nil))) .nil))) .nil)))) (.cons (.par [4, 5] (.cons (.idx (.shr (.lst (.cons (.con (.int 2)) (.cons (.con (.int 4)) .nil)))) (.call 42 (.cons (.var 0) (.cons (.con (.int 2)) .nil)))) (.cons (.bin .sub (.call 42 (.cons (.var 0) (.cons (.con (.int 9)) .nil))) (.con (.int 2))) .nil))) (.cons (.set 6 (.call 6 (.cons (.var 1) (.cons (.tup (.cons (.tup (.cons (.var 4) (.cons (.con (.int 1)) .nil))) (.cons (.tup (.cons (.var 5) (.cons (.con (.int 1)) .nil))) .nil))) .nil)))) (.cons (.iff (.cmp .eq (.var 6) (.var 3)) (.cons (.set 6 (.call 6 (.cons (.var 6) (.cons (.tup (.cons (.tup (.cons (.con (.int 0)) (.cons (.con (.int 1)) .nil))) (.cons (.tup (.cons (.con (.int 3)) (.cons (.con (.int 1)) .nil))) .nil))) .nil)))) (.cons (.set 5 (.bin .add (.var 5) (.con (.int 3)))) .nil)) .nil) (.cons (.set 7 (.and_ (.cmp .eq (.call 42 (.cons (.var 0) (.cons (.con (.int 3)) .nil))) (.con (.int 0))) (.cmp .eq (.var 4) (.con (.int 2))))) (.cons (.set 8 (.var 6)) (.cons (.iff (.var 7) (.cons (.set 8 (.call 6 (.cons (.var 6) (.cons (.tup (.cons (.tup (.cons (.con (.int 1)) (.cons (.con (.int 1)) .nil))) (.cons (.tup (.cons (.con (.int 0)) (.cons (.con (.int 1)) .nil))) .nil))) .nil)))) .nil) .nil) (.cons (.set 9 (.and_ (.cmp .eq (.var 4) (.con (.int 2))) (.and_ (.cmp .eq (.var 2) (.bin .mul (.con (.int 2)) (.var 5))) (.not_ (.var 7))))) (.cons (.ret (.lst (.cons (.lst (.cons (.call 16 (.cons (.var 1) (.cons (.var 6) .nil))) (.cons (.call 16 (.cons (.var 8) (.cons (.var 3) .nil))) .nil))) (.cons (.call 16 (.cons (.var 1) (.cons (.var 3) .nil))) (.cons (.lst (.cons (.tup (.cons (.con (.int 0)) (.cons (.con (.int 0)) .nil))) (.cons (.tup (.cons (.con (.int 1)) (.cons (.con (.int 0)) .nil))) .nil))) (.cons (.var 9) .nil)))))) .nil))))))))))) }
def N__law_round_ones : List Str := ["_law_feed_here", "_law_c", "_law_v", "_law_by", "_law_r", "_law_outer", "_law_left_here", "_law_right", "_law_arcs", "_law_back"]
def d__law_round_ones : Def := { np := 1, nl := 10, io := [true], body := (.cons (.set 1 (.call 43 (.cons (.var 0) .nil))) (.cons (.set 2 (.tup (.cons (.tup (.cons (.bin .add (.con (.int 1)) (.call 42 (.cons (.var 0) (.cons (.con (.int 4)) .nil)))) (.cons (.con (.int 1)) .nil))) (.cons (.tup (.cons (.bin .sub (.call 42 (.cons (.var 0) (.cons (.con (.int 7)) .nil))) (.con (.int 3))) (.cons (.con (.int 1)) .nil))) .nil)))) (.cons (.set 3 (.call 42 (.cons (.var 0) (.cons (.con (.int 2)) .nil)))) (.cons (.set 4 (.call 6 (.cons (.var 1) (.cons (.var 2) .nil)))) (.cons (.set 5 (.call 6 (.cons (.var 4) (.cons (.idx (.shr (.lst (.cons (.tup (.cons (.tup (.cons (.con (.int 0)) (.cons (.con (.int 1)) .nil))) (.cons (.tup (.cons (.con (.int 0)) (.cons (.con (.int 1)) .nil))) .nil))) (.cons (.var 2) .nil)))) (.var 3)) .nil)))) (.cons (.iff (.cmp .eq (.call 42 (.cons (.var 0) (.cons (.con (.int 2)) .nil))) (.con (.int 0))) (.cons (.ret (.lst (.cons (.lst (.cons (.tup (.cons (.con (.str "ring")) (.cons (.var 1) (.cons (.var 4) .nil)))) .nil)) (.cons (.tup (.cons (.con (.str "ring")) (.cons (.var 1) (.cons (.var 5) .nil)))) (.cons (.lst (.cons (.tup (.cons (.con (.int 0)) (.cons (.con (.int 0)) .nil))) .nil)) (.cons (.cmp .eq (.var 3) (.con (.int 0))) .nil)))))) .nil) .nil) (.cons (.set 6 (.call 6 (.cons (.var 1) (.cons (.call 44 (.cons (.var 2) .nil)) .nil)))) (.cons (.set 7 (.call 6 (.cons (.var 1) (.cons (.call 7 (.cons (.tup (.cons (.tup (.cons (.con (.int 0)) (.cons (.con (.int 1)) .nil))) (.cons (.tup (.cons (.con (.int 0)) (.cons (.con (.int 1)) .nil))) .nil))) (.cons (.call 44 (.cons (.var 2) .nil)) .nil))) .nil)))) (.cons (.set 8 (.lst (.cons (.tup (.cons (.con (.str "arc")) (.cons (.var 1) (.cons (.var 7) (.cons (.var 6) .nil))))) (.cons (.tup (.cons (.con (.str "arc")) (.cons (.var 1) (.cons (.var 6) (.cons (.var 7) .nil))))) .nil)))) (.cons (.iff (.cmp .eq (.call 42 (.cons (.var 0) (.cons (.con (.int 2)) .nil))) (.con (.int 0))) (.cons (.ret (.lst (.cons (.var 8) (.cons (.tup (.cons (.con (.str "ring")) (.cons (.var 1) (.cons (.var 5) .nil)))) (.cons (.lst (.cons (.tup (.cons (.con (.int 0)) (.cons (.con (.int 0)) .nil))) (.cons (.tup (.cons (.con (.int 1)) (.cons (.con (.int 0)) .nil))) (.cons (.tup (.cons (.con (.int 0)) (.cons (.con (.int 0)) .nil))) .nil)))) (.cons (.cmp .eq (.var 3) (.con (.int 0))) .nil)))))) .nil) .nil) (.cons (.set 9 (.call 6 (.cons (.var 1) (.cons (.call 7 (.cons (.tup (.cons (.tup (.cons (.con (.int 0)) (.cons (.con (.int 1)) .nil))) (.cons (.tup (.cons (.con (.int 0)) (.cons (.con (.int 1)) .nil))) .nil))) (.cons (.var 2) .nil))) .nil)))) (.cons (.ret (.lst (.cons (.var 8) (.cons (.tup (.cons (.con (.str "arc")) (.cons (.var 1) (.cons (.var 4) (.cons (.var 9) .nil))))) (.cons (.lst (.cons (.tup (.cons (.con (.int 0)) (.cons (.con (.int 0)) .nil))) (.cons (.tup (.cons (.con (.int 1)) (.cons (.con (.int 0)) .nil))) .nil))) (.cons (.con (.bl true)) .nil)))))) .nil)))))))))))) }
def N_law : List Str := ["_law_script", "_law_cell", "_law_feed_here", "_law_others", "_law_extra", "_law_links_here", "_law_due", "_law_own", "_law_even", "_law_found", "_law_k", "_law_one"]
def d_law : Def := { np := 1, nl := 12, io := [], body := (.cons (.for_ (.nm 1) (.seq (.bin .add (.lst (.cons (.call 40 (.cons (.var 0) (.cons (.con (.int 0)) .nil))) .nil)) (.slc (.var 0) (.con (.int 1)) (.con (.int 12))))) (.cons (.set 2 (.call 41 (.cons (.var 1) .nil))) (.cons (.iff (.cmp .eq (.call 42 (.cons (.var 2) (.cons (.con (.int 2)) .nil))) (.con (.int 0))) (.cons (.unp [3, 4, 5, 6] (.call 46 (.cons (.var 2) .nil))) .nil) (.cons (.unp [3, 4, 5, 6] (.call 47 (.cons (.var 2) .nil))) .nil)) (.cons (.unp [5, 6] (.call 45 (.cons (.var 2) (.cons (.var 5) (.cons (.var 6) .nil))))) (.cons (.set 7 (.comp (.nm 10) (.rng (.cons (.blt .len (.cons (.var 3) .nil)) .nil)) (.con (.bl true)) (.lst (.cons (.tup (.cons (.var 10) (.cons (.con (.int 0)) .nil))) .nil)) [10])) (.cons (.set 8 (.tup (.cons (.tup (.cons (.con (.str "none")) .nil)) (.cons (.tup (.cons (.bin .add (.var 3) (.lst (.cons (.var 4) .nil))) (.cons (.lst .nil) .nil))) (.cons (.tup (.cons (.var 3) (.cons (.lst .nil) .nil))) .nil))))) (.cons (.set 9 (.lst (.cons (.call 39 (.cons (.var 8) (.cons (.tup (.cons (.bin .add (.shr (.var 7)) (.lst (.cons (.var 5) .nil))) (.cons (.var 7) .nil))) .nil))) .nil))) (.cons (.app 9 (.call 39 (.cons (.tup (.cons (.idc (.var 8) 0) (.cons (.idc (.var 8) 2) (.cons (.idc (.var 8) 1) .nil)))) (.cons (.tup (.cons (.var 7) (.cons (.bin .add (.shr (.var 7)) (.lst (.cons (.var 5) .nil))) .nil))) .nil)))) (.cons (.iff (.or_ (.cmp .ne (.var 9) (.lst (.cons (.var 6) (.cons (.var 6) .nil)))) (.cmp .inn (.con (.bl false)) (.comp (.nm 11) (.seq (.var 9)) (.con (.bl true)) (.blt .isBool (.cons (.var 11) .nil)) [11]))) (.cons (.ret (.con (.bl false))) .nil) .nil) .nil))))))))) (.cons (.ret (.con (.bl true))) .nil)) }
def Pr : Prog where
  defs := [d_divisor, d_ratio, d_plus, d_minus, d_times, d_below, d_together, d_off, d_grown, d_turned, d_along, d_across, d_far, d_sign_of, d_side, d_before, d_stretch, d_lies_on, d_quarter_of, d_ahead, d_on, d_first, d_led, d_behind, d_led_piece, d_power, d_frame_of, d_is_number, d_straight_chain, d_same_circle, d_comes_to, d_bent_chain, d_chain_shown, d_Given__init_, d_Given_is_one, d_Given_piece, d_Given_covers, d_Given_covers_all, d_papers_shown, d_alike_shown, d__law_cell_at, d__law_feed, d__law_draw, d__law_point, d__law_left, d__law_links, d__law_straight_ones, d__law_round_ones, d_law]
  msg := fun m => match m with
    | 0 => [false]
    | 1 => [false]
    | 2 => [false]
    | 3 => [false]
    | _ => []
  mth := fun c m => match c, m with
    | 0, 0 => some 34
    | 0, 1 => some 35
    | 0, 2 => some 36
    | 0, 3 => some 37
    | _, _ => none
  ini := fun c => match c with
    | 0 => some 33
    | _ => none
  atr := fun c f => match c, f with
    | 0, 0 => true
    | 0, 1 => true
    | 0, 2 => true
    | _, _ => false
def flds : List Str := ["wanted", "still", "flow"]
abbrev fnm : Nat → Str := nmOf flds
def Tb : Tab where
  fn := [(("divisor" : Str), 2), (("ratio" : Str), 2), (("plus" : Str), 2), (("minus" : Str), 2), (("times" : Str), 2), (("below" : Str), 2), (("together" : Str), 2), (("off" : Str), 2), (("grown" : Str), 2), (("turned" : Str), 2), (("along" : Str), 2), (("across" : Str), 2), (("far" : Str), 2), (("sign_of" : Str), 1), (("side" : Str), 3), (("before" : Str), 2), (("stretch" : Str), 2), (("lies_on" : Str), 2), (("quarter_of" : Str), 2), (("ahead" : Str), 4), (("on" : Str), 2), (("first" : Str), 0), (("led" : Str), 2), (("behind" : Str), 2), (("led_piece" : Str), 2), (("power" : Str), 2), (("frame_of" : Str), 1), (("is_number" : Str), 1), (("straight_chain" : Str), 2), (("same_circle" : Str), 2), (("comes_to" : Str), 3), (("bent_chain" : Str), 2), (("chain_shown" : Str), 2), (("" : Str), 4), (("" : Str), 2), (("" : Str), 3), (("" : Str), 3), (("" : Str), 3), (("papers_shown" : Str), 3), (("alike_shown" : Str), 2), (("_law_cell_at" : Str), 2), (("_law_feed" : Str), 1), (("_law_draw" : Str), 2), (("_law_point" : Str), 1), (("_law_left" : Str), 1), (("_law_links" : Str), 3), (("_law_straight_ones" : Str), 1), (("_law_round_ones" : Str), 1), (("law" : Str), 1)]
  mt := [(("is_one" : Str), 2), (("piece" : Str), 3), (("covers" : Str), 3), (("covers_all" : Str), 3)]
  cl := [(("Given" : Str), 3)]
  free := ["abs", "range", "int", "tuple", "isinstance", "bool", "zip", "enumerate", "len", "all", "list", "any"]
  con := [(("MOST_TOLD" : Str), (.int 2000))]
section
variable {ca : Nat → Addr} {n : Nat} {X : Cx}
theorem b_divisor (B : Bd X N_divisor (defScope s_divisor)) (W : Wo Pr Tb ca fnm n X) : PSs X (defBody s_divisor) (tSs X.K ca fnm (Pr.sg n) d_divisor.body) := by
  have L := B.at_
  have V : chkV N_divisor (defScope s_divisor) [0, 1] = true := by decide +kernel
  have G : chkG (defScope s_divisor) ["abs"] = true := by decide +kernel
  have nofree : ∀ y ∈ (defScope s_divisor).names, y.2 ≠ .free := by decide +kernel
  have B_N : X.N.Nodup := by rw [L.hN]; decide +kernel
  exact (ss_cons (z_set 0 B_N (ln_at L B.fn V nofree (j := 0) rfl rfl).1 (ln_at L B.fn V nofree (j := 0) rfl rfl).2.1 (ln_at L B.fn V nofree (j := 0) rfl rfl).2.2 (s_blt .abs W.cal.calm (gn_at L G (k := 0) rfl).1 (W.free 0 _ rfl) rfl rfl rfl (gn_at L G (k := 0) rfl).2.2 (gn_at L G (k := 0) rfl).2.1 (b_cons (vr L V (i := 0) rfl rfl) b_nil)))
  (ss_cons (z_set 1 B_N (ln_at L B.fn V nofree (j := 1) rfl rfl).1 (ln_at L B.fn V nofree (j := 1) rfl rfl).2.1 (ln_at L B.fn V nofree (j := 1) rfl rfl).2.2 (s_blt .abs W.cal.calm (gn_at L G (k := 0) rfl).1 (W.free 0 _ rfl) rfl rfl rfl (gn_at L G (k := 0) rfl).2.2 (gn_at L G (k := 0) rfl).2.1 (b_cons (vr L V (i := 1) rfl rfl) b_nil)))
  (ss_cons (z_whl B.po (t_cmp .gt W.cal.hu (vr L V (i := 1) rfl rfl) s_int rfl)
  (ss_cons (z_par W.cal.calm B_N (ln_at L B.fn V nofree (j := 0) rfl rfl).1 (ln_at L B.fn V nofree (j := 1) rfl rfl).1 (by decide) (lk_at L (by decide +kernel)) (lk_at L (by decide +kernel)) (vr L V (i := 1) rfl rfl) (s_bin .mod (vr L V (i := 0) rfl rfl) (vr L V (i := 1) rfl rfl)) (sw_env L.hs rfl))
  ss_nil))
  (ss_cons (z_ret (vr L V (i := 0) rfl rfl))
  ss_nil))))
theorem c_divisor : FnScope N_divisor ["one", "other"] (defScope s_divisor) := ⟨rfl, rfl, rfl, by decide +kernel, rfl, by decide +kernel, by decide +kernel⟩
theorem b_ratio (B : Bd X N_ratio (defScope s_ratio)) (W : Wo Pr Tb ca fnm n X) : PSs X (defBody s_ratio) (tSs X.K ca fnm (Pr.sg n) d_ratio.body) := by
  have L := B.at_
  have V : chkV N_ratio (defScope s_ratio) [0, 1, 2] = true := by decide +kernel
  have G : chkG (defScope s_ratio) ["divisor"] = true := by decide +kernel
  have nofree : ∀ y ∈ (defScope s_ratio).names, y.2 ≠ .free := by decide +kernel
  have B_N : X.N.Nodup := by rw [L.hN]; decide +kernel
  exact (ss_cons (z_iff (t_cmp .eq W.cal.hu (vr L V (i := 1) rfl rfl) s_int rfl)
  (ss_cons z_bad
  ss_nil)
  ss_nil)
  (ss_cons (z_set 2 B_N (ln_at L B.fn V nofree (j := 2) rfl rfl).1 (ln_at L B.fn V nofree (j := 2) rfl rfl).2.1 (ln_at L B.fn V nofree (j := 2) rfl rfl).2.2 (s_call (W.fns 0 _ _ rfl (by decide)) W.cal.r0 (gn_at L G (k := 0) rfl).1 rfl rfl rfl (a_shN (vr L V (i := 0) rfl rfl) (a_shN (vr L V (i := 1) rfl rfl) a_nil))))
  (ss_cons (z_iff (t_cmp .lt W.cal.hu (vr L V (i := 1) rfl rfl) s_int rfl)
  (ss_cons (z_set 2 B_N (ln_at L B.fn V nofree (j := 2) rfl rfl).1 (ln_at L B.fn V nofree (j := 2) rfl rfl).2.1 (ln_at L B.fn V nofree (j := 2) rfl rfl).2.2 (s_bin .sub s_int (vr L V (i := 2) rfl rfl)))
  ss_nil)
  ss_nil)
  (ss_cons (z_ret (s_tup (k_cons (s_bin .fdiv (vr L V (i := 0) rfl rfl) (vr L V (i := 2) rfl rfl)) (k_cons (s_bin .fdiv (vr L V (i := 1) rfl rfl) (vr L V (i := 2) rfl rfl)) k_nil)) (by decide)))
  ss_nil))))
theorem c_ratio : FnScope N_ratio ["top", "bottom"] (defScope s_ratio) := ⟨rfl, rfl, rfl, by decide +kernel, rfl, by decide +kernel, by decide +kernel⟩
theorem b_plus (B : Bd X N_plus (defScope s_plus)) (W : Wo Pr Tb ca fnm n X) : PSs X (defBody s_plus) (tSs X.K ca fnm (Pr.sg n) d_plus.body) := by
  have L := B.at_
  have V : chkV N_plus (defScope s_plus) [0, 1] = true := by decide +kernel
  have G : chkG (defScope s_plus) ["ratio"] = true := by decide +kernel
  have nofree : ∀ y ∈ (defScope s_plus).names, y.2 ≠ .free := by decide +kernel
  have B_N : X.N.Nodup := by rw [L.hN]; decide +kernel
  exact (ss_cons (z_ret (s_call (W.fns 1 _ _ rfl (by decide)) W.cal.r0 (gn_at L G (k := 0) rfl).1 rfl rfl rfl (a_shN (s_bin .add (s_bin .mul (s_idc (vr L V (i := 0) rfl rfl) pe_int (fun _ _ => rfl)) (s_idc (vr L V (i := 1) rfl rfl) pe_int (fun _ _ => rfl))) (s_bin .mul (s_idc (vr L V (i := 1) rfl rfl) pe_int (fun _ _ => rfl)) (s_idc (vr L V (i := 0) rfl rfl) pe_int (fun _ _ => rfl)))) (a_shN (s_bin .mul (s_idc (vr L V (i := 0) rfl rfl) pe_int (fun _ _ => rfl)) (s_idc (vr L V (i := 1) rfl rfl) pe_int (fun _ _ => rfl))) a_nil))))
  ss_nil)
theorem c_plus : FnScope N_plus ["one", "other"] (defScope s_plus) := ⟨rfl, rfl, rfl, by decide +kernel, rfl, by decide +kernel, by decide +kernel⟩
theorem b_minus (B : Bd X N_minus (defScope s_minus)) (W : Wo Pr Tb ca fnm n X) : PSs X (defBody s_minus) (tSs X.K ca fnm (Pr.sg n) d_minus.body) := by
  have L := B.at_
  have V : chkV N_minus (defScope s_minus) [0, 1] = true := by decide +kernel
  have G : chkG (defScope s_minus) ["ratio"] = true := by decide +kernel
  have nofree : ∀ y ∈ (defScope s_minus).names, y.2 ≠ .free := by decide +kernel
  have B_N : X.N.Nodup := by rw [L.hN]; decide +kernel
  exact (ss_cons (z_ret (s_call (W.fns 1 _ _ rfl (by decide)) W.cal.r0 (gn_at L G (k := 0) rfl).1 rfl rfl rfl (a_shN (s_bin .sub (s_bin .mul (s_idc (vr L V (i := 0) rfl rfl) pe_int (fun _ _ => rfl)) (s_idc (vr L V (i := 1) rfl rfl) pe_int (fun _ _ => rfl))) (s_bin .mul (s_idc (vr L V (i := 1) rfl rfl) pe_int (fun _ _ => rfl)) (s_idc (vr L V (i := 0) rfl rfl) pe_int (fun _ _ => rfl)))) (a_shN (s_bin .mul (s_idc (vr L V (i := 0) rfl rfl) pe_int (fun _ _ => rfl)) (s_idc (vr L V (i := 1) rfl rfl) pe_int (fun _ _ => rfl))) a_nil))))
  ss_nil)
theorem c_minus : FnScope N_minus ["one", "other"] (defScope s_minus) := ⟨rfl, rfl, rfl, by decide +kernel, rfl, by decide +kernel, by decide +kernel⟩
theorem b_times (B : Bd X N_times (defScope s_times)) (W : Wo Pr Tb ca fnm n X) : PSs X (defBody s_times) (tSs X.K ca fnm (Pr.sg n) d_times.body) := by
  have L := B.at_
  have V : chkV N_times (defScope s_times) [0, 1] = true := by decide +kernel
  have G : chkG (defScope s_times) ["ratio"] = true := by decide +kernel
  have nofree : ∀ y ∈ (defScope s_times).names, y.2 ≠ .free := by decide +kernel
  have B_N : X.N.Nodup := by rw [L.hN]; decide +kernel
  exact (ss_cons (z_ret (s_call (W.fns 1 _ _ rfl (by decide)) W.cal.r0 (gn_at L G (k := 0) rfl).1 rfl rfl rfl (a_shN (s_bin .mul (s_idc (vr L V (i := 0) rfl rfl) pe_int (fun _ _ => rfl)) (s_idc (vr L V (i := 1) rfl rfl) pe_int (fun _ _ => rfl))) (a_shN (s_bin .mul (s_idc (vr L V (i := 0) rfl rfl) pe_int (fun _ _ => rfl)) (s_idc (vr L V (i := 1) rfl rfl) pe_int (fun _ _ => rfl))) a_nil))))
  ss_nil)
theorem c_times : FnScope N_times ["one", "other"] (defScope s_times) := ⟨rfl, rfl, rfl, by decide +kernel, rfl, by decide +kernel, by decide +kernel⟩
theorem b_below (B : Bd X N_below (defScope s_below)) (W : Wo Pr Tb ca fnm n X) : PSs X (defBody s_below) (tSs X.K ca fnm (Pr.sg n) d_below.body) := by
  have L := B.at_
  have V : chkV N_below (defScope s_below) [0, 1] = true := by decide +kernel
  have G : chkG (defScope s_below) [] = true := by decide +kernel
  have nofree : ∀ y ∈ (defScope s_below).names, y.2 ≠ .free := by decide +kernel
  have B_N : X.N.Nodup := by rw [L.hN]; decide +kernel
  exact (ss_cons (z_ret (s_cmp .lt W.cal.hu (s_bin .mul (s_idc (vr L V (i := 0) rfl rfl) pe_int (fun _ _ => rfl)) (s_idc (vr L V (i := 1) rfl rfl) pe_int (fun _ _ => rfl))) (s_bin .mul (s_idc (vr L V (i := 1) rfl rfl) pe_int (fun _ _ => rfl)) (s_idc (vr L V (i := 0) rfl rfl) pe_int (fun _ _ => rfl))) rfl))
  ss_nil)
theorem c_below : FnScope N_below ["one", "other"] (defScope s_below) := ⟨rfl, rfl, rfl, by decide +kernel, rfl, by decide +kernel, by decide +kernel⟩
theorem b_together (B : Bd X N_together (defScope s_together)) (W : Wo Pr Tb ca fnm n X) : PSs X (defBody s_together) (tSs X.K ca fnm (Pr.sg n) d_together.body) := by
  have L := B.at_
  have V : chkV N_together (defScope s_together) [0, 1] = true := by decide +kernel
  have G : chkG (defScope s_together) ["plus"] = true := by decide +kernel
  have nofree : ∀ y ∈ (defScope s_together).names, y.2 ≠ .free := by decide +kernel
  have B_N : X.N.Nodup := by rw [L.hN]; decide +kernel
  exact (ss_cons (z_ret (s_tup (k_cons (s_call (W.fns 2 _ _ rfl (by decide)) W.cal.r0 (gn_at L G (k := 0) rfl).1 rfl rfl rfl (a_shN (s_idc (vr L V (i := 0) rfl rfl) pe_int (fun _ _ => rfl)) (a_shN (s_idc (vr L V (i := 1) rfl rfl) pe_int (fun _ _ => rfl)) a_nil))) (k_cons (s_call (W.fns 2 _ _ rfl (by decide)) W.cal.r0 (gn_at L G (k := 0) rfl).1 rfl rfl rfl (a_shN (s_idc (vr L V (i := 0) rfl rfl) pe_int (fun _ _ => rfl)) (a_shN (s_idc (vr L V (i := 1) rfl rfl) pe_int (fun _ _ => rfl)) a_nil))) k_nil)) (by decide)))
  ss_nil)
theorem c_together : FnScope N_together ["p", "q"] (defScope s_together) := ⟨rfl, rfl, rfl, by decide +kernel, rfl, by decide +kernel, by decide +kernel⟩
theorem b_off (B : Bd X N_off (defScope s_off)) (W : Wo Pr Tb ca fnm n X) : PSs X (defBody s_off) (tSs X.K ca fnm (Pr.sg n) d_off.body) := by
  have L := B.at_
  have V : chkV N_off (defScope s_off) [0, 1] = true := by decide +kernel
  have G : chkG (defScope s_off) ["minus"] = true := by decide +kernel
  have nofree : ∀ y ∈ (defScope s_off).names, y.2 ≠ .free := by decide +kernel
  have B_N : X.N.Nodup := by rw [L.hN]; decide +kernel
  exact (ss_cons (z_ret (s_tup (k_cons (s_call (W.fns 3 _ _ rfl (by decide)) W.cal.r0 (gn_at L G (k := 0) rfl).1 rfl rfl rfl (a_shN (s_idc (vr L V (i := 0) rfl rfl) pe_int (fun _ _ => rfl)) (a_shN (s_idc (vr L V (i := 1) rfl rfl) pe_int (fun _ _ => rfl)) a_nil))) (k_cons (s_call (W.fns 3 _ _ rfl (by decide)) W.cal.r0 (gn_at L G (k := 0) rfl).1 rfl rfl rfl (a_shN (s_idc (vr L V (i := 0) rfl rfl) pe_int (fun _ _ => rfl)) (a_shN (s_idc (vr L V (i := 1) rfl rfl) pe_int (fun _ _ => rfl)) a_nil))) k_nil)) (by decide)))
  ss_nil)
theorem c_off : FnScope N_off ["p", "q"] (defScope s_off) := ⟨rfl, rfl, rfl, by decide +kernel, rfl, by decide +kernel, by decide +kernel⟩
theorem b_grown (B : Bd X N_grown (defScope s_grown)) (W : Wo Pr Tb ca fnm n X) : PSs X (defBody s_grown) (tSs X.K ca fnm (Pr.sg n) d_grown.body) := by
  have L := B.at_
  have V : chkV N_grown (defScope s_grown) [0, 1] = true := by decide +kernel
  have G : chkG (defScope s_grown) ["times"] = true := by decide +kernel
  have nofree : ∀ y ∈ (defScope s_grown).names, y.2 ≠ .free := by decide +kernel
  have B_N : X.N.Nodup := by rw [L.hN]; decide +kernel
  exact (ss_cons (z_ret (s_tup (k_cons (s_call (W.fns 4 _ _ rfl (by decide)) W.cal.r0 (gn_at L G (k := 0) rfl).1 rfl rfl rfl (a_shN (s_idc (vr L V (i := 0) rfl rfl) pe_int (fun _ _ => rfl)) (a_shN (vr L V (i := 1) rfl rfl) a_nil))) (k_cons (s_call (W.fns 4 _ _ rfl (by decide)) W.cal.r0 (gn_at L G (k := 0) rfl).1 rfl rfl rfl (a_shN (s_idc (vr L V (i := 0) rfl rfl) pe_int (fun _ _ => rfl)) (a_shN (vr L V (i := 1) rfl rfl) a_nil))) k_nil)) (by decide)))
  ss_nil)
theorem c_grown : FnScope N_grown ["p", "number"] (defScope s_grown) := ⟨rfl, rfl, rfl, by decide +kernel, rfl, by decide +kernel, by decide +kernel⟩
theorem b_turned (B : Bd X N_turned (defScope s_turned)) (W : Wo Pr Tb ca fnm n X) : PSs X (defBody s_turned) (tSs X.K ca fnm (Pr.sg n) d_turned.body) := by
  have L := B.at_
  have V : chkV N_turned (defScope s_turned) [0, 1, 2, 3, 4] = true := by decide +kernel
  have G : chkG (defScope s_turned) ["range"] = true := by decide +kernel
  have nofree : ∀ y ∈ (defScope s_turned).names, y.2 ≠ .free := by decide +kernel
  have B_N : X.N.Nodup := by rw [L.hN]; decide +kernel
  exact (ss_cons (z_unp (g_tp W.cal.calm rfl (gs_cons (gnm_ B_N (ln_at L B.fn V nofree (j := 2) rfl rfl)) (gs_cons (gnm_ B_N (ln_at L B.fn V nofree (j := 3) rfl rfl)) gs_nil))) (vr L V (i := 0) rfl rfl))
  (ss_cons (z_for B.po W.cal.calm (i_rng1 (gn_at L G (k := 0) rfl).1 (W.free 1 _ rfl) (b_cons (s_bin .mod (vr L V (i := 1) rfl rfl) s_int) b_nil)) (gnm_ B_N (ln_at L B.fn V nofree (j := 4) rfl rfl))
  (ss_cons (z_par W.cal.calm B_N (ln_at L B.fn V nofree (j := 2) rfl rfl).1 (ln_at L B.fn V nofree (j := 3) rfl rfl).1 (by decide) (lk_at L (by decide +kernel)) (lk_at L (by decide +kernel)) (s_tup (k_cons (s_bin .sub s_int (s_idc (vr L V (i := 3) rfl rfl) pe_int (fun _ _ => rfl))) (k_cons (s_idc (vr L V (i := 3) rfl rfl) pe_int (fun _ _ => rfl)) k_nil)) (by decide)) (vr L V (i := 2) rfl rfl) (sw_env L.hs rfl))
  ss_nil))
  (ss_cons (z_ret (s_tup (k_cons (vr L V (i := 2) rfl rfl) (k_cons (vr L V (i := 3) rfl rfl) k_nil)) (by decide)))
  ss_nil)))
theorem c_turned : FnScope N_turned ["p", "quarters"] (defScope s_turned) := ⟨rfl, rfl, rfl, by decide +kernel, rfl, by decide +kernel, by decide +kernel⟩
theorem b_along (B : Bd X N_along (defScope s_along)) (W : Wo Pr Tb ca fnm n X) : PSs X (defBody s_along) (tSs X.K ca fnm (Pr.sg n) d_along.body) := by
  have L := B.at_
  have V : chkV N_along (defScope s_along) [0, 1] = true := by decide +kernel
  have G : chkG (defScope s_along) ["times", "plus"] = true := by decide +kernel
  have nofree : ∀ y ∈ (defScope s_along).names, y.2 ≠ .free := by decide +kernel
  have B_N : X.N.Nodup := by rw [L.hN]; decide +kernel
  exact (ss_cons (z_ret (s_call (W.fns 2 _ _ rfl (by decide)) W.cal.r0 (gn_at L G (k := 1) rfl).1 rfl rfl rfl (a_shN (s_call (W.fns 4 _ _ rfl (by decide)) W.cal.r0 (gn_at L G (k := 0) rfl).1 rfl rfl rfl (a_shN (s_idc (vr L V (i := 0) rfl rfl) pe_int (fun _ _ => rfl)) (a_shN (s_idc (vr L V (i := 1) rfl rfl) pe_int (fun _ _ => rfl)) a_nil))) (a_shN (s_call (W.fns 4 _ _ rfl (by decide)) W.cal.r0 (gn_at L G (k := 0) rfl).1 rfl rfl rfl (a_shN (s_idc (vr L V (i := 0) rfl rfl) pe_int (fun _ _ => rfl)) (a_shN (s_idc (vr L V (i := 1) rfl rfl) pe_int (fun _ _ => rfl)) a_nil))) a_nil))))
  ss_nil)
theorem c_along : FnScope N_along ["p", "q"] (defScope s_along) := ⟨rfl, rfl, rfl, by decide +kernel, rfl, by decide +kernel, by decide +kernel⟩
theorem b_across (B : Bd X N_across (defScope s_across)) (W : Wo Pr Tb ca fnm n X) : PSs X (defBody s_across) (tSs X.K ca fnm (Pr.sg n) d_across.body) := by
  have L := B.at_
  have V : chkV N_across (defScope s_across) [0, 1] = true := by decide +kernel
  have G : chkG (defScope s_across) ["times", "minus"] = true := by decide +kernel
  have nofree : ∀ y ∈ (defScope s_across).names, y.2 ≠ .free := by decide +kernel
  have B_N : X.N.Nodup := by rw [L.hN]; decide +kernel
  exact (ss_cons (z_ret (s_call (W.fns 3 _ _ rfl (by decide)) W.cal.r0 (gn_at L G (k := 1) rfl).1 rfl rfl rfl (a_shN (s_call (W.fns 4 _ _ rfl (by decide)) W.cal.r0 (gn_at L G (k := 0) rfl).1 rfl rfl rfl (a_shN (s_idc (vr L V (i := 0) rfl rfl) pe_int (fun _ _ => rfl)) (a_shN (s_idc (vr L V (i := 1) rfl rfl) pe_int (fun _ _ => rfl)) a_nil))) (a_shN (s_call (W.fns 4 _ _ rfl (by decide)) W.cal.r0 (gn_at L G (k := 0) rfl).1 rfl rfl rfl (a_shN (s_idc (vr L V (i := 0) rfl rfl) pe_int (fun _ _ => rfl)) (a_shN (s_idc (vr L V (i := 1) rfl rfl) pe_int (fun _ _ => rfl)) a_nil))) a_nil))))
  ss_nil)
theorem c_across : FnScope N_across ["p", "q"] (defScope s_across) := ⟨rfl, rfl, rfl, by decide +kernel, rfl, by decide +kernel, by decide +kernel⟩
theorem b_far (B : Bd X N_far (defScope s_far)) (W : Wo Pr Tb ca fnm n X) : PSs X (defBody s_far) (tSs X.K ca fnm (Pr.sg n) d_far.body) := by
  have L := B.at_
  have V : chkV N_far (defScope s_far) [0, 1, 2] = true := by decide +kernel
  have G : chkG (defScope s_far) ["off", "along"] = true := by decide +kernel
  have nofree : ∀ y ∈ (defScope s_far).names, y.2 ≠ .free := by decide +kernel
  have B_N : X.N.Nodup := by rw [L.hN]; decide +kernel
  exact (ss_cons (z_set 2 B_N (ln_at L B.fn V nofree (j := 2) rfl rfl).1 (ln_at L B.fn V nofree (j := 2) rfl rfl).2.1 (ln_at L B.fn V nofree (j := 2) rfl rfl).2.2 (s_call (W.fns 7 _ _ rfl (by decide)) W.cal.r0 (gn_at L G (k := 0) rfl).1 rfl rfl rfl (a_shN (vr L V (i := 0) rfl rfl) (a_shN (vr L V (i := 1) rfl rfl) a_nil))))
  (ss_cons (z_ret (s_call (W.fns 10 _ _ rfl (by decide)) W.cal.r0 (gn_at L G (k := 1) rfl).1 rfl rfl rfl (a_shN (vr L V (i := 2) rfl rfl) (a_shN (vr L V (i := 2) rfl rfl) a_nil))))
  ss_nil))
theorem c_far : FnScope N_far ["p", "q"] (defScope s_far) := ⟨rfl, rfl, rfl, by decide +kernel, rfl, by decide +kernel, by decide +kernel⟩
theorem b_sign_of (B : Bd X N_sign_of (defScope s_sign_of)) (W : Wo Pr Tb ca fnm n X) : PSs X (defBody s_sign_of) (tSs X.K ca fnm (Pr.sg n) d_sign_of.body) := by
  have L := B.at_
  have V : chkV N_sign_of (defScope s_sign_of) [0] = true := by decide +kernel
  have G : chkG (defScope s_sign_of) ["int"] = true := by decide +kernel
  have nofree : ∀ y ∈ (defScope s_sign_of).names, y.2 ≠ .free := by decide +kernel
  have B_N : X.N.Nodup := by rw [L.hN]; decide +kernel
  exact (ss_cons (z_ret (s_bin .sub (s_bltT .int1 W.cal.calm (gn_at L G (k := 0) rfl).1 (W.free 2 _ rfl) rfl rfl rfl (gn_at L G (k := 0) rfl).2.2 (gn_at L G (k := 0) rfl).2.1 (b_cons (s_cmp .gt W.cal.hu (s_idc (vr L V (i := 0) rfl rfl) pe_int (fun _ _ => rfl)) s_int rfl) b_nil)) (s_bltT .int1 W.cal.calm (gn_at L G (k := 0) rfl).1 (W.free 2 _ rfl) rfl rfl rfl (gn_at L G (k := 0) rfl).2.2 (gn_at L G (k := 0) rfl).2.1 (b_cons (s_cmp .lt W.cal.hu (s_idc (vr L V (i := 0) rfl rfl) pe_int (fun _ _ => rfl)) s_int rfl) b_nil))))
  ss_nil)
theorem c_sign_of : FnScope N_sign_of ["number"] (defScope s_sign_of) := ⟨rfl, rfl, rfl, by decide +kernel, rfl, by decide +kernel, by decide +kernel⟩
theorem b_side (B : Bd X N_side (defScope s_side)) (W : Wo Pr Tb ca fnm n X) : PSs X (defBody s_side) (tSs X.K ca fnm (Pr.sg n) d_side.body) := by
  have L := B.at_
  have V : chkV N_side (defScope s_side) [0, 1, 2] = true := by decide +kernel
  have G : chkG (defScope s_side) ["off", "across", "sign_of"] = true := by decide +kernel
  have nofree : ∀ y ∈ (defScope s_side).names, y.2 ≠ .free := by decide +kernel
  have B_N : X.N.Nodup := by rw [L.hN]; decide +kernel
  exact (ss_cons (z_ret (s_call (W.fns 13 _ _ rfl (by decide)) W.cal.r0 (gn_at L G (k := 2) rfl).1 rfl rfl rfl (a_shN (s_call (W.fns 11 _ _ rfl (by decide)) W.cal.r0 (gn_at L G (k := 1) rfl).1 rfl rfl rfl (a_shN (s_call (W.fns 7 _ _ rfl (by decide)) W.cal.r0 (gn_at L G (k := 0) rfl).1 rfl rfl rfl (a_shN (vr L V (i := 1) rfl rfl) (a_shN (vr L V (i := 0) rfl rfl) a_nil))) (a_shN (s_call (W.fns 7 _ _ rfl (by decide)) W.cal.r0 (gn_at L G (k := 0) rfl).1 rfl rfl rfl (a_shN (vr L V (i := 2) rfl rfl) (a_shN (vr L V (i := 0) rfl rfl) a_nil))) a_nil))) a_nil)))
  ss_nil)
theorem c_side : FnScope N_side ["a", "b", "p"] (defScope s_side) := ⟨rfl, rfl, rfl, by decide +kernel, rfl, by decide +kernel, by decide +kernel⟩
theorem b_before (B : Bd X N_before (defScope s_before)) (W : Wo Pr Tb ca fnm n X) : PSs X (defBody s_before) (tSs X.K ca fnm (Pr.sg n) d_before.body) := by
  have L := B.at_
  have V : chkV N_before (defScope s_before) [0, 1] = true := by decide +kernel
  have G : chkG (defScope s_before) ["below"] = true := by decide +kernel
  have nofree : ∀ y ∈ (defScope s_before).names, y.2 ≠ .free := by decide +kernel
  have B_N : X.N.Nodup := by rw [L.hN]; decide +kernel
  exact (ss_cons (z_ret (s_or (s_call (W.fns 5 _ _ rfl (by decide)) W.cal.r0 (gn_at L G (k := 0) rfl).1 rfl rfl rfl (a_shN (s_idc (vr L V (i := 0) rfl rfl) pe_int (fun _ _ => rfl)) (a_shN (s_idc (vr L V (i := 1) rfl rfl) pe_int (fun _ _ => rfl)) a_nil))) (s_one (s_and (s_cmp .eq W.cal.hu (s_idc (vr L V (i := 0) rfl rfl) pe_int (fun _ _ => rfl)) (s_idc (vr L V (i := 1) rfl rfl) pe_int (fun _ _ => rfl)) rfl) (s_one (s_call (W.fns 5 _ _ rfl (by decide)) W.cal.r0 (gn_at L G (k := 0) rfl).1 rfl rfl rfl (a_shN (s_idc (vr L V (i := 0) rfl rfl) pe_int (fun _ _ => rfl)) (a_shN (s_idc (vr L V (i := 1) rfl rfl) pe_int (fun _ _ => rfl)) a_nil))))))))
  ss_nil)
theorem c_before : FnScope N_before ["p", "q"] (defScope s_before) := ⟨rfl, rfl, rfl, by decide +kernel, rfl, by decide +kernel, by decide +kernel⟩
theorem b_stretch (B : Bd X N_stretch (defScope s_stretch)) (W : Wo Pr Tb ca fnm n X) : PSs X (defBody s_stretch) (tSs X.K ca fnm (Pr.sg n) d_stretch.body) := by
  have L := B.at_
  have V : chkV N_stretch (defScope s_stretch) [0, 1] = true := by decide +kernel
  have G : chkG (defScope s_stretch) ["before"] = true := by decide +kernel
  have nofree : ∀ y ∈ (defScope s_stretch).names, y.2 ≠ .free := by decide +kernel
  have B_N : X.N.Nodup := by rw [L.hN]; decide +kernel
  exact (ss_cons (z_iff (t_cmp .eq W.cal.hu (vr L V (i := 0) rfl rfl) (vr L V (i := 1) rfl rfl) rfl)
  (ss_cons (z_ret (s_tup (k_cons s_str (k_cons (vr L V (i := 0) rfl rfl) k_nil)) (by decide)))
  ss_nil)
  ss_nil)
  (ss_cons (z_iff (t_val (s_call (W.fns 15 _ _ rfl (by decide)) W.cal.r0 (gn_at L G (k := 0) rfl).1 rfl rfl rfl (a_shN (vr L V (i := 1) rfl rfl) (a_shN (vr L V (i := 0) rfl rfl) a_nil))) (fun _ => rfl))
  (ss_cons (z_ret (s_tup (k_cons s_str (k_cons (vr L V (i := 1) rfl rfl) (k_cons (vr L V (i := 0) rfl rfl) k_nil))) (by decide)))
  ss_nil)
  ss_nil)
  (ss_cons (z_ret (s_tup (k_cons s_str (k_cons (vr L V (i := 0) rfl rfl) (k_cons (vr L V (i := 1) rfl rfl) k_nil))) (by decide)))
  ss_nil)))
theorem c_stretch : FnScope N_stretch ["p", "q"] (defScope s_stretch) := ⟨rfl, rfl, rfl, by decide +kernel, rfl, by decide +kernel, by decide +kernel⟩
theorem b_lies_on (B : Bd X N_lies_on (defScope s_lies_on)) (W : Wo Pr Tb ca fnm n X) : PSs X (defBody s_lies_on) (tSs X.K ca fnm (Pr.sg n) d_lies_on.body) := by
  have L := B.at_
  have V : chkV N_lies_on (defScope s_lies_on) [0, 1] = true := by decide +kernel
  have G : chkG (defScope s_lies_on) ["side", "before"] = true := by decide +kernel
  have nofree : ∀ y ∈ (defScope s_lies_on).names, y.2 ≠ .free := by decide +kernel
  have B_N : X.N.Nodup := by rw [L.hN]; decide +kernel
  exact (ss_cons (z_iff (t_cmp .eq W.cal.hu (s_idc (vr L V (i := 0) rfl rfl) pe_int (fun _ _ => rfl)) s_str rfl)
  (ss_cons (z_ret (s_cmp .eq W.cal.hu (vr L V (i := 1) rfl rfl) (s_idc (vr L V (i := 0) rfl rfl) pe_int (fun _ _ => rfl)) rfl))
  ss_nil)
  ss_nil)
  (ss_cons (z_ret (s_and (s_cmp .eq W.cal.hu (s_call (W.fns 14 _ _ rfl (by decide)) W.cal.r0 (gn_at L G (k := 0) rfl).1 rfl rfl rfl (a_shN (s_idc (vr L V (i := 0) rfl rfl) pe_int (fun _ _ => rfl)) (a_shN (s_idc (vr L V (i := 0) rfl rfl) pe_int (fun _ _ => rfl)) (a_shN (vr L V (i := 1) rfl rfl) a_nil)))) s_int rfl) (s_and (s_not (s_call (W.fns 15 _ _ rfl (by decide)) W.cal.r0 (gn_at L G (k := 1) rfl).1 rfl rfl rfl (a_shN (vr L V (i := 1) rfl rfl) (a_shN (s_idc (vr L V (i := 0) rfl rfl) pe_int (fun _ _ => rfl)) a_nil)))) (s_one (s_not (s_call (W.fns 15 _ _ rfl (by decide)) W.cal.r0 (gn_at L G (k := 1) rfl).1 rfl rfl rfl (a_shN (s_idc (vr L V (i := 0) rfl rfl) pe_int (fun _ _ => rfl)) (a_shN (vr L V (i := 1) rfl rfl) a_nil))))))))
  ss_nil))
theorem c_lies_on : FnScope N_lies_on ["piece", "p"] (defScope s_lies_on) := ⟨rfl, rfl, rfl, by decide +kernel, rfl, by decide +kernel, by decide +kernel⟩
theorem b_quarter_of (B : Bd X N_quarter_of (defScope s_quarter_of)) (W : Wo Pr Tb ca fnm n X) : PSs X (defBody s_quarter_of) (tSs X.K ca fnm (Pr.sg n) d_quarter_of.body) := by
  have L := B.at_
  have V : chkV N_quarter_of (defScope s_quarter_of) [0, 1, 2, 3] = true := by decide +kernel
  have G : chkG (defScope s_quarter_of) ["along", "sign_of", "across"] = true := by decide +kernel
  have nofree : ∀ y ∈ (defScope s_quarter_of).names, y.2 ≠ .free := by decide +kernel
  have B_N : X.N.Nodup := by rw [L.hN]; decide +kernel
  exact (ss_cons (z_set 2 B_N (ln_at L B.fn V nofree (j := 2) rfl rfl).1 (ln_at L B.fn V nofree (j := 2) rfl rfl).2.1 (ln_at L B.fn V nofree (j := 2) rfl rfl).2.2 (s_call (W.fns 13 _ _ rfl (by decide)) W.cal.r0 (gn_at L G (k := 1) rfl).1 rfl rfl rfl (a_shN (s_call (W.fns 10 _ _ rfl (by decide)) W.cal.r0 (gn_at L G (k := 0) rfl).1 rfl rfl rfl (a_shN (vr L V (i := 0) rfl rfl) (a_shN (vr L V (i := 1) rfl rfl) a_nil))) a_nil)))
  (ss_cons (z_set 3 B_N (ln_at L B.fn V nofree (j := 3) rfl rfl).1 (ln_at L B.fn V nofree (j := 3) rfl rfl).2.1 (ln_at L B.fn V nofree (j := 3) rfl rfl).2.2 (s_call (W.fns 13 _ _ rfl (by decide)) W.cal.r0 (gn_at L G (k := 1) rfl).1 rfl rfl rfl (a_shN (s_call (W.fns 11 _ _ rfl (by decide)) W.cal.r0 (gn_at L G (k := 2) rfl).1 rfl rfl rfl (a_shN (vr L V (i := 0) rfl rfl) (a_shN (vr L V (i := 1) rfl rfl) a_nil))) a_nil)))
  (ss_cons (z_iff (PW.pt (w_and (t_cmp .gt W.cal.hu (vr L V (i := 2) rfl rfl) s_int rfl) (w_and1 (t_cmp .ge W.cal.hu (vr L V (i := 3) rfl rfl) s_int rfl))))
  (ss_cons (z_ret s_int)
  ss_nil)
  ss_nil)
  (ss_cons (z_iff (t_cmp .gt W.cal.hu (vr L V (i := 3) rfl rfl) s_int rfl)
  (ss_cons (z_ret s_int)
  ss_nil)
  ss_nil)
  (ss_cons (z_iff (t_cmp .lt W.cal.hu (vr L V (i := 2) rfl rfl) s_int rfl)
  (ss_cons (z_ret s_int)
  ss_nil)
  ss_nil)
  (ss_cons (z_ret s_int)
  ss_nil))))))
theorem c_quarter_of : FnScope N_quarter_of ["one", "other"] (defScope s_quarter_of) := ⟨rfl, rfl, rfl, by decide +kernel, rfl, by decide +kernel, by decide +kernel⟩
theorem b_ahead (B : Bd X N_ahead (defScope s_ahead)) (W : Wo Pr Tb ca fnm n X) : PSs X (defBody s_ahead) (tSs X.K ca fnm (Pr.sg n) d_ahead.body) := by
  have L := B.at_
  have V : chkV N_ahead (defScope s_ahead) [0, 1, 2, 3, 4, 5, 6, 7, 8] = true := by decide +kernel
  have G : chkG (defScope s_ahead) ["off", "quarter_of", "across"] = true := by decide +kernel
  have nofree : ∀ y ∈ (defScope s_ahead).names, y.2 ≠ .free := by decide +kernel
  have B_N : X.N.Nodup := by rw [L.hN]; decide +kernel
  exact (ss_cons (z_set 4 B_N (ln_at L B.fn V nofree (j := 4) rfl rfl).1 (ln_at L B.fn V nofree (j := 4) rfl rfl).2.1 (ln_at L B.fn V nofree (j := 4) rfl rfl).2.2 (s_call (W.fns 7 _ _ rfl (by decide)) W.cal.r0 (gn_at L G (k := 0) rfl).1 rfl rfl rfl (a_shN (vr L V (i := 1) rfl rfl) (a_shN (vr L V (i := 0) rfl rfl) a_nil))))
  (ss_cons (z_set 5 B_N (ln_at L B.fn V nofree (j := 5) rfl rfl).1 (ln_at L B.fn V nofree (j := 5) rfl rfl).2.1 (ln_at L B.fn V nofree (j := 5) rfl rfl).2.2 (s_call (W.fns 7 _ _ rfl (by decide)) W.cal.r0 (gn_at L G (k := 0) rfl).1 rfl rfl rfl (a_shN (vr L V (i := 2) rfl rfl) (a_shN (vr L V (i := 0) rfl rfl) a_nil))))
  (ss_cons (z_set 6 B_N (ln_at L B.fn V nofree (j := 6) rfl rfl).1 (ln_at L B.fn V nofree (j := 6) rfl rfl).2.1 (ln_at L B.fn V nofree (j := 6) rfl rfl).2.2 (s_call (W.fns 7 _ _ rfl (by decide)) W.cal.r0 (gn_at L G (k := 0) rfl).1 rfl rfl rfl (a_shN (vr L V (i := 3) rfl rfl) (a_shN (vr L V (i := 0) rfl rfl) a_nil))))
  (ss_cons (z_set 7 B_N (ln_at L B.fn V nofree (j := 7) rfl rfl).1 (ln_at L B.fn V nofree (j := 7) rfl rfl).2.1 (ln_at L B.fn V nofree (j := 7) rfl rfl).2.2 (s_call (W.fns 18 _ _ rfl (by decide)) W.cal.r0 (gn_at L G (k := 1) rfl).1 rfl rfl rfl (a_shN (vr L V (i := 4) rfl rfl) (a_shN (vr L V (i := 5) rfl rfl) a_nil))))
  (ss_cons (z_set 8 B_N (ln_at L B.fn V nofree (j := 8) rfl rfl).1 (ln_at L B.fn V nofree (j := 8) rfl rfl).2.1 (ln_at L B.fn V nofree (j := 8) rfl rfl).2.2 (s_call (W.fns 18 _ _ rfl (by decide)) W.cal.r0 (gn_at L G (k := 1) rfl).1 rfl rfl rfl (a_shN (vr L V (i := 4) rfl rfl) (a_shN (vr L V (i := 6) rfl rfl) a_nil))))
  (ss_cons (z_iff (t_cmp .ne W.cal.hu (vr L V (i := 7) rfl rfl) (vr L V (i := 8) rfl rfl) rfl)
  (ss_cons (z_ret (s_cmp .lt W.cal.hu (vr L V (i := 7) rfl rfl) (vr L V (i := 8) rfl rfl) rfl))
  ss_nil)
  ss_nil)
  (ss_cons (z_ret (s_cmp .gt W.cal.hu (s_idc (s_call (W.fns 11 _ _ rfl (by decide)) W.cal.r0 (gn_at L G (k := 2) rfl).1 rfl rfl rfl (a_shN (vr L V (i := 5) rfl rfl) (a_shN (vr L V (i := 6) rfl rfl) a_nil))) pe_int (fun _ _ => rfl)) s_int rfl))
  ss_nil)))))))
theorem c_ahead : FnScope N_ahead ["c", "a", "p", "q"] (defScope s_ahead) := ⟨rfl, rfl, rfl, by decide +kernel, rfl, by decide +kernel, by decide +kernel⟩
theorem b_on (B : Bd X N_on (defScope s_on)) (W : Wo Pr Tb ca fnm n X) : PSs X (defBody s_on) (tSs X.K ca fnm (Pr.sg n) d_on.body) := by
  have L := B.at_
  have V : chkV N_on (defScope s_on) [0, 1, 2] = true := by decide +kernel
  have G : chkG (defScope s_on) ["lies_on", "far", "ahead"] = true := by decide +kernel
  have nofree : ∀ y ∈ (defScope s_on).names, y.2 ≠ .free := by decide +kernel
  have B_N : X.N.Nodup := by rw [L.hN]; decide +kernel
  exact (ss_cons (z_iff (PW.pt (w_or (t_cmp .eq W.cal.hu (s_idc (vr L V (i := 0) rfl rfl) pe_int (fun _ _ => rfl)) s_str rfl) (w_or1 (t_cmp .eq W.cal.hu (s_idc (vr L V (i := 0) rfl rfl) pe_int (fun _ _ => rfl)) s_str rfl))))
  (ss_cons (z_ret (s_call (W.fns 17 _ _ rfl (by decide)) W.cal.r0 (gn_at L G (k := 0) rfl).1 rfl rfl rfl (a_shN (vr L V (i := 0) rfl rfl) (a_shN (vr L V (i := 1) rfl rfl) a_nil))))
  ss_nil)
  ss_nil)
  (ss_cons (z_set 2 B_N (ln_at L B.fn V nofree (j := 2) rfl rfl).1 (ln_at L B.fn V nofree (j := 2) rfl rfl).2.1 (ln_at L B.fn V nofree (j := 2) rfl rfl).2.2 (s_idc (vr L V (i := 0) rfl rfl) pe_int (fun _ _ => rfl)))
  (ss_cons (z_iff (t_cmp .ne W.cal.hu (s_call (W.fns 12 _ _ rfl (by decide)) W.cal.r0 (gn_at L G (k := 1) rfl).1 rfl rfl rfl (a_shN (vr L V (i := 2) rfl rfl) (a_shN (vr L V (i := 1) rfl rfl) a_nil))) (s_call (W.fns 12 _ _ rfl (by decide)) W.cal.r0 (gn_at L G (k := 1) rfl).1 rfl rfl rfl (a_shN (vr L V (i := 2) rfl rfl) (a_shN (s_idc (vr L V (i := 0) rfl rfl) pe_int (fun _ _ => rfl)) a_nil))) rfl)
  (ss_cons (z_ret s_bl)
  ss_nil)
  ss_nil)
  (ss_cons (z_iff (PW.pt (w_or (t_cmp .eq W.cal.hu (s_idc (vr L V (i := 0) rfl rfl) pe_int (fun _ _ => rfl)) s_str rfl) (w_or (t_cmp .eq W.cal.hu (vr L V (i := 1) rfl rfl) (s_idc (vr L V (i := 0) rfl rfl) pe_int (fun _ _ => rfl)) rfl) (w_or1 (t_cmp .eq W.cal.hu (vr L V (i := 1) rfl rfl) (s_idc (vr L V (i := 0) rfl rfl) pe_int (fun _ _ => rfl)) rfl)))))
  (ss_cons (z_ret s_bl)
  ss_nil)
  ss_nil)
  (ss_cons (z_ret (s_call (W.fns 19 _ _ rfl (by decide)) W.cal.r0 (gn_at L G (k := 2) rfl).1 rfl rfl rfl (a_shN (vr L V (i := 2) rfl rfl) (a_shN (s_idc (vr L V (i := 0) rfl rfl) pe_int (fun _ _ => rfl)) (a_shN (vr L V (i := 1) rfl rfl) (a_shN (s_idc (vr L V (i := 0) rfl rfl) pe_int (fun _ _ => rfl)) a_nil))))))
  ss_nil)))))
theorem c_on : FnScope N_on ["piece", "p"] (defScope s_on) := ⟨rfl, rfl, rfl, by decide +kernel, rfl, by decide +kernel, by decide +kernel⟩
theorem b_first (B : Bd X N_first (defScope s_first)) (W : Wo Pr Tb ca fnm n X) : PSs X (defBody s_first) (tSs X.K ca fnm (Pr.sg n) d_first.body) := by
  have L := B.at_
  have V : chkV N_first (defScope s_first) [] = true := by decide +kernel
  have G : chkG (defScope s_first) [] = true := by decide +kernel
  have nofree : ∀ y ∈ (defScope s_first).names, y.2 ≠ .free := by decide +kernel
  have B_N : X.N.Nodup := by rw [L.hN]; decide +kernel
  exact (ss_cons z_bad
  ss_nil)
theorem c_first : FnScope N_first [] (defScope s_first) := ⟨rfl, rfl, rfl, by decide +kernel, rfl, by decide +kernel, by decide +kernel⟩
theorem b_led (B : Bd X N_led (defScope s_led)) (W : Wo Pr Tb ca fnm n X) : PSs X (defBody s_led) (tSs X.K ca fnm (Pr.sg n) d_led.body) := by
  have L := B.at_
  have V : chkV N_led (defScope s_led) [0, 1, 2, 3, 4, 5, 6, 7] = true := by decide +kernel
  have G : chkG (defScope s_led) ["turned", "grown", "together"] = true := by decide +kernel
  have nofree : ∀ y ∈ (defScope s_led).names, y.2 ≠ .free := by decide +kernel
  have B_N : X.N.Nodup := by rw [L.hN]; decide +kernel
  exact (ss_cons (z_unp (g_tp W.cal.calm rfl (gs_cons (gnm_ B_N (ln_at L B.fn V nofree (j := 2) rfl rfl)) (gs_cons (gnm_ B_N (ln_at L B.fn V nofree (j := 3) rfl rfl)) (gs_cons (gnm_ B_N (ln_at L B.fn V nofree (j := 4) rfl rfl)) (gs_cons (gnm_ B_N (ln_at L B.fn V nofree (j := 5) rfl rfl)) gs_nil))))) (vr L V (i := 0) rfl rfl))
  (ss_cons (z_unp (g_tp W.cal.calm rfl (gs_cons (gnm_ B_N (ln_at L B.fn V nofree (j := 6) rfl rfl)) (gs_cons (gnm_ B_N (ln_at L B.fn V nofree (j := 7) rfl rfl)) gs_nil))) (vr L V (i := 1) rfl rfl))
  (ss_cons (z_ret (s_call (W.fns 6 _ _ rfl (by decide)) W.cal.r0 (gn_at L G (k := 2) rfl).1 rfl rfl rfl (a_shN (s_call (W.fns 8 _ _ rfl (by decide)) W.cal.r0 (gn_at L G (k := 1) rfl).1 rfl rfl rfl (a_shN (s_call (W.fns 9 _ _ rfl (by decide)) W.cal.r0 (gn_at L G (k := 0) rfl).1 rfl rfl rfl (a_shN (s_tup (k_cons (vr L V (i := 6) rfl rfl) (k_cons (s_tup (k_cons (s_bin .mul (vr L V (i := 4) rfl rfl) (s_idc (vr L V (i := 7) rfl rfl) pe_int (fun _ _ => rfl))) (k_cons (s_idc (vr L V (i := 7) rfl rfl) pe_int (fun _ _ => rfl)) k_nil)) (by decide)) k_nil)) (by decide)) (a_shN (vr L V (i := 3) rfl rfl) a_nil))) (a_shN (vr L V (i := 5) rfl rfl) a_nil))) (a_shN (vr L V (i := 2) rfl rfl) a_nil))))
  ss_nil)))
theorem c_led : FnScope N_led ["frame", "p"] (defScope s_led) := ⟨rfl, rfl, rfl, by decide +kernel, rfl, by decide +kernel, by decide +kernel⟩
theorem b_behind (B : Bd X N_behind (defScope s_behind)) (W : Wo Pr Tb ca fnm n X) : PSs X (defBody s_behind) (tSs X.K ca fnm (Pr.sg n) d_behind.body) := by
  have L := B.at_
  have V : chkV N_behind (defScope s_behind) [0, 1, 2] = true := by decide +kernel
  have G : chkG (defScope s_behind) ["led", "times"] = true := by decide +kernel
  have nofree : ∀ y ∈ (defScope s_behind).names, y.2 ≠ .free := by decide +kernel
  have B_N : X.N.Nodup := by rw [L.hN]; decide +kernel
  exact (ss_cons (z_set 2 B_N (ln_at L B.fn V nofree (j := 2) rfl rfl).1 (ln_at L B.fn V nofree (j := 2) rfl rfl).2.1 (ln_at L B.fn V nofree (j := 2) rfl rfl).2.2 (s_bin .mod (s_bin .add (s_idc (vr L V (i := 0) rfl rfl) pe_int (fun _ _ => rfl)) (s_bin .mul (s_idc (vr L V (i := 0) rfl rfl) pe_int (fun _ _ => rfl)) (s_idc (vr L V (i := 1) rfl rfl) pe_int (fun _ _ => rfl)))) s_int))
  (ss_cons (z_ret (s_tup (k_cons (s_call (W.fns 22 _ _ rfl (by decide)) W.cal.r0 (gn_at L G (k := 0) rfl).1 rfl rfl rfl (a_shN (vr L V (i := 0) rfl rfl) (a_shN (s_idc (vr L V (i := 1) rfl rfl) pe_int (fun _ _ => rfl)) a_nil))) (k_cons (vr L V (i := 2) rfl rfl) (k_cons (s_bin .mul (s_idc (vr L V (i := 0) rfl rfl) pe_int (fun _ _ => rfl)) (s_idc (vr L V (i := 1) rfl rfl) pe_int (fun _ _ => rfl))) (k_cons (s_call (W.fns 4 _ _ rfl (by decide)) W.cal.r0 (gn_at L G (k := 1) rfl).1 rfl rfl rfl (a_shN (s_idc (vr L V (i := 0) rfl rfl) pe_int (fun _ _ => rfl)) (a_shN (s_idc (vr L V (i := 1) rfl rfl) pe_int (fun _ _ => rfl)) a_nil))) k_nil)))) (by decide)))
  ss_nil))
theorem c_behind : FnScope N_behind ["one", "other"] (defScope s_behind) := ⟨rfl, rfl, rfl, by decide +kernel, rfl, by decide +kernel, by decide +kernel⟩
theorem b_led_piece (B : Bd X N_led_piece (defScope s_led_piece)) (W : Wo Pr Tb ca fnm n X) : PSs X (defBody s_led_piece) (tSs X.K ca fnm (Pr.sg n) d_led_piece.body) := by
  have L := B.at_
  have V : chkV N_led_piece (defScope s_led_piece) [0, 1, 2] = true := by decide +kernel
  have G : chkG (defScope s_led_piece) ["stretch", "tuple"] = true := by decide +kernel
  have nofree : ∀ y ∈ (defScope s_led_piece).names, y.2 ≠ .free := by decide +kernel
  have B_N : X.N.Nodup := by rw [L.hN]; decide +kernel
  exact (ss_cons (z_setcmpr [("p", 3)] L W B_N (js := [0, 3]) (ys := ["led"]) (ts := [3]) (ln_at L B.fn V nofree (j := 2) rfl rfl).1 (by decide +kernel) rfl rfl (by decide +kernel) (i_seq (s_slc (vr L V (i := 1) rfl rfl) (p_some s_int rfl) p_none)) (by decide +kernel) (by decide +kernel) (by decide +kernel) (by decide +kernel) (fun Y L1 B_N W1 V1 G1 V1_l => (gnm_ B_N (ll_at L1 V1_l (j := 3) rfl rfl))) (fun Y L1 B_N W1 V1 G1 V1_l => ts_nil) (fun Y L1 B_N W1 V1 G1 V1_l => (s_call (W1.fns 22 _ _ rfl (by decide)) W1.cal.r0 (gn_at L1 G1 (k := 0) rfl).1 rfl rfl rfl (a_shN (vr L1 V1 (i := 0) rfl rfl) (a_shN (vr L1 V1 (i := 3) rfl rfl) a_nil)))) rfl)
  (ss_cons (z_iff (t_cmp .eq W.cal.hu (s_idc (vr L V (i := 1) rfl rfl) pe_int (fun _ _ => rfl)) s_str rfl)
  (ss_cons (z_ret (s_call (W.fns 16 _ _ rfl (by decide)) W.cal.r0 (gn_at L G (k := 0) rfl).1 rfl rfl rfl (a_shN (s_idc (vr L V (i := 2) rfl rfl) pe_int (fun _ _ => rfl)) (a_shN (s_idc (vr L V (i := 2) rfl rfl) pe_int (fun _ _ => rfl)) a_nil))))
  ss_nil)
  ss_nil)
  (ss_cons (z_iff (PW.pt (w_and (t_cmp .eq W.cal.hu (s_idc (vr L V (i := 1) rfl rfl) pe_int (fun _ _ => rfl)) s_str rfl) (w_and1 (t_cmp .lt W.cal.hu (s_idc (vr L V (i := 0) rfl rfl) pe_int (fun _ _ => rfl)) s_int rfl))))
  (ss_cons (z_ret (s_tup (k_cons s_str (k_cons (s_idc (vr L V (i := 2) rfl rfl) pe_int (fun _ _ => rfl)) (k_cons (s_idc (vr L V (i := 2) rfl rfl) pe_int (fun _ _ => rfl)) (k_cons (s_idc (vr L V (i := 2) rfl rfl) pe_int (fun _ _ => rfl)) k_nil)))) (by decide)))
  ss_nil)
  ss_nil)
  (ss_cons (z_ret (s_bin .add (s_tup (k_cons (s_idc (vr L V (i := 1) rfl rfl) pe_int (fun _ _ => rfl)) k_nil) (by decide)) (s_bltT .tuple W.cal.calm (gn_at L G (k := 1) rfl).1 (W.free 3 _ rfl) rfl rfl rfl (gn_at L G (k := 1) rfl).2.2 (gn_at L G (k := 1) rfl).2.1 (b_cons (vr L V (i := 2) rfl rfl) b_nil))))
  ss_nil))))
theorem c_led_piece : FnScope N_led_piece ["frame", "piece"] (defScope s_led_piece) := ⟨rfl, rfl, rfl, by decide +kernel, rfl, by decide +kernel, by decide +kernel⟩
theorem b_power (B : Bd X N_power (defScope s_power)) (W : Wo Pr Tb ca fnm n X) : PSs X (defBody s_power) (tSs X.K ca fnm (Pr.sg n) d_power.body) := by
  have L := B.at_
  have V : chkV N_power (defScope s_power) [0, 1, 2, 3] = true := by decide +kernel
  have G : chkG (defScope s_power) ["first", "behind"] = true := by decide +kernel
  have nofree : ∀ y ∈ (defScope s_power).names, y.2 ≠ .free := by decide +kernel
  have B_N : X.N.Nodup := by rw [L.hN]; decide +kernel
  exact (ss_cons (z_set 2 B_N (ln_at L B.fn V nofree (j := 2) rfl rfl).1 (ln_at L B.fn V nofree (j := 2) rfl rfl).2.1 (ln_at L B.fn V nofree (j := 2) rfl rfl).2.2 (s_call0 (W.fns 21 _ _ rfl (by decide)) W.cal.r0 (gn_at L G (k := 0) rfl).1 rfl rfl))
  (ss_cons (z_set 3 B_N (ln_at L B.fn V nofree (j := 3) rfl rfl).1 (ln_at L B.fn V nofree (j := 3) rfl rfl).2.1 (ln_at L B.fn V nofree (j := 3) rfl rfl).2.2 (vr L V (i := 0) rfl rfl))
  (ss_cons (z_whl B.po (t_cmp .gt W.cal.hu (vr L V (i := 1) rfl rfl) s_int rfl)
  (ss_cons (z_iff (t_cmp .eq W.cal.hu (s_bin .mod (vr L V (i := 1) rfl rfl) s_int) s_int rfl)
  (ss_cons (z_set 2 B_N (ln_at L B.fn V nofree (j := 2) rfl rfl).1 (ln_at L B.fn V nofree (j := 2) rfl rfl).2.1 (ln_at L B.fn V nofree (j := 2) rfl rfl).2.2 (s_call (W.fns 23 _ _ rfl (by decide)) W.cal.r0 (gn_at L G (k := 1) rfl).1 rfl rfl rfl (a_shN (vr L V (i := 2) rfl rfl) (a_shN (vr L V (i := 3) rfl rfl) a_nil))))
  ss_nil)
  ss_nil)
  (ss_cons (z_set 3 B_N (ln_at L B.fn V nofree (j := 3) rfl rfl).1 (ln_at L B.fn V nofree (j := 3) rfl rfl).2.1 (ln_at L B.fn V nofree (j := 3) rfl rfl).2.2 (s_call (W.fns 23 _ _ rfl (by decide)) W.cal.r0 (gn_at L G (k := 1) rfl).1 rfl rfl rfl (a_shN (vr L V (i := 3) rfl rfl) (a_shN (vr L V (i := 3) rfl rfl) a_nil))))
  (ss_cons (z_set 1 B_N (ln_at L B.fn V nofree (j := 1) rfl rfl).1 (ln_at L B.fn V nofree (j := 1) rfl rfl).2.1 (ln_at L B.fn V nofree (j := 1) rfl rfl).2.2 (s_bin .fdiv (vr L V (i := 1) rfl rfl) s_int))
  ss_nil))))
  (ss_cons (z_ret (vr L V (i := 2) rfl rfl))
  ss_nil))))
theorem c_power : FnScope N_power ["frame", "n"] (defScope s_power) := ⟨rfl, rfl, rfl, by decide +kernel, rfl, by decide +kernel, by decide +kernel⟩
theorem b_frame_of (B : Bd X N_frame_of (defScope s_frame_of)) (W : Wo Pr Tb ca fnm n X) : PSs X (defBody s_frame_of) (tSs X.K ca fnm (Pr.sg n) d_frame_of.body) := by
  have L := B.at_
  have V : chkV N_frame_of (defScope s_frame_of) [0] = true := by decide +kernel
  have G : chkG (defScope s_frame_of) ["first"] = true := by decide +kernel
  have nofree : ∀ y ∈ (defScope s_frame_of).names, y.2 ≠ .free := by decide +kernel
  have B_N : X.N.Nodup := by rw [L.hN]; decide +kernel
  exact (ss_cons (z_iff (t_cmp .eq W.cal.hu (s_idc (vr L V (i := 0) rfl rfl) pe_int (fun _ _ => rfl)) s_str rfl)
  (ss_cons z_bad
  ss_nil)
  ss_nil)
  (ss_cons (z_iff (t_cmp .eq W.cal.hu (s_idc (vr L V (i := 0) rfl rfl) pe_int (fun _ _ => rfl)) s_str rfl)
  (ss_cons z_bad
  ss_nil)
  ss_nil)
  (ss_cons (z_ret (s_call0 (W.fns 21 _ _ rfl (by decide)) W.cal.r0 (gn_at L G (k := 0) rfl).1 rfl rfl))
  ss_nil)))
theorem c_frame_of : FnScope N_frame_of ["wanted"] (defScope s_frame_of) := ⟨rfl, rfl, rfl, by decide +kernel, rfl, by decide +kernel, by decide +kernel⟩
theorem b_is_number (B : Bd X N_is_number (defScope s_is_number)) (W : Wo Pr Tb ca fnm n X) : PSs X (defBody s_is_number) (tSs X.K ca fnm (Pr.sg n) d_is_number.body) := by
  have L := B.at_
  have V : chkV N_is_number (defScope s_is_number) [0] = true := by decide +kernel
  have G : chkG (defScope s_is_number) ["isinstance", "int", "bool"] = true := by decide +kernel
  have nofree : ∀ y ∈ (defScope s_is_number).names, y.2 ≠ .free := by decide +kernel
  have B_N : X.N.Nodup := by rw [L.hN]; decide +kernel
  exact (ss_cons (z_ret (s_and (s_isi .isInt W.cal.calm rfl (gn_at L G (k := 0) rfl).1 (W.free 4 _ rfl) (gn_at L G (k := 1) rfl).1 (W.free 2 _ rfl) rfl (gn_at L G (k := 1) rfl).2.2 (gn_at L G (k := 1) rfl).2.1 (vr L V (i := 0) rfl rfl)) (s_and (s_not (s_isi .isBool W.cal.calm rfl (gn_at L G (k := 0) rfl).1 (W.free 4 _ rfl) (gn_at L G (k := 2) rfl).1 (W.free 5 _ rfl) rfl (gn_at L G (k := 2) rfl).2.2 (gn_at L G (k := 2) rfl).2.1 (vr L V (i := 0) rfl rfl))) (s_one (s_cmp .ge W.cal.hu (vr L V (i := 0) rfl rfl) s_int rfl)))))
  ss_nil)
theorem c_is_number : FnScope N_is_number ["thing"] (defScope s_is_number) := ⟨rfl, rfl, rfl, by decide +kernel, rfl, by decide +kernel, by decide +kernel⟩
theorem b_straight_chain (B : Bd X N_straight_chain (defScope s_straight_chain)) (W : Wo Pr Tb ca fnm n X) : PSs X (defBody s_straight_chain) (tSs X.K ca fnm (Pr.sg n) d_straight_chain.body) := by
  have L := B.at_
  have V : chkV N_straight_chain (defScope s_straight_chain) [0, 1, 2, 3] = true := by decide +kernel
  have G : chkG (defScope s_straight_chain) ["side", "on", "zip"] = true := by decide +kernel
  have nofree : ∀ y ∈ (defScope s_straight_chain).names, y.2 ≠ .free := by decide +kernel
  have B_N : X.N.Nodup := by rw [L.hN]; decide +kernel
  exact (ss_cons (z_for B.po W.cal.calm (i_seq (vr L V (i := 0) rfl rfl)) (gnm_ B_N (ln_at L B.fn V nofree (j := 2) rfl rfl))
  (ss_cons (z_iff (PW.pt (w_or (t_cmp .ne W.cal.hu (s_idc (vr L V (i := 2) rfl rfl) pe_int (fun _ _ => rfl)) s_str rfl) (w_or (t_cmp .ne W.cal.hu (s_call (W.fns 14 _ _ rfl (by decide)) W.cal.r0 (gn_at L G (k := 0) rfl).1 rfl rfl rfl (a_shN (s_idc (vr L V (i := 1) rfl rfl) pe_int (fun _ _ => rfl)) (a_shN (s_idc (vr L V (i := 1) rfl rfl) pe_int (fun _ _ => rfl)) (a_shN (s_idc (vr L V (i := 2) rfl rfl) pe_int (fun _ _ => rfl)) a_nil)))) s_int rfl) (w_or1 (t_cmp .ne W.cal.hu (s_call (W.fns 14 _ _ rfl (by decide)) W.cal.r0 (gn_at L G (k := 0) rfl).1 rfl rfl rfl (a_shN (s_idc (vr L V (i := 1) rfl rfl) pe_int (fun _ _ => rfl)) (a_shN (s_idc (vr L V (i := 1) rfl rfl) pe_int (fun _ _ => rfl)) (a_shN (s_idc (vr L V (i := 2) rfl rfl) pe_int (fun _ _ => rfl)) a_nil)))) s_int rfl)))))
  (ss_cons (z_ret s_bl)
  ss_nil)
  ss_nil)
  ss_nil))
  (ss_cons (z_iff (PW.pt (w_or (t_not (t_val (s_call (W.fns 20 _ _ rfl (by decide)) W.cal.r0 (gn_at L G (k := 1) rfl).1 rfl rfl rfl (a_shN (s_idc (vr L V (i := 0) rfl rfl) pe_int (fun _ _ => rfl)) (a_shN (s_idc (vr L V (i := 1) rfl rfl) pe_int (fun _ _ => rfl)) a_nil))) (fun _ => rfl))) (w_or1 (t_not (t_val (s_call (W.fns 20 _ _ rfl (by decide)) W.cal.r0 (gn_at L G (k := 1) rfl).1 rfl rfl rfl (a_shN (s_idc (vr L V (i := 0) rfl rfl) pe_negint (fun _ _ => rfl)) (a_shN (s_idc (vr L V (i := 1) rfl rfl) pe_int (fun _ _ => rfl)) a_nil))) (fun _ => rfl))))))
  (ss_cons (z_ret s_bl)
  ss_nil)
  ss_nil)
  (ss_cons (z_for B.po W.cal.calm (i_zip (gn_at L G (k := 2) rfl).1 (W.free 6 _ rfl) (s_slc (vr L V (i := 0) rfl rfl) p_none (p_some (s_neg s_int) rfl)) (s_slc (vr L V (i := 0) rfl rfl) (p_some s_int rfl) p_none)) (g_tp W.cal.calm rfl (gs_cons (gnm_ B_N (ln_at L B.fn V nofree (j := 2) rfl rfl)) (gs_cons (gnm_ B_N (ln_at L B.fn V nofree (j := 3) rfl rfl)) gs_nil)))
  (ss_cons (z_iff (t_not (t_val (s_call (W.fns 20 _ _ rfl (by decide)) W.cal.r0 (gn_at L G (k := 1) rfl).1 rfl rfl rfl (a_shN (vr L V (i := 3) rfl rfl) (a_shN (s_idc (vr L V (i := 2) rfl rfl) pe_int (fun _ _ => rfl)) a_nil))) (fun _ => rfl)))
  (ss_cons (z_ret s_bl)
  ss_nil)
  ss_nil)
  ss_nil))
  (ss_cons (z_ret s_bl)
  ss_nil))))
theorem c_straight_chain : FnScope N_straight_chain ["pieces", "piece"] (defScope s_straight_chain) := ⟨rfl, rfl, rfl, by decide +kernel, rfl, by decide +kernel, by decide +kernel⟩
theorem b_same_circle (B : Bd X N_same_circle (defScope s_same_circle)) (W : Wo Pr Tb ca fnm n X) : PSs X (defBody s_same_circle) (tSs X.K ca fnm (Pr.sg n) d_same_circle.body) := by
  have L := B.at_
  have V : chkV N_same_circle (defScope s_same_circle) [0, 1] = true := by decide +kernel
  have G : chkG (defScope s_same_circle) ["far"] = true := by decide +kernel
  have nofree : ∀ y ∈ (defScope s_same_circle).names, y.2 ≠ .free := by decide +kernel
  have B_N : X.N.Nodup := by rw [L.hN]; decide +kernel
  exact (ss_cons (z_ret (s_and (s_cmp .inn W.cal.hu (s_idc (vr L V (i := 0) rfl rfl) pe_int (fun _ _ => rfl)) (s_tup (k_cons s_str (k_cons s_str k_nil)) (by decide)) rfl) (s_and (s_cmp .eq W.cal.hu (s_idc (vr L V (i := 0) rfl rfl) pe_int (fun _ _ => rfl)) (s_idc (vr L V (i := 1) rfl rfl) pe_int (fun _ _ => rfl)) rfl) (s_one (s_cmp .eq W.cal.hu (s_call (W.fns 12 _ _ rfl (by decide)) W.cal.r0 (gn_at L G (k := 0) rfl).1 rfl rfl rfl (a_shN (s_idc (vr L V (i := 0) rfl rfl) pe_int (fun _ _ => rfl)) (a_shN (s_idc (vr L V (i := 0) rfl rfl) pe_int (fun _ _ => rfl)) a_nil))) (s_call (W.fns 12 _ _ rfl (by decide)) W.cal.r0 (gn_at L G (k := 0) rfl).1 rfl rfl rfl (a_shN (s_idc (vr L V (i := 1) rfl rfl) pe_int (fun _ _ => rfl)) (a_shN (s_idc (vr L V (i := 1) rfl rfl) pe_int (fun _ _ => rfl)) a_nil))) rfl)))))
  ss_nil)
theorem c_same_circle : FnScope N_same_circle ["one", "piece"] (defScope s_same_circle) := ⟨rfl, rfl, rfl, by decide +kernel, rfl, by decide +kernel, by decide +kernel⟩
theorem b_comes_to (B : Bd X N_comes_to (defScope s_comes_to)) (W : Wo Pr Tb ca fnm n X) : PSs X (defBody s_comes_to) (tSs X.K ca fnm (Pr.sg n) d_comes_to.body) := by
  have L := B.at_
  have V : chkV N_comes_to (defScope s_comes_to) [0, 1, 2] = true := by decide +kernel
  have G : chkG (defScope s_comes_to) ["on", "ahead"] = true := by decide +kernel
  have nofree : ∀ y ∈ (defScope s_comes_to).names, y.2 ≠ .free := by decide +kernel
  have B_N : X.N.Nodup := by rw [L.hN]; decide +kernel
  exact (ss_cons (z_ret (s_and (s_cmp .ne W.cal.hu (vr L V (i := 2) rfl rfl) (vr L V (i := 1) rfl rfl) rfl) (s_and (s_call (W.fns 20 _ _ rfl (by decide)) W.cal.r0 (gn_at L G (k := 0) rfl).1 rfl rfl rfl (a_shN (vr L V (i := 0) rfl rfl) (a_shN (vr L V (i := 2) rfl rfl) a_nil))) (s_one (s_not (s_call (W.fns 19 _ _ rfl (by decide)) W.cal.r0 (gn_at L G (k := 1) rfl).1 rfl rfl rfl (a_shN (s_idc (vr L V (i := 0) rfl rfl) pe_int (fun _ _ => rfl)) (a_shN (vr L V (i := 1) rfl rfl) (a_shN (s_idc (vr L V (i := 0) rfl rfl) pe_int (fun _ _ => rfl)) (a_shN (vr L V (i := 2) rfl rfl) a_nil))))))))))
  ss_nil)
theorem c_comes_to : FnScope N_comes_to ["one", "here", "goal"] (defScope s_comes_to) := ⟨rfl, rfl, rfl, by decide +kernel, rfl, by decide +kernel, by decide +kernel⟩
theorem b_bent_chain (B : Bd X N_bent_chain (defScope s_bent_chain)) (W : Wo Pr Tb ca fnm n X) : PSs X (defBody s_bent_chain) (tSs X.K ca fnm (Pr.sg n) d_bent_chain.body) := by
  have L := B.at_
  have V : chkV N_bent_chain (defScope s_bent_chain) [0, 1, 2, 3, 4, 5] = true := by decide +kernel
  have G : chkG (defScope s_bent_chain) ["enumerate", "on", "comes_to", "len"] = true := by decide +kernel
  have nofree : ∀ y ∈ (defScope s_bent_chain).names, y.2 ≠ .free := by decide +kernel
  have B_N : X.N.Nodup := by rw [L.hN]; decide +kernel
  exact (ss_cons (z_set 2 B_N (ln_at L B.fn V nofree (j := 2) rfl rfl).1 (ln_at L B.fn V nofree (j := 2) rfl rfl).2.1 (ln_at L B.fn V nofree (j := 2) rfl rfl).2.2 (s_idc (vr L V (i := 1) rfl rfl) pe_int (fun _ _ => rfl)))
  (ss_cons (z_set 3 B_N (ln_at L B.fn V nofree (j := 3) rfl rfl).1 (ln_at L B.fn V nofree (j := 3) rfl rfl).2.1 (ln_at L B.fn V nofree (j := 3) rfl rfl).2.2 (s_idc (vr L V (i := 1) rfl rfl) pe_negint (fun _ _ => rfl)))
  (ss_cons (z_for B.po W.cal.calm (i_enm (gn_at L G (k := 0) rfl).1 (W.free 7 _ rfl) (vr L V (i := 0) rfl rfl)) (g_tp W.cal.calm rfl (gs_cons (gnm_ B_N (ln_at L B.fn V nofree (j := 4) rfl rfl)) (gs_cons (gnm_ B_N (ln_at L B.fn V nofree (j := 5) rfl rfl)) gs_nil)))
  (ss_cons (z_iff (PW.pt (w_or (t_cmp .ne W.cal.hu (s_idc (vr L V (i := 5) rfl rfl) pe_int (fun _ _ => rfl)) s_str rfl) (w_or (t_not (t_val (s_call (W.fns 20 _ _ rfl (by decide)) W.cal.r0 (gn_at L G (k := 1) rfl).1 rfl rfl rfl (a_shN (vr L V (i := 5) rfl rfl) (a_shN (vr L V (i := 2) rfl rfl) a_nil))) (fun _ => rfl))) (w_or1 (t_cmp .eq W.cal.hu (s_idc (vr L V (i := 5) rfl rfl) pe_int (fun _ _ => rfl)) (vr L V (i := 2) rfl rfl) rfl)))))
  (ss_cons (z_ret s_bl)
  ss_nil)
  ss_nil)
  (ss_cons (z_iff (t_val (s_call (W.fns 30 _ _ rfl (by decide)) W.cal.r0 (gn_at L G (k := 2) rfl).1 rfl rfl rfl (a_shN (vr L V (i := 5) rfl rfl) (a_shN (vr L V (i := 2) rfl rfl) (a_shN (vr L V (i := 3) rfl rfl) a_nil)))) (fun _ => rfl))
  (ss_cons (z_ret (s_cmp .eq W.cal.hu (vr L V (i := 4) rfl rfl) (s_bin .sub (s_blt .len W.cal.calm (gn_at L G (k := 3) rfl).1 (W.free 8 _ rfl) rfl rfl rfl (gn_at L G (k := 3) rfl).2.2 (gn_at L G (k := 3) rfl).2.1 (b_cons (vr L V (i := 0) rfl rfl) b_nil)) s_int) rfl))
  ss_nil)
  ss_nil)
  (ss_cons (z_set 2 B_N (ln_at L B.fn V nofree (j := 2) rfl rfl).1 (ln_at L B.fn V nofree (j := 2) rfl rfl).2.1 (ln_at L B.fn V nofree (j := 2) rfl rfl).2.2 (s_idc (vr L V (i := 5) rfl rfl) pe_int (fun _ _ => rfl)))
  ss_nil))))
  (ss_cons (z_ret s_bl)
  ss_nil))))
theorem c_bent_chain : FnScope N_bent_chain ["pieces", "piece"] (defScope s_bent_chain) := ⟨rfl, rfl, rfl, by decide +kernel, rfl, by decide +kernel, by decide +kernel⟩
theorem b_chain_shown (B : Bd X N_chain_shown (defScope s_chain_shown)) (W : Wo Pr Tb ca fnm n X) : PSs X (defBody s_chain_shown) (tSs X.K ca fnm (Pr.sg n) d_chain_shown.body) := by
  have L := B.at_
  have V : chkV N_chain_shown (defScope s_chain_shown) [0, 1] = true := by decide +kernel
  have G : chkG (defScope s_chain_shown) ["len", "on", "straight_chain", "all", "bent_chain"] = true := by decide +kernel
  have nofree : ∀ y ∈ (defScope s_chain_shown).names, y.2 ≠ .free := by decide +kernel
  have B_N : X.N.Nodup := by rw [L.hN]; decide +kernel
  exact (ss_cons (z_iff (t_cmp .eq W.cal.hu (vr L V (i := 0) rfl rfl) (s_lst k_nil (by decide)) rfl)
  (ss_cons (z_ret s_bl)
  ss_nil)
  ss_nil)
  (ss_cons (z_iff (t_cmp .eq W.cal.hu (s_idc (vr L V (i := 1) rfl rfl) pe_int (fun _ _ => rfl)) s_str rfl)
  (ss_cons (z_ret (s_and (s_cmp .eq W.cal.hu (s_blt .len W.cal.calm (gn_at L G (k := 0) rfl).1 (W.free 8 _ rfl) rfl rfl rfl (gn_at L G (k := 0) rfl).2.2 (gn_at L G (k := 0) rfl).2.1 (b_cons (vr L V (i := 0) rfl rfl) b_nil)) s_int rfl) (s_one (s_call (W.fns 20 _ _ rfl (by decide)) W.cal.r0 (gn_at L G (k := 1) rfl).1 rfl rfl rfl (a_shN (s_idc (vr L V (i := 0) rfl rfl) pe_int (fun _ _ => rfl)) (a_shN (s_idc (vr L V (i := 1) rfl rfl) pe_int (fun _ _ => rfl)) a_nil))))))
  ss_nil)
  ss_nil)
  (ss_cons (z_iff (t_cmp .eq W.cal.hu (s_idc (vr L V (i := 1) rfl rfl) pe_int (fun _ _ => rfl)) s_str rfl)
  (ss_cons (z_ret (s_call (W.fns 28 _ _ rfl (by decide)) W.cal.r0 (gn_at L G (k := 2) rfl).1 rfl rfl rfl (a_shN (vr L V (i := 0) rfl rfl) (a_shN (vr L V (i := 1) rfl rfl) a_nil))))
  ss_nil)
  ss_nil)
  (ss_cons (z_iff (t_not (t_val (s_blt .all W.cal.calm (gn_at L G (k := 3) rfl).1 (W.free 9 _ rfl) rfl rfl rfl (gn_at L G (k := 3) rfl).2.2 (gn_at L G (k := 3) rfl).2.1 (b_cons (s_cmpr [("one", 2)] L W B_N (js := [1, 2]) (ys := ["same_circle"]) (ts := [2]) (i_seq (vr L V (i := 0) rfl rfl)) (by decide +kernel) (by decide +kernel) (by decide +kernel) (by decide +kernel) (fun Y L1 B_N W1 V1 G1 V1_l => (gnm_ B_N (ll_at L1 V1_l (j := 2) rfl rfl))) (fun Y L1 B_N W1 V1 G1 V1_l => ts_nil) (fun Y L1 B_N W1 V1 G1 V1_l => (s_call (W1.fns 29 _ _ rfl (by decide)) W1.cal.r0 (gn_at L1 G1 (k := 0) rfl).1 rfl rfl rfl (a_shN (vr L1 V1 (i := 2) rfl rfl) (a_shN (vr L1 V1 (i := 1) rfl rfl) a_nil)))) rfl) b_nil)) (fun _ => rfl)))
  (ss_cons (z_ret s_bl)
  ss_nil)
  ss_nil)
  (ss_cons (z_iff (PW.pt (w_and (t_cmp .eq W.cal.hu (s_blt .len W.cal.calm (gn_at L G (k := 0) rfl).1 (W.free 8 _ rfl) rfl rfl rfl (gn_at L G (k := 0) rfl).2.2 (gn_at L G (k := 0) rfl).2.1 (b_cons (vr L V (i := 0) rfl rfl) b_nil)) s_int rfl) (w_and1 (t_cmp .eq W.cal.hu (s_idc (s_idc (vr L V (i := 0) rfl rfl) pe_int (fun _ _ => rfl)) pe_int (fun _ _ => rfl)) s_str rfl))))
  (ss_cons (z_ret s_bl)
  ss_nil)
  ss_nil)
  (ss_cons (z_ret (s_call (W.fns 31 _ _ rfl (by decide)) W.cal.r0 (gn_at L G (k := 4) rfl).1 rfl rfl rfl (a_shN (vr L V (i := 0) rfl rfl) (a_shN (vr L V (i := 1) rfl rfl) a_nil))))
  ss_nil))))))
theorem c_chain_shown : FnScope N_chain_shown ["pieces", "piece"] (defScope s_chain_shown) := ⟨rfl, rfl, rfl, by decide +kernel, rfl, by decide +kernel, by decide +kernel⟩
theorem b_Given__init_ (B : Bd X N_Given__init_ (defScope s_Given__init_)) (W : Wo Pr Tb ca fnm n X) : PSs X (defBody s_Given__init_) (tSs X.K ca fnm (Pr.sg n) d_Given__init_.body) := by
  have L := B.at_
  have V : chkV N_Given__init_ (defScope s_Given__init_) [0, 1, 2, 3] = true := by decide +kernel
  have G : chkG (defScope s_Given__init_) [] = true := by decide +kernel
  have nofree : ∀ y ∈ (defScope s_Given__init_).names, y.2 ≠ .free := by decide +kernel
  have B_N : X.N.Nodup := by rw [L.hN]; decide +kernel
  exact (ss_cons (z_setF 0 0 W.inj W.att rfl (nm_at L V (j := 0) rfl rfl).1 (nm_at L V (j := 0) rfl rfl).2.1 (nm_at L V (j := 0) rfl rfl).2.2.1 (nm_at L V (j := 0) rfl rfl).2.2.2 (vr L V (i := 1) rfl rfl))
  (ss_cons (z_setF 0 1 W.inj W.att rfl (nm_at L V (j := 0) rfl rfl).1 (nm_at L V (j := 0) rfl rfl).2.1 (nm_at L V (j := 0) rfl rfl).2.2.1 (nm_at L V (j := 0) rfl rfl).2.2.2 (vr L V (i := 2) rfl rfl))
  (ss_cons (z_setF 0 2 W.inj W.att rfl (nm_at L V (j := 0) rfl rfl).1 (nm_at L V (j := 0) rfl rfl).2.1 (nm_at L V (j := 0) rfl rfl).2.2.1 (nm_at L V (j := 0) rfl rfl).2.2.2 (vr L V (i := 3) rfl rfl))
  ss_nil)))
theorem c_Given__init_ : FnScope N_Given__init_ ["self", "wanted", "still", "flow"] (defScope s_Given__init_) := ⟨rfl, rfl, rfl, by decide +kernel, rfl, by decide +kernel, by decide +kernel⟩
theorem b_Given_is_one (B : Bd X N_Given_is_one (defScope s_Given_is_one)) (W : Wo Pr Tb ca fnm n X) : PSs X (defBody s_Given_is_one) (tSs X.K ca fnm (Pr.sg n) d_Given_is_one.body) := by
  have L := B.at_
  have V : chkV N_Given_is_one (defScope s_Given_is_one) [0, 1] = true := by decide +kernel
  have G : chkG (defScope s_Given_is_one) ["isinstance", "tuple", "len", "is_number", "MOST_TOLD"] = true := by decide +kernel
  have nofree : ∀ y ∈ (defScope s_Given_is_one).names, y.2 ≠ .free := by decide +kernel
  have B_N : X.N.Nodup := by rw [L.hN]; decide +kernel
  exact (ss_cons (z_iff (PW.pt (w_or (t_not (t_val (s_isi .isTuple W.cal.calm rfl (gn_at L G (k := 0) rfl).1 (W.free 4 _ rfl) (gn_at L G (k := 1) rfl).1 (W.free 3 _ rfl) rfl (gn_at L G (k := 1) rfl).2.2 (gn_at L G (k := 1) rfl).2.1 (vr L V (i := 1) rfl rfl)) (fun _ => rfl))) (w_or (t_cmp .ne W.cal.hu (s_blt .len W.cal.calm (gn_at L G (k := 2) rfl).1 (W.free 8 _ rfl) rfl rfl rfl (gn_at L G (k := 2) rfl).2.2 (gn_at L G (k := 2) rfl).2.1 (b_cons (vr L V (i := 1) rfl rfl) b_nil)) s_int rfl) (w_or (t_not (t_val (s_call (W.fns 27 _ _ rfl (by decide)) W.cal.r0 (gn_at L G (k := 3) rfl).1 rfl rfl rfl (a_shN (s_idc (vr L V (i := 1) rfl rfl) pe_int (fun _ _ => rfl)) a_nil)) (fun _ => rfl))) (w_or1 (t_not (t_val (s_call (W.fns 27 _ _ rfl (by decide)) W.cal.r0 (gn_at L G (k := 3) rfl).1 rfl rfl rfl (a_shN (s_idc (vr L V (i := 1) rfl rfl) pe_int (fun _ _ => rfl)) a_nil)) (fun _ => rfl))))))))
  (ss_cons (z_ret s_bl)
  ss_nil)
  ss_nil)
  (ss_cons (z_iff (PW.pt (w_or (t_cmp .ge W.cal.hu (s_idc (vr L V (i := 1) rfl rfl) pe_int (fun _ _ => rfl)) (s_bin .add (s_blt .len W.cal.calm (gn_at L G (k := 2) rfl).1 (W.free 8 _ rfl) rfl rfl rfl (gn_at L G (k := 2) rfl).2.2 (gn_at L G (k := 2) rfl).2.1 (b_cons (s_attr W.inj W.att rfl (vr L V (i := 0) rfl rfl)) b_nil)) (s_blt .len W.cal.calm (gn_at L G (k := 2) rfl).1 (W.free 8 _ rfl) rfl rfl rfl (gn_at L G (k := 2) rfl).2.2 (gn_at L G (k := 2) rfl).2.1 (b_cons (s_attr W.inj W.att rfl (vr L V (i := 0) rfl rfl)) b_nil))) rfl) (w_or1 (PW.pt (w_and (t_cmp .lt W.cal.hu (s_idc (vr L V (i := 1) rfl rfl) pe_int (fun _ _ => rfl)) (s_blt .len W.cal.calm (gn_at L G (k := 2) rfl).1 (W.free 8 _ rfl) rfl rfl rfl (gn_at L G (k := 2) rfl).2.2 (gn_at L G (k := 2) rfl).2.1 (b_cons (s_attr W.inj W.att rfl (vr L V (i := 0) rfl rfl)) b_nil)) rfl) (w_and1 (t_cmp .gt W.cal.hu (s_idc (vr L V (i := 1) rfl rfl) pe_int (fun _ _ => rfl)) s_int rfl)))))))
  (ss_cons (z_ret s_bl)
  ss_nil)
  ss_nil)
  (ss_cons (z_ret (s_or (s_cmp .ne W.cal.hu (s_idc (s_attr W.inj W.att rfl (vr L V (i := 0) rfl rfl)) pe_int (fun _ _ => rfl)) s_str rfl) (s_one (s_cmp .le W.cal.hu (s_idc (vr L V (i := 1) rfl rfl) pe_int (fun _ _ => rfl)) (cn W L G (j := 4) (i := 0) rfl rfl) rfl))))
  ss_nil)))
theorem c_Given_is_one : FnScope N_Given_is_one ["self", "thing"] (defScope s_Given_is_one) := ⟨rfl, rfl, rfl, by decide +kernel, rfl, by decide +kernel, by decide +kernel⟩
theorem b_Given_piece (B : Bd X N_Given_piece (defScope s_Given_piece)) (W : Wo Pr Tb ca fnm n X) : PSs X (defBody s_Given_piece) (tSs X.K ca fnm (Pr.sg n) d_Given_piece.body) := by
  have L := B.at_
  have V : chkV N_Given_piece (defScope s_Given_piece) [0, 1, 2] = true := by decide +kernel
  have G : chkG (defScope s_Given_piece) ["len", "frame_of", "power", "led_piece"] = true := by decide +kernel
  have nofree : ∀ y ∈ (defScope s_Given_piece).names, y.2 ≠ .free := by decide +kernel
  have B_N : X.N.Nodup := by rw [L.hN]; decide +kernel
  exact (ss_cons (z_iff (t_cmp .lt W.cal.hu (vr L V (i := 1) rfl rfl) (s_blt .len W.cal.calm (gn_at L G (k := 0) rfl).1 (W.free 8 _ rfl) rfl rfl rfl (gn_at L G (k := 0) rfl).2.2 (gn_at L G (k := 0) rfl).2.1 (b_cons (s_attr W.inj W.att rfl (vr L V (i := 0) rfl rfl)) b_nil)) rfl)
  (ss_cons (z_ret (s_idx (s_attr W.inj W.att rfl (vr L V (i := 0) rfl rfl)) (vr L V (i := 1) rfl rfl) (fun _ _ => rfl)))
  ss_nil)
  ss_nil)
  (ss_cons (z_ret (s_call (W.fns 24 _ _ rfl (by decide)) W.cal.r0 (gn_at L G (k := 3) rfl).1 rfl rfl rfl (a_shN (s_call (W.fns 25 _ _ rfl (by decide)) W.cal.r0 (gn_at L G (k := 2) rfl).1 rfl rfl rfl (a_shN (s_call (W.fns 26 _ _ rfl (by decide)) W.cal.r0 (gn_at L G (k := 1) rfl).1 rfl rfl rfl (a_shN (s_attr W.inj W.att rfl (vr L V (i := 0) rfl rfl)) a_nil)) (a_shN (vr L V (i := 2) rfl rfl) a_nil))) (a_shN (s_idx (s_attr W.inj W.att rfl (vr L V (i := 0) rfl rfl)) (s_bin .sub (vr L V (i := 1) rfl rfl) (s_blt .len W.cal.calm (gn_at L G (k := 0) rfl).1 (W.free 8 _ rfl) rfl rfl rfl (gn_at L G (k := 0) rfl).2.2 (gn_at L G (k := 0) rfl).2.1 (b_cons (s_attr W.inj W.att rfl (vr L V (i := 0) rfl rfl)) b_nil))) (fun _ _ => rfl)) a_nil))))
  ss_nil))
theorem c_Given_piece : FnScope N_Given_piece ["self", "number", "n"] (defScope s_Given_piece) := ⟨rfl, rfl, rfl, by decide +kernel, rfl, by decide +kernel, by decide +kernel⟩
theorem b_Given_covers (B : Bd X N_Given_covers (defScope s_Given_covers)) (W : Wo Pr Tb ca fnm n X) : PSs X (defBody s_Given_covers) (tSs X.K ca fnm (Pr.sg n) d_Given_covers.body) := by
  have L := B.at_
  have V : chkV N_Given_covers (defScope s_Given_covers) [0, 1, 2] = true := by decide +kernel
  have G : chkG (defScope s_Given_covers) ["isinstance", "list", "all", "len", "range", "any", "chain_shown"] = true := by decide +kernel
  have nofree : ∀ y ∈ (defScope s_Given_covers).names, y.2 ≠ .free := by decide +kernel
  have B_N : X.N.Nodup := by rw [L.hN]; decide +kernel
  exact (ss_cons (z_iff (PW.pt (w_or (t_not (t_val (s_isi .isList W.cal.calm rfl (gn_at L G (k := 0) rfl).1 (W.free 4 _ rfl) (gn_at L G (k := 1) rfl).1 (W.free 10 _ rfl) rfl (gn_at L G (k := 1) rfl).2.2 (gn_at L G (k := 1) rfl).2.1 (vr L V (i := 1) rfl rfl)) (fun _ => rfl))) (w_or1 (t_not (t_val (s_blt .all W.cal.calm (gn_at L G (k := 2) rfl).1 (W.free 9 _ rfl) rfl rfl rfl (gn_at L G (k := 2) rfl).2.2 (gn_at L G (k := 2) rfl).2.1 (b_cons (s_cmpr [("thing", 3)] L W B_N (js := [0, 3]) (ys := []) (ts := [3]) (i_seq (vr L V (i := 1) rfl rfl)) (by decide +kernel) (by decide +kernel) (by decide +kernel) (by decide +kernel) (fun Y L1 B_N W1 V1 G1 V1_l => (gnm_ B_N (ll_at L1 V1_l (j := 3) rfl rfl))) (fun Y L1 B_N W1 V1 G1 V1_l => ts_nil) (fun Y L1 B_N W1 V1 G1 V1_l => (s_meth (W1.mts 0 _ _ rfl) W1.cal.r0 (nmOf_ne (by decide +kernel)) rfl rfl (vr L1 V1 (i := 0) rfl rfl) (a_shN (vr L1 V1 (i := 3) rfl rfl) a_nil))) rfl) b_nil)) (fun _ => rfl))))))
  (ss_cons (z_ret s_bl)
  ss_nil)
  ss_nil)
  (ss_cons (z_iff (PW.pt (w_and (t_cmp .eq W.cal.hu (s_idc (vr L V (i := 2) rfl rfl) pe_int (fun _ _ => rfl)) s_str rfl) (w_and1 (t_val (s_blt .any W.cal.calm (gn_at L G (k := 5) rfl).1 (W.free 11 _ rfl) rfl rfl rfl (gn_at L G (k := 5) rfl).2.2 (gn_at L G (k := 5) rfl).2.1 (b_cons (s_cmpr [("k", 4)] L W B_N (js := [1, 4]) (ys := []) (ts := [4]) (i_rng1 (gn_at L G (k := 4) rfl).1 (W.free 1 _ rfl) (b_cons (s_blt .len W.cal.calm (gn_at L G (k := 3) rfl).1 (W.free 8 _ rfl) rfl rfl rfl (gn_at L G (k := 3) rfl).2.2 (gn_at L G (k := 3) rfl).2.1 (b_cons (vr L V (i := 1) rfl rfl) b_nil)) b_nil)) (by decide +kernel) (by decide +kernel) (by decide +kernel) (by decide +kernel) (fun Y L2 B_N W2 V2 G2 V2_l => (gnm_ B_N (ll_at L2 V2_l (j := 4) rfl rfl))) (fun Y L2 B_N W2 V2 G2 V2_l => ts_nil) (fun Y L2 B_N W2 V2 G2 V2_l => (s_cmp .inn W2.cal.hu (s_idx (vr L2 V2 (i := 1) rfl rfl) (vr L2 V2 (i := 4) rfl rfl) (fun _ _ => rfl)) (s_slc (vr L2 V2 (i := 1) rfl rfl) p_none (p_some (vr L2 V2 (i := 4) rfl rfl) rfl)) rfl)) rfl) b_nil)) (fun _ => rfl)))))
  (ss_cons (z_ret s_bl)
  ss_nil)
  ss_nil)
  (ss_cons (z_ret (s_call (W.fns 32 _ _ rfl (by decide)) W.cal.r0 (gn_at L G (k := 6) rfl).1 rfl rfl rfl (a_shN (s_cmpr [("number", 5), ("n", 6)] L W B_N (js := [0, 5, 6]) (ys := []) (ts := [5, 6]) (i_seq (vr L V (i := 1) rfl rfl)) (by decide +kernel) (by decide +kernel) (by decide +kernel) (by decide +kernel) (fun Y L3 B_N W3 V3 G3 V3_l => (g_tp W3.cal.calm rfl (gs_cons (gnm_ B_N (ll_at L3 V3_l (j := 5) rfl rfl)) (gs_cons (gnm_ B_N (ll_at L3 V3_l (j := 6) rfl rfl)) gs_nil)))) (fun Y L3 B_N W3 V3 G3 V3_l => ts_nil) (fun Y L3 B_N W3 V3 G3 V3_l => (s_meth (W3.mts 1 _ _ rfl) W3.cal.r0 (nmOf_ne (by decide +kernel)) rfl rfl (vr L3 V3 (i := 0) rfl rfl) (a_shN (vr L3 V3 (i := 5) rfl rfl) (a_shN (vr L3 V3 (i := 6) rfl rfl) a_nil)))) rfl) (a_shN (vr L V (i := 2) rfl rfl) a_nil))))
  ss_nil)))
theorem c_Given_covers : FnScope N_Given_covers ["self", "paper", "piece"] (defScope s_Given_covers) := ⟨rfl, rfl, rfl, by decide +kernel, rfl, by decide +kernel, by decide +kernel⟩
theorem b_Given_covers_all (B : Bd X N_Given_covers_all (defScope s_Given_covers_all)) (W : Wo Pr Tb ca fnm n X) : PSs X (defBody s_Given_covers_all) (tSs X.K ca fnm (Pr.sg n) d_Given_covers_all.body) := by
  have L := B.at_
  have V : chkV N_Given_covers_all (defScope s_Given_covers_all) [0, 1, 2, 3, 4, 5] = true := by decide +kernel
  have G : chkG (defScope s_Given_covers_all) ["isinstance", "list", "frame_of", "enumerate", "power", "led_piece", "all"] = true := by decide +kernel
  have nofree : ∀ y ∈ (defScope s_Given_covers_all).names, y.2 ≠ .free := by decide +kernel
  have B_N : X.N.Nodup := by rw [L.hN]; decide +kernel
  exact (ss_cons (z_iff (PW.pt (w_or (t_not (t_val (s_isi .isList W.cal.calm rfl (gn_at L G (k := 0) rfl).1 (W.free 4 _ rfl) (gn_at L G (k := 1) rfl).1 (W.free 10 _ rfl) rfl (gn_at L G (k := 1) rfl).2.2 (gn_at L G (k := 1) rfl).2.1 (vr L V (i := 1) rfl rfl)) (fun _ => rfl))) (w_or1 (t_cmp .eq W.cal.hu (vr L V (i := 1) rfl rfl) (s_lst k_nil (by decide)) rfl))))
  (ss_cons (z_ret s_bl)
  ss_nil)
  ss_nil)
  (ss_cons (z_set 3 B_N (ln_at L B.fn V nofree (j := 3) rfl rfl).1 (ln_at L B.fn V nofree (j := 3) rfl rfl).2.1 (ln_at L B.fn V nofree (j := 3) rfl rfl).2.2 (s_call (W.fns 26 _ _ rfl (by decide)) W.cal.r0 (gn_at L G (k := 2) rfl).1 rfl rfl rfl (a_shN (s_attr W.inj W.att rfl (vr L V (i := 0) rfl rfl)) a_nil)))
  (ss_cons (z_for B.po W.cal.calm (i_enm (gn_at L G (k := 3) rfl).1 (W.free 7 _ rfl) (vr L V (i := 1) rfl rfl)) (g_tp W.cal.calm rfl (gs_cons (gnm_ B_N (ln_at L B.fn V nofree (j := 4) rfl rfl)) (gs_cons (gnm_ B_N (ln_at L B.fn V nofree (j := 5) rfl rfl)) gs_nil)))
  (ss_cons (z_iff (t_not (t_val (s_meth (W.mts 2 _ _ rfl) W.cal.r0 (nmOf_ne (by decide +kernel)) rfl rfl (vr L V (i := 0) rfl rfl) (a_shN (vr L V (i := 5) rfl rfl) (a_shN (s_call (W.fns 24 _ _ rfl (by decide)) W.cal.r0 (gn_at L G (k := 5) rfl).1 rfl rfl rfl (a_shN (s_call (W.fns 25 _ _ rfl (by decide)) W.cal.r0 (gn_at L G (k := 4) rfl).1 rfl rfl rfl (a_shN (vr L V (i := 3) rfl rfl) (a_shN (vr L V (i := 4) rfl rfl) a_nil))) (a_shN (vr L V (i := 2) rfl rfl) a_nil))) a_nil))) (fun _ => rfl)))
  (ss_cons (z_ret s_bl)
  ss_nil)
  ss_nil)
  ss_nil))
  (ss_cons (z_ret (s_blt .all W.cal.calm (gn_at L G (k := 6) rfl).1 (W.free 9 _ rfl) rfl rfl rfl (gn_at L G (k := 6) rfl).2.2 (gn_at L G (k := 6) rfl).2.1 (b_cons (s_cmpr [("number", 6), ("n", 4)] L W B_N (js := [0, 4, 6]) (ys := ["len"]) (ts := [6, 4]) (i_seq (s_idc (vr L V (i := 1) rfl rfl) pe_negint (fun _ _ => rfl))) (by decide +kernel) (by decide +kernel) (by decide +kernel) (by decide +kernel) (fun Y L1 B_N W1 V1 G1 V1_l => (g_tp W1.cal.calm rfl (gs_cons (gnm_ B_N (ll_at L1 V1_l (j := 6) rfl rfl)) (gs_cons (gnm_ B_N (ll_at L1 V1_l (j := 4) rfl rfl)) gs_nil)))) (fun Y L1 B_N W1 V1 G1 V1_l => ts_nil) (fun Y L1 B_N W1 V1 G1 V1_l => (s_cmp .ge W1.cal.hu (vr L1 V1 (i := 6) rfl rfl) (s_blt .len W1.cal.calm (gn_at L1 G1 (k := 0) rfl).1 (W1.free 8 _ rfl) rfl rfl rfl (gn_at L1 G1 (k := 0) rfl).2.2 (gn_at L1 G1 (k := 0) rfl).2.1 (b_cons (s_attr W1.inj W1.att rfl (vr L1 V1 (i := 0) rfl rfl)) b_nil)) rfl)) rfl) b_nil)))
  ss_nil))))
theorem c_Given_covers_all : FnScope N_Given_covers_all ["self", "papers", "piece"] (defScope s_Given_covers_all) := ⟨rfl, rfl, rfl, by decide +kernel, rfl, by decide +kernel, by decide +kernel⟩
theorem b_papers_shown (B : Bd X N_papers_shown (defScope s_papers_shown)) (W : Wo Pr Tb ca fnm n X) : PSs X (defBody s_papers_shown) (tSs X.K ca fnm (Pr.sg n) d_papers_shown.body) := by
  have L := B.at_
  have V : chkV N_papers_shown (defScope s_papers_shown) [0, 1, 2, 3, 4] = true := by decide +kernel
  have G : chkG (defScope s_papers_shown) ["isinstance", "list", "len", "zip"] = true := by decide +kernel
  have nofree : ∀ y ∈ (defScope s_papers_shown).names, y.2 ≠ .free := by decide +kernel
  have B_N : X.N.Nodup := by rw [L.hN]; decide +kernel
  exact (ss_cons (z_iff (PW.pt (w_or (t_not (t_val (s_isi .isList W.cal.calm rfl (gn_at L G (k := 0) rfl).1 (W.free 4 _ rfl) (gn_at L G (k := 1) rfl).1 (W.free 10 _ rfl) rfl (gn_at L G (k := 1) rfl).2.2 (gn_at L G (k := 1) rfl).2.1 (vr L V (i := 2) rfl rfl)) (fun _ => rfl))) (w_or1 (t_cmp .ne W.cal.hu (s_blt .len W.cal.calm (gn_at L G (k := 2) rfl).1 (W.free 8 _ rfl) rfl rfl rfl (gn_at L G (k := 2) rfl).2.2 (gn_at L G (k := 2) rfl).2.1 (b_cons (vr L V (i := 2) rfl rfl) b_nil)) (s_bin .add (s_blt .len W.cal.calm (gn_at L G (k := 2) rfl).1 (W.free 8 _ rfl) rfl rfl rfl (gn_at L G (k := 2) rfl).2.2 (gn_at L G (k := 2) rfl).2.1 (b_cons (s_idc (vr L V (i := 1) rfl rfl) pe_int (fun _ _ => rfl)) b_nil)) (s_blt .len W.cal.calm (gn_at L G (k := 2) rfl).1 (W.free 8 _ rfl) rfl rfl rfl (gn_at L G (k := 2) rfl).2.2 (gn_at L G (k := 2) rfl).2.1 (b_cons (s_idc (vr L V (i := 1) rfl rfl) pe_int (fun _ _ => rfl)) b_nil))) rfl))))
  (ss_cons (z_ret s_bl)
  ss_nil)
  ss_nil)
  (ss_cons (z_for B.po W.cal.calm (i_zip (gn_at L G (k := 3) rfl).1 (W.free 6 _ rfl) (s_idc (vr L V (i := 1) rfl rfl) pe_int (fun _ _ => rfl)) (vr L V (i := 2) rfl rfl)) (g_tp W.cal.calm rfl (gs_cons (gnm_ B_N (ln_at L B.fn V nofree (j := 3) rfl rfl)) (gs_cons (gnm_ B_N (ln_at L B.fn V nofree (j := 4) rfl rfl)) gs_nil)))
  (ss_cons (z_iff (t_not (t_val (s_meth (W.mts 2 _ _ rfl) W.cal.r0 (nmOf_ne (by decide +kernel)) rfl rfl (vr L V (i := 0) rfl rfl) (a_shN (vr L V (i := 4) rfl rfl) (a_shN (vr L V (i := 3) rfl rfl) a_nil))) (fun _ => rfl)))
  (ss_cons (z_ret s_bl)
  ss_nil)
  ss_nil)
  ss_nil))
  (ss_cons (z_for B.po W.cal.calm (i_zip (gn_at L G (k := 3) rfl).1 (W.free 6 _ rfl) (s_idc (vr L V (i := 1) rfl rfl) pe_int (fun _ _ => rfl)) (s_slc (vr L V (i := 2) rfl rfl) (p_some (s_blt .len W.cal.calm (gn_at L G (k := 2) rfl).1 (W.free 8 _ rfl) rfl rfl rfl (gn_at L G (k := 2) rfl).2.2 (gn_at L G (k := 2) rfl).2.1 (b_cons (s_idc (vr L V (i := 1) rfl rfl) pe_int (fun _ _ => rfl)) b_nil)) rfl) p_none)) (g_tp W.cal.calm rfl (gs_cons (gnm_ B_N (ln_at L B.fn V nofree (j := 3) rfl rfl)) (gs_cons (gnm_ B_N (ln_at L B.fn V nofree (j := 4) rfl rfl)) gs_nil)))
  (ss_cons (z_iff (t_not (t_val (s_meth (W.mts 3 _ _ rfl) W.cal.r0 (nmOf_ne (by decide +kernel)) rfl rfl (vr L V (i := 0) rfl rfl) (a_shN (vr L V (i := 4) rfl rfl) (a_shN (vr L V (i := 3) rfl rfl) a_nil))) (fun _ => rfl)))
  (ss_cons (z_ret s_bl)
  ss_nil)
  ss_nil)
  ss_nil))
  (ss_cons (z_ret s_bl)
  ss_nil))))
theorem c_papers_shown : FnScope N_papers_shown ["given", "one", "papers"] (defScope s_papers_shown) := ⟨rfl, rfl, rfl, by decide +kernel, rfl, by decide +kernel, by decide +kernel⟩
theorem b_alike_shown (B : Bd X N_alike_shown (defScope s_alike_shown)) (W : Wo Pr Tb ca fnm n X) : PSs X (defBody s_alike_shown) (tSs X.K ca fnm (Pr.sg n) d_alike_shown.body) := by
  have L := B.at_
  have V : chkV N_alike_shown (defScope s_alike_shown) [0, 1, 2, 3] = true := by decide +kernel
  have G : chkG (defScope s_alike_shown) ["isinstance", "tuple", "len", "Given", "papers_shown"] = true := by decide +kernel
  have nofree : ∀ y ∈ (defScope s_alike_shown).names, y.2 ≠ .free := by decide +kernel
  have B_N : X.N.Nodup := by rw [L.hN]; decide +kernel
  exact (ss_cons (z_iff (PW.pt (w_or (t_not (t_val (s_isi .isTuple W.cal.calm rfl (gn_at L G (k := 0) rfl).1 (W.free 4 _ rfl) (gn_at L G (k := 1) rfl).1 (W.free 3 _ rfl) rfl (gn_at L G (k := 1) rfl).2.2 (gn_at L G (k := 1) rfl).2.1 (vr L V (i := 1) rfl rfl)) (fun _ => rfl))) (w_or1 (t_cmp .ne W.cal.hu (s_blt .len W.cal.calm (gn_at L G (k := 2) rfl).1 (W.free 8 _ rfl) rfl rfl rfl (gn_at L G (k := 2) rfl).2.2 (gn_at L G (k := 2) rfl).2.1 (b_cons (vr L V (i := 1) rfl rfl) b_nil)) s_int rfl))))
  (ss_cons (z_ret s_bl)
  ss_nil)
  ss_nil)
  (ss_cons (z_set 2 B_N (ln_at L B.fn V nofree (j := 2) rfl rfl).1 (ln_at L B.fn V nofree (j := 2) rfl rfl).2.1 (ln_at L B.fn V nofree (j := 2) rfl rfl).2.2 (s_mk (W.mks 0 _ _ rfl) W.cal.room (gn_at L G (k := 3) rfl).1 rfl rfl (a_shN (s_idc (vr L V (i := 0) rfl rfl) pe_int (fun _ _ => rfl)) (a_shN (s_idc (s_idc (vr L V (i := 0) rfl rfl) pe_int (fun _ _ => rfl)) pe_int (fun _ _ => rfl)) (a_shN (s_idc (s_idc (vr L V (i := 0) rfl rfl) pe_int (fun _ _ => rfl)) pe_int (fun _ _ => rfl)) a_nil)))))
  (ss_cons (z_set 3 B_N (ln_at L B.fn V nofree (j := 3) rfl rfl).1 (ln_at L B.fn V nofree (j := 3) rfl rfl).2.1 (ln_at L B.fn V nofree (j := 3) rfl rfl).2.2 (s_mk (W.mks 0 _ _ rfl) W.cal.room (gn_at L G (k := 3) rfl).1 rfl rfl (a_shN (s_idc (vr L V (i := 0) rfl rfl) pe_int (fun _ _ => rfl)) (a_shN (s_idc (s_idc (vr L V (i := 0) rfl rfl) pe_int (fun _ _ => rfl)) pe_int (fun _ _ => rfl)) (a_shN (s_idc (s_idc (vr L V (i := 0) rfl rfl) pe_int (fun _ _ => rfl)) pe_int (fun _ _ => rfl)) a_nil)))))
  (ss_cons (z_ret (s_and (s_call (W.fns 38 _ _ rfl (by decide)) W.cal.r0 (gn_at L G (k := 4) rfl).1 rfl rfl rfl (a_shN (vr L V (i := 3) rfl rfl) (a_shN (s_idc (vr L V (i := 0) rfl rfl) pe_int (fun _ _ => rfl)) (a_shN (s_idc (vr L V (i := 1) rfl rfl) pe_int (fun _ _ => rfl)) a_nil)))) (s_one (s_call (W.fns 38 _ _ rfl (by decide)) W.cal.r0 (gn_at L G (k := 4) rfl).1 rfl rfl rfl (a_shN (vr L V (i := 2) rfl rfl) (a_shN (s_idc (vr L V (i := 0) rfl rfl) pe_int (fun _ _ => rfl)) (a_shN (s_idc (vr L V (i := 1) rfl rfl) pe_int (fun _ _ => rfl)) a_nil)))))))
  ss_nil))))
theorem c_alike_shown : FnScope N_alike_shown ["even", "papers"] (defScope s_alike_shown) := ⟨rfl, rfl, rfl, by decide +kernel, rfl, by decide +kernel, by decide +kernel⟩
theorem b__law_cell_at (B : Bd X N__law_cell_at (defScope s__law_cell_at)) (W : Wo Pr Tb ca fnm n X) : PSs X (defBody s__law_cell_at) (tSs X.K ca fnm (Pr.sg n) d__law_cell_at.body) := by
  have L := B.at_
  have V : chkV N__law_cell_at (defScope s__law_cell_at) [0, 1] = true := by decide +kernel
  have G : chkG (defScope s__law_cell_at) ["len"] = true := by decide +kernel
  have nofree : ∀ y ∈ (defScope s__law_cell_at).names, y.2 ≠ .free := by decide +kernel
  have B_N : X.N.Nodup := by rw [L.hN]; decide +kernel
  exact (ss_cons (z_iff (t_cmp .lt W.cal.hu (vr L V (i := 1) rfl rfl) (s_blt .len W.cal.calm (gn_at L G (k := 0) rfl).1 (W.free 8 _ rfl) rfl rfl rfl (gn_at L G (k := 0) rfl).2.2 (gn_at L G (k := 0) rfl).2.1 (b_cons (vr L V (i := 0) rfl rfl) b_nil)) rfl)
  (ss_cons (z_ret (s_idx (vr L V (i := 0) rfl rfl) (vr L V (i := 1) rfl rfl) (fun _ _ => rfl)))
  ss_nil)
  ss_nil)
  (ss_cons (z_ret s_int)
  ss_nil))
theorem c__law_cell_at : FnScope N__law_cell_at ["_law_script", "_law_k"] (defScope s__law_cell_at) := ⟨rfl, rfl, rfl, by decide +kernel, rfl, by decide +kernel, by decide +kernel⟩
theorem b__law_feed (B : Bd X N__law_feed (defScope s__law_feed)) (W : Wo Pr Tb ca fnm n X) : PSs X (defBody s__law_feed) (tSs X.K ca fnm (Pr.sg n) d__law_feed.body) := by
  have L := B.at_
  have V : chkV N__law_feed (defScope s__law_feed) [0] = true := by decide +kernel
  have G : chkG (defScope s__law_feed) ["int"] = true := by decide +kernel
  have nofree : ∀ y ∈ (defScope s__law_feed).names, y.2 ≠ .free := by decide +kernel
  have B_N : X.N.Nodup := by rw [L.hN]; decide +kernel
  exact (ss_cons (z_ret (s_lst (k_cons (vr L V (i := 0) rfl rfl) (k_cons s_int (k_cons (s_bltT .int1 W.cal.calm (gn_at L G (k := 0) rfl).1 (W.free 2 _ rfl) rfl rfl rfl (gn_at L G (k := 0) rfl).2.2 (gn_at L G (k := 0) rfl).2.1 (b_cons (s_cmp .ge W.cal.hu (vr L V (i := 0) rfl rfl) (s_bin .pow s_int s_int) rfl) b_nil)) k_nil))) (by decide)))
  ss_nil)
theorem c__law_feed : FnScope N__law_feed ["_law_cell"] (defScope s__law_feed) := ⟨rfl, rfl, rfl, by decide +kernel, rfl, by decide +kernel, by decide +kernel⟩
theorem b__law_draw (B : Bd X N__law_draw (defScope s__law_draw)) (W : Wo Pr Tb ca fnm n X) : PSs X (defBody s__law_draw) (tSs X.K ca fnm (Pr.sg n) d__law_draw.body) := by
  have L := B.at_
  have V : chkV N__law_draw (defScope s__law_draw) [0, 1, 2, 3, 4] = true := by decide +kernel
  have G : chkG (defScope s__law_draw) [] = true := by decide +kernel
  have nofree : ∀ y ∈ (defScope s__law_draw).names, y.2 ≠ .free := by decide +kernel
  have B_N : X.N.Nodup := by rw [L.hN]; decide +kernel
  exact (ss_cons (z_set 2 B_N (ln_at L B.fn V nofree (j := 2) rfl rfl).1 (ln_at L B.fn V nofree (j := 2) rfl rfl).2.1 (ln_at L B.fn V nofree (j := 2) rfl rfl).2.2 (s_idc (vr L V (i := 0) rfl rfl) pe_int (fun _ _ => rfl)))
  (ss_cons (z_setI 0 (nm_at L V (j := 0) rfl rfl).1 (nm_at L V (j := 0) rfl rfl).2.1 (nm_at L V (j := 0) rfl rfl).2.2.1 (nm_at L V (j := 0) rfl rfl).2.2.2 (s_bin .add (vr L V (i := 2) rfl rfl) s_int) s_int (fun _ => rfl))
  (ss_cons (z_iff (PW.pt (w_and (t_cmp .eq W.cal.hu (s_idc (vr L V (i := 0) rfl rfl) pe_int (fun _ _ => rfl)) s_int rfl) (w_and1 (t_cmp .gt W.cal.hu (s_idc (vr L V (i := 0) rfl rfl) pe_int (fun _ _ => rfl)) s_int rfl))))
  (ss_cons (z_set 3 B_N (ln_at L B.fn V nofree (j := 3) rfl rfl).1 (ln_at L B.fn V nofree (j := 3) rfl rfl).2.1 (ln_at L B.fn V nofree (j := 3) rfl rfl).2.2 (s_bin .mod (s_idc (vr L V (i := 0) rfl rfl) pe_int (fun _ _ => rfl)) (vr L V (i := 1) rfl rfl)))
  (ss_cons (z_setI 0 (nm_at L V (j := 0) rfl rfl).1 (nm_at L V (j := 0) rfl rfl).2.1 (nm_at L V (j := 0) rfl rfl).2.2.1 (nm_at L V (j := 0) rfl rfl).2.2.2 (s_bin .fdiv (s_idc (vr L V (i := 0) rfl rfl) pe_int (fun _ _ => rfl)) (vr L V (i := 1) rfl rfl)) s_int (fun _ => rfl))
  (ss_cons (z_ret (vr L V (i := 3) rfl rfl))
  ss_nil)))
  ss_nil)
  (ss_cons (z_set 4 B_N (ln_at L B.fn V nofree (j := 4) rfl rfl).1 (ln_at L B.fn V nofree (j := 4) rfl rfl).2.1 (ln_at L B.fn V nofree (j := 4) rfl rfl).2.2 (s_bin .mod (s_bin .mul (s_bin .add (s_bin .add (s_bin .mod (s_idc (vr L V (i := 0) rfl rfl) pe_int (fun _ _ => rfl)) (s_bin .pow s_int s_int)) (s_bin .mul (s_bin .mul s_int (vr L V (i := 2) rfl rfl)) (vr L V (i := 2) rfl rfl))) (vr L V (i := 2) rfl rfl)) s_int) s_int))
  (ss_cons (z_set 4 B_N (ln_at L B.fn V nofree (j := 4) rfl rfl).1 (ln_at L B.fn V nofree (j := 4) rfl rfl).2.1 (ln_at L B.fn V nofree (j := 4) rfl rfl).2.2 (s_bin .mod (s_bin .add (s_bin .mul (vr L V (i := 4) rfl rfl) s_int) s_int) s_int))
  (ss_cons (z_ret (s_bin .mod (s_bin .fdiv (vr L V (i := 4) rfl rfl) s_int) (vr L V (i := 1) rfl rfl)))
  ss_nil))))))
theorem c__law_draw : FnScope N__law_draw ["_law_feed_here", "_law_many"] (defScope s__law_draw) := ⟨rfl, rfl, rfl, by decide +kernel, rfl, by decide +kernel, by decide +kernel⟩
theorem b__law_point (B : Bd X N__law_point (defScope s__law_point)) (W : Wo Pr Tb ca fnm n X) : PSs X (defBody s__law_point) (tSs X.K ca fnm (Pr.sg n) d__law_point.body) := by
  have L := B.at_
  have V : chkV N__law_point (defScope s__law_point) [0] = true := by decide +kernel
  have G : chkG (defScope s__law_point) ["_law_draw"] = true := by decide +kernel
  have nofree : ∀ y ∈ (defScope s__law_point).names, y.2 ≠ .free := by decide +kernel
  have B_N : X.N.Nodup := by rw [L.hN]; decide +kernel
  exact (ss_cons (z_ret (s_tup (k_cons (s_tup (k_cons (s_bin .sub (s_call (W.fns 42 _ _ rfl (by decide)) W.cal.r0 (gn_at L G (k := 0) rfl).1 rfl rfl rfl (aio_ (nm_at L V (j := 0) rfl rfl) (a_shN s_int a_nil))) s_int) (k_cons s_int k_nil)) (by decide)) (k_cons (s_tup (k_cons (s_bin .sub (s_call (W.fns 42 _ _ rfl (by decide)) W.cal.r0 (gn_at L G (k := 0) rfl).1 rfl rfl rfl (aio_ (nm_at L V (j := 0) rfl rfl) (a_shN s_int a_nil))) s_int) (k_cons s_int k_nil)) (by decide)) k_nil)) (by decide)))
  ss_nil)
theorem c__law_point : FnScope N__law_point ["_law_feed_here"] (defScope s__law_point) := ⟨rfl, rfl, rfl, by decide +kernel, rfl, by decide +kernel, by decide +kernel⟩
theorem b__law_left (B : Bd X N__law_left (defScope s__law_left)) (W : Wo Pr Tb ca fnm n X) : PSs X (defBody s__law_left) (tSs X.K ca fnm (Pr.sg n) d__law_left.body) := by
  have L := B.at_
  have V : chkV N__law_left (defScope s__law_left) [0] = true := by decide +kernel
  have G : chkG (defScope s__law_left) [] = true := by decide +kernel
  have nofree : ∀ y ∈ (defScope s__law_left).names, y.2 ≠ .free := by decide +kernel
  have B_N : X.N.Nodup := by rw [L.hN]; decide +kernel
  exact (ss_cons (z_ret (s_tup (k_cons (s_tup (k_cons (s_bin .sub s_int (s_idc (s_idc (vr L V (i := 0) rfl rfl) pe_int (fun _ _ => rfl)) pe_int (fun _ _ => rfl))) (k_cons (s_idc (s_idc (vr L V (i := 0) rfl rfl) pe_int (fun _ _ => rfl)) pe_int (fun _ _ => rfl)) k_nil)) (by decide)) (k_cons (s_idc (vr L V (i := 0) rfl rfl) pe_int (fun _ _ => rfl)) k_nil)) (by decide)))
  ss_nil)
theorem c__law_left : FnScope N__law_left ["_law_v"] (defScope s__law_left) := ⟨rfl, rfl, rfl, by decide +kernel, rfl, by decide +kernel, by decide +kernel⟩
theorem b__law_links (B : Bd X N__law_links (defScope s__law_links)) (W : Wo Pr Tb ca fnm n X) : PSs X (defBody s__law_links) (tSs X.K ca fnm (Pr.sg n) d__law_links.body) := by
  have L := B.at_
  have V : chkV N__law_links (defScope s__law_links) [0, 1, 2, 3] = true := by decide +kernel
  have G : chkG (defScope s__law_links) ["_law_draw", "len"] = true := by decide +kernel
  have nofree : ∀ y ∈ (defScope s__law_links).names, y.2 ≠ .free := by decide +kernel
  have B_N : X.N.Nodup := by rw [L.hN]; decide +kernel
  exact (ss_cons (z_set 3 B_N (ln_at L B.fn V nofree (j := 3) rfl rfl).1 (ln_at L B.fn V nofree (j := 3) rfl rfl).2.1 (ln_at L B.fn V nofree (j := 3) rfl rfl).2.2 (s_call (W.fns 42 _ _ rfl (by decide)) W.cal.r0 (gn_at L G (k := 0) rfl).1 rfl rfl rfl (aio_ (nm_at L V (j := 0) rfl rfl) (a_shN s_int a_nil))))
  (ss_cons (z_iff (PW.pt (w_and (t_cmp .eq W.cal.hu (vr L V (i := 3) rfl rfl) s_int rfl) (w_and1 (t_cmp .gt W.cal.hu (s_blt .len W.cal.calm (gn_at L G (k := 1) rfl).1 (W.free 8 _ rfl) rfl rfl rfl (gn_at L G (k := 1) rfl).2.2 (gn_at L G (k := 1) rfl).2.1 (b_cons (vr L V (i := 1) rfl rfl) b_nil)) s_int rfl))))
  (ss_cons (z_ret (s_lst (k_cons (s_slc (vr L V (i := 1) rfl rfl) p_none (p_some (s_neg s_int) rfl)) (k_cons s_bl k_nil)) (by decide)))
  ss_nil)
  ss_nil)
  (ss_cons (z_iff (PW.pt (w_and (t_cmp .eq W.cal.hu (vr L V (i := 3) rfl rfl) s_int rfl) (w_and1 (t_cmp .ne W.cal.hu (s_srev (vr L V (i := 1) rfl rfl)) (vr L V (i := 1) rfl rfl) rfl))))
  (ss_cons (z_ret (s_lst (k_cons (s_srev (vr L V (i := 1) rfl rfl)) (k_cons s_bl k_nil)) (by decide)))
  ss_nil)
  ss_nil)
  (ss_cons (z_ret (s_lst (k_cons (vr L V (i := 1) rfl rfl) (k_cons (vr L V (i := 2) rfl rfl) k_nil)) (by decide)))
  ss_nil))))
theorem c__law_links : FnScope N__law_links ["_law_feed_here", "_law_links_here", "_law_due"] (defScope s__law_links) := ⟨rfl, rfl, rfl, by decide +kernel, rfl, by decide +kernel, by decide +kernel⟩
theorem b__law_straight_ones (B : Bd X N__law_straight_ones (defScope s__law_straight_ones)) (W : Wo Pr Tb ca fnm n X) : PSs X (defBody s__law_straight_ones) (tSs X.K ca fnm (Pr.sg n) d__law_straight_ones.body) := by
  have L := B.at_
  have V : chkV N__law_straight_ones (defScope s__law_straight_ones) [0, 1, 2, 3, 4, 5, 6, 7, 8, 9] = true := by decide +kernel
  have G : chkG (defScope s__law_straight_ones) ["_law_point", "_law_draw", "together", "stretch"] = true := by decide +kernel
  have nofree : ∀ y ∈ (defScope s__law_straight_ones).names, y.2 ≠ .free := by decide +kernel
  have B_N : X.N.Nodup := by rw [L.hN]; decide +kernel
  exact (ss_cons (z_set 1 B_N (ln_at L B.fn V nofree (j := 1) rfl rfl).1 (ln_at L B.fn V nofree (j := 1) rfl rfl).2.1 (ln_at L B.fn V nofree (j := 1) rfl rfl).2.2 (s_call (W.fns 43 _ _ rfl (by decide)) W.cal.r0 (gn_at L G (k := 0) rfl).1 rfl rfl rfl (aio_ (nm_at L V (j := 0) rfl rfl) a_nil)))
  (ss_cons (z_set 2 B_N (ln_at L B.fn V nofree (j := 2) rfl rfl).1 (ln_at L B.fn V nofree (j := 2) rfl rfl).2.1 (ln_at L B.fn V nofree (j := 2) rfl rfl).2.2 (s_call (W.fns 42 _ _ rfl (by decide)) W.cal.r0 (gn_at L G (k := 1) rfl).1 rfl rfl rfl (aio_ (nm_at L V (j := 0) rfl rfl) (a_shN s_int a_nil))))
  (ss_cons (z_set 3 B_N (ln_at L B.fn V nofree (j := 3) rfl rfl).1 (ln_at L B.fn V nofree (j := 3) rfl rfl).2.1 (ln_at L B.fn V nofree (j := 3) rfl rfl).2.2 (s_call (W.fns 6 _ _ rfl (by decide)) W.cal.r0 (gn_at L G (k := 2) rfl).1 rfl rfl rfl (a_shN (vr L V (i := 1) rfl rfl) (a_shN (s_tup (k_cons (s_tup (k_cons s_int (k_cons s_int k_nil)) (by decide)) (k_cons (s_tup (k_cons (vr L V (i := 2) rfl rfl) (k_cons s_int k_nil)) (by decide)) k_nil)) (by decide)) a_nil))))
  (ss_cons (z_par W.cal.calm B_N (ln_at L B.fn V nofree (j := 4) rfl rfl).1 (ln_at L B.fn V nofree (j := 5) rfl rfl).1 (by decide) (lk_at L (by decide +kernel)) (lk_at L (by decide +kernel)) (s_idx (s_shr (s_lst (k_cons s_int (k_cons s_int k_nil)) (by decide))) (s_call (W.fns 42 _ _ rfl (by decide)) W.cal.r0 (gn_at L G (k := 1) rfl).1 rfl rfl rfl (aio_ (nm_at L V (j := 0) rfl rfl) (a_shN s_int a_nil))) (fun _ _ => rfl)) (s_bin .sub (s_call (W.fns 42 _ _ rfl (by decide)) W.cal.r0 (gn_at L G (k := 1) rfl).1 rfl rfl rfl (aio_ (nm_at L V (j := 0) rfl rfl) (a_shN s_int a_nil))) s_int) (sw_env L.hs rfl))
  (ss_cons (z_set 6 B_N (ln_at L B.fn V nofree (j := 6) rfl rfl).1 (ln_at L B.fn V nofree (j := 6) rfl rfl).2.1 (ln_at L B.fn V nofree (j := 6) rfl rfl).2.2 (s_call (W.fns 6 _ _ rfl (by decide)) W.cal.r0 (gn_at L G (k := 2) rfl).1 rfl rfl rfl (a_shN (vr L V (i := 1) rfl rfl) (a_shN (s_tup (k_cons (s_tup (k_cons (vr L V (i := 4) rfl rfl) (k_cons s_int k_nil)) (by decide)) (k_cons (s_tup (k_cons (vr L V (i := 5) rfl rfl) (k_cons s_int k_nil)) (by decide)) k_nil)) (by decide)) a_nil))))
  (ss_cons (z_iff (t_cmp .eq W.cal.hu (vr L V (i := 6) rfl rfl) (vr L V (i := 3) rfl rfl) rfl)
  (ss_cons (z_set 6 B_N (ln_at L B.fn V nofree (j := 6) rfl rfl).1 (ln_at L B.fn V nofree (j := 6) rfl rfl).2.1 (ln_at L B.fn V nofree (j := 6) rfl rfl).2.2 (s_call (W.fns 6 _ _ rfl (by decide)) W.cal.r0 (gn_at L G (k := 2) rfl).1 rfl rfl rfl (a_shN (vr L V (i := 6) rfl rfl) (a_shN (s_tup (k_cons (s_tup (k_cons s_int (k_cons s_int k_nil)) (by decide)) (k_cons (s_tup (k_cons s_int (k_cons s_int k_nil)) (by decide)) k_nil)) (by decide)) a_nil))))
  (ss_cons (z_set 5 B_N (ln_at L B.fn V nofree (j := 5) rfl rfl).1 (ln_at L B.fn V nofree (j := 5) rfl rfl).2.1 (ln_at L B.fn V nofree (j := 5) rfl rfl).2.2 (s_bin .add (vr L V (i := 5) rfl rfl) s_int))
  ss_nil))
  ss_nil)
  (ss_cons (z_set 7 B_N (ln_at L B.fn V nofree (j := 7) rfl rfl).1 (ln_at L B.fn V nofree (j := 7) rfl rfl).2.1 (ln_at L B.fn V nofree (j := 7) rfl rfl).2.2 (s_and (s_cmp .eq W.cal.hu (s_call (W.fns 42 _ _ rfl (by decide)) W.cal.r0 (gn_at L G (k := 1) rfl).1 rfl rfl rfl (aio_ (nm_at L V (j := 0) rfl rfl) (a_shN s_int a_nil))) s_int rfl) (s_one (s_cmp .eq W.cal.hu (vr L V (i := 4) rfl rfl) s_int rfl))))
  (ss_cons (z_set 8 B_N (ln_at L B.fn V nofree (j := 8) rfl rfl).1 (ln_at L B.fn V nofree (j := 8) rfl rfl).2.1 (ln_at L B.fn V nofree (j := 8) rfl rfl).2.2 (vr L V (i := 6) rfl rfl))
  (ss_cons (z_iff (t_val (vr L V (i := 7) rfl rfl) (fun _ => rfl))
  (ss_cons (z_set 8 B_N (ln_at L B.fn V nofree (j := 8) rfl rfl).1 (ln_at L B.fn V nofree (j := 8) rfl rfl).2.1 (ln_at L B.fn V nofree (j := 8) rfl rfl).2.2 (s_call (W.fns 6 _ _ rfl (by decide)) W.cal.r0 (gn_at L G (k := 2) rfl).1 rfl rfl rfl (a_shN (vr L V (i := 6) rfl rfl) (a_shN (s_tup (k_cons (s_tup (k_cons s_int (k_cons s_int k_nil)) (by decide)) (k_cons (s_tup (k_cons s_int (k_cons s_int k_nil)) (by decide)) k_nil)) (by decide)) a_nil))))
  ss_nil)
  ss_nil)
  (ss_cons (z_set 9 B_N (ln_at L B.fn V nofree (j := 9) rfl rfl).1 (ln_at L B.fn V nofree (j := 9) rfl rfl).2.1 (ln_at L B.fn V nofree (j := 9) rfl rfl).2.2 (s_and (s_cmp .eq W.cal.hu (vr L V (i := 4) rfl rfl) s_int rfl) (s_and (s_cmp .eq W.cal.hu (vr L V (i := 2) rfl rfl) (s_bin .mul s_int (vr L V (i := 5) rfl rfl)) rfl) (s_one (s_not (vr L V (i := 7) rfl rfl))))))
  (ss_cons (z_ret (s_lst (k_cons (s_lst (k_cons (s_call (W.fns 16 _ _ rfl (by decide)) W.cal.r0 (gn_at L G (k := 3) rfl).1 rfl rfl rfl (a_shN (vr L V (i := 1) rfl rfl) (a_shN (vr L V (i := 6) rfl rfl) a_nil))) (k_cons (s_call (W.fns 16 _ _ rfl (by decide)) W.cal.r0 (gn_at L G (k := 3) rfl).1 rfl rfl rfl (a_shN (vr L V (i := 8) rfl rfl) (a_shN (vr L V (i := 3) rfl rfl) a_nil))) k_nil)) (by decide)) (k_cons (s_call (W.fns 16 _ _ rfl (by decide)) W.cal.r0 (gn_at L G (k := 3) rfl).1 rfl rfl rfl (a_shN (vr L V (i := 1) rfl rfl) (a_shN (vr L V (i := 3) rfl rfl) a_nil))) (k_cons (s_lst (k_cons (s_tup (k_cons s_int (k_cons s_int k_nil)) (by decide)) (k_cons (s_tup (k_cons s_int (k_cons s_int k_nil)) (by decide)) k_nil)) (by decide)) (k_cons (vr L V (i := 9) rfl rfl) k_nil)))) (by decide)))
  ss_nil)))))))))))
theorem c__law_straight_ones : FnScope N__law_straight_ones ["_law_feed_here"] (defScope s__law_straight_ones) := ⟨rfl, rfl, rfl, by decide +kernel, rfl, by decide +kernel, by decide +kernel⟩
theorem b__law_round_ones (B : Bd X N__law_round_ones (defScope s__law_round_ones)) (W : Wo Pr Tb ca fnm n X) : PSs X (defBody s__law_round_ones) (tSs X.K ca fnm (Pr.sg n) d__law_round_ones.body) := by
  have L := B.at_
  have V : chkV N__law_round_ones (defScope s__law_round_ones) [0, 1, 2, 3, 4, 5, 6, 7, 8, 9] = true := by decide +kernel
  have G : chkG (defScope s__law_round_ones) ["_law_point", "_law_draw", "together", "_law_left", "off"] = true := by decide +kernel
  have nofree : ∀ y ∈ (defScope s__law_round_ones).names, y.2 ≠ .free := by decide +kernel
  have B_N : X.N.Nodup := by rw [L.hN]; decide +kernel
  exact (ss_cons (z_set 1 B_N (ln_at L B.fn V nofree (j := 1) rfl rfl).1 (ln_at L B.fn V nofree (j := 1) rfl rfl).2.1 (ln_at L B.fn V nofree (j := 1) rfl rfl).2.2 (s_call (W.fns 43 _ _ rfl (by decide)) W.cal.r0 (gn_at L G (k := 0) rfl).1 rfl rfl rfl (aio_ (nm_at L V (j := 0) rfl rfl) a_nil)))
  (ss_cons (z_set 2 B_N (ln_at L B.fn V nofree (j := 2) rfl rfl).1 (ln_at L B.fn V nofree (j := 2) rfl rfl).2.1 (ln_at L B.fn V nofree (j := 2) rfl rfl).2.2 (s_tup (k_cons (s_tup (k_cons (s_bin .add s_int (s_call (W.fns 42 _ _ rfl (by decide)) W.cal.r0 (gn_at L G (k := 1) rfl).1 rfl rfl rfl (aio_ (nm_at L V (j := 0) rfl rfl) (a_shN s_int a_nil)))) (k_cons s_int k_nil)) (by decide)) (k_cons (s_tup (k_cons (s_bin .sub (s_call (W.fns 42 _ _ rfl (by decide)) W.cal.r0 (gn_at L G (k := 1) rfl).1 rfl rfl rfl (aio_ (nm_at L V (j := 0) rfl rfl) (a_shN s_int a_nil))) s_int) (k_cons s_int k_nil)) (by decide)) k_nil)) (by decide)))
  (ss_cons (z_set 3 B_N (ln_at L B.fn V nofree (j := 3) rfl rfl).1 (ln_at L B.fn V nofree (j := 3) rfl rfl).2.1 (ln_at L B.fn V nofree (j := 3) rfl rfl).2.2 (s_call (W.fns 42 _ _ rfl (by decide)) W.cal.r0 (gn_at L G (k := 1) rfl).1 rfl rfl rfl (aio_ (nm_at L V (j := 0) rfl rfl) (a_shN s_int a_nil))))
  (ss_cons (z_set 4 B_N (ln_at L B.fn V nofree (j := 4) rfl rfl).1 (ln_at L B.fn V nofree (j := 4) rfl rfl).2.1 (ln_at L B.fn V nofree (j := 4) rfl rfl).2.2 (s_call (W.fns 6 _ _ rfl (by decide)) W.cal.r0 (gn_at L G (k := 2) rfl).1 rfl rfl rfl (a_shN (vr L V (i := 1) rfl rfl) (a_shN (vr L V (i := 2) rfl rfl) a_nil))))
  (ss_cons (z_set 5 B_N (ln_at L B.fn V nofree (j := 5) rfl rfl).1 (ln_at L B.fn V nofree (j := 5) rfl rfl).2.1 (ln_at L B.fn V nofree (j := 5) rfl rfl).2.2 (s_call (W.fns 6 _ _ rfl (by decide)) W.cal.r0 (gn_at L G (k := 2) rfl).1 rfl rfl rfl (a_shN (vr L V (i := 4) rfl rfl) (a_shN (s_idx (s_shr (s_lst (k_cons (s_tup (k_cons (s_tup (k_cons s_int (k_cons s_int k_nil)) (by decide)) (k_cons (s_tup (k_cons s_int (k_cons s_int k_nil)) (by decide)) k_nil)) (by decide)) (k_cons (vr L V (i := 2) rfl rfl) k_nil)) (by decide))) (vr L V (i := 3) rfl rfl) (fun _ _ => rfl)) a_nil))))
  (ss_cons (z_iff (t_cmp .eq W.cal.hu (s_call (W.fns 42 _ _ rfl (by decide)) W.cal.r0 (gn_at L G (k := 1) rfl).1 rfl rfl rfl (aio_ (nm_at L V (j := 0) rfl rfl) (a_shN s_int a_nil))) s_int rfl)
  (ss_cons (z_ret (s_lst (k_cons (s_lst (k_cons (s_tup (k_cons s_str (k_cons (vr L V (i := 1) rfl rfl) (k_cons (vr L V (i := 4) rfl rfl) k_nil))) (by decide)) k_nil) (by decide)) (k_cons (s_tup (k_cons s_str (k_cons (vr L V (i := 1) rfl rfl) (k_cons (vr L V (i := 5) rfl rfl) k_nil))) (by decide)) (k_cons (s_lst (k_cons (s_tup (k_cons s_int (k_cons s_int k_nil)) (by decide)) k_nil) (by decide)) (k_cons (s_cmp .eq W.cal.hu (vr L V (i := 3) rfl rfl) s_int rfl) k_nil)))) (by decide)))
  ss_nil)
  ss_nil)
  (ss_cons (z_set 6 B_N (ln_at L B.fn V nofree (j := 6) rfl rfl).1 (ln_at L B.fn V nofree (j := 6) rfl rfl).2.1 (ln_at L B.fn V nofree (j := 6) rfl rfl).2.2 (s_call (W.fns 6 _ _ rfl (by decide)) W.cal.r0 (gn_at L G (k := 2) rfl).1 rfl rfl rfl (a_shN (vr L V (i := 1) rfl rfl) (a_shN (s_call (W.fns 44 _ _ rfl (by decide)) W.cal.r0 (gn_at L G (k := 3) rfl).1 rfl rfl rfl (a_shN (vr L V (i := 2) rfl rfl) a_nil)) a_nil))))
  (ss_cons (z_set 7 B_N (ln_at L B.fn V nofree (j := 7) rfl rfl).1 (ln_at L B.fn V nofree (j := 7) rfl rfl).2.1 (ln_at L B.fn V nofree (j := 7) rfl rfl).2.2 (s_call (W.fns 6 _ _ rfl (by decide)) W.cal.r0 (gn_at L G (k := 2) rfl).1 rfl rfl rfl (a_shN (vr L V (i := 1) rfl rfl) (a_shN (s_call (W.fns 7 _ _ rfl (by decide)) W.cal.r0 (gn_at L G (k := 4) rfl).1 rfl rfl rfl (a_shN (s_tup (k_cons (s_tup (k_cons s_int (k_cons s_int k_nil)) (by decide)) (k_cons (s_tup (k_cons s_int (k_cons s_int k_nil)) (by decide)) k_nil)) (by decide)) (a_shN (s_call (W.fns 44 _ _ rfl (by decide)) W.cal.r0 (gn_at L G (k := 3) rfl).1 rfl rfl rfl (a_shN (vr L V (i := 2) rfl rfl) a_nil)) a_nil))) a_nil))))
  (ss_cons (z_set 8 B_N (ln_at L B.fn V nofree (j := 8) rfl rfl).1 (ln_at L B.fn V nofree (j := 8) rfl rfl).2.1 (ln_at L B.fn V nofree (j := 8) rfl rfl).2.2 (s_lst (k_cons (s_tup (k_cons s_str (k_cons (vr L V (i := 1) rfl rfl) (k_cons (vr L V (i := 7) rfl rfl) (k_cons (vr L V (i := 6) rfl rfl) k_nil)))) (by decide)) (k_cons (s_tup (k_cons s_str (k_cons (vr L V (i := 1) rfl rfl) (k_cons (vr L V (i := 6) rfl rfl) (k_cons (vr L V (i := 7) rfl rfl) k_nil)))) (by decide)) k_nil)) (by decide)))
  (ss_cons (z_iff (t_cmp .eq W.cal.hu (s_call (W.fns 42 _ _ rfl (by decide)) W.cal.r0 (gn_at L G (k := 1) rfl).1 rfl rfl rfl (aio_ (nm_at L V (j := 0) rfl rfl) (a_shN s_int a_nil))) s_int rfl)
  (ss_cons (z_ret (s_lst (k_cons (vr L V (i := 8) rfl rfl) (k_cons (s_tup (k_cons s_str (k_cons (vr L V (i := 1) rfl rfl) (k_cons (vr L V (i := 5) rfl rfl) k_nil))) (by decide)) (k_cons (s_lst (k_cons (s_tup (k_cons s_int (k_cons s_int k_nil)) (by decide)) (k_cons (s_tup (k_cons s_int (k_cons s_int k_nil)) (by decide)) (k_cons (s_tup (k_cons s_int (k_cons s_int k_nil)) (by decide)) k_nil))) (by decide)) (k_cons (s_cmp .eq W.cal.hu (vr L V (i := 3) rfl rfl) s_int rfl) k_nil)))) (by decide)))
  ss_nil)
  ss_nil)
  (ss_cons (z_set 9 B_N (ln_at L B.fn V nofree (j := 9) rfl rfl).1 (ln_at L B.fn V nofree (j := 9) rfl rfl).2.1 (ln_at L B.fn V nofree (j := 9) rfl rfl).2.2 (s_call (W.fns 6 _ _ rfl (by decide)) W.cal.r0 (gn_at L G (k := 2) rfl).1 rfl rfl rfl (a_shN (vr L V (i := 1) rfl rfl) (a_shN (s_call (W.fns 7 _ _ rfl (by decide)) W.cal.r0 (gn_at L G (k := 4) rfl).1 rfl rfl rfl (a_shN (s_tup (k_cons (s_tup (k_cons s_int (k_cons s_int k_nil)) (by decide)) (k_cons (s_tup (k_cons s_int (k_cons s_int k_nil)) (by decide)) k_nil)) (by decide)) (a_shN (vr L V (i := 2) rfl rfl) a_nil))) a_nil))))
  (ss_cons (z_ret (s_lst (k_cons (vr L V (i := 8) rfl rfl) (k_cons (s_tup (k_cons s_str (k_cons (vr L V (i := 1) rfl rfl) (k_cons (vr L V (i := 4) rfl rfl) (k_cons (vr L V (i := 9) rfl rfl) k_nil)))) (by decide)) (k_cons (s_lst (k_cons (s_tup (k_cons s_int (k_cons s_int k_nil)) (by decide)) (k_cons (s_tup (k_cons s_int (k_cons s_int k_nil)) (by decide)) k_nil)) (by decide)) (k_cons s_bl k_nil)))) (by decide)))
  ss_nil))))))))))))
theorem c__law_round_ones : FnScope N__law_round_ones ["_law_feed_here"] (defScope s__law_round_ones) := ⟨rfl, rfl, rfl, by decide +kernel, rfl, by decide +kernel, by decide +kernel⟩
theorem b_law (B : Bd X N_law (defScope s_law)) (W : Wo Pr Tb ca fnm n X) : PSs X (defBody s_law) (tSs X.K ca fnm (Pr.sg n) d_law.body) := by
  have L := B.at_
  have V : chkV N_law (defScope s_law) [0, 1, 2, 3, 4, 5, 6, 7, 8, 9] = true := by decide +kernel
  have G : chkG (defScope s_law) ["_law_cell_at", "_law_feed", "_law_draw", "_law_straight_ones", "_law_round_ones", "_law_links", "len", "range", "alike_shown"] = true := by decide +kernel
  have nofree : ∀ y ∈ (defScope s_law).names, y.2 ≠ .free := by decide +kernel
  have B_N : X.N.Nodup := by rw [L.hN]; decide +kernel
  exact (ss_cons (z_for B.po W.cal.calm (i_seq (s_bin .add (s_lst (k_cons (s_call (W.fns 40 _ _ rfl (by decide)) W.cal.r0 (gn_at L G (k := 0) rfl).1 rfl rfl rfl (a_shN (vr L V (i := 0) rfl rfl) (a_shN s_int a_nil))) k_nil) (by decide)) (s_slc (vr L V (i := 0) rfl rfl) (p_some s_int rfl) (p_some s_int rfl)))) (gnm_ B_N (ln_at L B.fn V nofree (j := 1) rfl rfl))
  (ss_cons (z_set 2 B_N (ln_at L B.fn V nofree (j := 2) rfl rfl).1 (ln_at L B.fn V nofree (j := 2) rfl rfl).2.1 (ln_at L B.fn V nofree (j := 2) rfl rfl).2.2 (s_call (W.fns 41 _ _ rfl (by decide)) W.cal.r0 (gn_at L G (k := 1) rfl).1 rfl rfl rfl (a_shN (vr L V (i := 1) rfl rfl) a_nil)))
  (ss_cons (z_iff (t_cmp .eq W.cal.hu (s_call (W.fns 42 _ _ rfl (by decide)) W.cal.r0 (gn_at L G (k := 2) rfl).1 rfl rfl rfl (aio_ (nm_at L V (j := 2) rfl rfl) (a_shN s_int a_nil))) s_int rfl)
  (ss_cons (z_unp (g_tp W.cal.calm rfl (gs_cons (gnm_ B_N (ln_at L B.fn V nofree (j := 3) rfl rfl)) (gs_cons (gnm_ B_N (ln_at L B.fn V nofree (j := 4) rfl rfl)) (gs_cons (gnm_ B_N (ln_at L B.fn V nofree (j := 5) rfl rfl)) (gs_cons (gnm_ B_N (ln_at L B.fn V nofree (j := 6) rfl rfl)) gs_nil))))) (s_call (W.fns 46 _ _ rfl (by decide)) W.cal.r0 (gn_at L G (k := 3) rfl).1 rfl rfl rfl (aio_ (nm_at L V (j := 2) rfl rfl) a_nil)))
  ss_nil)
  (ss_cons (z_unp (g_tp W.cal.calm rfl (gs_cons (gnm_ B_N (ln_at L B.fn V nofree (j := 3) rfl rfl)) (gs_cons (gnm_ B_N (ln_at L B.fn V nofree (j := 4) rfl rfl)) (gs_cons (gnm_ B_N (ln_at L B.fn V nofree (j := 5) rfl rfl)) (gs_cons (gnm_ B_N (ln_at L B.fn V nofree (j := 6) rfl rfl)) gs_nil))))) (s_call (W.fns 47 _ _ rfl (by decide)) W.cal.r0 (gn_at L G (k := 4) rfl).1 rfl rfl rfl (aio_ (nm_at L V (j := 2) rfl rfl) a_nil)))
  ss_nil))
  (ss_cons (z_unp (g_tp W.cal.calm rfl (gs_cons (gnm_ B_N (ln_at L B.fn V nofree (j := 5) rfl rfl)) (gs_cons (gnm_ B_N (ln_at L B.fn V nofree (j := 6) rfl rfl)) gs_nil))) (s_call (W.fns 45 _ _ rfl (by decide)) W.cal.r0 (gn_at L G (k := 5) rfl).1 rfl rfl rfl (aio_ (nm_at L V (j := 2) rfl rfl) (a_shN (vr L V (i := 5) rfl rfl) (a_shN (vr L V (i := 6) rfl rfl) a_nil)))))
  (ss_cons (z_setcmpr [("_law_k", 10)] L W B_N (js := [10]) (ys := []) (ts := [10]) (ln_at L B.fn V nofree (j := 7) rfl rfl).1 (by decide +kernel) rfl rfl (by decide +kernel) (i_rng1 (gn_at L G (k := 7) rfl).1 (W.free 1 _ rfl) (b_cons (s_blt .len W.cal.calm (gn_at L G (k := 6) rfl).1 (W.free 8 _ rfl) rfl rfl rfl (gn_at L G (k := 6) rfl).2.2 (gn_at L G (k := 6) rfl).2.1 (b_cons (vr L V (i := 3) rfl rfl) b_nil)) b_nil)) (by decide +kernel) (by decide +kernel) (by decide +kernel) (by decide +kernel) (fun Y L1 B_N W1 V1 G1 V1_l => (gnm_ B_N (ll_at L1 V1_l (j := 10) rfl rfl))) (fun Y L1 B_N W1 V1 G1 V1_l => ts_nil) (fun Y L1 B_N W1 V1 G1 V1_l => (s_lst (k_cons (s_tup (k_cons (vr L1 V1 (i := 10) rfl rfl) (k_cons s_int k_nil)) (by decide)) k_nil) (by decide))) rfl)
  (ss_cons (z_set 8 B_N (ln_at L B.fn V nofree (j := 8) rfl rfl).1 (ln_at L B.fn V nofree (j := 8) rfl rfl).2.1 (ln_at L B.fn V nofree (j := 8) rfl rfl).2.2 (s_tup (k_cons (s_tup (k_cons s_str k_nil) (by decide)) (k_cons (s_tup (k_cons (s_bin .add (vr L V (i := 3) rfl rfl) (s_lst (k_cons (vr L V (i := 4) rfl rfl) k_nil) (by decide))) (k_cons (s_lst k_nil (by decide)) k_nil)) (by decide)) (k_cons (s_tup (k_cons (vr L V (i := 3) rfl rfl) (k_cons (s_lst k_nil (by decide)) k_nil)) (by decide)) k_nil))) (by decide)))
  (ss_cons (z_set 9 B_N (ln_at L B.fn V nofree (j := 9) rfl rfl).1 (ln_at L B.fn V nofree (j := 9) rfl rfl).2.1 (ln_at L B.fn V nofree (j := 9) rfl rfl).2.2 (s_lst (k_cons (s_call (W.fns 39 _ _ rfl (by decide)) W.cal.r0 (gn_at L G (k := 8) rfl).1 rfl rfl rfl (a_shN (vr L V (i := 8) rfl rfl) (a_shN (s_tup (k_cons (s_bin .add (s_shr (vr L V (i := 7) rfl rfl)) (s_lst (k_cons (vr L V (i := 5) rfl rfl) k_nil) (by decide))) (k_cons (vr L V (i := 7) rfl rfl) k_nil)) (by decide)) a_nil))) k_nil) (by decide)))
  (ss_cons (z_app 9 (nm_at L V (j := 9) rfl rfl).1 (nm_at L V (j := 9) rfl rfl).2.1 (nm_at L V (j := 9) rfl rfl).2.2.1 (nm_at L V (j := 9) rfl rfl).2.2.2 (s_call (W.fns 39 _ _ rfl (by decide)) W.cal.r0 (gn_at L G (k := 8) rfl).1 rfl rfl rfl (a_shN (s_tup (k_cons (s_idc (vr L V (i := 8) rfl rfl) pe_int (fun _ _ => rfl)) (k_cons (s_idc (vr L V (i := 8) rfl rfl) pe_int (fun _ _ => rfl)) (k_cons (s_idc (vr L V (i := 8) rfl rfl) pe_int (fun _ _ => rfl)) k_nil))) (by decide)) (a_shN (s_tup (k_cons (vr L V (i := 7) rfl rfl) (k_cons (s_bin .add (s_shr (vr L V (i := 7) rfl rfl)) (s_lst (k_cons (vr L V (i := 5) rfl rfl) k_nil) (by decide))) k_nil)) (by decide)) a_nil))))
  (ss_cons (z_iff (PW.pt (w_or (t_cmp .ne W.cal.hu (vr L V (i := 9) rfl rfl) (s_lst (k_cons (vr L V (i := 6) rfl rfl) (k_cons (vr L V (i := 6) rfl rfl) k_nil)) (by decide)) rfl) (w_or1 (t_cmp .inn W.cal.hu s_bl (s_cmpr [("_law_one", 11)] L W B_N (js := [11]) (ys := ["isinstance", "bool"]) (ts := [11]) (i_seq (vr L V (i := 9) rfl rfl)) (by decide +kernel) (by decide +kernel) (by decide +kernel) (by decide +kernel) (fun Y L2 B_N W2 V2 G2 V2_l => (gnm_ B_N (ll_at L2 V2_l (j := 11) rfl rfl))) (fun Y L2 B_N W2 V2 G2 V2_l => ts_nil) (fun Y L2 B_N W2 V2 G2 V2_l => (s_isi .isBool W2.cal.calm rfl (gn_at L2 G2 (k := 0) rfl).1 (W2.free 4 _ rfl) (gn_at L2 G2 (k := 1) rfl).1 (W2.free 5 _ rfl) rfl (gn_at L2 G2 (k := 1) rfl).2.2 (gn_at L2 G2 (k := 1) rfl).2.1 (vr L2 V2 (i := 11) rfl rfl))) rfl) rfl))))
  (ss_cons (z_ret s_bl)
  ss_nil)
  ss_nil)
  ss_nil)))))))))
  (ss_cons (z_ret s_bl)
  ss_nil))
theorem c_law : FnScope N_law ["_law_script"] (defScope s_law) := ⟨rfl, rfl, rfl, by decide +kernel, rfl, by decide +kernel, by decide +kernel⟩
end
end K89

namespace K89
open PySem L2 Ev
theorem r0 (n : Nat) : run Pr (n + 1) 0 = callD (Pr.sg n) d_divisor := rfl
theorem g0 : Pr.sig 0 = d_divisor.io := rfl
theorem r1 (n : Nat) : run Pr (n + 1) 1 = callD (Pr.sg n) d_ratio := rfl
theorem g1 : Pr.sig 1 = d_ratio.io := rfl
theorem r2 (n : Nat) : run Pr (n + 1) 2 = callD (Pr.sg n) d_plus := rfl
theorem g2 : Pr.sig 2 = d_plus.io := rfl
theorem r3 (n : Nat) : run Pr (n + 1) 3 = callD (Pr.sg n) d_minus := rfl
theorem g3 : Pr.sig 3 = d_minus.io := rfl
theorem r4 (n : Nat) : run Pr (n + 1) 4 = callD (Pr.sg n) d_times := rfl
theorem g4 : Pr.sig 4 = d_times.io := rfl
theorem r5 (n : Nat) : run Pr (n + 1) 5 = callD (Pr.sg n) d_below := rfl
theorem g5 : Pr.sig 5 = d_below.io := rfl
theorem r6 (n : Nat) : run Pr (n + 1) 6 = callD (Pr.sg n) d_together := rfl
theorem g6 : Pr.sig 6 = d_together.io := rfl
theorem r7 (n : Nat) : run Pr (n + 1) 7 = callD (Pr.sg n) d_off := rfl
theorem g7 : Pr.sig 7 = d_off.io := rfl
theorem r8 (n : Nat) : run Pr (n + 1) 8 = callD (Pr.sg n) d_grown := rfl
theorem g8 : Pr.sig 8 = d_grown.io := rfl
theorem r9 (n : Nat) : run Pr (n + 1) 9 = callD (Pr.sg n) d_turned := rfl
theorem g9 : Pr.sig 9 = d_turned.io := rfl
theorem r10 (n : Nat) : run Pr (n + 1) 10 = callD (Pr.sg n) d_along := rfl
theorem g10 : Pr.sig 10 = d_along.io := rfl
theorem r11 (n : Nat) : run Pr (n + 1) 11 = callD (Pr.sg n) d_across := rfl
theorem g11 : Pr.sig 11 = d_across.io := rfl
theorem r12 (n : Nat) : run Pr (n + 1) 12 = callD (Pr.sg n) d_far := rfl
theorem g12 : Pr.sig 12 = d_far.io := rfl
theorem r13 (n : Nat) : run Pr (n + 1) 13 = callD (Pr.sg n) d_sign_of := rfl
theorem g13 : Pr.sig 13 = d_sign_of.io := rfl
theorem r14 (n : Nat) : run Pr (n + 1) 14 = callD (Pr.sg n) d_side := rfl
theorem g14 : Pr.sig 14 = d_side.io := rfl
theorem r15 (n : Nat) : run Pr (n + 1) 15 = callD (Pr.sg n) d_before := rfl
theorem g15 : Pr.sig 15 = d_before.io := rfl
theorem r16 (n : Nat) : run Pr (n + 1) 16 = callD (Pr.sg n) d_stretch := rfl
theorem g16 : Pr.sig 16 = d_stretch.io := rfl
theorem r17 (n : Nat) : run Pr (n + 1) 17 = callD (Pr.sg n) d_lies_on := rfl
theorem g17 : Pr.sig 17 = d_lies_on.io := rfl
theorem r18 (n : Nat) : run Pr (n + 1) 18 = callD (Pr.sg n) d_quarter_of := rfl
theorem g18 : Pr.sig 18 = d_quarter_of.io := rfl
theorem r19 (n : Nat) : run Pr (n + 1) 19 = callD (Pr.sg n) d_ahead := rfl
theorem g19 : Pr.sig 19 = d_ahead.io := rfl
theorem r20 (n : Nat) : run Pr (n + 1) 20 = callD (Pr.sg n) d_on := rfl
theorem g20 : Pr.sig 20 = d_on.io := rfl
theorem r21 (n : Nat) : run Pr (n + 1) 21 = callD (Pr.sg n) d_first := rfl
theorem g21 : Pr.sig 21 = d_first.io := rfl
theorem r22 (n : Nat) : run Pr (n + 1) 22 = callD (Pr.sg n) d_led := rfl
theorem g22 : Pr.sig 22 = d_led.io := rfl
theorem r23 (n : Nat) : run Pr (n + 1) 23 = callD (Pr.sg n) d_behind := rfl
theorem g23 : Pr.sig 23 = d_behind.io := rfl
theorem r24 (n : Nat) : run Pr (n + 1) 24 = callD (Pr.sg n) d_led_piece := rfl
theorem g24 : Pr.sig 24 = d_led_piece.io := rfl
theorem r25 (n : Nat) : run Pr (n + 1) 25 = callD (Pr.sg n) d_power := rfl
theorem g25 : Pr.sig 25 = d_power.io := rfl
theorem r26 (n : Nat) : run Pr (n + 1) 26 = callD (Pr.sg n) d_frame_of := rfl
theorem g26 : Pr.sig 26 = d_frame_of.io := rfl
theorem r27 (n : Nat) : run Pr (n + 1) 27 = callD (Pr.sg n) d_is_number := rfl
theorem g27 : Pr.sig 27 = d_is_number.io := rfl
theorem r28 (n : Nat) : run Pr (n + 1) 28 = callD (Pr.sg n) d_straight_chain := rfl
theorem g28 : Pr.sig 28 = d_straight_chain.io := rfl
theorem r29 (n : Nat) : run Pr (n + 1) 29 = callD (Pr.sg n) d_same_circle := rfl
theorem g29 : Pr.sig 29 = d_same_circle.io := rfl
theorem r30 (n : Nat) : run Pr (n + 1) 30 = callD (Pr.sg n) d_comes_to := rfl
theorem g30 : Pr.sig 30 = d_comes_to.io := rfl
theorem r31 (n : Nat) : run Pr (n + 1) 31 = callD (Pr.sg n) d_bent_chain := rfl
theorem g31 : Pr.sig 31 = d_bent_chain.io := rfl
theorem r32 (n : Nat) : run Pr (n + 1) 32 = callD (Pr.sg n) d_chain_shown := rfl
theorem g32 : Pr.sig 32 = d_chain_shown.io := rfl
theorem r33 (n : Nat) : run Pr (n + 1) 33 = callD (Pr.sg n) d_Given__init_ := rfl
theorem g33 : Pr.sig 33 = d_Given__init_.io := rfl
theorem r34 (n : Nat) : run Pr (n + 1) 34 = callD (Pr.sg n) d_Given_is_one := rfl
theorem g34 : Pr.sig 34 = d_Given_is_one.io := rfl
theorem r35 (n : Nat) : run Pr (n + 1) 35 = callD (Pr.sg n) d_Given_piece := rfl
theorem g35 : Pr.sig 35 = d_Given_piece.io := rfl
theorem r36 (n : Nat) : run Pr (n + 1) 36 = callD (Pr.sg n) d_Given_covers := rfl
theorem g36 : Pr.sig 36 = d_Given_covers.io := rfl
theorem r37 (n : Nat) : run Pr (n + 1) 37 = callD (Pr.sg n) d_Given_covers_all := rfl
theorem g37 : Pr.sig 37 = d_Given_covers_all.io := rfl
theorem r38 (n : Nat) : run Pr (n + 1) 38 = callD (Pr.sg n) d_papers_shown := rfl
theorem g38 : Pr.sig 38 = d_papers_shown.io := rfl
theorem r39 (n : Nat) : run Pr (n + 1) 39 = callD (Pr.sg n) d_alike_shown := rfl
theorem g39 : Pr.sig 39 = d_alike_shown.io := rfl
theorem r40 (n : Nat) : run Pr (n + 1) 40 = callD (Pr.sg n) d__law_cell_at := rfl
theorem g40 : Pr.sig 40 = d__law_cell_at.io := rfl
theorem r41 (n : Nat) : run Pr (n + 1) 41 = callD (Pr.sg n) d__law_feed := rfl
theorem g41 : Pr.sig 41 = d__law_feed.io := rfl
theorem r42 (n : Nat) : run Pr (n + 1) 42 = callD (Pr.sg n) d__law_draw := rfl
theorem g42 : Pr.sig 42 = d__law_draw.io := rfl
theorem r43 (n : Nat) : run Pr (n + 1) 43 = callD (Pr.sg n) d__law_point := rfl
theorem g43 : Pr.sig 43 = d__law_point.io := rfl
theorem r44 (n : Nat) : run Pr (n + 1) 44 = callD (Pr.sg n) d__law_left := rfl
theorem g44 : Pr.sig 44 = d__law_left.io := rfl
theorem r45 (n : Nat) : run Pr (n + 1) 45 = callD (Pr.sg n) d__law_links := rfl
theorem g45 : Pr.sig 45 = d__law_links.io := rfl
theorem r46 (n : Nat) : run Pr (n + 1) 46 = callD (Pr.sg n) d__law_straight_ones := rfl
theorem g46 : Pr.sig 46 = d__law_straight_ones.io := rfl
theorem r47 (n : Nat) : run Pr (n + 1) 47 = callD (Pr.sg n) d__law_round_ones := rfl
theorem g47 : Pr.sig 47 = d__law_round_ones.io := rfl
theorem r48 (n : Nat) : run Pr (n + 1) 48 = callD (Pr.sg n) d_law := rfl
theorem g48 : Pr.sig 48 = d_law.io := rfl

def Sz (k : Nat) (i : Int) : Prop := i.natAbs < 2 ^ k
def dI (i : Int) : D := .tup [.int i, .int 1]
abbrev Pt : Type := Int × Int
def dP (p : Pt) : D := .tup [dI p.1, dI p.2]
theorem mod1 (t : Int) : Int.fmod t 1 = 0 := by simp
theorem fd1 (t : Int) : Int.fdiv t 1 = t := by simp
theorem i0 (t : Int) : ixO (.sh (dI t)) 0 = some (.sh (.int t)) := rfl
theorem i1 (t : Int) : ixO (.sh (dI t)) 1 = some (.sh (.int 1)) := rfl
theorem p0 (p : Pt) : ixO (.sh (dP p)) 0 = some (.sh (dI p.1)) := rfl
theorem p1 (p : Pt) : ixO (.sh (dP p)) 1 = some (.sh (dI p.2)) := rfl
theorem Sz.lg {i : Int} (h : Sz 250 i) : i.natAbs.log2 < 250 := Ev.lg h
theorem Sz.mono {j k : Nat} {i : Int} (h : Sz j i) (e : j ≤ k) : Sz k i := Nat.lt_of_lt_of_le h (Nat.pow_le_pow_right (by decide) e)
theorem Sz.mul {j k : Nat} {a b : Int} (h1 : Sz j a) (h2 : Sz k b) : Sz (j + k) (a * b) := by
  unfold Sz at *
  rw [Int.natAbs_mul, Nat.pow_add]
  exact Nat.mul_lt_mul'' h1 h2
theorem Sz.add {k : Nat} {a b : Int} (h1 : Sz k a) (h2 : Sz k b) : Sz (k + 1) (a + b) := by
  unfold Sz at *
  rw [Nat.pow_succ]
  omega
theorem Sz.sub {k : Nat} {a b : Int} (h1 : Sz k a) (h2 : Sz k b) : Sz (k + 1) (a - b) := by
  unfold Sz at *
  rw [Nat.pow_succ]
  omega
theorem bm {s t : Int} (h1 : Sz 250 s) (h2 : Sz 250 t) : binO .mul (.sh (.int s)) (.sh (.int t)) = some (.sh (.int (s * t))) := bmul (by have := h1.lg; have := h2.lg; omega)
theorem one : Sz 250 1 := by unfold Sz; decide
theorem divisor_ok (n : Nat) (t : Int) : run Pr (n + 1) 0 [.sh (.int t), .sh (.int 1)] = some (.sh (.int 1), []) := by
  rw [r0]
  simp only [d_divisor, exs, ex, ev, evs, evB, evA, gt0, gtS, pt0, ptS, ba, bs, ceq, cne, cin, cni, clt, cle, cgt, cge, eqi, bo1, io1, ret1, ret2, ret3, ret4, ret5, ret6, ret7, mv1, mv2, mv3, mv4, mv5, sgΦ, sgΦm, sgS, sgM, sgMt, sgI, sgA, putAll, iosOf, is1, is2, is3, shd, bk0, bk1, bk2, mt2, mt3, mt4, mt5, us1, us2, us3, us4, ixt, ixl, ixL, ixT, ax0, ax1, ax2, ax3, abs1, int11, len1, len2, len3, len4, Option.bind_some, Option.map_some, Option.bind_none, Option.map_none, Bool.true_or, Bool.or_true, Bool.false_or, Bool.or_false, Bool.true_and, Bool.and_true, Bool.false_and, Bool.and_false, if_true, ite_true, eq_self, List.map_cons, List.map_nil, List.length_cons, List.length_nil, List.replicate_zero, List.replicate_succ, List.cons_append, List.nil_append, List.append_nil, Nat.sub_self, Nat.reduceAdd, Nat.reduceSub, Nat.zero_add, if_false, ite_false, Bool.not_true, Bool.not_false, Bool.false_eq_true, reduceIte, reduceCtorEq, pureXs, pureX, callD, decide_true, decide_false, Int.reduceEq, Int.reduceLT, Int.reduceLE, Int.reduceNeg, Int.reduceAdd, Int.reduceSub, Int.reduceMul, decide_eq_true_eq, Int.reduceNe, ne_eq, not_false_eq_true, not_true_eq_false, Option.some.injEq, c0, c1, c2, c3]
  rw [FU, wh_t (ρ1 := [some (O.sh (D.int (if t < 0 then -t else t))), some (O.sh (D.int 1))]) (ρ2 := [some (O.sh (D.int 1)), some (O.sh (D.int 0))]) (by simp only [exs, ex, ev, evs, evB, evA, gt0, gtS, pt0, ptS, ba, bs, ceq, cne, cin, cni, clt, cle, cgt, cge, eqi, bo1, io1, ret1, ret2, ret3, ret4, ret5, ret6, ret7, mv1, mv2, mv3, mv4, mv5, sgΦ, sgΦm, sgS, sgM, sgMt, sgI, sgA, putAll, iosOf, is1, is2, is3, shd, bk0, bk1, bk2, mt2, mt3, mt4, mt5, us1, us2, us3, us4, ixt, ixl, ixL, ixT, ax0, ax1, ax2, ax3, abs1, int11, len1, len2, len3, len4, Option.bind_some, Option.map_some, Option.bind_none, Option.map_none, Bool.true_or, Bool.or_true, Bool.false_or, Bool.or_false, Bool.true_and, Bool.and_true, Bool.false_and, Bool.and_false, if_true, ite_true, eq_self, List.map_cons, List.map_nil, List.length_cons, List.length_nil, List.replicate_zero, List.replicate_succ, List.cons_append, List.nil_append, List.append_nil, Nat.sub_self, Nat.reduceAdd, Nat.reduceSub, Nat.zero_add, if_false, ite_false, Bool.not_true, Bool.not_false, Bool.false_eq_true, reduceIte, reduceCtorEq, pureXs, pureX, callD, decide_true, decide_false, Int.reduceEq, Int.reduceLT, Int.reduceLE, Int.reduceNeg, Int.reduceAdd, Int.reduceSub, Int.reduceMul, decide_eq_true_eq, Int.reduceNe, ne_eq, not_false_eq_true, not_true_eq_false, Option.some.injEq, c0, c1, c2, c3]) (by simp only [bmod (show (1:Int) ≠ 0 by decide), mod1, exs, ex, ev, evs, evB, evA, gt0, gtS, pt0, ptS, ba, bs, ceq, cne, cin, cni, clt, cle, cgt, cge, eqi, bo1, io1, ret1, ret2, ret3, ret4, ret5, ret6, ret7, mv1, mv2, mv3, mv4, mv5, sgΦ, sgΦm, sgS, sgM, sgMt, sgI, sgA, putAll, iosOf, is1, is2, is3, shd, bk0, bk1, bk2, mt2, mt3, mt4, mt5, us1, us2, us3, us4, ixt, ixl, ixL, ixT, ax0, ax1, ax2, ax3, abs1, int11, len1, len2, len3, len4, Option.bind_some, Option.map_some, Option.bind_none, Option.map_none, Bool.true_or, Bool.or_true, Bool.false_or, Bool.or_false, Bool.true_and, Bool.and_true, Bool.false_and, Bool.and_false, if_true, ite_true, eq_self, List.map_cons, List.map_nil, List.length_cons, List.length_nil, List.replicate_zero, List.replicate_succ, List.cons_append, List.nil_append, List.append_nil, Nat.sub_self, Nat.reduceAdd, Nat.reduceSub, Nat.zero_add, if_false, ite_false, Bool.not_true, Bool.not_false, Bool.false_eq_true, reduceIte, reduceCtorEq, pureXs, pureX, callD, decide_true, decide_false, Int.reduceEq, Int.reduceLT, Int.reduceLE, Int.reduceNeg, Int.reduceAdd, Int.reduceSub, Int.reduceMul, decide_eq_true_eq, Int.reduceNe, ne_eq, not_false_eq_true, not_true_eq_false, Option.some.injEq, c0, c1, c2, c3]), wh_f (ρ1 := [some (O.sh (D.int 1)), some (O.sh (D.int 0))]) (by simp only [exs, ex, ev, evs, evB, evA, gt0, gtS, pt0, ptS, ba, bs, ceq, cne, cin, cni, clt, cle, cgt, cge, eqi, bo1, io1, ret1, ret2, ret3, ret4, ret5, ret6, ret7, mv1, mv2, mv3, mv4, mv5, sgΦ, sgΦm, sgS, sgM, sgMt, sgI, sgA, putAll, iosOf, is1, is2, is3, shd, bk0, bk1, bk2, mt2, mt3, mt4, mt5, us1, us2, us3, us4, ixt, ixl, ixL, ixT, ax0, ax1, ax2, ax3, abs1, int11, len1, len2, len3, len4, Option.bind_some, Option.map_some, Option.bind_none, Option.map_none, Bool.true_or, Bool.or_true, Bool.false_or, Bool.or_false, Bool.true_and, Bool.and_true, Bool.false_and, Bool.and_false, if_true, ite_true, eq_self, List.map_cons, List.map_nil, List.length_cons, List.length_nil, List.replicate_zero, List.replicate_succ, List.cons_append, List.nil_append, List.append_nil, Nat.sub_self, Nat.reduceAdd, Nat.reduceSub, Nat.zero_add, if_false, ite_false, Bool.not_true, Bool.not_false, Bool.false_eq_true, reduceIte, reduceCtorEq, pureXs, pureX, callD, decide_true, decide_false, Int.reduceEq, Int.reduceLT, Int.reduceLE, Int.reduceNeg, Int.reduceAdd, Int.reduceSub, Int.reduceMul, decide_eq_true_eq, Int.reduceNe, ne_eq, not_false_eq_true, not_true_eq_false, Option.some.injEq, c0, c1, c2, c3])]
  simp only [exs, ex, ev, evs, evB, evA, gt0, gtS, pt0, ptS, ba, bs, ceq, cne, cin, cni, clt, cle, cgt, cge, eqi, bo1, io1, ret1, ret2, ret3, ret4, ret5, ret6, ret7, mv1, mv2, mv3, mv4, mv5, sgΦ, sgΦm, sgS, sgM, sgMt, sgI, sgA, putAll, iosOf, is1, is2, is3, shd, bk0, bk1, bk2, mt2, mt3, mt4, mt5, us1, us2, us3, us4, ixt, ixl, ixL, ixT, ax0, ax1, ax2, ax3, abs1, int11, len1, len2, len3, len4, Option.bind_some, Option.map_some, Option.bind_none, Option.map_none, Bool.true_or, Bool.or_true, Bool.false_or, Bool.or_false, Bool.true_and, Bool.and_true, Bool.false_and, Bool.and_false, if_true, ite_true, eq_self, List.map_cons, List.map_nil, List.length_cons, List.length_nil, List.replicate_zero, List.replicate_succ, List.cons_append, List.nil_append, List.append_nil, Nat.sub_self, Nat.reduceAdd, Nat.reduceSub, Nat.zero_add, if_false, ite_false, Bool.not_true, Bool.not_false, Bool.false_eq_true, reduceIte, reduceCtorEq, pureXs, pureX, callD, decide_true, decide_false, Int.reduceEq, Int.reduceLT, Int.reduceLE, Int.reduceNeg, Int.reduceAdd, Int.reduceSub, Int.reduceMul, decide_eq_true_eq, Int.reduceNe, ne_eq, not_false_eq_true, not_true_eq_false, Option.some.injEq, c0, c1, c2, c3]
theorem ratio_ok (n : Nat) (t : Int) : run Pr (n + 2) 1 [.sh (.int t), .sh (.int 1)] = some (.sh (dI t), []) := by
  rw [r1]
  simp only [d_ratio, g0, d_divisor, divisor_ok, bfd (show (1:Int) ≠ 0 by decide) (show (1:Int).natAbs.log2 < 9000 by decide), fd1, exs, ex, ev, evs, evB, evA, gt0, gtS, pt0, ptS, ba, bs, ceq, cne, cin, cni, clt, cle, cgt, cge, eqi, bo1, io1, ret1, ret2, ret3, ret4, ret5, ret6, ret7, mv1, mv2, mv3, mv4, mv5, sgΦ, sgΦm, sgS, sgM, sgMt, sgI, sgA, putAll, iosOf, is1, is2, is3, shd, bk0, bk1, bk2, mt2, mt3, mt4, mt5, us1, us2, us3, us4, ixt, ixl, ixL, ixT, ax0, ax1, ax2, ax3, abs1, int11, len1, len2, len3, len4, Option.bind_some, Option.map_some, Option.bind_none, Option.map_none, Bool.true_or, Bool.or_true, Bool.false_or, Bool.or_false, Bool.true_and, Bool.and_true, Bool.false_and, Bool.and_false, if_true, ite_true, eq_self, List.map_cons, List.map_nil, List.length_cons, List.length_nil, List.replicate_zero, List.replicate_succ, List.cons_append, List.nil_append, List.append_nil, Nat.sub_self, Nat.reduceAdd, Nat.reduceSub, Nat.zero_add, if_false, ite_false, Bool.not_true, Bool.not_false, Bool.false_eq_true, reduceIte, reduceCtorEq, pureXs, pureX, callD, decide_true, decide_false, Int.reduceEq, Int.reduceLT, Int.reduceLE, Int.reduceNeg, Int.reduceAdd, Int.reduceSub, Int.reduceMul, decide_eq_true_eq, Int.reduceNe, ne_eq, not_false_eq_true, not_true_eq_false, Option.some.injEq, c0, c1, c2, c3]
  rfl
theorem plus_ok (n : Nat) {a b : Int} (ha : Sz 250 a) (hb : Sz 250 b) : run Pr (n + 3) 2 [.sh (dI a), .sh (dI b)] = some (.sh (dI (a + b)), []) := by
  rw [r2]
  simp only [d_plus, g1, show d_ratio.io = [] from rfl, i0, i1, bm ha one, bm hb one, bm one one, Int.mul_one, ratio_ok, exs, ex, ev, evs, evB, evA, gt0, gtS, pt0, ptS, ba, bs, ceq, cne, cin, cni, clt, cle, cgt, cge, eqi, bo1, io1, ret1, ret2, ret3, ret4, ret5, ret6, ret7, mv1, mv2, mv3, mv4, mv5, sgΦ, sgΦm, sgS, sgM, sgMt, sgI, sgA, putAll, iosOf, is1, is2, is3, shd, bk0, bk1, bk2, mt2, mt3, mt4, mt5, us1, us2, us3, us4, ixt, ixl, ixL, ixT, ax0, ax1, ax2, ax3, abs1, int11, len1, len2, len3, len4, Option.bind_some, Option.map_some, Option.bind_none, Option.map_none, Bool.true_or, Bool.or_true, Bool.false_or, Bool.or_false, Bool.true_and, Bool.and_true, Bool.false_and, Bool.and_false, if_true, ite_true, eq_self, List.map_cons, List.map_nil, List.length_cons, List.length_nil, List.replicate_zero, List.replicate_succ, List.cons_append, List.nil_append, List.append_nil, Nat.sub_self, Nat.reduceAdd, Nat.reduceSub, Nat.zero_add, if_false, ite_false, Bool.not_true, Bool.not_false, Bool.false_eq_true, reduceIte, reduceCtorEq, pureXs, pureX, callD, decide_true, decide_false, Int.reduceEq, Int.reduceLT, Int.reduceLE, Int.reduceNeg, Int.reduceAdd, Int.reduceSub, Int.reduceMul, decide_eq_true_eq, Int.reduceNe, ne_eq, not_false_eq_true, not_true_eq_false, Option.some.injEq, c0, c1, c2, c3]
theorem minus_ok (n : Nat) {a b : Int} (ha : Sz 250 a) (hb : Sz 250 b) : run Pr (n + 3) 3 [.sh (dI a), .sh (dI b)] = some (.sh (dI (a - b)), []) := by
  rw [r3]
  simp only [d_minus, g1, show d_ratio.io = [] from rfl, i0, i1, bm ha one, bm hb one, bm one one, Int.mul_one, ratio_ok, exs, ex, ev, evs, evB, evA, gt0, gtS, pt0, ptS, ba, bs, ceq, cne, cin, cni, clt, cle, cgt, cge, eqi, bo1, io1, ret1, ret2, ret3, ret4, ret5, ret6, ret7, mv1, mv2, mv3, mv4, mv5, sgΦ, sgΦm, sgS, sgM, sgMt, sgI, sgA, putAll, iosOf, is1, is2, is3, shd, bk0, bk1, bk2, mt2, mt3, mt4, mt5, us1, us2, us3, us4, ixt, ixl, ixL, ixT, ax0, ax1, ax2, ax3, abs1, int11, len1, len2, len3, len4, Option.bind_some, Option.map_some, Option.bind_none, Option.map_none, Bool.true_or, Bool.or_true, Bool.false_or, Bool.or_false, Bool.true_and, Bool.and_true, Bool.false_and, Bool.and_false, if_true, ite_true, eq_self, List.map_cons, List.map_nil, List.length_cons, List.length_nil, List.replicate_zero, List.replicate_succ, List.cons_append, List.nil_append, List.append_nil, Nat.sub_self, Nat.reduceAdd, Nat.reduceSub, Nat.zero_add, if_false, ite_false, Bool.not_true, Bool.not_false, Bool.false_eq_true, reduceIte, reduceCtorEq, pureXs, pureX, callD, decide_true, decide_false, Int.reduceEq, Int.reduceLT, Int.reduceLE, Int.reduceNeg, Int.reduceAdd, Int.reduceSub, Int.reduceMul, decide_eq_true_eq, Int.reduceNe, ne_eq, not_false_eq_true, not_true_eq_false, Option.some.injEq, c0, c1, c2, c3]
theorem times_ok (n : Nat) {a b : Int} (ha : Sz 250 a) (hb : Sz 250 b) : run Pr (n + 3) 4 [.sh (dI a), .sh (dI b)] = some (.sh (dI (a * b)), []) := by
  rw [r4]
  simp only [d_times, g1, show d_ratio.io = [] from rfl, i0, i1, bm ha hb, bm one one, Int.mul_one, ratio_ok, exs, ex, ev, evs, evB, evA, gt0, gtS, pt0, ptS, ba, bs, ceq, cne, cin, cni, clt, cle, cgt, cge, eqi, bo1, io1, ret1, ret2, ret3, ret4, ret5, ret6, ret7, mv1, mv2, mv3, mv4, mv5, sgΦ, sgΦm, sgS, sgM, sgMt, sgI, sgA, putAll, iosOf, is1, is2, is3, shd, bk0, bk1, bk2, mt2, mt3, mt4, mt5, us1, us2, us3, us4, ixt, ixl, ixL, ixT, ax0, ax1, ax2, ax3, abs1, int11, len1, len2, len3, len4, Option.bind_some, Option.map_some, Option.bind_none, Option.map_none, Bool.true_or, Bool.or_true, Bool.false_or, Bool.or_false, Bool.true_and, Bool.and_true, Bool.false_and, Bool.and_false, if_true, ite_true, eq_self, List.map_cons, List.map_nil, List.length_cons, List.length_nil, List.replicate_zero, List.replicate_succ, List.cons_append, List.nil_append, List.append_nil, Nat.sub_self, Nat.reduceAdd, Nat.reduceSub, Nat.zero_add, if_false, ite_false, Bool.not_true, Bool.not_false, Bool.false_eq_true, reduceIte, reduceCtorEq, pureXs, pureX, callD, decide_true, decide_false, Int.reduceEq, Int.reduceLT, Int.reduceLE, Int.reduceNeg, Int.reduceAdd, Int.reduceSub, Int.reduceMul, decide_eq_true_eq, Int.reduceNe, ne_eq, not_false_eq_true, not_true_eq_false, Option.some.injEq, c0, c1, c2, c3]
theorem below_ok (n : Nat) {a b : Int} (ha : Sz 250 a) (hb : Sz 250 b) : run Pr (n + 1) 5 [.sh (dI a), .sh (dI b)] = some (.sh (.bl (decide (a < b))), []) := by
  rw [r5]
  simp only [d_below, i0, i1, bm ha one, bm hb one, Int.mul_one, exs, ex, ev, evs, evB, evA, gt0, gtS, pt0, ptS, ba, bs, ceq, cne, cin, cni, clt, cle, cgt, cge, eqi, bo1, io1, ret1, ret2, ret3, ret4, ret5, ret6, ret7, mv1, mv2, mv3, mv4, mv5, sgΦ, sgΦm, sgS, sgM, sgMt, sgI, sgA, putAll, iosOf, is1, is2, is3, shd, bk0, bk1, bk2, mt2, mt3, mt4, mt5, us1, us2, us3, us4, ixt, ixl, ixL, ixT, ax0, ax1, ax2, ax3, abs1, int11, len1, len2, len3, len4, Option.bind_some, Option.map_some, Option.bind_none, Option.map_none, Bool.true_or, Bool.or_true, Bool.false_or, Bool.or_false, Bool.true_and, Bool.and_true, Bool.false_and, Bool.and_false, if_true, ite_true, eq_self, List.map_cons, List.map_nil, List.length_cons, List.length_nil, List.replicate_zero, List.replicate_succ, List.cons_append, List.nil_append, List.append_nil, Nat.sub_self, Nat.reduceAdd, Nat.reduceSub, Nat.zero_add, if_false, ite_false, Bool.not_true, Bool.not_false, Bool.false_eq_true, reduceIte, reduceCtorEq, pureXs, pureX, callD, decide_true, decide_false, Int.reduceEq, Int.reduceLT, Int.reduceLE, Int.reduceNeg, Int.reduceAdd, Int.reduceSub, Int.reduceMul, decide_eq_true_eq, Int.reduceNe, ne_eq, not_false_eq_true, not_true_eq_false, Option.some.injEq, c0, c1, c2, c3]
structure Bp (k : Nat) (p : Pt) : Prop where
  x : Sz k p.1
  y : Sz k p.2
theorem Bp.mono {j k : Nat} {p : Pt} (h : Bp j p) (e : j ≤ k) : Bp k p := ⟨h.x.mono e, h.y.mono e⟩
theorem together_ok (n : Nat) {p q : Pt} (hp : Bp 250 p) (hq : Bp 250 q) : run Pr (n + 4) 6 [.sh (dP p), .sh (dP q)] = some (.sh (dP (p.1 + q.1, p.2 + q.2)), []) := by
  rw [r6]
  simp only [d_together, g2, show d_plus.io = [] from rfl, p0, p1, plus_ok _ hp.x hq.x, plus_ok _ hp.y hq.y, exs, ex, ev, evs, evB, evA, gt0, gtS, pt0, ptS, ba, bs, ceq, cne, cin, cni, clt, cle, cgt, cge, eqi, bo1, io1, ret1, ret2, ret3, ret4, ret5, ret6, ret7, mv1, mv2, mv3, mv4, mv5, sgΦ, sgΦm, sgS, sgM, sgMt, sgI, sgA, putAll, iosOf, is1, is2, is3, shd, bk0, bk1, bk2, mt2, mt3, mt4, mt5, us1, us2, us3, us4, ixt, ixl, ixL, ixT, ax0, ax1, ax2, ax3, abs1, int11, len1, len2, len3, len4, Option.bind_some, Option.map_some, Option.bind_none, Option.map_none, Bool.true_or, Bool.or_true, Bool.false_or, Bool.or_false, Bool.true_and, Bool.and_true, Bool.false_and, Bool.and_false, if_true, ite_true, eq_self, List.map_cons, List.map_nil, List.length_cons, List.length_nil, List.replicate_zero, List.replicate_succ, List.cons_append, List.nil_append, List.append_nil, Nat.sub_self, Nat.reduceAdd, Nat.reduceSub, Nat.zero_add, if_false, ite_false, Bool.not_true, Bool.not_false, Bool.false_eq_true, reduceIte, reduceCtorEq, pureXs, pureX, callD, decide_true, decide_false, Int.reduceEq, Int.reduceLT, Int.reduceLE, Int.reduceNeg, Int.reduceAdd, Int.reduceSub, Int.reduceMul, decide_eq_true_eq, Int.reduceNe, ne_eq, not_false_eq_true, not_true_eq_false, Option.some.injEq, c0, c1, c2, c3]
  rfl
def offM (p q : Pt) : Pt := (p.1 - q.1, p.2 - q.2)
theorem Bp.off {k : Nat} {p q : Pt} (hp : Bp k p) (hq : Bp k q) : Bp (k + 1) (offM p q) := ⟨hp.x.sub hq.x, hp.y.sub hq.y⟩
theorem off_ok (n : Nat) {p q : Pt} (hp : Bp 250 p) (hq : Bp 250 q) : run Pr (n + 4) 7 [.sh (dP p), .sh (dP q)] = some (.sh (dP (offM p q)), []) := by
  rw [r7]
  simp only [d_off, g3, show d_minus.io = [] from rfl, p0, p1, minus_ok _ hp.x hq.x, minus_ok _ hp.y hq.y, exs, ex, ev, evs, evB, evA, gt0, gtS, pt0, ptS, ba, bs, ceq, cne, cin, cni, clt, cle, cgt, cge, eqi, bo1, io1, ret1, ret2, ret3, ret4, ret5, ret6, ret7, mv1, mv2, mv3, mv4, mv5, sgΦ, sgΦm, sgS, sgM, sgMt, sgI, sgA, putAll, iosOf, is1, is2, is3, shd, bk0, bk1, bk2, mt2, mt3, mt4, mt5, us1, us2, us3, us4, ixt, ixl, ixL, ixT, ax0, ax1, ax2, ax3, abs1, int11, len1, len2, len3, len4, Option.bind_some, Option.map_some, Option.bind_none, Option.map_none, Bool.true_or, Bool.or_true, Bool.false_or, Bool.or_false, Bool.true_and, Bool.and_true, Bool.false_and, Bool.and_false, if_true, ite_true, eq_self, List.map_cons, List.map_nil, List.length_cons, List.length_nil, List.replicate_zero, List.replicate_succ, List.cons_append, List.nil_append, List.append_nil, Nat.sub_self, Nat.reduceAdd, Nat.reduceSub, Nat.zero_add, if_false, ite_false, Bool.not_true, Bool.not_false, Bool.false_eq_true, reduceIte, reduceCtorEq, pureXs, pureX, callD, decide_true, decide_false, Int.reduceEq, Int.reduceLT, Int.reduceLE, Int.reduceNeg, Int.reduceAdd, Int.reduceSub, Int.reduceMul, decide_eq_true_eq, Int.reduceNe, ne_eq, not_false_eq_true, not_true_eq_false, Option.some.injEq, c0, c1, c2, c3]
  rfl
def alongM (p q : Pt) : Int := p.1 * q.1 + p.2 * q.2
def acrossM (p q : Pt) : Int := p.1 * q.2 - p.2 * q.1
theorem along_ok (n : Nat) {p q : Pt} (hp : Bp 120 p) (hq : Bp 120 q) : run Pr (n + 4) 10 [.sh (dP p), .sh (dP q)] = some (.sh (dI (alongM p q)), []) := by
  have a := hp.mono (show 120 ≤ 250 by decide)
  have b := hq.mono (show 120 ≤ 250 by decide)
  rw [r10]
  simp only [d_along, g2, g4, show d_plus.io = [] from rfl, show d_times.io = [] from rfl, p0, p1, times_ok _ a.x b.x, times_ok _ a.y b.y, plus_ok _ ((hp.x.mul hq.x).mono (show 120 + 120 ≤ 250 by decide)) ((hp.y.mul hq.y).mono (show 120 + 120 ≤ 250 by decide)), exs, ex, ev, evs, evB, evA, gt0, gtS, pt0, ptS, ba, bs, ceq, cne, cin, cni, clt, cle, cgt, cge, eqi, bo1, io1, ret1, ret2, ret3, ret4, ret5, ret6, ret7, mv1, mv2, mv3, mv4, mv5, sgΦ, sgΦm, sgS, sgM, sgMt, sgI, sgA, putAll, iosOf, is1, is2, is3, shd, bk0, bk1, bk2, mt2, mt3, mt4, mt5, us1, us2, us3, us4, ixt, ixl, ixL, ixT, ax0, ax1, ax2, ax3, abs1, int11, len1, len2, len3, len4, Option.bind_some, Option.map_some, Option.bind_none, Option.map_none, Bool.true_or, Bool.or_true, Bool.false_or, Bool.or_false, Bool.true_and, Bool.and_true, Bool.false_and, Bool.and_false, if_true, ite_true, eq_self, List.map_cons, List.map_nil, List.length_cons, List.length_nil, List.replicate_zero, List.replicate_succ, List.cons_append, List.nil_append, List.append_nil, Nat.sub_self, Nat.reduceAdd, Nat.reduceSub, Nat.zero_add, if_false, ite_false, Bool.not_true, Bool.not_false, Bool.false_eq_true, reduceIte, reduceCtorEq, pureXs, pureX, callD, decide_true, decide_false, Int.reduceEq, Int.reduceLT, Int.reduceLE, Int.reduceNeg, Int.reduceAdd, Int.reduceSub, Int.reduceMul, decide_eq_true_eq, Int.reduceNe, ne_eq, not_false_eq_true, not_true_eq_false, Option.some.injEq, c0, c1, c2, c3]
  rfl
theorem across_ok (n : Nat) {p q : Pt} (hp : Bp 120 p) (hq : Bp 120 q) : run Pr (n + 4) 11 [.sh (dP p), .sh (dP q)] = some (.sh (dI (acrossM p q)), []) := by
  have a := hp.mono (show 120 ≤ 250 by decide)
  have b := hq.mono (show 120 ≤ 250 by decide)
  rw [r11]
  simp only [d_across, g3, g4, show d_minus.io = [] from rfl, show d_times.io = [] from rfl, p0, p1, times_ok _ a.x b.y, times_ok _ a.y b.x, minus_ok _ ((hp.x.mul hq.y).mono (show 120 + 120 ≤ 250 by decide)) ((hp.y.mul hq.x).mono (show 120 + 120 ≤ 250 by decide)), exs, ex, ev, evs, evB, evA, gt0, gtS, pt0, ptS, ba, bs, ceq, cne, cin, cni, clt, cle, cgt, cge, eqi, bo1, io1, ret1, ret2, ret3, ret4, ret5, ret6, ret7, mv1, mv2, mv3, mv4, mv5, sgΦ, sgΦm, sgS, sgM, sgMt, sgI, sgA, putAll, iosOf, is1, is2, is3, shd, bk0, bk1, bk2, mt2, mt3, mt4, mt5, us1, us2, us3, us4, ixt, ixl, ixL, ixT, ax0, ax1, ax2, ax3, abs1, int11, len1, len2, len3, len4, Option.bind_some, Option.map_some, Option.bind_none, Option.map_none, Bool.true_or, Bool.or_true, Bool.false_or, Bool.or_false, Bool.true_and, Bool.and_true, Bool.false_and, Bool.and_false, if_true, ite_true, eq_self, List.map_cons, List.map_nil, List.length_cons, List.length_nil, List.replicate_zero, List.replicate_succ, List.cons_append, List.nil_append, List.append_nil, Nat.sub_self, Nat.reduceAdd, Nat.reduceSub, Nat.zero_add, if_false, ite_false, Bool.not_true, Bool.not_false, Bool.false_eq_true, reduceIte, reduceCtorEq, pureXs, pureX, callD, decide_true, decide_false, Int.reduceEq, Int.reduceLT, Int.reduceLE, Int.reduceNeg, Int.reduceAdd, Int.reduceSub, Int.reduceMul, decide_eq_true_eq, Int.reduceNe, ne_eq, not_false_eq_true, not_true_eq_false, Option.some.injEq, c0, c1, c2, c3]
  rfl
def farM (p q : Pt) : Int := alongM (offM p q) (offM p q)
theorem far_ok (n : Nat) {p q : Pt} (hp : Bp 60 p) (hq : Bp 60 q) : run Pr (n + 5) 12 [.sh (dP p), .sh (dP q)] = some (.sh (dI (farM p q)), []) := by
  have a := hp.mono (show 60 ≤ 250 by decide)
  have b := hq.mono (show 60 ≤ 250 by decide)
  have c := (hp.off hq).mono (show 60 + 1 ≤ 120 by decide)
  rw [r12]
  simp only [d_far, g7, g10, show d_off.io = [] from rfl, show d_along.io = [] from rfl, off_ok _ a b, along_ok _ c c, exs, ex, ev, evs, evB, evA, gt0, gtS, pt0, ptS, ba, bs, ceq, cne, cin, cni, clt, cle, cgt, cge, eqi, bo1, io1, ret1, ret2, ret3, ret4, ret5, ret6, ret7, mv1, mv2, mv3, mv4, mv5, sgΦ, sgΦm, sgS, sgM, sgMt, sgI, sgA, putAll, iosOf, is1, is2, is3, shd, bk0, bk1, bk2, mt2, mt3, mt4, mt5, us1, us2, us3, us4, ixt, ixl, ixL, ixT, ax0, ax1, ax2, ax3, abs1, int11, len1, len2, len3, len4, Option.bind_some, Option.map_some, Option.bind_none, Option.map_none, Bool.true_or, Bool.or_true, Bool.false_or, Bool.or_false, Bool.true_and, Bool.and_true, Bool.false_and, Bool.and_false, if_true, ite_true, eq_self, List.map_cons, List.map_nil, List.length_cons, List.length_nil, List.replicate_zero, List.replicate_succ, List.cons_append, List.nil_append, List.append_nil, Nat.sub_self, Nat.reduceAdd, Nat.reduceSub, Nat.zero_add, if_false, ite_false, Bool.not_true, Bool.not_false, Bool.false_eq_true, reduceIte, reduceCtorEq, pureXs, pureX, callD, decide_true, decide_false, Int.reduceEq, Int.reduceLT, Int.reduceLE, Int.reduceNeg, Int.reduceAdd, Int.reduceSub, Int.reduceMul, decide_eq_true_eq, Int.reduceNe, ne_eq, not_false_eq_true, not_true_eq_false, Option.some.injEq, c0, c1, c2, c3]
  rfl
def sgn (t : Int) : Int := (if decide (0 < t) = true then 1 else 0) - (if decide (t < 0) = true then 1 else 0)
theorem sign_ok (n : Nat) (t : Int) : run Pr (n + 1) 13 [.sh (dI t)] = some (.sh (.int (sgn t)), []) := by
  rw [r13]
  simp only [d_sign_of, i0, sgn, exs, ex, ev, evs, evB, evA, gt0, gtS, pt0, ptS, ba, bs, ceq, cne, cin, cni, clt, cle, cgt, cge, eqi, bo1, io1, ret1, ret2, ret3, ret4, ret5, ret6, ret7, mv1, mv2, mv3, mv4, mv5, sgΦ, sgΦm, sgS, sgM, sgMt, sgI, sgA, putAll, iosOf, is1, is2, is3, shd, bk0, bk1, bk2, mt2, mt3, mt4, mt5, us1, us2, us3, us4, ixt, ixl, ixL, ixT, ax0, ax1, ax2, ax3, abs1, int11, len1, len2, len3, len4, Option.bind_some, Option.map_some, Option.bind_none, Option.map_none, Bool.true_or, Bool.or_true, Bool.false_or, Bool.or_false, Bool.true_and, Bool.and_true, Bool.false_and, Bool.and_false, if_true, ite_true, eq_self, List.map_cons, List.map_nil, List.length_cons, List.length_nil, List.replicate_zero, List.replicate_succ, List.cons_append, List.nil_append, List.append_nil, Nat.sub_self, Nat.reduceAdd, Nat.reduceSub, Nat.zero_add, if_false, ite_false, Bool.not_true, Bool.not_false, Bool.false_eq_true, reduceIte, reduceCtorEq, pureXs, pureX, callD, decide_true, decide_false, Int.reduceEq, Int.reduceLT, Int.reduceLE, Int.reduceNeg, Int.reduceAdd, Int.reduceSub, Int.reduceMul, decide_eq_true_eq, Int.reduceNe, ne_eq, not_false_eq_true, not_true_eq_false, Option.some.injEq, c0, c1, c2, c3]
def sideM (a b p : Pt) : Int := sgn (acrossM (offM b a) (offM p a))
theorem side_ok (n : Nat) {a b p : Pt} (ha : Bp 60 a) (hb : Bp 60 b) (hp : Bp 60 p) : run Pr (n + 5) 14 [.sh (dP a), .sh (dP b), .sh (dP p)] = some (.sh (.int (sideM a b p)), []) := by
  have a' := ha.mono (show 60 ≤ 250 by decide)
  have b' := hb.mono (show 60 ≤ 250 by decide)
  have p' := hp.mono (show 60 ≤ 250 by decide)
  have c := (hb.off ha).mono (show 60 + 1 ≤ 120 by decide)
  have d := (hp.off ha).mono (show 60 + 1 ≤ 120 by decide)
  rw [r14]
  simp only [d_side, g7, g11, g13, show d_off.io = [] from rfl, show d_across.io = [] from rfl, show d_sign_of.io = [] from rfl, off_ok _ b' a', off_ok _ p' a', across_ok _ c d, sign_ok, exs, ex, ev, evs, evB, evA, gt0, gtS, pt0, ptS, ba, bs, ceq, cne, cin, cni, clt, cle, cgt, cge, eqi, bo1, io1, ret1, ret2, ret3, ret4, ret5, ret6, ret7, mv1, mv2, mv3, mv4, mv5, sgΦ, sgΦm, sgS, sgM, sgMt, sgI, sgA, putAll, iosOf, is1, is2, is3, shd, bk0, bk1, bk2, mt2, mt3, mt4, mt5, us1, us2, us3, us4, ixt, ixl, ixL, ixT, ax0, ax1, ax2, ax3, abs1, int11, len1, len2, len3, len4, Option.bind_some, Option.map_some, Option.bind_none, Option.map_none, Bool.true_or, Bool.or_true, Bool.false_or, Bool.or_false, Bool.true_and, Bool.and_true, Bool.false_and, Bool.and_false, if_true, ite_true, eq_self, List.map_cons, List.map_nil, List.length_cons, List.length_nil, List.replicate_zero, List.replicate_succ, List.cons_append, List.nil_append, List.append_nil, Nat.sub_self, Nat.reduceAdd, Nat.reduceSub, Nat.zero_add, if_false, ite_false, Bool.not_true, Bool.not_false, Bool.false_eq_true, reduceIte, reduceCtorEq, pureXs, pureX, callD, decide_true, decide_false, Int.reduceEq, Int.reduceLT, Int.reduceLE, Int.reduceNeg, Int.reduceAdd, Int.reduceSub, Int.reduceMul, decide_eq_true_eq, Int.reduceNe, ne_eq, not_false_eq_true, not_true_eq_false, Option.some.injEq, c0, c1, c2, c3]
  rfl
theorem eqdI (s t : Int) : eqD (dI s) (dI t) = some (decide (s = t)) := by
  unfold eqD
  rw [if_pos ⟨rfl, rfl⟩]
  show some ((s == t) && true) = _
  rw [Bool.and_true]
  rfl
theorem eqdP (p q : Pt) : eqD (dP p) (dP q) = some (decide (p = q)) := by
  unfold eqD
  rw [if_pos ⟨rfl, rfl⟩]
  show some ((((p.1 == q.1) && true)) && ((((p.2 == q.2) && true)) && true)) = _
  obtain ⟨a, b⟩ := p
  obtain ⟨c, d⟩ := q
  congr 1
  rw [Bool.eq_iff_iff]
  simp
def befM (p q : Pt) : Bool := match decide (p.1 < q.1) with
  | true => true
  | false => (match decide (p.1 = q.1) with
    | true => decide (p.2 < q.2)
    | false => false)
theorem before_ok (n : Nat) {p q : Pt} (hp : Bp 250 p) (hq : Bp 250 q) : run Pr (n + 2) 15 [.sh (dP p), .sh (dP q)] = some (.sh (.bl (befM p q)), []) := by
  rw [r15]
  simp only [d_before, g5, show d_below.io = [] from rfl, p0, p1, eqdI, below_ok _ hp.x hq.x, below_ok _ hp.y hq.y, befM, exs, ex, ev, evs, evB, evA, gt0, gtS, pt0, ptS, ba, bs, ceq, cne, cin, cni, clt, cle, cgt, cge, eqi, bo1, io1, ret1, ret2, ret3, ret4, ret5, ret6, ret7, mv1, mv2, mv3, mv4, mv5, sgΦ, sgΦm, sgS, sgM, sgMt, sgI, sgA, putAll, iosOf, is1, is2, is3, shd, bk0, bk1, bk2, mt2, mt3, mt4, mt5, us1, us2, us3, us4, ixt, ixl, ixL, ixT, ax0, ax1, ax2, ax3, abs1, int11, len1, len2, len3, len4, Option.bind_some, Option.map_some, Option.bind_none, Option.map_none, Bool.true_or, Bool.or_true, Bool.false_or, Bool.or_false, Bool.true_and, Bool.and_true, Bool.false_and, Bool.and_false, if_true, ite_true, eq_self, List.map_cons, List.map_nil, List.length_cons, List.length_nil, List.replicate_zero, List.replicate_succ, List.cons_append, List.nil_append, List.append_nil, Nat.sub_self, Nat.reduceAdd, Nat.reduceSub, Nat.zero_add, if_false, ite_false, Bool.not_true, Bool.not_false, Bool.false_eq_true, reduceIte, reduceCtorEq, pureXs, pureX, callD, decide_true, decide_false, Int.reduceEq, Int.reduceLT, Int.reduceLE, Int.reduceNeg, Int.reduceAdd, Int.reduceSub, Int.reduceMul, decide_eq_true_eq, Int.reduceNe, ne_eq, not_false_eq_true, not_true_eq_false, Option.some.injEq, c0, c1, c2, c3]
  cases decide (p.1 < q.1) <;> cases decide (p.1 = q.1) <;> rfl
end K89

namespace K89
open PySem L2 Ev
theorem k_dot_dot : eqD (.str "dot") (.str "dot") = some true := by decide +kernel
theorem k_dot_stretch : eqD (.str "dot") (.str "stretch") = some false := by decide +kernel
theorem k_dot_ring : eqD (.str "dot") (.str "ring") = some false := by decide +kernel
theorem k_dot_arc : eqD (.str "dot") (.str "arc") = some false := by decide +kernel
theorem k_stretch_dot : eqD (.str "stretch") (.str "dot") = some false := by decide +kernel
theorem k_stretch_stretch : eqD (.str "stretch") (.str "stretch") = some true := by decide +kernel
theorem k_stretch_ring : eqD (.str "stretch") (.str "ring") = some false := by decide +kernel
theorem k_stretch_arc : eqD (.str "stretch") (.str "arc") = some false := by decide +kernel
theorem k_ring_dot : eqD (.str "ring") (.str "dot") = some false := by decide +kernel
theorem k_ring_stretch : eqD (.str "ring") (.str "stretch") = some false := by decide +kernel
theorem k_ring_ring : eqD (.str "ring") (.str "ring") = some true := by decide +kernel
theorem k_ring_arc : eqD (.str "ring") (.str "arc") = some false := by decide +kernel
theorem k_arc_dot : eqD (.str "arc") (.str "dot") = some false := by decide +kernel
theorem k_arc_stretch : eqD (.str "arc") (.str "stretch") = some false := by decide +kernel
theorem k_arc_ring : eqD (.str "arc") (.str "ring") = some false := by decide +kernel
theorem k_arc_arc : eqD (.str "arc") (.str "arc") = some true := by decide +kernel

inductive Pc where
  | dot (p : Pt) | str (a b : Pt) | ring (c r : Pt) | arc (c a b : Pt)
  deriving DecidableEq
def dC : Pc → D
  | .dot p => .tup [.str "dot", dP p]
  | .str a b => .tup [.str "stretch", dP a, dP b]
  | .ring c r => .tup [.str "ring", dP c, dP r]
  | .arc c a b => .tup [.str "arc", dP c, dP a, dP b]
def Bc (k : Nat) : Pc → Prop
  | .dot p => Bp k p
  | .str a b => Bp k a ∧ Bp k b
  | .ring c r => Bp k c ∧ Bp k r
  | .arc c a b => Bp k c ∧ Bp k a ∧ Bp k b
def stretchM (p q : Pt) : Pc := match decide (p = q) with
  | true => .dot p
  | false => (match befM q p with
    | true => .str q p
    | false => .str p q)
theorem stretch_ok (n : Nat) {p q : Pt} (hp : Bp 250 p) (hq : Bp 250 q) : run Pr (n + 3) 16 [.sh (dP p), .sh (dP q)] = some (.sh (dC (stretchM p q)), []) := by
  rw [r16]
  simp only [d_stretch, g15, show d_before.io = [] from rfl, before_ok _ hq hp, eqdP, stretchM, exs, ex, ev, evs, evB, evA, gt0, gtS, pt0, ptS, ba, bs, ceq, cne, cin, cni, clt, cle, cgt, cge, eqi, bo1, io1, ret1, ret2, ret3, ret4, ret5, ret6, ret7, mv1, mv2, mv3, mv4, mv5, sgΦ, sgΦm, sgS, sgM, sgMt, sgI, sgA, putAll, iosOf, is1, is2, is3, shd, bk0, bk1, bk2, mt2, mt3, mt4, mt5, us1, us2, us3, us4, ixt, ixl, ixL, ixT, ax0, ax1, ax2, ax3, abs1, int11, len1, len2, len3, len4, Option.bind_some, Option.map_some, Option.bind_none, Option.map_none, Bool.true_or, Bool.or_true, Bool.false_or, Bool.or_false, Bool.true_and, Bool.and_true, Bool.false_and, Bool.and_false, if_true, ite_true, eq_self, List.map_cons, List.map_nil, List.length_cons, List.length_nil, List.replicate_zero, List.replicate_succ, List.cons_append, List.nil_append, List.append_nil, Nat.sub_self, Nat.reduceAdd, Nat.reduceSub, Nat.zero_add, if_false, ite_false, Bool.not_true, Bool.not_false, Bool.false_eq_true, reduceIte, reduceCtorEq, pureXs, pureX, callD, decide_true, decide_false, Int.reduceEq, Int.reduceLT, Int.reduceLE, Int.reduceNeg, Int.reduceAdd, Int.reduceSub, Int.reduceMul, decide_eq_true_eq, Int.reduceNe, ne_eq, not_false_eq_true, not_true_eq_false, Option.some.injEq, c0, c1, c2, c3]
  cases decide (p = q) <;> simp only [before_ok _ hq hp, dC, exs, ex, ev, evs, evB, evA, gt0, gtS, pt0, ptS, ba, bs, ceq, cne, cin, cni, clt, cle, cgt, cge, eqi, bo1, io1, ret1, ret2, ret3, ret4, ret5, ret6, ret7, mv1, mv2, mv3, mv4, mv5, sgΦ, sgΦm, sgS, sgM, sgMt, sgI, sgA, putAll, iosOf, is1, is2, is3, shd, bk0, bk1, bk2, mt2, mt3, mt4, mt5, us1, us2, us3, us4, ixt, ixl, ixL, ixT, ax0, ax1, ax2, ax3, abs1, int11, len1, len2, len3, len4, Option.bind_some, Option.map_some, Option.bind_none, Option.map_none, Bool.true_or, Bool.or_true, Bool.false_or, Bool.or_false, Bool.true_and, Bool.and_true, Bool.false_and, Bool.and_false, if_true, ite_true, eq_self, List.map_cons, List.map_nil, List.length_cons, List.length_nil, List.replicate_zero, List.replicate_succ, List.cons_append, List.nil_append, List.append_nil, Nat.sub_self, Nat.reduceAdd, Nat.reduceSub, Nat.zero_add, if_false, ite_false, Bool.not_true, Bool.not_false, Bool.false_eq_true, reduceIte, reduceCtorEq, pureXs, pureX, callD, decide_true, decide_false, Int.reduceEq, Int.reduceLT, Int.reduceLE, Int.reduceNeg, Int.reduceAdd, Int.reduceSub, Int.reduceMul, decide_eq_true_eq, Int.reduceNe, ne_eq, not_false_eq_true, not_true_eq_false, Option.some.injEq, c0, c1, c2, c3]
  cases befM q p <;> simp only [dC, exs, ex, ev, evs, evB, evA, gt0, gtS, pt0, ptS, ba, bs, ceq, cne, cin, cni, clt, cle, cgt, cge, eqi, bo1, io1, ret1, ret2, ret3, ret4, ret5, ret6, ret7, mv1, mv2, mv3, mv4, mv5, sgΦ, sgΦm, sgS, sgM, sgMt, sgI, sgA, putAll, iosOf, is1, is2, is3, shd, bk0, bk1, bk2, mt2, mt3, mt4, mt5, us1, us2, us3, us4, ixt, ixl, ixL, ixT, ax0, ax1, ax2, ax3, abs1, int11, len1, len2, len3, len4, Option.bind_some, Option.map_some, Option.bind_none, Option.map_none, Bool.true_or, Bool.or_true, Bool.false_or, Bool.or_false, Bool.true_and, Bool.and_true, Bool.false_and, Bool.and_false, if_true, ite_true, eq_self, List.map_cons, List.map_nil, List.length_cons, List.length_nil, List.replicate_zero, List.replicate_succ, List.cons_append, List.nil_append, List.append_nil, Nat.sub_self, Nat.reduceAdd, Nat.reduceSub, Nat.zero_add, if_false, ite_false, Bool.not_true, Bool.not_false, Bool.false_eq_true, reduceIte, reduceCtorEq, pureXs, pureX, callD, decide_true, decide_false, Int.reduceEq, Int.reduceLT, Int.reduceLE, Int.reduceNeg, Int.reduceAdd, Int.reduceSub, Int.reduceMul, decide_eq_true_eq, Int.reduceNe, ne_eq, not_false_eq_true, not_true_eq_false, Option.some.injEq, c0, c1, c2, c3]
def liesM : Pc → Pt → Bool
  | .dot a, p => decide (p = a)
  | .str a b, p => (match decide (sideM a b p = 0) with
    | true => (match !befM p a with
      | true => !befM b p
      | false => false)
    | false => false)
  | _, _ => false
theorem lies_dot (n : Nat) {a p : Pt} : run Pr (n + 1) 17 [.sh (dC (.dot a)), .sh (dP p)] = some (.sh (.bl (liesM (.dot a) p)), []) := by
  rw [r17]
  simp only [d_lies_on, dC, eqdP, k_dot_dot, liesM, exs, ex, ev, evs, evB, evA, gt0, gtS, pt0, ptS, ba, bs, ceq, cne, cin, cni, clt, cle, cgt, cge, eqi, bo1, io1, ret1, ret2, ret3, ret4, ret5, ret6, ret7, mv1, mv2, mv3, mv4, mv5, sgΦ, sgΦm, sgS, sgM, sgMt, sgI, sgA, putAll, iosOf, is1, is2, is3, shd, bk0, bk1, bk2, mt2, mt3, mt4, mt5, us1, us2, us3, us4, ixt, ixl, ixL, ixT, ax0, ax1, ax2, ax3, abs1, int11, len1, len2, len3, len4, Option.bind_some, Option.map_some, Option.bind_none, Option.map_none, Bool.true_or, Bool.or_true, Bool.false_or, Bool.or_false, Bool.true_and, Bool.and_true, Bool.false_and, Bool.and_false, if_true, ite_true, eq_self, List.map_cons, List.map_nil, List.length_cons, List.length_nil, List.replicate_zero, List.replicate_succ, List.cons_append, List.nil_append, List.append_nil, Nat.sub_self, Nat.reduceAdd, Nat.reduceSub, Nat.zero_add, if_false, ite_false, Bool.not_true, Bool.not_false, Bool.false_eq_true, reduceIte, reduceCtorEq, pureXs, pureX, callD, decide_true, decide_false, Int.reduceEq, Int.reduceLT, Int.reduceLE, Int.reduceNeg, Int.reduceAdd, Int.reduceSub, Int.reduceMul, decide_eq_true_eq, Int.reduceNe, ne_eq, not_false_eq_true, not_true_eq_false, Option.some.injEq, c0, c1, c2, c3]
theorem lies_str (n : Nat) {a b p : Pt} (ha : Bp 60 a) (hb : Bp 60 b) (hp : Bp 60 p) : run Pr (n + 6) 17 [.sh (dC (.str a b)), .sh (dP p)] = some (.sh (.bl (liesM (.str a b) p)), []) := by
  have a' := ha.mono (show 60 ≤ 250 by decide)
  have b' := hb.mono (show 60 ≤ 250 by decide)
  have p' := hp.mono (show 60 ≤ 250 by decide)
  rw [r17]
  simp only [d_lies_on, dC, k_stretch_dot, g14, g15, show d_side.io = [] from rfl, show d_before.io = [] from rfl, side_ok _ ha hb hp, before_ok _ p' a', before_ok _ b' p', liesM, exs, ex, ev, evs, evB, evA, gt0, gtS, pt0, ptS, ba, bs, ceq, cne, cin, cni, clt, cle, cgt, cge, eqi, bo1, io1, ret1, ret2, ret3, ret4, ret5, ret6, ret7, mv1, mv2, mv3, mv4, mv5, sgΦ, sgΦm, sgS, sgM, sgMt, sgI, sgA, putAll, iosOf, is1, is2, is3, shd, bk0, bk1, bk2, mt2, mt3, mt4, mt5, us1, us2, us3, us4, ixt, ixl, ixL, ixT, ax0, ax1, ax2, ax3, abs1, int11, len1, len2, len3, len4, Option.bind_some, Option.map_some, Option.bind_none, Option.map_none, Bool.true_or, Bool.or_true, Bool.false_or, Bool.or_false, Bool.true_and, Bool.and_true, Bool.false_and, Bool.and_false, if_true, ite_true, eq_self, List.map_cons, List.map_nil, List.length_cons, List.length_nil, List.replicate_zero, List.replicate_succ, List.cons_append, List.nil_append, List.append_nil, Nat.sub_self, Nat.reduceAdd, Nat.reduceSub, Nat.zero_add, if_false, ite_false, Bool.not_true, Bool.not_false, Bool.false_eq_true, reduceIte, reduceCtorEq, pureXs, pureX, callD, decide_true, decide_false, Int.reduceEq, Int.reduceLT, Int.reduceLE, Int.reduceNeg, Int.reduceAdd, Int.reduceSub, Int.reduceMul, decide_eq_true_eq, Int.reduceNe, ne_eq, not_false_eq_true, not_true_eq_false, Option.some.injEq, c0, c1, c2, c3]
  cases decide (sideM a b p = 0) <;> simp only [exs, ex, ev, evs, evB, evA, gt0, gtS, pt0, ptS, ba, bs, ceq, cne, cin, cni, clt, cle, cgt, cge, eqi, bo1, io1, ret1, ret2, ret3, ret4, ret5, ret6, ret7, mv1, mv2, mv3, mv4, mv5, sgΦ, sgΦm, sgS, sgM, sgMt, sgI, sgA, putAll, iosOf, is1, is2, is3, shd, bk0, bk1, bk2, mt2, mt3, mt4, mt5, us1, us2, us3, us4, ixt, ixl, ixL, ixT, ax0, ax1, ax2, ax3, abs1, int11, len1, len2, len3, len4, Option.bind_some, Option.map_some, Option.bind_none, Option.map_none, Bool.true_or, Bool.or_true, Bool.false_or, Bool.or_false, Bool.true_and, Bool.and_true, Bool.false_and, Bool.and_false, if_true, ite_true, eq_self, List.map_cons, List.map_nil, List.length_cons, List.length_nil, List.replicate_zero, List.replicate_succ, List.cons_append, List.nil_append, List.append_nil, Nat.sub_self, Nat.reduceAdd, Nat.reduceSub, Nat.zero_add, if_false, ite_false, Bool.not_true, Bool.not_false, Bool.false_eq_true, reduceIte, reduceCtorEq, pureXs, pureX, callD, decide_true, decide_false, Int.reduceEq, Int.reduceLT, Int.reduceLE, Int.reduceNeg, Int.reduceAdd, Int.reduceSub, Int.reduceMul, decide_eq_true_eq, Int.reduceNe, ne_eq, not_false_eq_true, not_true_eq_false, Option.some.injEq, c0, c1, c2, c3]
  cases (!befM p a) <;> simp only [exs, ex, ev, evs, evB, evA, gt0, gtS, pt0, ptS, ba, bs, ceq, cne, cin, cni, clt, cle, cgt, cge, eqi, bo1, io1, ret1, ret2, ret3, ret4, ret5, ret6, ret7, mv1, mv2, mv3, mv4, mv5, sgΦ, sgΦm, sgS, sgM, sgMt, sgI, sgA, putAll, iosOf, is1, is2, is3, shd, bk0, bk1, bk2, mt2, mt3, mt4, mt5, us1, us2, us3, us4, ixt, ixl, ixL, ixT, ax0, ax1, ax2, ax3, abs1, int11, len1, len2, len3, len4, Option.bind_some, Option.map_some, Option.bind_none, Option.map_none, Bool.true_or, Bool.or_true, Bool.false_or, Bool.or_false, Bool.true_and, Bool.and_true, Bool.false_and, Bool.and_false, if_true, ite_true, eq_self, List.map_cons, List.map_nil, List.length_cons, List.length_nil, List.replicate_zero, List.replicate_succ, List.cons_append, List.nil_append, List.append_nil, Nat.sub_self, Nat.reduceAdd, Nat.reduceSub, Nat.zero_add, if_false, ite_false, Bool.not_true, Bool.not_false, Bool.false_eq_true, reduceIte, reduceCtorEq, pureXs, pureX, callD, decide_true, decide_false, Int.reduceEq, Int.reduceLT, Int.reduceLE, Int.reduceNeg, Int.reduceAdd, Int.reduceSub, Int.reduceMul, decide_eq_true_eq, Int.reduceNe, ne_eq, not_false_eq_true, not_true_eq_false, Option.some.injEq, c0, c1, c2, c3]
def quarterM (u v : Pt) : Int :=
  match decide (0 < sgn (alongM u v)) with
  | true => (match decide (0 ≤ sgn (acrossM u v)) with
    | true => 0
    | false => (match decide (0 < sgn (acrossM u v)) with
      | true => 1
      | false => (match decide (sgn (alongM u v) < 0) with
        | true => 2
        | false => 3)))
  | false => (match decide (0 < sgn (acrossM u v)) with
      | true => 1
      | false => (match decide (sgn (alongM u v) < 0) with
        | true => 2
        | false => 3))
theorem quarter_ok (n : Nat) {u v : Pt} (hu : Bp 120 u) (hv : Bp 120 v) : run Pr (n + 5) 18 [.sh (dP u), .sh (dP v)] = some (.sh (.int (quarterM u v)), []) := by
  rw [r18]
  simp only [d_quarter_of, g10, g11, g13, show d_along.io = [] from rfl, show d_across.io = [] from rfl, show d_sign_of.io = [] from rfl, along_ok _ hu hv, across_ok _ hu hv, sign_ok, exs, ex, ev, evs, evB, evA, gt0, gtS, pt0, ptS, ba, bs, ceq, cne, cin, cni, clt, cle, cgt, cge, eqi, bo1, io1, ret1, ret2, ret3, ret4, ret5, ret6, ret7, mv1, mv2, mv3, mv4, mv5, sgΦ, sgΦm, sgS, sgM, sgMt, sgI, sgA, putAll, iosOf, is1, is2, is3, shd, bk0, bk1, bk2, mt2, mt3, mt4, mt5, us1, us2, us3, us4, ixt, ixl, ixL, ixT, ax0, ax1, ax2, ax3, abs1, int11, len1, len2, len3, len4, Option.bind_some, Option.map_some, Option.bind_none, Option.map_none, Bool.true_or, Bool.or_true, Bool.false_or, Bool.or_false, Bool.true_and, Bool.and_true, Bool.false_and, Bool.and_false, if_true, ite_true, eq_self, List.map_cons, List.map_nil, List.length_cons, List.length_nil, List.replicate_zero, List.replicate_succ, List.cons_append, List.nil_append, List.append_nil, Nat.sub_self, Nat.reduceAdd, Nat.reduceSub, Nat.zero_add, if_false, ite_false, Bool.not_true, Bool.not_false, Bool.false_eq_true, reduceIte, reduceCtorEq, pureXs, pureX, callD, decide_true, decide_false, Int.reduceEq, Int.reduceLT, Int.reduceLE, Int.reduceNeg, Int.reduceAdd, Int.reduceSub, Int.reduceMul, decide_eq_true_eq, Int.reduceNe, ne_eq, not_false_eq_true, not_true_eq_false, Option.some.injEq, c0, c1, c2, c3]
  unfold quarterM
  cases decide (0 < sgn (alongM u v)) <;> simp only [exs, ex, ev, evs, evB, evA, gt0, gtS, pt0, ptS, ba, bs, ceq, cne, cin, cni, clt, cle, cgt, cge, eqi, bo1, io1, ret1, ret2, ret3, ret4, ret5, ret6, ret7, mv1, mv2, mv3, mv4, mv5, sgΦ, sgΦm, sgS, sgM, sgMt, sgI, sgA, putAll, iosOf, is1, is2, is3, shd, bk0, bk1, bk2, mt2, mt3, mt4, mt5, us1, us2, us3, us4, ixt, ixl, ixL, ixT, ax0, ax1, ax2, ax3, abs1, int11, len1, len2, len3, len4, Option.bind_some, Option.map_some, Option.bind_none, Option.map_none, Bool.true_or, Bool.or_true, Bool.false_or, Bool.or_false, Bool.true_and, Bool.and_true, Bool.false_and, Bool.and_false, if_true, ite_true, eq_self, List.map_cons, List.map_nil, List.length_cons, List.length_nil, List.replicate_zero, List.replicate_succ, List.cons_append, List.nil_append, List.append_nil, Nat.sub_self, Nat.reduceAdd, Nat.reduceSub, Nat.zero_add, if_false, ite_false, Bool.not_true, Bool.not_false, Bool.false_eq_true, reduceIte, reduceCtorEq, pureXs, pureX, callD, decide_true, decide_false, Int.reduceEq, Int.reduceLT, Int.reduceLE, Int.reduceNeg, Int.reduceAdd, Int.reduceSub, Int.reduceMul, decide_eq_true_eq, Int.reduceNe, ne_eq, not_false_eq_true, not_true_eq_false, Option.some.injEq, c0, c1, c2, c3]
  · cases decide (0 < sgn (acrossM u v)) <;> simp only [exs, ex, ev, evs, evB, evA, gt0, gtS, pt0, ptS, ba, bs, ceq, cne, cin, cni, clt, cle, cgt, cge, eqi, bo1, io1, ret1, ret2, ret3, ret4, ret5, ret6, ret7, mv1, mv2, mv3, mv4, mv5, sgΦ, sgΦm, sgS, sgM, sgMt, sgI, sgA, putAll, iosOf, is1, is2, is3, shd, bk0, bk1, bk2, mt2, mt3, mt4, mt5, us1, us2, us3, us4, ixt, ixl, ixL, ixT, ax0, ax1, ax2, ax3, abs1, int11, len1, len2, len3, len4, Option.bind_some, Option.map_some, Option.bind_none, Option.map_none, Bool.true_or, Bool.or_true, Bool.false_or, Bool.or_false, Bool.true_and, Bool.and_true, Bool.false_and, Bool.and_false, if_true, ite_true, eq_self, List.map_cons, List.map_nil, List.length_cons, List.length_nil, List.replicate_zero, List.replicate_succ, List.cons_append, List.nil_append, List.append_nil, Nat.sub_self, Nat.reduceAdd, Nat.reduceSub, Nat.zero_add, if_false, ite_false, Bool.not_true, Bool.not_false, Bool.false_eq_true, reduceIte, reduceCtorEq, pureXs, pureX, callD, decide_true, decide_false, Int.reduceEq, Int.reduceLT, Int.reduceLE, Int.reduceNeg, Int.reduceAdd, Int.reduceSub, Int.reduceMul, decide_eq_true_eq, Int.reduceNe, ne_eq, not_false_eq_true, not_true_eq_false, Option.some.injEq, c0, c1, c2, c3]
    cases decide (sgn (alongM u v) < 0) <;> simp only [exs, ex, ev, evs, evB, evA, gt0, gtS, pt0, ptS, ba, bs, ceq, cne, cin, cni, clt, cle, cgt, cge, eqi, bo1, io1, ret1, ret2, ret3, ret4, ret5, ret6, ret7, mv1, mv2, mv3, mv4, mv5, sgΦ, sgΦm, sgS, sgM, sgMt, sgI, sgA, putAll, iosOf, is1, is2, is3, shd, bk0, bk1, bk2, mt2, mt3, mt4, mt5, us1, us2, us3, us4, ixt, ixl, ixL, ixT, ax0, ax1, ax2, ax3, abs1, int11, len1, len2, len3, len4, Option.bind_some, Option.map_some, Option.bind_none, Option.map_none, Bool.true_or, Bool.or_true, Bool.false_or, Bool.or_false, Bool.true_and, Bool.and_true, Bool.false_and, Bool.and_false, if_true, ite_true, eq_self, List.map_cons, List.map_nil, List.length_cons, List.length_nil, List.replicate_zero, List.replicate_succ, List.cons_append, List.nil_append, List.append_nil, Nat.sub_self, Nat.reduceAdd, Nat.reduceSub, Nat.zero_add, if_false, ite_false, Bool.not_true, Bool.not_false, Bool.false_eq_true, reduceIte, reduceCtorEq, pureXs, pureX, callD, decide_true, decide_false, Int.reduceEq, Int.reduceLT, Int.reduceLE, Int.reduceNeg, Int.reduceAdd, Int.reduceSub, Int.reduceMul, decide_eq_true_eq, Int.reduceNe, ne_eq, not_false_eq_true, not_true_eq_false, Option.some.injEq, c0, c1, c2, c3]
  · cases decide (0 ≤ sgn (acrossM u v)) <;> simp only [exs, ex, ev, evs, evB, evA, gt0, gtS, pt0, ptS, ba, bs, ceq, cne, cin, cni, clt, cle, cgt, cge, eqi, bo1, io1, ret1, ret2, ret3, ret4, ret5, ret6, ret7, mv1, mv2, mv3, mv4, mv5, sgΦ, sgΦm, sgS, sgM, sgMt, sgI, sgA, putAll, iosOf, is1, is2, is3, shd, bk0, bk1, bk2, mt2, mt3, mt4, mt5, us1, us2, us3, us4, ixt, ixl, ixL, ixT, ax0, ax1, ax2, ax3, abs1, int11, len1, len2, len3, len4, Option.bind_some, Option.map_some, Option.bind_none, Option.map_none, Bool.true_or, Bool.or_true, Bool.false_or, Bool.or_false, Bool.true_and, Bool.and_true, Bool.false_and, Bool.and_false, if_true, ite_true, eq_self, List.map_cons, List.map_nil, List.length_cons, List.length_nil, List.replicate_zero, List.replicate_succ, List.cons_append, List.nil_append, List.append_nil, Nat.sub_self, Nat.reduceAdd, Nat.reduceSub, Nat.zero_add, if_false, ite_false, Bool.not_true, Bool.not_false, Bool.false_eq_true, reduceIte, reduceCtorEq, pureXs, pureX, callD, decide_true, decide_false, Int.reduceEq, Int.reduceLT, Int.reduceLE, Int.reduceNeg, Int.reduceAdd, Int.reduceSub, Int.reduceMul, decide_eq_true_eq, Int.reduceNe, ne_eq, not_false_eq_true, not_true_eq_false, Option.some.injEq, c0, c1, c2, c3]
    cases decide (0 < sgn (acrossM u v)) <;> simp only [exs, ex, ev, evs, evB, evA, gt0, gtS, pt0, ptS, ba, bs, ceq, cne, cin, cni, clt, cle, cgt, cge, eqi, bo1, io1, ret1, ret2, ret3, ret4, ret5, ret6, ret7, mv1, mv2, mv3, mv4, mv5, sgΦ, sgΦm, sgS, sgM, sgMt, sgI, sgA, putAll, iosOf, is1, is2, is3, shd, bk0, bk1, bk2, mt2, mt3, mt4, mt5, us1, us2, us3, us4, ixt, ixl, ixL, ixT, ax0, ax1, ax2, ax3, abs1, int11, len1, len2, len3, len4, Option.bind_some, Option.map_some, Option.bind_none, Option.map_none, Bool.true_or, Bool.or_true, Bool.false_or, Bool.or_false, Bool.true_and, Bool.and_true, Bool.false_and, Bool.and_false, if_true, ite_true, eq_self, List.map_cons, List.map_nil, List.length_cons, List.length_nil, List.replicate_zero, List.replicate_succ, List.cons_append, List.nil_append, List.append_nil, Nat.sub_self, Nat.reduceAdd, Nat.reduceSub, Nat.zero_add, if_false, ite_false, Bool.not_true, Bool.not_false, Bool.false_eq_true, reduceIte, reduceCtorEq, pureXs, pureX, callD, decide_true, decide_false, Int.reduceEq, Int.reduceLT, Int.reduceLE, Int.reduceNeg, Int.reduceAdd, Int.reduceSub, Int.reduceMul, decide_eq_true_eq, Int.reduceNe, ne_eq, not_false_eq_true, not_true_eq_false, Option.some.injEq, c0, c1, c2, c3]
    cases decide (sgn (alongM u v) < 0) <;> simp only [exs, ex, ev, evs, evB, evA, gt0, gtS, pt0, ptS, ba, bs, ceq, cne, cin, cni, clt, cle, cgt, cge, eqi, bo1, io1, ret1, ret2, ret3, ret4, ret5, ret6, ret7, mv1, mv2, mv3, mv4, mv5, sgΦ, sgΦm, sgS, sgM, sgMt, sgI, sgA, putAll, iosOf, is1, is2, is3, shd, bk0, bk1, bk2, mt2, mt3, mt4, mt5, us1, us2, us3, us4, ixt, ixl, ixL, ixT, ax0, ax1, ax2, ax3, abs1, int11, len1, len2, len3, len4, Option.bind_some, Option.map_some, Option.bind_none, Option.map_none, Bool.true_or, Bool.or_true, Bool.false_or, Bool.or_false, Bool.true_and, Bool.and_true, Bool.false_and, Bool.and_false, if_true, ite_true, eq_self, List.map_cons, List.map_nil, List.length_cons, List.length_nil, List.replicate_zero, List.replicate_succ, List.cons_append, List.nil_append, List.append_nil, Nat.sub_self, Nat.reduceAdd, Nat.reduceSub, Nat.zero_add, if_false, ite_false, Bool.not_true, Bool.not_false, Bool.false_eq_true, reduceIte, reduceCtorEq, pureXs, pureX, callD, decide_true, decide_false, Int.reduceEq, Int.reduceLT, Int.reduceLE, Int.reduceNeg, Int.reduceAdd, Int.reduceSub, Int.reduceMul, decide_eq_true_eq, Int.reduceNe, ne_eq, not_false_eq_true, not_true_eq_false, Option.some.injEq, c0, c1, c2, c3]
def aheadM (c a p q : Pt) : Bool :=
  match !decide (quarterM (offM a c) (offM p c) = quarterM (offM a c) (offM q c)) with
  | true => decide (quarterM (offM a c) (offM p c) < quarterM (offM a c) (offM q c))
  | false => decide (0 < acrossM (offM p c) (offM q c))
theorem ahead_ok (n : Nat) {c a p q : Pt} (hc : Bp 60 c) (ha : Bp 60 a) (hp : Bp 60 p) (hq : Bp 60 q) : run Pr (n + 6) 19 [.sh (dP c), .sh (dP a), .sh (dP p), .sh (dP q)] = some (.sh (.bl (aheadM c a p q)), []) := by
  have c' := hc.mono (show 60 ≤ 250 by decide)
  have a' := ha.mono (show 60 ≤ 250 by decide)
  have p' := hp.mono (show 60 ≤ 250 by decide)
  have q' := hq.mono (show 60 ≤ 250 by decide)
  have ac := (ha.off hc).mono (show 60 + 1 ≤ 120 by decide)
  have pc := (hp.off hc).mono (show 60 + 1 ≤ 120 by decide)
  have qc := (hq.off hc).mono (show 60 + 1 ≤ 120 by decide)
  rw [r19]
  simp only [d_ahead, g7, g11, g18, show d_off.io = [] from rfl, show d_across.io = [] from rfl, show d_quarter_of.io = [] from rfl, off_ok _ a' c', off_ok _ p' c', off_ok _ q' c', quarter_ok _ ac pc, quarter_ok _ ac qc, across_ok _ pc qc, i0, exs, ex, ev, evs, evB, evA, gt0, gtS, pt0, ptS, ba, bs, ceq, cne, cin, cni, clt, cle, cgt, cge, eqi, bo1, io1, ret1, ret2, ret3, ret4, ret5, ret6, ret7, mv1, mv2, mv3, mv4, mv5, sgΦ, sgΦm, sgS, sgM, sgMt, sgI, sgA, putAll, iosOf, is1, is2, is3, shd, bk0, bk1, bk2, mt2, mt3, mt4, mt5, us1, us2, us3, us4, ixt, ixl, ixL, ixT, ax0, ax1, ax2, ax3, abs1, int11, len1, len2, len3, len4, Option.bind_some, Option.map_some, Option.bind_none, Option.map_none, Bool.true_or, Bool.or_true, Bool.false_or, Bool.or_false, Bool.true_and, Bool.and_true, Bool.false_and, Bool.and_false, if_true, ite_true, eq_self, List.map_cons, List.map_nil, List.length_cons, List.length_nil, List.replicate_zero, List.replicate_succ, List.cons_append, List.nil_append, List.append_nil, Nat.sub_self, Nat.reduceAdd, Nat.reduceSub, Nat.zero_add, if_false, ite_false, Bool.not_true, Bool.not_false, Bool.false_eq_true, reduceIte, reduceCtorEq, pureXs, pureX, callD, decide_true, decide_false, Int.reduceEq, Int.reduceLT, Int.reduceLE, Int.reduceNeg, Int.reduceAdd, Int.reduceSub, Int.reduceMul, decide_eq_true_eq, Int.reduceNe, ne_eq, not_false_eq_true, not_true_eq_false, Option.some.injEq, c0, c1, c2, c3]
  unfold aheadM
  cases (!decide (quarterM (offM a c) (offM p c) = quarterM (offM a c) (offM q c))) <;> simp only [across_ok _ pc qc, i0, exs, ex, ev, evs, evB, evA, gt0, gtS, pt0, ptS, ba, bs, ceq, cne, cin, cni, clt, cle, cgt, cge, eqi, bo1, io1, ret1, ret2, ret3, ret4, ret5, ret6, ret7, mv1, mv2, mv3, mv4, mv5, sgΦ, sgΦm, sgS, sgM, sgMt, sgI, sgA, putAll, iosOf, is1, is2, is3, shd, bk0, bk1, bk2, mt2, mt3, mt4, mt5, us1, us2, us3, us4, ixt, ixl, ixL, ixT, ax0, ax1, ax2, ax3, abs1, int11, len1, len2, len3, len4, Option.bind_some, Option.map_some, Option.bind_none, Option.map_none, Bool.true_or, Bool.or_true, Bool.false_or, Bool.or_false, Bool.true_and, Bool.and_true, Bool.false_and, Bool.and_false, if_true, ite_true, eq_self, List.map_cons, List.map_nil, List.length_cons, List.length_nil, List.replicate_zero, List.replicate_succ, List.cons_append, List.nil_append, List.append_nil, Nat.sub_self, Nat.reduceAdd, Nat.reduceSub, Nat.zero_add, if_false, ite_false, Bool.not_true, Bool.not_false, Bool.false_eq_true, reduceIte, reduceCtorEq, pureXs, pureX, callD, decide_true, decide_false, Int.reduceEq, Int.reduceLT, Int.reduceLE, Int.reduceNeg, Int.reduceAdd, Int.reduceSub, Int.reduceMul, decide_eq_true_eq, Int.reduceNe, ne_eq, not_false_eq_true, not_true_eq_false, Option.some.injEq, c0, c1, c2, c3]
def onM : Pc → Pt → Bool
  | .dot a, p => liesM (.dot a) p
  | .str a b, p => liesM (.str a b) p
  | .ring c r, p => decide (farM c p = farM c r)
  | .arc c a b, p => (match !decide (farM c p = farM c a) with
    | true => false
    | false => (match decide (p = a) with
      | true => true
      | false => (match decide (p = b) with
        | true => true
        | false => aheadM c a p b)))
theorem on_dot (n : Nat) {a p : Pt} : run Pr (n + 2) 20 [.sh (dC (.dot a)), .sh (dP p)] = some (.sh (.bl (onM (.dot a) p)), []) := by
  have h := lies_dot n (a := a) (p := p)
  rw [r20]
  simp only [dC] at h
  simp only [d_on, dC, k_dot_dot, g17, show d_lies_on.io = [] from rfl, h, onM, exs, ex, ev, evs, evB, evA, gt0, gtS, pt0, ptS, ba, bs, ceq, cne, cin, cni, clt, cle, cgt, cge, eqi, bo1, io1, ret1, ret2, ret3, ret4, ret5, ret6, ret7, mv1, mv2, mv3, mv4, mv5, sgΦ, sgΦm, sgS, sgM, sgMt, sgI, sgA, putAll, iosOf, is1, is2, is3, shd, bk0, bk1, bk2, mt2, mt3, mt4, mt5, us1, us2, us3, us4, ixt, ixl, ixL, ixT, ax0, ax1, ax2, ax3, abs1, int11, len1, len2, len3, len4, Option.bind_some, Option.map_some, Option.bind_none, Option.map_none, Bool.true_or, Bool.or_true, Bool.false_or, Bool.or_false, Bool.true_and, Bool.and_true, Bool.false_and, Bool.and_false, if_true, ite_true, eq_self, List.map_cons, List.map_nil, List.length_cons, List.length_nil, List.replicate_zero, List.replicate_succ, List.cons_append, List.nil_append, List.append_nil, Nat.sub_self, Nat.reduceAdd, Nat.reduceSub, Nat.zero_add, if_false, ite_false, Bool.not_true, Bool.not_false, Bool.false_eq_true, reduceIte, reduceCtorEq, pureXs, pureX, callD, decide_true, decide_false, Int.reduceEq, Int.reduceLT, Int.reduceLE, Int.reduceNeg, Int.reduceAdd, Int.reduceSub, Int.reduceMul, decide_eq_true_eq, Int.reduceNe, ne_eq, not_false_eq_true, not_true_eq_false, Option.some.injEq, c0, c1, c2, c3]
theorem on_str (n : Nat) {a b p : Pt} (ha : Bp 60 a) (hb : Bp 60 b) (hp : Bp 60 p) : run Pr (n + 7) 20 [.sh (dC (.str a b)), .sh (dP p)] = some (.sh (.bl (onM (.str a b) p)), []) := by
  have h := lies_str n ha hb hp
  rw [r20]
  simp only [dC] at h
  simp only [d_on, dC, k_stretch_dot, k_stretch_stretch, g17, show d_lies_on.io = [] from rfl, h, onM, exs, ex, ev, evs, evB, evA, gt0, gtS, pt0, ptS, ba, bs, ceq, cne, cin, cni, clt, cle, cgt, cge, eqi, bo1, io1, ret1, ret2, ret3, ret4, ret5, ret6, ret7, mv1, mv2, mv3, mv4, mv5, sgΦ, sgΦm, sgS, sgM, sgMt, sgI, sgA, putAll, iosOf, is1, is2, is3, shd, bk0, bk1, bk2, mt2, mt3, mt4, mt5, us1, us2, us3, us4, ixt, ixl, ixL, ixT, ax0, ax1, ax2, ax3, abs1, int11, len1, len2, len3, len4, Option.bind_some, Option.map_some, Option.bind_none, Option.map_none, Bool.true_or, Bool.or_true, Bool.false_or, Bool.or_false, Bool.true_and, Bool.and_true, Bool.false_and, Bool.and_false, if_true, ite_true, eq_self, List.map_cons, List.map_nil, List.length_cons, List.length_nil, List.replicate_zero, List.replicate_succ, List.cons_append, List.nil_append, List.append_nil, Nat.sub_self, Nat.reduceAdd, Nat.reduceSub, Nat.zero_add, if_false, ite_false, Bool.not_true, Bool.not_false, Bool.false_eq_true, reduceIte, reduceCtorEq, pureXs, pureX, callD, decide_true, decide_false, Int.reduceEq, Int.reduceLT, Int.reduceLE, Int.reduceNeg, Int.reduceAdd, Int.reduceSub, Int.reduceMul, decide_eq_true_eq, Int.reduceNe, ne_eq, not_false_eq_true, not_true_eq_false, Option.some.injEq, c0, c1, c2, c3]
theorem on_ring (n : Nat) {c r p : Pt} (hc : Bp 60 c) (hr : Bp 60 r) (hp : Bp 60 p) : run Pr (n + 6) 20 [.sh (dC (.ring c r)), .sh (dP p)] = some (.sh (.bl (onM (.ring c r) p)), []) := by
  rw [r20]
  simp only [d_on, dC, k_ring_dot, k_ring_stretch, k_ring_ring, g12, show d_far.io = [] from rfl, far_ok _ hc hp, far_ok _ hc hr, eqdI, onM, exs, ex, ev, evs, evB, evA, gt0, gtS, pt0, ptS, ba, bs, ceq, cne, cin, cni, clt, cle, cgt, cge, eqi, bo1, io1, ret1, ret2, ret3, ret4, ret5, ret6, ret7, mv1, mv2, mv3, mv4, mv5, sgΦ, sgΦm, sgS, sgM, sgMt, sgI, sgA, putAll, iosOf, is1, is2, is3, shd, bk0, bk1, bk2, mt2, mt3, mt4, mt5, us1, us2, us3, us4, ixt, ixl, ixL, ixT, ax0, ax1, ax2, ax3, abs1, int11, len1, len2, len3, len4, Option.bind_some, Option.map_some, Option.bind_none, Option.map_none, Bool.true_or, Bool.or_true, Bool.false_or, Bool.or_false, Bool.true_and, Bool.and_true, Bool.false_and, Bool.and_false, if_true, ite_true, eq_self, List.map_cons, List.map_nil, List.length_cons, List.length_nil, List.replicate_zero, List.replicate_succ, List.cons_append, List.nil_append, List.append_nil, Nat.sub_self, Nat.reduceAdd, Nat.reduceSub, Nat.zero_add, if_false, ite_false, Bool.not_true, Bool.not_false, Bool.false_eq_true, reduceIte, reduceCtorEq, pureXs, pureX, callD, decide_true, decide_false, Int.reduceEq, Int.reduceLT, Int.reduceLE, Int.reduceNeg, Int.reduceAdd, Int.reduceSub, Int.reduceMul, decide_eq_true_eq, Int.reduceNe, ne_eq, not_false_eq_true, not_true_eq_false, Option.some.injEq, c0, c1, c2, c3]
  cases decide (farM c p = farM c r) <;> simp only [k_ring_ring, exs, ex, ev, evs, evB, evA, gt0, gtS, pt0, ptS, ba, bs, ceq, cne, cin, cni, clt, cle, cgt, cge, eqi, bo1, io1, ret1, ret2, ret3, ret4, ret5, ret6, ret7, mv1, mv2, mv3, mv4, mv5, sgΦ, sgΦm, sgS, sgM, sgMt, sgI, sgA, putAll, iosOf, is1, is2, is3, shd, bk0, bk1, bk2, mt2, mt3, mt4, mt5, us1, us2, us3, us4, ixt, ixl, ixL, ixT, ax0, ax1, ax2, ax3, abs1, int11, len1, len2, len3, len4, Option.bind_some, Option.map_some, Option.bind_none, Option.map_none, Bool.true_or, Bool.or_true, Bool.false_or, Bool.or_false, Bool.true_and, Bool.and_true, Bool.false_and, Bool.and_false, if_true, ite_true, eq_self, List.map_cons, List.map_nil, List.length_cons, List.length_nil, List.replicate_zero, List.replicate_succ, List.cons_append, List.nil_append, List.append_nil, Nat.sub_self, Nat.reduceAdd, Nat.reduceSub, Nat.zero_add, if_false, ite_false, Bool.not_true, Bool.not_false, Bool.false_eq_true, reduceIte, reduceCtorEq, pureXs, pureX, callD, decide_true, decide_false, Int.reduceEq, Int.reduceLT, Int.reduceLE, Int.reduceNeg, Int.reduceAdd, Int.reduceSub, Int.reduceMul, decide_eq_true_eq, Int.reduceNe, ne_eq, not_false_eq_true, not_true_eq_false, Option.some.injEq, c0, c1, c2, c3]
theorem on_arc (n : Nat) {c a b p : Pt} (hc : Bp 60 c) (ha : Bp 60 a) (hb : Bp 60 b) (hp : Bp 60 p) : run Pr (n + 7) 20 [.sh (dC (.arc c a b)), .sh (dP p)] = some (.sh (.bl (onM (.arc c a b) p)), []) := by
  rw [r20]
  simp only [d_on, dC, k_arc_dot, k_arc_stretch, k_arc_ring, g12, g19, show d_far.io = [] from rfl, show d_ahead.io = [] from rfl, far_ok _ hc hp, far_ok _ hc ha, eqdI, eqdP, ahead_ok _ hc ha hp hb, onM, exs, ex, ev, evs, evB, evA, gt0, gtS, pt0, ptS, ba, bs, ceq, cne, cin, cni, clt, cle, cgt, cge, eqi, bo1, io1, ret1, ret2, ret3, ret4, ret5, ret6, ret7, mv1, mv2, mv3, mv4, mv5, sgΦ, sgΦm, sgS, sgM, sgMt, sgI, sgA, putAll, iosOf, is1, is2, is3, shd, bk0, bk1, bk2, mt2, mt3, mt4, mt5, us1, us2, us3, us4, ixt, ixl, ixL, ixT, ax0, ax1, ax2, ax3, abs1, int11, len1, len2, len3, len4, Option.bind_some, Option.map_some, Option.bind_none, Option.map_none, Bool.true_or, Bool.or_true, Bool.false_or, Bool.or_false, Bool.true_and, Bool.and_true, Bool.false_and, Bool.and_false, if_true, ite_true, eq_self, List.map_cons, List.map_nil, List.length_cons, List.length_nil, List.replicate_zero, List.replicate_succ, List.cons_append, List.nil_append, List.append_nil, Nat.sub_self, Nat.reduceAdd, Nat.reduceSub, Nat.zero_add, if_false, ite_false, Bool.not_true, Bool.not_false, Bool.false_eq_true, reduceIte, reduceCtorEq, pureXs, pureX, callD, decide_true, decide_false, Int.reduceEq, Int.reduceLT, Int.reduceLE, Int.reduceNeg, Int.reduceAdd, Int.reduceSub, Int.reduceMul, decide_eq_true_eq, Int.reduceNe, ne_eq, not_false_eq_true, not_true_eq_false, Option.some.injEq, c0, c1, c2, c3]
  cases (!decide (farM c p = farM c a)) <;> simp only [k_arc_ring, eqdP, exs, ex, ev, evs, evB, evA, gt0, gtS, pt0, ptS, ba, bs, ceq, cne, cin, cni, clt, cle, cgt, cge, eqi, bo1, io1, ret1, ret2, ret3, ret4, ret5, ret6, ret7, mv1, mv2, mv3, mv4, mv5, sgΦ, sgΦm, sgS, sgM, sgMt, sgI, sgA, putAll, iosOf, is1, is2, is3, shd, bk0, bk1, bk2, mt2, mt3, mt4, mt5, us1, us2, us3, us4, ixt, ixl, ixL, ixT, ax0, ax1, ax2, ax3, abs1, int11, len1, len2, len3, len4, Option.bind_some, Option.map_some, Option.bind_none, Option.map_none, Bool.true_or, Bool.or_true, Bool.false_or, Bool.or_false, Bool.true_and, Bool.and_true, Bool.false_and, Bool.and_false, if_true, ite_true, eq_self, List.map_cons, List.map_nil, List.length_cons, List.length_nil, List.replicate_zero, List.replicate_succ, List.cons_append, List.nil_append, List.append_nil, Nat.sub_self, Nat.reduceAdd, Nat.reduceSub, Nat.zero_add, if_false, ite_false, Bool.not_true, Bool.not_false, Bool.false_eq_true, reduceIte, reduceCtorEq, pureXs, pureX, callD, decide_true, decide_false, Int.reduceEq, Int.reduceLT, Int.reduceLE, Int.reduceNeg, Int.reduceAdd, Int.reduceSub, Int.reduceMul, decide_eq_true_eq, Int.reduceNe, ne_eq, not_false_eq_true, not_true_eq_false, Option.some.injEq, c0, c1, c2, c3]
  cases decide (p = a) <;> simp only [eqdP, exs, ex, ev, evs, evB, evA, gt0, gtS, pt0, ptS, ba, bs, ceq, cne, cin, cni, clt, cle, cgt, cge, eqi, bo1, io1, ret1, ret2, ret3, ret4, ret5, ret6, ret7, mv1, mv2, mv3, mv4, mv5, sgΦ, sgΦm, sgS, sgM, sgMt, sgI, sgA, putAll, iosOf, is1, is2, is3, shd, bk0, bk1, bk2, mt2, mt3, mt4, mt5, us1, us2, us3, us4, ixt, ixl, ixL, ixT, ax0, ax1, ax2, ax3, abs1, int11, len1, len2, len3, len4, Option.bind_some, Option.map_some, Option.bind_none, Option.map_none, Bool.true_or, Bool.or_true, Bool.false_or, Bool.or_false, Bool.true_and, Bool.and_true, Bool.false_and, Bool.and_false, if_true, ite_true, eq_self, List.map_cons, List.map_nil, List.length_cons, List.length_nil, List.replicate_zero, List.replicate_succ, List.cons_append, List.nil_append, List.append_nil, Nat.sub_self, Nat.reduceAdd, Nat.reduceSub, Nat.zero_add, if_false, ite_false, Bool.not_true, Bool.not_false, Bool.false_eq_true, reduceIte, reduceCtorEq, pureXs, pureX, callD, decide_true, decide_false, Int.reduceEq, Int.reduceLT, Int.reduceLE, Int.reduceNeg, Int.reduceAdd, Int.reduceSub, Int.reduceMul, decide_eq_true_eq, Int.reduceNe, ne_eq, not_false_eq_true, not_true_eq_false, Option.some.injEq, c0, c1, c2, c3]
  cases decide (p = b) <;> simp only [ahead_ok _ hc ha hp hb, exs, ex, ev, evs, evB, evA, gt0, gtS, pt0, ptS, ba, bs, ceq, cne, cin, cni, clt, cle, cgt, cge, eqi, bo1, io1, ret1, ret2, ret3, ret4, ret5, ret6, ret7, mv1, mv2, mv3, mv4, mv5, sgΦ, sgΦm, sgS, sgM, sgMt, sgI, sgA, putAll, iosOf, is1, is2, is3, shd, bk0, bk1, bk2, mt2, mt3, mt4, mt5, us1, us2, us3, us4, ixt, ixl, ixL, ixT, ax0, ax1, ax2, ax3, abs1, int11, len1, len2, len3, len4, Option.bind_some, Option.map_some, Option.bind_none, Option.map_none, Bool.true_or, Bool.or_true, Bool.false_or, Bool.or_false, Bool.true_and, Bool.and_true, Bool.false_and, Bool.and_false, if_true, ite_true, eq_self, List.map_cons, List.map_nil, List.length_cons, List.length_nil, List.replicate_zero, List.replicate_succ, List.cons_append, List.nil_append, List.append_nil, Nat.sub_self, Nat.reduceAdd, Nat.reduceSub, Nat.zero_add, if_false, ite_false, Bool.not_true, Bool.not_false, Bool.false_eq_true, reduceIte, reduceCtorEq, pureXs, pureX, callD, decide_true, decide_false, Int.reduceEq, Int.reduceLT, Int.reduceLE, Int.reduceNeg, Int.reduceAdd, Int.reduceSub, Int.reduceMul, decide_eq_true_eq, Int.reduceNe, ne_eq, not_false_eq_true, not_true_eq_false, Option.some.injEq, c0, c1, c2, c3]
theorem on_ok (n : Nat) {x : Pc} {p : Pt} (hx : Bc 60 x) (hp : Bp 60 p) : run Pr (n + 7) 20 [.sh (dC x), .sh (dP p)] = some (.sh (.bl (onM x p)), []) := by
  cases x with
  | dot a => exact on_dot (n + 5)
  | str a b => exact on_str n hx.1 hx.2 hp
  | ring c r => exact on_ring (n + 1) hx.1 hx.2 hp
  | arc c a b => exact on_arc n hx.1 hx.2.1 hx.2.2 hp
end K89

namespace K89
open PySem L2 Ev
def sameM (c r c' r' : Pt) : Bool := match decide (c = c') with
      | true => decide (farM c r = farM c' r')
      | false => false
theorem same_ok (n : Nat) {c r c' r' : Pt} {t t' : List D} {x x' : Str} (hx : inD (.str x) (.sh (.tup [.str "arc", .str "ring"])) = some true) (hc : Bp 60 c) (hr : Bp 60 r) (hc' : Bp 60 c') (hr' : Bp 60 r') :
    run Pr (n + 6) 29 [.sh (.tup (.str x :: dP c :: dP r :: t)), .sh (.tup (.str x' :: dP c' :: dP r' :: t'))] = some (.sh (.bl (sameM c r c' r')), []) := by
  rw [r29]
  simp only [d_same_circle, sameM, hx, eqdP, eqdI, g12, show d_far.io = [] from rfl, far_ok _ hc hr, far_ok _ hc' hr', exs, ex, ev, evs, evB, evA, gt0, gtS, pt0, ptS, ba, bs, ceq, cne, cin, cni, clt, cle, cgt, cge, eqi, bo1, io1, ret1, ret2, ret3, ret4, ret5, ret6, ret7, mv1, mv2, mv3, mv4, mv5, sgΦ, sgΦm, sgS, sgM, sgMt, sgI, sgA, putAll, iosOf, is1, is2, is3, shd, bk0, bk1, bk2, mt2, mt3, mt4, mt5, us1, us2, us3, us4, ixt, ixl, ixL, ixT, ax0, ax1, ax2, ax3, abs1, int11, len1, len2, len3, len4, Option.bind_some, Option.map_some, Option.bind_none, Option.map_none, Bool.true_or, Bool.or_true, Bool.false_or, Bool.or_false, Bool.true_and, Bool.and_true, Bool.false_and, Bool.and_false, if_true, ite_true, eq_self, List.map_cons, List.map_nil, List.length_cons, List.length_nil, List.replicate_zero, List.replicate_succ, List.cons_append, List.nil_append, List.append_nil, Nat.sub_self, Nat.reduceAdd, Nat.reduceSub, Nat.zero_add, if_false, ite_false, Bool.not_true, Bool.not_false, Bool.false_eq_true, reduceIte, reduceCtorEq, pureXs, pureX, callD, decide_true, decide_false, Int.reduceEq, Int.reduceLT, Int.reduceLE, Int.reduceNeg, Int.reduceAdd, Int.reduceSub, Int.reduceMul, decide_eq_true_eq, Int.reduceNe, ne_eq, not_false_eq_true, not_true_eq_false, Option.some.injEq, c0, c1, c2, c3]
  cases decide (c = c') <;> simp only [eqdP, eqdI, g12, show d_far.io = [] from rfl, far_ok _ hc hr, far_ok _ hc' hr', exs, ex, ev, evs, evB, evA, gt0, gtS, pt0, ptS, ba, bs, ceq, cne, cin, cni, clt, cle, cgt, cge, eqi, bo1, io1, ret1, ret2, ret3, ret4, ret5, ret6, ret7, mv1, mv2, mv3, mv4, mv5, sgΦ, sgΦm, sgS, sgM, sgMt, sgI, sgA, putAll, iosOf, is1, is2, is3, shd, bk0, bk1, bk2, mt2, mt3, mt4, mt5, us1, us2, us3, us4, ixt, ixl, ixL, ixT, ax0, ax1, ax2, ax3, abs1, int11, len1, len2, len3, len4, Option.bind_some, Option.map_some, Option.bind_none, Option.map_none, Bool.true_or, Bool.or_true, Bool.false_or, Bool.or_false, Bool.true_and, Bool.and_true, Bool.false_and, Bool.and_false, if_true, ite_true, eq_self, List.map_cons, List.map_nil, List.length_cons, List.length_nil, List.replicate_zero, List.replicate_succ, List.cons_append, List.nil_append, List.append_nil, Nat.sub_self, Nat.reduceAdd, Nat.reduceSub, Nat.zero_add, if_false, ite_false, Bool.not_true, Bool.not_false, Bool.false_eq_true, reduceIte, reduceCtorEq, pureXs, pureX, callD, decide_true, decide_false, Int.reduceEq, Int.reduceLT, Int.reduceLE, Int.reduceNeg, Int.reduceAdd, Int.reduceSub, Int.reduceMul, decide_eq_true_eq, Int.reduceNe, ne_eq, not_false_eq_true, not_true_eq_false, Option.some.injEq, c0, c1, c2, c3]
def comesM (c a b here goal : Pt) : Bool := match !decide (goal = here) with
  | true => (match onM (.arc c a b) goal with
    | true => !aheadM c here b goal
    | false => false)
  | false => false
theorem comes_ok (n : Nat) {c a b here goal : Pt} (hc : Bp 60 c) (ha : Bp 60 a) (hb : Bp 60 b) (hh : Bp 60 here) (hg : Bp 60 goal) :
    run Pr (n + 8) 30 [.sh (dC (.arc c a b)), .sh (dP here), .sh (dP goal)] = some (.sh (.bl (comesM c a b here goal)), []) := by
  have h := on_arc n hc ha hb hg
  rw [r30]
  simp only [dC] at h
  simp only [d_comes_to, dC, eqdP, g20, g19, show d_on.io = [] from rfl, show d_ahead.io = [] from rfl, h, ahead_ok _ hc hh hb hg, comesM, exs, ex, ev, evs, evB, evA, gt0, gtS, pt0, ptS, ba, bs, ceq, cne, cin, cni, clt, cle, cgt, cge, eqi, bo1, io1, ret1, ret2, ret3, ret4, ret5, ret6, ret7, mv1, mv2, mv3, mv4, mv5, sgΦ, sgΦm, sgS, sgM, sgMt, sgI, sgA, putAll, iosOf, is1, is2, is3, shd, bk0, bk1, bk2, mt2, mt3, mt4, mt5, us1, us2, us3, us4, ixt, ixl, ixL, ixT, ax0, ax1, ax2, ax3, abs1, int11, len1, len2, len3, len4, Option.bind_some, Option.map_some, Option.bind_none, Option.map_none, Bool.true_or, Bool.or_true, Bool.false_or, Bool.or_false, Bool.true_and, Bool.and_true, Bool.false_and, Bool.and_false, if_true, ite_true, eq_self, List.map_cons, List.map_nil, List.length_cons, List.length_nil, List.replicate_zero, List.replicate_succ, List.cons_append, List.nil_append, List.append_nil, Nat.sub_self, Nat.reduceAdd, Nat.reduceSub, Nat.zero_add, if_false, ite_false, Bool.not_true, Bool.not_false, Bool.false_eq_true, reduceIte, reduceCtorEq, pureXs, pureX, callD, decide_true, decide_false, Int.reduceEq, Int.reduceLT, Int.reduceLE, Int.reduceNeg, Int.reduceAdd, Int.reduceSub, Int.reduceMul, decide_eq_true_eq, Int.reduceNe, ne_eq, not_false_eq_true, not_true_eq_false, Option.some.injEq, c0, c1, c2, c3]
  cases (!decide (goal = here)) <;> simp only [g20, g19, show d_on.io = [] from rfl, show d_ahead.io = [] from rfl, h, ahead_ok _ hc hh hb hg, comesM, exs, ex, ev, evs, evB, evA, gt0, gtS, pt0, ptS, ba, bs, ceq, cne, cin, cni, clt, cle, cgt, cge, eqi, bo1, io1, ret1, ret2, ret3, ret4, ret5, ret6, ret7, mv1, mv2, mv3, mv4, mv5, sgΦ, sgΦm, sgS, sgM, sgMt, sgI, sgA, putAll, iosOf, is1, is2, is3, shd, bk0, bk1, bk2, mt2, mt3, mt4, mt5, us1, us2, us3, us4, ixt, ixl, ixL, ixT, ax0, ax1, ax2, ax3, abs1, int11, len1, len2, len3, len4, Option.bind_some, Option.map_some, Option.bind_none, Option.map_none, Bool.true_or, Bool.or_true, Bool.false_or, Bool.or_false, Bool.true_and, Bool.and_true, Bool.false_and, Bool.and_false, if_true, ite_true, eq_self, List.map_cons, List.map_nil, List.length_cons, List.length_nil, List.replicate_zero, List.replicate_succ, List.cons_append, List.nil_append, List.append_nil, Nat.sub_self, Nat.reduceAdd, Nat.reduceSub, Nat.zero_add, if_false, ite_false, Bool.not_true, Bool.not_false, Bool.false_eq_true, reduceIte, reduceCtorEq, pureXs, pureX, callD, decide_true, decide_false, Int.reduceEq, Int.reduceLT, Int.reduceLE, Int.reduceNeg, Int.reduceAdd, Int.reduceSub, Int.reduceMul, decide_eq_true_eq, Int.reduceNe, ne_eq, not_false_eq_true, not_true_eq_false, Option.some.injEq, c0, c1, c2, c3]
  cases onM (.arc c a b) goal <;> simp only [g20, g19, show d_on.io = [] from rfl, show d_ahead.io = [] from rfl, h, ahead_ok _ hc hh hb hg, comesM, exs, ex, ev, evs, evB, evA, gt0, gtS, pt0, ptS, ba, bs, ceq, cne, cin, cni, clt, cle, cgt, cge, eqi, bo1, io1, ret1, ret2, ret3, ret4, ret5, ret6, ret7, mv1, mv2, mv3, mv4, mv5, sgΦ, sgΦm, sgS, sgM, sgMt, sgI, sgA, putAll, iosOf, is1, is2, is3, shd, bk0, bk1, bk2, mt2, mt3, mt4, mt5, us1, us2, us3, us4, ixt, ixl, ixL, ixT, ax0, ax1, ax2, ax3, abs1, int11, len1, len2, len3, len4, Option.bind_some, Option.map_some, Option.bind_none, Option.map_none, Bool.true_or, Bool.or_true, Bool.false_or, Bool.or_false, Bool.true_and, Bool.and_true, Bool.false_and, Bool.and_false, if_true, ite_true, eq_self, List.map_cons, List.map_nil, List.length_cons, List.length_nil, List.replicate_zero, List.replicate_succ, List.cons_append, List.nil_append, List.append_nil, Nat.sub_self, Nat.reduceAdd, Nat.reduceSub, Nat.zero_add, if_false, ite_false, Bool.not_true, Bool.not_false, Bool.false_eq_true, reduceIte, reduceCtorEq, pureXs, pureX, callD, decide_true, decide_false, Int.reduceEq, Int.reduceLT, Int.reduceLE, Int.reduceNeg, Int.reduceAdd, Int.reduceSub, Int.reduceMul, decide_eq_true_eq, Int.reduceNe, ne_eq, not_false_eq_true, not_true_eq_false, Option.some.injEq, c0, c1, c2, c3]
def ckS (a b : Pt) (s : Pt × Pt) : Bool := match !decide (sideM a b s.1 = 0) with
  | true => true
  | false => !decide (sideM a b s.2 = 0)
def endS (a b : Pt) (s t : Pt × Pt) : Bool := match !onM (.str s.1 s.2) a with
  | true => false
  | false => onM (.str t.1 t.2) b
def straight1 (a b : Pt) (s : Pt × Pt) : Bool := match ckS a b s with
  | true => false
  | false => endS a b s s
def straight2 (a b : Pt) (s t : Pt × Pt) : Bool := match ckS a b s with
  | true => false
  | false => (match ckS a b t with
    | true => false
    | false => (match endS a b s t with
      | true => onM (.str t.1 t.2) s.2
      | false => false))
theorem straight1_ok (n : Nat) {a b : Pt} {s : Pt × Pt} (ha : Bp 60 a) (hb : Bp 60 b) (h1 : Bp 60 s.1) (h2 : Bp 60 s.2) :
    run Pr (n + 8) 28 [.sh (.lst [dC (.str s.1 s.2)]), .sh (dC (.str a b))] = some (.sh (.bl (straight1 a b s)), []) := by
  have o1 := on_str n h1 h2 ha
  have o2 := on_str n h1 h2 hb
  simp only [dC] at o1 o2
  rw [r28]
  simp only [d_straight_chain, dC, straight1, ckS, endS, k_stretch_stretch, g14, g20, show d_side.io = [] from rfl, show d_on.io = [] from rfl, side_ok _ ha hb h1, side_ok _ ha hb h2, o1, o2, Bool.not_true, Bool.not_false, exs, ex, ev, evs, evB, evA, gt0, gtS, pt0, ptS, ba, bs, ceq, cne, cin, cni, clt, cle, cgt, cge, eqi, bo1, io1, ret1, ret2, ret3, ret4, ret5, ret6, ret7, mv1, mv2, mv3, mv4, mv5, sgΦ, sgΦm, sgS, sgM, sgMt, sgI, sgA, putAll, iosOf, is1, is2, is3, shd, bk0, bk1, bk2, mt2, mt3, mt4, mt5, us1, us2, us3, us4, ixt, ixl, ixL, ixT, ax0, ax1, ax2, ax3, abs1, int11, len1, len2, len3, len4, Option.bind_some, Option.map_some, Option.bind_none, Option.map_none, Bool.true_or, Bool.or_true, Bool.false_or, Bool.or_false, Bool.true_and, Bool.and_true, Bool.false_and, Bool.and_false, if_true, ite_true, eq_self, List.map_cons, List.map_nil, List.length_cons, List.length_nil, List.replicate_zero, List.replicate_succ, List.cons_append, List.nil_append, List.append_nil, Nat.sub_self, Nat.reduceAdd, Nat.reduceSub, Nat.zero_add, if_false, ite_false, Bool.not_true, Bool.not_false, Bool.false_eq_true, reduceIte, reduceCtorEq, pureXs, pureX, callD, decide_true, decide_false, Int.reduceEq, Int.reduceLT, Int.reduceLE, Int.reduceNeg, Int.reduceAdd, Int.reduceSub, Int.reduceMul, decide_eq_true_eq, Int.reduceNe, ne_eq, not_false_eq_true, not_true_eq_false, Option.some.injEq, c0, c1, c2, c3, tupD, forL, itE, setTg, seqOf, lstOf, enumD, zipD, hidFree, tgSets, setss, sets, List.contains_cons, backO, backH, List.zip_cons_cons, List.zip_nil_left, List.zip_nil_right, List.foldl_cons, List.foldl_nil, compL, wipeE, backE, optI, isNonX, List.drop_zero, List.drop_succ_cons, List.take_succ_cons, List.take_zero, List.take_nil, List.drop_nil, LIM, Nat.reduceLeDiff, aN1, aN2, aN3, aN4, sl1, sl2, sl3, sl4, sl5, sl6]
  cases (!decide (sideM a b s.1 = 0)) <;> simp only [k_stretch_stretch, g14, g20, show d_side.io = [] from rfl, show d_on.io = [] from rfl, side_ok _ ha hb h1, side_ok _ ha hb h2, o1, o2, Bool.not_true, Bool.not_false, exs, ex, ev, evs, evB, evA, gt0, gtS, pt0, ptS, ba, bs, ceq, cne, cin, cni, clt, cle, cgt, cge, eqi, bo1, io1, ret1, ret2, ret3, ret4, ret5, ret6, ret7, mv1, mv2, mv3, mv4, mv5, sgΦ, sgΦm, sgS, sgM, sgMt, sgI, sgA, putAll, iosOf, is1, is2, is3, shd, bk0, bk1, bk2, mt2, mt3, mt4, mt5, us1, us2, us3, us4, ixt, ixl, ixL, ixT, ax0, ax1, ax2, ax3, abs1, int11, len1, len2, len3, len4, Option.bind_some, Option.map_some, Option.bind_none, Option.map_none, Bool.true_or, Bool.or_true, Bool.false_or, Bool.or_false, Bool.true_and, Bool.and_true, Bool.false_and, Bool.and_false, if_true, ite_true, eq_self, List.map_cons, List.map_nil, List.length_cons, List.length_nil, List.replicate_zero, List.replicate_succ, List.cons_append, List.nil_append, List.append_nil, Nat.sub_self, Nat.reduceAdd, Nat.reduceSub, Nat.zero_add, if_false, ite_false, Bool.not_true, Bool.not_false, Bool.false_eq_true, reduceIte, reduceCtorEq, pureXs, pureX, callD, decide_true, decide_false, Int.reduceEq, Int.reduceLT, Int.reduceLE, Int.reduceNeg, Int.reduceAdd, Int.reduceSub, Int.reduceMul, decide_eq_true_eq, Int.reduceNe, ne_eq, not_false_eq_true, not_true_eq_false, Option.some.injEq, c0, c1, c2, c3, tupD, forL, itE, setTg, seqOf, lstOf, enumD, zipD, hidFree, tgSets, setss, sets, List.contains_cons, backO, backH, List.zip_cons_cons, List.zip_nil_left, List.zip_nil_right, List.foldl_cons, List.foldl_nil, compL, wipeE, backE, optI, isNonX, List.drop_zero, List.drop_succ_cons, List.take_succ_cons, List.take_zero, List.take_nil, List.drop_nil, LIM, Nat.reduceLeDiff, aN1, aN2, aN3, aN4, sl1, sl2, sl3, sl4, sl5, sl6]
  cases (!decide (sideM a b s.2 = 0)) <;> simp only [k_stretch_stretch, g14, g20, show d_side.io = [] from rfl, show d_on.io = [] from rfl, side_ok _ ha hb h1, side_ok _ ha hb h2, o1, o2, Bool.not_true, Bool.not_false, exs, ex, ev, evs, evB, evA, gt0, gtS, pt0, ptS, ba, bs, ceq, cne, cin, cni, clt, cle, cgt, cge, eqi, bo1, io1, ret1, ret2, ret3, ret4, ret5, ret6, ret7, mv1, mv2, mv3, mv4, mv5, sgΦ, sgΦm, sgS, sgM, sgMt, sgI, sgA, putAll, iosOf, is1, is2, is3, shd, bk0, bk1, bk2, mt2, mt3, mt4, mt5, us1, us2, us3, us4, ixt, ixl, ixL, ixT, ax0, ax1, ax2, ax3, abs1, int11, len1, len2, len3, len4, Option.bind_some, Option.map_some, Option.bind_none, Option.map_none, Bool.true_or, Bool.or_true, Bool.false_or, Bool.or_false, Bool.true_and, Bool.and_true, Bool.false_and, Bool.and_false, if_true, ite_true, eq_self, List.map_cons, List.map_nil, List.length_cons, List.length_nil, List.replicate_zero, List.replicate_succ, List.cons_append, List.nil_append, List.append_nil, Nat.sub_self, Nat.reduceAdd, Nat.reduceSub, Nat.zero_add, if_false, ite_false, Bool.not_true, Bool.not_false, Bool.false_eq_true, reduceIte, reduceCtorEq, pureXs, pureX, callD, decide_true, decide_false, Int.reduceEq, Int.reduceLT, Int.reduceLE, Int.reduceNeg, Int.reduceAdd, Int.reduceSub, Int.reduceMul, decide_eq_true_eq, Int.reduceNe, ne_eq, not_false_eq_true, not_true_eq_false, Option.some.injEq, c0, c1, c2, c3, tupD, forL, itE, setTg, seqOf, lstOf, enumD, zipD, hidFree, tgSets, setss, sets, List.contains_cons, backO, backH, List.zip_cons_cons, List.zip_nil_left, List.zip_nil_right, List.foldl_cons, List.foldl_nil, compL, wipeE, backE, optI, isNonX, List.drop_zero, List.drop_succ_cons, List.take_succ_cons, List.take_zero, List.take_nil, List.drop_nil, LIM, Nat.reduceLeDiff, aN1, aN2, aN3, aN4, sl1, sl2, sl3, sl4, sl5, sl6]
  cases onM (.str s.1 s.2) a <;> simp only [k_stretch_stretch, g14, g20, show d_side.io = [] from rfl, show d_on.io = [] from rfl, side_ok _ ha hb h1, side_ok _ ha hb h2, o1, o2, Bool.not_true, Bool.not_false, exs, ex, ev, evs, evB, evA, gt0, gtS, pt0, ptS, ba, bs, ceq, cne, cin, cni, clt, cle, cgt, cge, eqi, bo1, io1, ret1, ret2, ret3, ret4, ret5, ret6, ret7, mv1, mv2, mv3, mv4, mv5, sgΦ, sgΦm, sgS, sgM, sgMt, sgI, sgA, putAll, iosOf, is1, is2, is3, shd, bk0, bk1, bk2, mt2, mt3, mt4, mt5, us1, us2, us3, us4, ixt, ixl, ixL, ixT, ax0, ax1, ax2, ax3, abs1, int11, len1, len2, len3, len4, Option.bind_some, Option.map_some, Option.bind_none, Option.map_none, Bool.true_or, Bool.or_true, Bool.false_or, Bool.or_false, Bool.true_and, Bool.and_true, Bool.false_and, Bool.and_false, if_true, ite_true, eq_self, List.map_cons, List.map_nil, List.length_cons, List.length_nil, List.replicate_zero, List.replicate_succ, List.cons_append, List.nil_append, List.append_nil, Nat.sub_self, Nat.reduceAdd, Nat.reduceSub, Nat.zero_add, if_false, ite_false, Bool.not_true, Bool.not_false, Bool.false_eq_true, reduceIte, reduceCtorEq, pureXs, pureX, callD, decide_true, decide_false, Int.reduceEq, Int.reduceLT, Int.reduceLE, Int.reduceNeg, Int.reduceAdd, Int.reduceSub, Int.reduceMul, decide_eq_true_eq, Int.reduceNe, ne_eq, not_false_eq_true, not_true_eq_false, Option.some.injEq, c0, c1, c2, c3, tupD, forL, itE, setTg, seqOf, lstOf, enumD, zipD, hidFree, tgSets, setss, sets, List.contains_cons, backO, backH, List.zip_cons_cons, List.zip_nil_left, List.zip_nil_right, List.foldl_cons, List.foldl_nil, compL, wipeE, backE, optI, isNonX, List.drop_zero, List.drop_succ_cons, List.take_succ_cons, List.take_zero, List.take_nil, List.drop_nil, LIM, Nat.reduceLeDiff, aN1, aN2, aN3, aN4, sl1, sl2, sl3, sl4, sl5, sl6]
  cases onM (.str s.1 s.2) b <;> simp only [k_stretch_stretch, g14, g20, show d_side.io = [] from rfl, show d_on.io = [] from rfl, side_ok _ ha hb h1, side_ok _ ha hb h2, o1, o2, Bool.not_true, Bool.not_false, exs, ex, ev, evs, evB, evA, gt0, gtS, pt0, ptS, ba, bs, ceq, cne, cin, cni, clt, cle, cgt, cge, eqi, bo1, io1, ret1, ret2, ret3, ret4, ret5, ret6, ret7, mv1, mv2, mv3, mv4, mv5, sgΦ, sgΦm, sgS, sgM, sgMt, sgI, sgA, putAll, iosOf, is1, is2, is3, shd, bk0, bk1, bk2, mt2, mt3, mt4, mt5, us1, us2, us3, us4, ixt, ixl, ixL, ixT, ax0, ax1, ax2, ax3, abs1, int11, len1, len2, len3, len4, Option.bind_some, Option.map_some, Option.bind_none, Option.map_none, Bool.true_or, Bool.or_true, Bool.false_or, Bool.or_false, Bool.true_and, Bool.and_true, Bool.false_and, Bool.and_false, if_true, ite_true, eq_self, List.map_cons, List.map_nil, List.length_cons, List.length_nil, List.replicate_zero, List.replicate_succ, List.cons_append, List.nil_append, List.append_nil, Nat.sub_self, Nat.reduceAdd, Nat.reduceSub, Nat.zero_add, if_false, ite_false, Bool.not_true, Bool.not_false, Bool.false_eq_true, reduceIte, reduceCtorEq, pureXs, pureX, callD, decide_true, decide_false, Int.reduceEq, Int.reduceLT, Int.reduceLE, Int.reduceNeg, Int.reduceAdd, Int.reduceSub, Int.reduceMul, decide_eq_true_eq, Int.reduceNe, ne_eq, not_false_eq_true, not_true_eq_false, Option.some.injEq, c0, c1, c2, c3, tupD, forL, itE, setTg, seqOf, lstOf, enumD, zipD, hidFree, tgSets, setss, sets, List.contains_cons, backO, backH, List.zip_cons_cons, List.zip_nil_left, List.zip_nil_right, List.foldl_cons, List.foldl_nil, compL, wipeE, backE, optI, isNonX, List.drop_zero, List.drop_succ_cons, List.take_succ_cons, List.take_zero, List.take_nil, List.drop_nil, LIM, Nat.reduceLeDiff, aN1, aN2, aN3, aN4, sl1, sl2, sl3, sl4, sl5, sl6]
theorem straight2_ok (n : Nat) {a b : Pt} {s t : Pt × Pt} (ha : Bp 60 a) (hb : Bp 60 b) (h1 : Bp 60 s.1) (h2 : Bp 60 s.2) (h3 : Bp 60 t.1) (h4 : Bp 60 t.2) :
    run Pr (n + 8) 28 [.sh (.lst [dC (.str s.1 s.2), dC (.str t.1 t.2)]), .sh (dC (.str a b))] = some (.sh (.bl (straight2 a b s t)), []) := by
  have o1 := on_str n h1 h2 ha
  have o2 := on_str n h3 h4 hb
  have o3 := on_str n h3 h4 h2
  simp only [dC] at o1 o2 o3
  rw [r28]
  simp only [d_straight_chain, dC, straight2, ckS, endS, k_stretch_stretch, g14, g20, show d_side.io = [] from rfl, show d_on.io = [] from rfl, side_ok _ ha hb h1, side_ok _ ha hb h2, side_ok _ ha hb h3, side_ok _ ha hb h4, o1, o2, o3, Bool.not_true, Bool.not_false, exs, ex, ev, evs, evB, evA, gt0, gtS, pt0, ptS, ba, bs, ceq, cne, cin, cni, clt, cle, cgt, cge, eqi, bo1, io1, ret1, ret2, ret3, ret4, ret5, ret6, ret7, mv1, mv2, mv3, mv4, mv5, sgΦ, sgΦm, sgS, sgM, sgMt, sgI, sgA, putAll, iosOf, is1, is2, is3, shd, bk0, bk1, bk2, mt2, mt3, mt4, mt5, us1, us2, us3, us4, ixt, ixl, ixL, ixT, ax0, ax1, ax2, ax3, abs1, int11, len1, len2, len3, len4, Option.bind_some, Option.map_some, Option.bind_none, Option.map_none, Bool.true_or, Bool.or_true, Bool.false_or, Bool.or_false, Bool.true_and, Bool.and_true, Bool.false_and, Bool.and_false, if_true, ite_true, eq_self, List.map_cons, List.map_nil, List.length_cons, List.length_nil, List.replicate_zero, List.replicate_succ, List.cons_append, List.nil_append, List.append_nil, Nat.sub_self, Nat.reduceAdd, Nat.reduceSub, Nat.zero_add, if_false, ite_false, Bool.not_true, Bool.not_false, Bool.false_eq_true, reduceIte, reduceCtorEq, pureXs, pureX, callD, decide_true, decide_false, Int.reduceEq, Int.reduceLT, Int.reduceLE, Int.reduceNeg, Int.reduceAdd, Int.reduceSub, Int.reduceMul, decide_eq_true_eq, Int.reduceNe, ne_eq, not_false_eq_true, not_true_eq_false, Option.some.injEq, c0, c1, c2, c3, tupD, forL, itE, setTg, seqOf, lstOf, enumD, zipD, hidFree, tgSets, setss, sets, List.contains_cons, backO, backH, List.zip_cons_cons, List.zip_nil_left, List.zip_nil_right, List.foldl_cons, List.foldl_nil, compL, wipeE, backE, optI, isNonX, List.drop_zero, List.drop_succ_cons, List.take_succ_cons, List.take_zero, List.take_nil, List.drop_nil, LIM, Nat.reduceLeDiff, aN1, aN2, aN3, aN4, sl1, sl2, sl3, sl4, sl5, sl6]
  cases (!decide (sideM a b s.1 = 0)) <;> simp only [k_stretch_stretch, g14, g20, show d_side.io = [] from rfl, show d_on.io = [] from rfl, side_ok _ ha hb h1, side_ok _ ha hb h2, side_ok _ ha hb h3, side_ok _ ha hb h4, o1, o2, o3, Bool.not_true, Bool.not_false, exs, ex, ev, evs, evB, evA, gt0, gtS, pt0, ptS, ba, bs, ceq, cne, cin, cni, clt, cle, cgt, cge, eqi, bo1, io1, ret1, ret2, ret3, ret4, ret5, ret6, ret7, mv1, mv2, mv3, mv4, mv5, sgΦ, sgΦm, sgS, sgM, sgMt, sgI, sgA, putAll, iosOf, is1, is2, is3, shd, bk0, bk1, bk2, mt2, mt3, mt4, mt5, us1, us2, us3, us4, ixt, ixl, ixL, ixT, ax0, ax1, ax2, ax3, abs1, int11, len1, len2, len3, len4, Option.bind_some, Option.map_some, Option.bind_none, Option.map_none, Bool.true_or, Bool.or_true, Bool.false_or, Bool.or_false, Bool.true_and, Bool.and_true, Bool.false_and, Bool.and_false, if_true, ite_true, eq_self, List.map_cons, List.map_nil, List.length_cons, List.length_nil, List.replicate_zero, List.replicate_succ, List.cons_append, List.nil_append, List.append_nil, Nat.sub_self, Nat.reduceAdd, Nat.reduceSub, Nat.zero_add, if_false, ite_false, Bool.not_true, Bool.not_false, Bool.false_eq_true, reduceIte, reduceCtorEq, pureXs, pureX, callD, decide_true, decide_false, Int.reduceEq, Int.reduceLT, Int.reduceLE, Int.reduceNeg, Int.reduceAdd, Int.reduceSub, Int.reduceMul, decide_eq_true_eq, Int.reduceNe, ne_eq, not_false_eq_true, not_true_eq_false, Option.some.injEq, c0, c1, c2, c3, tupD, forL, itE, setTg, seqOf, lstOf, enumD, zipD, hidFree, tgSets, setss, sets, List.contains_cons, backO, backH, List.zip_cons_cons, List.zip_nil_left, List.zip_nil_right, List.foldl_cons, List.foldl_nil, compL, wipeE, backE, optI, isNonX, List.drop_zero, List.drop_succ_cons, List.take_succ_cons, List.take_zero, List.take_nil, List.drop_nil, LIM, Nat.reduceLeDiff, aN1, aN2, aN3, aN4, sl1, sl2, sl3, sl4, sl5, sl6]
  cases (!decide (sideM a b s.2 = 0)) <;> simp only [k_stretch_stretch, g14, g20, show d_side.io = [] from rfl, show d_on.io = [] from rfl, side_ok _ ha hb h1, side_ok _ ha hb h2, side_ok _ ha hb h3, side_ok _ ha hb h4, o1, o2, o3, Bool.not_true, Bool.not_false, exs, ex, ev, evs, evB, evA, gt0, gtS, pt0, ptS, ba, bs, ceq, cne, cin, cni, clt, cle, cgt, cge, eqi, bo1, io1, ret1, ret2, ret3, ret4, ret5, ret6, ret7, mv1, mv2, mv3, mv4, mv5, sgΦ, sgΦm, sgS, sgM, sgMt, sgI, sgA, putAll, iosOf, is1, is2, is3, shd, bk0, bk1, bk2, mt2, mt3, mt4, mt5, us1, us2, us3, us4, ixt, ixl, ixL, ixT, ax0, ax1, ax2, ax3, abs1, int11, len1, len2, len3, len4, Option.bind_some, Option.map_some, Option.bind_none, Option.map_none, Bool.true_or, Bool.or_true, Bool.false_or, Bool.or_false, Bool.true_and, Bool.and_true, Bool.false_and, Bool.and_false, if_true, ite_true, eq_self, List.map_cons, List.map_nil, List.length_cons, List.length_nil, List.replicate_zero, List.replicate_succ, List.cons_append, List.nil_append, List.append_nil, Nat.sub_self, Nat.reduceAdd, Nat.reduceSub, Nat.zero_add, if_false, ite_false, Bool.not_true, Bool.not_false, Bool.false_eq_true, reduceIte, reduceCtorEq, pureXs, pureX, callD, decide_true, decide_false, Int.reduceEq, Int.reduceLT, Int.reduceLE, Int.reduceNeg, Int.reduceAdd, Int.reduceSub, Int.reduceMul, decide_eq_true_eq, Int.reduceNe, ne_eq, not_false_eq_true, not_true_eq_false, Option.some.injEq, c0, c1, c2, c3, tupD, forL, itE, setTg, seqOf, lstOf, enumD, zipD, hidFree, tgSets, setss, sets, List.contains_cons, backO, backH, List.zip_cons_cons, List.zip_nil_left, List.zip_nil_right, List.foldl_cons, List.foldl_nil, compL, wipeE, backE, optI, isNonX, List.drop_zero, List.drop_succ_cons, List.take_succ_cons, List.take_zero, List.take_nil, List.drop_nil, LIM, Nat.reduceLeDiff, aN1, aN2, aN3, aN4, sl1, sl2, sl3, sl4, sl5, sl6]
  cases (!decide (sideM a b t.1 = 0)) <;> simp only [k_stretch_stretch, g14, g20, show d_side.io = [] from rfl, show d_on.io = [] from rfl, side_ok _ ha hb h1, side_ok _ ha hb h2, side_ok _ ha hb h3, side_ok _ ha hb h4, o1, o2, o3, Bool.not_true, Bool.not_false, exs, ex, ev, evs, evB, evA, gt0, gtS, pt0, ptS, ba, bs, ceq, cne, cin, cni, clt, cle, cgt, cge, eqi, bo1, io1, ret1, ret2, ret3, ret4, ret5, ret6, ret7, mv1, mv2, mv3, mv4, mv5, sgΦ, sgΦm, sgS, sgM, sgMt, sgI, sgA, putAll, iosOf, is1, is2, is3, shd, bk0, bk1, bk2, mt2, mt3, mt4, mt5, us1, us2, us3, us4, ixt, ixl, ixL, ixT, ax0, ax1, ax2, ax3, abs1, int11, len1, len2, len3, len4, Option.bind_some, Option.map_some, Option.bind_none, Option.map_none, Bool.true_or, Bool.or_true, Bool.false_or, Bool.or_false, Bool.true_and, Bool.and_true, Bool.false_and, Bool.and_false, if_true, ite_true, eq_self, List.map_cons, List.map_nil, List.length_cons, List.length_nil, List.replicate_zero, List.replicate_succ, List.cons_append, List.nil_append, List.append_nil, Nat.sub_self, Nat.reduceAdd, Nat.reduceSub, Nat.zero_add, if_false, ite_false, Bool.not_true, Bool.not_false, Bool.false_eq_true, reduceIte, reduceCtorEq, pureXs, pureX, callD, decide_true, decide_false, Int.reduceEq, Int.reduceLT, Int.reduceLE, Int.reduceNeg, Int.reduceAdd, Int.reduceSub, Int.reduceMul, decide_eq_true_eq, Int.reduceNe, ne_eq, not_false_eq_true, not_true_eq_false, Option.some.injEq, c0, c1, c2, c3, tupD, forL, itE, setTg, seqOf, lstOf, enumD, zipD, hidFree, tgSets, setss, sets, List.contains_cons, backO, backH, List.zip_cons_cons, List.zip_nil_left, List.zip_nil_right, List.foldl_cons, List.foldl_nil, compL, wipeE, backE, optI, isNonX, List.drop_zero, List.drop_succ_cons, List.take_succ_cons, List.take_zero, List.take_nil, List.drop_nil, LIM, Nat.reduceLeDiff, aN1, aN2, aN3, aN4, sl1, sl2, sl3, sl4, sl5, sl6]
  cases (!decide (sideM a b t.2 = 0)) <;> simp only [k_stretch_stretch, g14, g20, show d_side.io = [] from rfl, show d_on.io = [] from rfl, side_ok _ ha hb h1, side_ok _ ha hb h2, side_ok _ ha hb h3, side_ok _ ha hb h4, o1, o2, o3, Bool.not_true, Bool.not_false, exs, ex, ev, evs, evB, evA, gt0, gtS, pt0, ptS, ba, bs, ceq, cne, cin, cni, clt, cle, cgt, cge, eqi, bo1, io1, ret1, ret2, ret3, ret4, ret5, ret6, ret7, mv1, mv2, mv3, mv4, mv5, sgΦ, sgΦm, sgS, sgM, sgMt, sgI, sgA, putAll, iosOf, is1, is2, is3, shd, bk0, bk1, bk2, mt2, mt3, mt4, mt5, us1, us2, us3, us4, ixt, ixl, ixL, ixT, ax0, ax1, ax2, ax3, abs1, int11, len1, len2, len3, len4, Option.bind_some, Option.map_some, Option.bind_none, Option.map_none, Bool.true_or, Bool.or_true, Bool.false_or, Bool.or_false, Bool.true_and, Bool.and_true, Bool.false_and, Bool.and_false, if_true, ite_true, eq_self, List.map_cons, List.map_nil, List.length_cons, List.length_nil, List.replicate_zero, List.replicate_succ, List.cons_append, List.nil_append, List.append_nil, Nat.sub_self, Nat.reduceAdd, Nat.reduceSub, Nat.zero_add, if_false, ite_false, Bool.not_true, Bool.not_false, Bool.false_eq_true, reduceIte, reduceCtorEq, pureXs, pureX, callD, decide_true, decide_false, Int.reduceEq, Int.reduceLT, Int.reduceLE, Int.reduceNeg, Int.reduceAdd, Int.reduceSub, Int.reduceMul, decide_eq_true_eq, Int.reduceNe, ne_eq, not_false_eq_true, not_true_eq_false, Option.some.injEq, c0, c1, c2, c3, tupD, forL, itE, setTg, seqOf, lstOf, enumD, zipD, hidFree, tgSets, setss, sets, List.contains_cons, backO, backH, List.zip_cons_cons, List.zip_nil_left, List.zip_nil_right, List.foldl_cons, List.foldl_nil, compL, wipeE, backE, optI, isNonX, List.drop_zero, List.drop_succ_cons, List.take_succ_cons, List.take_zero, List.take_nil, List.drop_nil, LIM, Nat.reduceLeDiff, aN1, aN2, aN3, aN4, sl1, sl2, sl3, sl4, sl5, sl6]
  cases onM (.str s.1 s.2) a <;> simp only [k_stretch_stretch, g14, g20, show d_side.io = [] from rfl, show d_on.io = [] from rfl, side_ok _ ha hb h1, side_ok _ ha hb h2, side_ok _ ha hb h3, side_ok _ ha hb h4, o1, o2, o3, Bool.not_true, Bool.not_false, exs, ex, ev, evs, evB, evA, gt0, gtS, pt0, ptS, ba, bs, ceq, cne, cin, cni, clt, cle, cgt, cge, eqi, bo1, io1, ret1, ret2, ret3, ret4, ret5, ret6, ret7, mv1, mv2, mv3, mv4, mv5, sgΦ, sgΦm, sgS, sgM, sgMt, sgI, sgA, putAll, iosOf, is1, is2, is3, shd, bk0, bk1, bk2, mt2, mt3, mt4, mt5, us1, us2, us3, us4, ixt, ixl, ixL, ixT, ax0, ax1, ax2, ax3, abs1, int11, len1, len2, len3, len4, Option.bind_some, Option.map_some, Option.bind_none, Option.map_none, Bool.true_or, Bool.or_true, Bool.false_or, Bool.or_false, Bool.true_and, Bool.and_true, Bool.false_and, Bool.and_false, if_true, ite_true, eq_self, List.map_cons, List.map_nil, List.length_cons, List.length_nil, List.replicate_zero, List.replicate_succ, List.cons_append, List.nil_append, List.append_nil, Nat.sub_self, Nat.reduceAdd, Nat.reduceSub, Nat.zero_add, if_false, ite_false, Bool.not_true, Bool.not_false, Bool.false_eq_true, reduceIte, reduceCtorEq, pureXs, pureX, callD, decide_true, decide_false, Int.reduceEq, Int.reduceLT, Int.reduceLE, Int.reduceNeg, Int.reduceAdd, Int.reduceSub, Int.reduceMul, decide_eq_true_eq, Int.reduceNe, ne_eq, not_false_eq_true, not_true_eq_false, Option.some.injEq, c0, c1, c2, c3, tupD, forL, itE, setTg, seqOf, lstOf, enumD, zipD, hidFree, tgSets, setss, sets, List.contains_cons, backO, backH, List.zip_cons_cons, List.zip_nil_left, List.zip_nil_right, List.foldl_cons, List.foldl_nil, compL, wipeE, backE, optI, isNonX, List.drop_zero, List.drop_succ_cons, List.take_succ_cons, List.take_zero, List.take_nil, List.drop_nil, LIM, Nat.reduceLeDiff, aN1, aN2, aN3, aN4, sl1, sl2, sl3, sl4, sl5, sl6]
  cases onM (.str t.1 t.2) b <;> simp only [k_stretch_stretch, g14, g20, show d_side.io = [] from rfl, show d_on.io = [] from rfl, side_ok _ ha hb h1, side_ok _ ha hb h2, side_ok _ ha hb h3, side_ok _ ha hb h4, o1, o2, o3, Bool.not_true, Bool.not_false, exs, ex, ev, evs, evB, evA, gt0, gtS, pt0, ptS, ba, bs, ceq, cne, cin, cni, clt, cle, cgt, cge, eqi, bo1, io1, ret1, ret2, ret3, ret4, ret5, ret6, ret7, mv1, mv2, mv3, mv4, mv5, sgΦ, sgΦm, sgS, sgM, sgMt, sgI, sgA, putAll, iosOf, is1, is2, is3, shd, bk0, bk1, bk2, mt2, mt3, mt4, mt5, us1, us2, us3, us4, ixt, ixl, ixL, ixT, ax0, ax1, ax2, ax3, abs1, int11, len1, len2, len3, len4, Option.bind_some, Option.map_some, Option.bind_none, Option.map_none, Bool.true_or, Bool.or_true, Bool.false_or, Bool.or_false, Bool.true_and, Bool.and_true, Bool.false_and, Bool.and_false, if_true, ite_true, eq_self, List.map_cons, List.map_nil, List.length_cons, List.length_nil, List.replicate_zero, List.replicate_succ, List.cons_append, List.nil_append, List.append_nil, Nat.sub_self, Nat.reduceAdd, Nat.reduceSub, Nat.zero_add, if_false, ite_false, Bool.not_true, Bool.not_false, Bool.false_eq_true, reduceIte, reduceCtorEq, pureXs, pureX, callD, decide_true, decide_false, Int.reduceEq, Int.reduceLT, Int.reduceLE, Int.reduceNeg, Int.reduceAdd, Int.reduceSub, Int.reduceMul, decide_eq_true_eq, Int.reduceNe, ne_eq, not_false_eq_true, not_true_eq_false, Option.some.injEq, c0, c1, c2, c3, tupD, forL, itE, setTg, seqOf, lstOf, enumD, zipD, hidFree, tgSets, setss, sets, List.contains_cons, backO, backH, List.zip_cons_cons, List.zip_nil_left, List.zip_nil_right, List.foldl_cons, List.foldl_nil, compL, wipeE, backE, optI, isNonX, List.drop_zero, List.drop_succ_cons, List.take_succ_cons, List.take_zero, List.take_nil, List.drop_nil, LIM, Nat.reduceLeDiff, aN1, aN2, aN3, aN4, sl1, sl2, sl3, sl4, sl5, sl6]
  cases onM (.str t.1 t.2) s.2 <;> simp only [k_stretch_stretch, g14, g20, show d_side.io = [] from rfl, show d_on.io = [] from rfl, side_ok _ ha hb h1, side_ok _ ha hb h2, side_ok _ ha hb h3, side_ok _ ha hb h4, o1, o2, o3, Bool.not_true, Bool.not_false, exs, ex, ev, evs, evB, evA, gt0, gtS, pt0, ptS, ba, bs, ceq, cne, cin, cni, clt, cle, cgt, cge, eqi, bo1, io1, ret1, ret2, ret3, ret4, ret5, ret6, ret7, mv1, mv2, mv3, mv4, mv5, sgΦ, sgΦm, sgS, sgM, sgMt, sgI, sgA, putAll, iosOf, is1, is2, is3, shd, bk0, bk1, bk2, mt2, mt3, mt4, mt5, us1, us2, us3, us4, ixt, ixl, ixL, ixT, ax0, ax1, ax2, ax3, abs1, int11, len1, len2, len3, len4, Option.bind_some, Option.map_some, Option.bind_none, Option.map_none, Bool.true_or, Bool.or_true, Bool.false_or, Bool.or_false, Bool.true_and, Bool.and_true, Bool.false_and, Bool.and_false, if_true, ite_true, eq_self, List.map_cons, List.map_nil, List.length_cons, List.length_nil, List.replicate_zero, List.replicate_succ, List.cons_append, List.nil_append, List.append_nil, Nat.sub_self, Nat.reduceAdd, Nat.reduceSub, Nat.zero_add, if_false, ite_false, Bool.not_true, Bool.not_false, Bool.false_eq_true, reduceIte, reduceCtorEq, pureXs, pureX, callD, decide_true, decide_false, Int.reduceEq, Int.reduceLT, Int.reduceLE, Int.reduceNeg, Int.reduceAdd, Int.reduceSub, Int.reduceMul, decide_eq_true_eq, Int.reduceNe, ne_eq, not_false_eq_true, not_true_eq_false, Option.some.injEq, c0, c1, c2, c3, tupD, forL, itE, setTg, seqOf, lstOf, enumD, zipD, hidFree, tgSets, setss, sets, List.contains_cons, backO, backH, List.zip_cons_cons, List.zip_nil_left, List.zip_nil_right, List.foldl_cons, List.foldl_nil, compL, wipeE, backE, optI, isNonX, List.drop_zero, List.drop_succ_cons, List.take_succ_cons, List.take_zero, List.take_nil, List.drop_nil, LIM, Nat.reduceLeDiff, aN1, aN2, aN3, aN4, sl1, sl2, sl3, sl4, sl5, sl6]
def dA (x : Pt × Pt × Pt) : D := dC (.arc x.1 x.2.1 x.2.2)
structure Ba (k : Nat) (x : Pt × Pt × Pt) : Prop where
  c : Bp k x.1
  a : Bp k x.2.1
  b : Bp k x.2.2
def bentL (m : Int) : Nat → List (Pt × Pt × Pt) → Pt → Pt → Bool
  | _, [], _, _ => false
  | k, x :: xs, here, goal => match !onM (.arc x.1 x.2.1 x.2.2) here with
    | true => false
    | false => (match decide (x.2.2 = here) with
      | true => false
      | false => (match comesM x.1 x.2.1 x.2.2 here goal with
        | true => decide ((k : Int) = m - 1)
        | false => bentL m (k + 1) xs x.2.2 goal))
def bodyB : Sts := (.cons (.iff (.or_ (.cmp .ne (.idc (.var 5) 0) (.con (.str "arc"))) (.or_ (.not_ (.call 20 (.cons (.var 5) (.cons (.var 2) .nil)))) (.cmp .eq (.idc (.var 5) 3) (.var 2)))) (.cons (.ret (.con (.bl false))) .nil) .nil) (.cons (.iff (.call 30 (.cons (.var 5) (.cons (.var 2) (.cons (.var 3) .nil)))) (.cons (.ret (.cmp .eq (.var 4) (.bin .sub (.blt .len (.cons (.var 0) .nil)) (.con (.int 1))))) .nil) .nil) (.cons (.set 2 (.idc (.var 5) 3)) .nil)))
theorem bent_loop (n : Nat) (ps : List D) (pc : D) {goal : Pt} (hg : Bp 60 goal) : ∀ (xs : List (Pt × Pt × Pt)) (k : Nat) (here : Pt) (u v : Option O), (∀ x ∈ xs, Ba 60 x) → Bp 60 here →
    ∃ o, forL (.tp [4, 5]) (fun ρ => exs (Pr.sg (n + 8)) bodyB ρ) (enumD (xs.map dA) k) [some (.sh (.lst ps)), some (.sh pc), some (.sh (dP here)), some (.sh (dP goal)), u, v] = some o ∧ ((∃ ρ', o = .rt (.sh (.bl (bentL ps.length k xs here goal))) ρ') ∨ (∃ ρ', o = .nx ρ' ∧ bentL ps.length k xs here goal = false))
  | [], k, here, u, v, _, _ => ⟨_, rfl, .inr ⟨_, rfl, rfl⟩⟩
  | x :: xs, k, here, u, v, hx, hh => by
    have bx := hx x List.mem_cons_self
    have ih := bent_loop n ps pc hg xs (k + 1) x.2.2 (some (.sh (.int k))) (some (.sh (dA x))) (fun z hz => hx z (List.mem_cons_of_mem _ hz)) bx.b
    have o1 := on_arc (n + 1) bx.c bx.a bx.b hh
    have o2 := comes_ok n bx.c bx.a bx.b hh hg
    simp only [dC] at o1 o2
    have e : ∀ ρ0, forL (.tp [4, 5]) (fun ρ => exs (Pr.sg (n + 8)) bodyB ρ) (enumD ((x :: xs).map dA) k) ρ0 = (setTg (.tp [4, 5]) (.sh (tupD (.int k) (dA x))) ρ0).bind fun ρ1 => (exs (Pr.sg (n + 8)) bodyB ρ1).bind fun o => (match o with
      | .nx ρ => forL (.tp [4, 5]) (fun ρ => exs (Pr.sg (n + 8)) bodyB ρ) (enumD (xs.map dA) (k + 1)) ρ
      | .ct ρ => forL (.tp [4, 5]) (fun ρ => exs (Pr.sg (n + 8)) bodyB ρ) (enumD (xs.map dA) (k + 1)) ρ
      | .bk ρ => some (.nx ρ)
      | .rt o ρ => some (.rt o ρ)) := fun _ => rfl
    have es : setTg (.tp [4, 5]) (.sh (tupD (.int k) (dA x))) [some (.sh (.lst ps)), some (.sh pc), some (.sh (dP here)), some (.sh (dP goal)), u, v] = some [some (.sh (.lst ps)), some (.sh pc), some (.sh (dP here)), some (.sh (dP goal)), some (.sh (.int k)), some (.sh (dA x))] := rfl
    rw [e, es, Option.bind_some]
    have bd : exs (Pr.sg (n + 8)) bodyB [some (.sh (.lst ps)), some (.sh pc), some (.sh (dP here)), some (.sh (dP goal)), some (.sh (.int k)), some (.sh (dA x))] = some (match !onM (.arc x.1 x.2.1 x.2.2) here with
      | true => .rt (.sh (.bl false)) [some (.sh (.lst ps)), some (.sh pc), some (.sh (dP here)), some (.sh (dP goal)), some (.sh (.int k)), some (.sh (dA x))]
      | false => (match decide (x.2.2 = here) with
        | true => .rt (.sh (.bl false)) [some (.sh (.lst ps)), some (.sh pc), some (.sh (dP here)), some (.sh (dP goal)), some (.sh (.int k)), some (.sh (dA x))]
        | false => (match comesM x.1 x.2.1 x.2.2 here goal with
          | true => .rt (.sh (.bl (decide ((k : Int) = ps.length - 1)))) [some (.sh (.lst ps)), some (.sh pc), some (.sh (dP here)), some (.sh (dP goal)), some (.sh (.int k)), some (.sh (dA x))]
          | false => .nx [some (.sh (.lst ps)), some (.sh pc), some (.sh (dP x.2.2)), some (.sh (dP goal)), some (.sh (.int k)), some (.sh (dA x))]))) := by
      simp only [bodyB, dA, dC, k_arc_arc, g20, g30, show d_on.io = [] from rfl, show d_comes_to.io = [] from rfl, o1, o2, eqdP, Bool.not_true, Bool.not_false, exs, ex, ev, evs, evB, evA, gt0, gtS, pt0, ptS, ba, bs, ceq, cne, cin, cni, clt, cle, cgt, cge, eqi, bo1, io1, ret1, ret2, ret3, ret4, ret5, ret6, ret7, mv1, mv2, mv3, mv4, mv5, sgΦ, sgΦm, sgS, sgM, sgMt, sgI, sgA, putAll, iosOf, is1, is2, is3, shd, bk0, bk1, bk2, mt2, mt3, mt4, mt5, us1, us2, us3, us4, ixt, ixl, ixL, ixT, ax0, ax1, ax2, ax3, abs1, int11, len1, len2, len3, len4, Option.bind_some, Option.map_some, Option.bind_none, Option.map_none, Bool.true_or, Bool.or_true, Bool.false_or, Bool.or_false, Bool.true_and, Bool.and_true, Bool.false_and, Bool.and_false, if_true, ite_true, eq_self, List.map_cons, List.map_nil, List.length_cons, List.length_nil, List.replicate_zero, List.replicate_succ, List.cons_append, List.nil_append, List.append_nil, Nat.sub_self, Nat.reduceAdd, Nat.reduceSub, Nat.zero_add, if_false, ite_false, Bool.not_true, Bool.not_false, Bool.false_eq_true, reduceIte, reduceCtorEq, pureXs, pureX, callD, decide_true, decide_false, Int.reduceEq, Int.reduceLT, Int.reduceLE, Int.reduceNeg, Int.reduceAdd, Int.reduceSub, Int.reduceMul, decide_eq_true_eq, Int.reduceNe, ne_eq, not_false_eq_true, not_true_eq_false, Option.some.injEq, c0, c1, c2, c3]
      cases onM (.arc x.1 x.2.1 x.2.2) here <;> simp only [k_arc_arc, g20, g30, show d_on.io = [] from rfl, show d_comes_to.io = [] from rfl, o1, o2, eqdP, Bool.not_true, Bool.not_false, exs, ex, ev, evs, evB, evA, gt0, gtS, pt0, ptS, ba, bs, ceq, cne, cin, cni, clt, cle, cgt, cge, eqi, bo1, io1, ret1, ret2, ret3, ret4, ret5, ret6, ret7, mv1, mv2, mv3, mv4, mv5, sgΦ, sgΦm, sgS, sgM, sgMt, sgI, sgA, putAll, iosOf, is1, is2, is3, shd, bk0, bk1, bk2, mt2, mt3, mt4, mt5, us1, us2, us3, us4, ixt, ixl, ixL, ixT, ax0, ax1, ax2, ax3, abs1, int11, len1, len2, len3, len4, Option.bind_some, Option.map_some, Option.bind_none, Option.map_none, Bool.true_or, Bool.or_true, Bool.false_or, Bool.or_false, Bool.true_and, Bool.and_true, Bool.false_and, Bool.and_false, if_true, ite_true, eq_self, List.map_cons, List.map_nil, List.length_cons, List.length_nil, List.replicate_zero, List.replicate_succ, List.cons_append, List.nil_append, List.append_nil, Nat.sub_self, Nat.reduceAdd, Nat.reduceSub, Nat.zero_add, if_false, ite_false, Bool.not_true, Bool.not_false, Bool.false_eq_true, reduceIte, reduceCtorEq, pureXs, pureX, callD, decide_true, decide_false, Int.reduceEq, Int.reduceLT, Int.reduceLE, Int.reduceNeg, Int.reduceAdd, Int.reduceSub, Int.reduceMul, decide_eq_true_eq, Int.reduceNe, ne_eq, not_false_eq_true, not_true_eq_false, Option.some.injEq, c0, c1, c2, c3]
      cases decide (x.2.2 = here) <;> simp only [k_arc_arc, g20, g30, show d_on.io = [] from rfl, show d_comes_to.io = [] from rfl, o1, o2, eqdP, Bool.not_true, Bool.not_false, exs, ex, ev, evs, evB, evA, gt0, gtS, pt0, ptS, ba, bs, ceq, cne, cin, cni, clt, cle, cgt, cge, eqi, bo1, io1, ret1, ret2, ret3, ret4, ret5, ret6, ret7, mv1, mv2, mv3, mv4, mv5, sgΦ, sgΦm, sgS, sgM, sgMt, sgI, sgA, putAll, iosOf, is1, is2, is3, shd, bk0, bk1, bk2, mt2, mt3, mt4, mt5, us1, us2, us3, us4, ixt, ixl, ixL, ixT, ax0, ax1, ax2, ax3, abs1, int11, len1, len2, len3, len4, Option.bind_some, Option.map_some, Option.bind_none, Option.map_none, Bool.true_or, Bool.or_true, Bool.false_or, Bool.or_false, Bool.true_and, Bool.and_true, Bool.false_and, Bool.and_false, if_true, ite_true, eq_self, List.map_cons, List.map_nil, List.length_cons, List.length_nil, List.replicate_zero, List.replicate_succ, List.cons_append, List.nil_append, List.append_nil, Nat.sub_self, Nat.reduceAdd, Nat.reduceSub, Nat.zero_add, if_false, ite_false, Bool.not_true, Bool.not_false, Bool.false_eq_true, reduceIte, reduceCtorEq, pureXs, pureX, callD, decide_true, decide_false, Int.reduceEq, Int.reduceLT, Int.reduceLE, Int.reduceNeg, Int.reduceAdd, Int.reduceSub, Int.reduceMul, decide_eq_true_eq, Int.reduceNe, ne_eq, not_false_eq_true, not_true_eq_false, Option.some.injEq, c0, c1, c2, c3]
      cases comesM x.1 x.2.1 x.2.2 here goal <;> simp only [k_arc_arc, g20, g30, show d_on.io = [] from rfl, show d_comes_to.io = [] from rfl, o1, o2, eqdP, Bool.not_true, Bool.not_false, exs, ex, ev, evs, evB, evA, gt0, gtS, pt0, ptS, ba, bs, ceq, cne, cin, cni, clt, cle, cgt, cge, eqi, bo1, io1, ret1, ret2, ret3, ret4, ret5, ret6, ret7, mv1, mv2, mv3, mv4, mv5, sgΦ, sgΦm, sgS, sgM, sgMt, sgI, sgA, putAll, iosOf, is1, is2, is3, shd, bk0, bk1, bk2, mt2, mt3, mt4, mt5, us1, us2, us3, us4, ixt, ixl, ixL, ixT, ax0, ax1, ax2, ax3, abs1, int11, len1, len2, len3, len4, Option.bind_some, Option.map_some, Option.bind_none, Option.map_none, Bool.true_or, Bool.or_true, Bool.false_or, Bool.or_false, Bool.true_and, Bool.and_true, Bool.false_and, Bool.and_false, if_true, ite_true, eq_self, List.map_cons, List.map_nil, List.length_cons, List.length_nil, List.replicate_zero, List.replicate_succ, List.cons_append, List.nil_append, List.append_nil, Nat.sub_self, Nat.reduceAdd, Nat.reduceSub, Nat.zero_add, if_false, ite_false, Bool.not_true, Bool.not_false, Bool.false_eq_true, reduceIte, reduceCtorEq, pureXs, pureX, callD, decide_true, decide_false, Int.reduceEq, Int.reduceLT, Int.reduceLE, Int.reduceNeg, Int.reduceAdd, Int.reduceSub, Int.reduceMul, decide_eq_true_eq, Int.reduceNe, ne_eq, not_false_eq_true, not_true_eq_false, Option.some.injEq, c0, c1, c2, c3]
    rw [bd, Option.bind_some]
    unfold bentL
    cases onM (.arc x.1 x.2.1 x.2.2) here with
    | false => exact ⟨_, rfl, .inl ⟨_, rfl⟩⟩
    | true =>
      cases decide (x.2.2 = here) with
      | true => exact ⟨_, rfl, .inl ⟨_, rfl⟩⟩
      | false =>
        cases comesM x.1 x.2.1 x.2.2 here goal with
        | true => exact ⟨_, rfl, .inl ⟨_, rfl⟩⟩
        | false => exact ih
end K89

namespace K89
open PySem L2 Ev
theorem al1 {a : Bool} : bltO .all [.lst [.sh (.bl a)]] = some (.sh (.bl (a && true))) := rfl
theorem al2 {a b : Bool} : bltO .all [.lst [.sh (.bl a), .sh (.bl b)]] = some (.sh (.bl (a && (b && true)))) := rfl
theorem al3 {a b c : Bool} : bltO .all [.lst [.sh (.bl a), .sh (.bl b), .sh (.bl c)]] = some (.sh (.bl (a && (b && (c && true))))) := rfl
theorem an1 {a : Bool} : bltO .any [.lst [.sh (.bl a)]] = some (.sh (.bl (a || false))) := rfl
theorem an2 {a b : Bool} : bltO .any [.lst [.sh (.bl a), .sh (.bl b)]] = some (.sh (.bl (a || (b || false)))) := rfl
theorem d_bent_eq : d_bent_chain = { np := 2, nl := 6, io := [], body := (.cons (.set 2 (.idc (.var 1) 2)) (.cons (.set 3 (.idc (.var 1) (-1))) (.cons (.for_ (.tp [4, 5]) (.enm (.var 0)) bodyB) (.cons (.ret (.con (.bl false))) .nil)))) } := rfl
theorem bent_ring (n : Nat) {xs : List (Pt × Pt × Pt)} {c r : Pt} (hx : ∀ x ∈ xs, Ba 60 x) (hr : Bp 60 r) : run Pr (n + 9) 31 [.sh (.lst (xs.map dA)), .sh (dC (.ring c r))] = some (.sh (.bl (bentL (xs.map dA).length 0 xs r r)), []) := by
  obtain ⟨o, ho, h⟩ := bent_loop n (xs.map dA) (dC (.ring c r)) hr xs 0 r none none hx hr
  rw [r31]
  simp only [dC] at ho
  simp only [dC, ho, d_bent_eq, exs, ex, ev, evs, evB, evA, gt0, gtS, pt0, ptS, ba, bs, ceq, cne, cin, cni, clt, cle, cgt, cge, eqi, bo1, io1, ret1, ret2, ret3, ret4, ret5, ret6, ret7, mv1, mv2, mv3, mv4, mv5, sgΦ, sgΦm, sgS, sgM, sgMt, sgI, sgA, putAll, iosOf, is1, is2, is3, shd, bk0, bk1, bk2, mt2, mt3, mt4, mt5, us1, us2, us3, us4, ixt, ixl, ixL, ixT, ax0, ax1, ax2, ax3, abs1, int11, len1, len2, len3, len4, Option.bind_some, Option.map_some, Option.bind_none, Option.map_none, Bool.true_or, Bool.or_true, Bool.false_or, Bool.or_false, Bool.true_and, Bool.and_true, Bool.false_and, Bool.and_false, if_true, ite_true, eq_self, List.map_cons, List.map_nil, List.length_cons, List.length_nil, List.replicate_zero, List.replicate_succ, List.cons_append, List.nil_append, List.append_nil, Nat.sub_self, Nat.reduceAdd, Nat.reduceSub, Nat.zero_add, if_false, ite_false, Bool.not_true, Bool.not_false, Bool.false_eq_true, reduceIte, reduceCtorEq, pureXs, pureX, callD, decide_true, decide_false, Int.reduceEq, Int.reduceLT, Int.reduceLE, Int.reduceNeg, Int.reduceAdd, Int.reduceSub, Int.reduceMul, decide_eq_true_eq, Int.reduceNe, ne_eq, not_false_eq_true, not_true_eq_false, Option.some.injEq, c0, c1, c2, c3, aN1, aN2, aN3, aN4, itE, lstOf, hidFree, backO, backH]
  rcases h with ⟨ρ', e⟩ | ⟨ρ', e, eb⟩
  · subst e
    simp only [d_bent_eq, exs, ex, ev, evs, evB, evA, gt0, gtS, pt0, ptS, ba, bs, ceq, cne, cin, cni, clt, cle, cgt, cge, eqi, bo1, io1, ret1, ret2, ret3, ret4, ret5, ret6, ret7, mv1, mv2, mv3, mv4, mv5, sgΦ, sgΦm, sgS, sgM, sgMt, sgI, sgA, putAll, iosOf, is1, is2, is3, shd, bk0, bk1, bk2, mt2, mt3, mt4, mt5, us1, us2, us3, us4, ixt, ixl, ixL, ixT, ax0, ax1, ax2, ax3, abs1, int11, len1, len2, len3, len4, Option.bind_some, Option.map_some, Option.bind_none, Option.map_none, Bool.true_or, Bool.or_true, Bool.false_or, Bool.or_false, Bool.true_and, Bool.and_true, Bool.false_and, Bool.and_false, if_true, ite_true, eq_self, List.map_cons, List.map_nil, List.length_cons, List.length_nil, List.replicate_zero, List.replicate_succ, List.cons_append, List.nil_append, List.append_nil, Nat.sub_self, Nat.reduceAdd, Nat.reduceSub, Nat.zero_add, if_false, ite_false, Bool.not_true, Bool.not_false, Bool.false_eq_true, reduceIte, reduceCtorEq, pureXs, pureX, callD, decide_true, decide_false, Int.reduceEq, Int.reduceLT, Int.reduceLE, Int.reduceNeg, Int.reduceAdd, Int.reduceSub, Int.reduceMul, decide_eq_true_eq, Int.reduceNe, ne_eq, not_false_eq_true, not_true_eq_false, Option.some.injEq, c0, c1, c2, c3, aN1, aN2, aN3, aN4, itE, lstOf, hidFree, backO, backH]
  · subst e
    simp only [eb, d_bent_eq, exs, ex, ev, evs, evB, evA, gt0, gtS, pt0, ptS, ba, bs, ceq, cne, cin, cni, clt, cle, cgt, cge, eqi, bo1, io1, ret1, ret2, ret3, ret4, ret5, ret6, ret7, mv1, mv2, mv3, mv4, mv5, sgΦ, sgΦm, sgS, sgM, sgMt, sgI, sgA, putAll, iosOf, is1, is2, is3, shd, bk0, bk1, bk2, mt2, mt3, mt4, mt5, us1, us2, us3, us4, ixt, ixl, ixL, ixT, ax0, ax1, ax2, ax3, abs1, int11, len1, len2, len3, len4, Option.bind_some, Option.map_some, Option.bind_none, Option.map_none, Bool.true_or, Bool.or_true, Bool.false_or, Bool.or_false, Bool.true_and, Bool.and_true, Bool.false_and, Bool.and_false, if_true, ite_true, eq_self, List.map_cons, List.map_nil, List.length_cons, List.length_nil, List.replicate_zero, List.replicate_succ, List.cons_append, List.nil_append, List.append_nil, Nat.sub_self, Nat.reduceAdd, Nat.reduceSub, Nat.zero_add, if_false, ite_false, Bool.not_true, Bool.not_false, Bool.false_eq_true, reduceIte, reduceCtorEq, pureXs, pureX, callD, decide_true, decide_false, Int.reduceEq, Int.reduceLT, Int.reduceLE, Int.reduceNeg, Int.reduceAdd, Int.reduceSub, Int.reduceMul, decide_eq_true_eq, Int.reduceNe, ne_eq, not_false_eq_true, not_true_eq_false, Option.some.injEq, c0, c1, c2, c3, aN1, aN2, aN3, aN4, itE, lstOf, hidFree, backO, backH]
theorem bent_arc (n : Nat) {xs : List (Pt × Pt × Pt)} {c a b : Pt} (hx : ∀ x ∈ xs, Ba 60 x) (ha : Bp 60 a) (hb : Bp 60 b) : run Pr (n + 9) 31 [.sh (.lst (xs.map dA)), .sh (dC (.arc c a b))] = some (.sh (.bl (bentL (xs.map dA).length 0 xs a b)), []) := by
  obtain ⟨o, ho, h⟩ := bent_loop n (xs.map dA) (dC (.arc c a b)) hb xs 0 a none none hx ha
  rw [r31]
  simp only [dC] at ho
  simp only [dC, ho, d_bent_eq, exs, ex, ev, evs, evB, evA, gt0, gtS, pt0, ptS, ba, bs, ceq, cne, cin, cni, clt, cle, cgt, cge, eqi, bo1, io1, ret1, ret2, ret3, ret4, ret5, ret6, ret7, mv1, mv2, mv3, mv4, mv5, sgΦ, sgΦm, sgS, sgM, sgMt, sgI, sgA, putAll, iosOf, is1, is2, is3, shd, bk0, bk1, bk2, mt2, mt3, mt4, mt5, us1, us2, us3, us4, ixt, ixl, ixL, ixT, ax0, ax1, ax2, ax3, abs1, int11, len1, len2, len3, len4, Option.bind_some, Option.map_some, Option.bind_none, Option.map_none, Bool.true_or, Bool.or_true, Bool.false_or, Bool.or_false, Bool.true_and, Bool.and_true, Bool.false_and, Bool.and_false, if_true, ite_true, eq_self, List.map_cons, List.map_nil, List.length_cons, List.length_nil, List.replicate_zero, List.replicate_succ, List.cons_append, List.nil_append, List.append_nil, Nat.sub_self, Nat.reduceAdd, Nat.reduceSub, Nat.zero_add, if_false, ite_false, Bool.not_true, Bool.not_false, Bool.false_eq_true, reduceIte, reduceCtorEq, pureXs, pureX, callD, decide_true, decide_false, Int.reduceEq, Int.reduceLT, Int.reduceLE, Int.reduceNeg, Int.reduceAdd, Int.reduceSub, Int.reduceMul, decide_eq_true_eq, Int.reduceNe, ne_eq, not_false_eq_true, not_true_eq_false, Option.some.injEq, c0, c1, c2, c3, aN1, aN2, aN3, aN4, itE, lstOf, hidFree, backO, backH]
  rcases h with ⟨ρ', e⟩ | ⟨ρ', e, eb⟩
  · subst e
    simp only [d_bent_eq, exs, ex, ev, evs, evB, evA, gt0, gtS, pt0, ptS, ba, bs, ceq, cne, cin, cni, clt, cle, cgt, cge, eqi, bo1, io1, ret1, ret2, ret3, ret4, ret5, ret6, ret7, mv1, mv2, mv3, mv4, mv5, sgΦ, sgΦm, sgS, sgM, sgMt, sgI, sgA, putAll, iosOf, is1, is2, is3, shd, bk0, bk1, bk2, mt2, mt3, mt4, mt5, us1, us2, us3, us4, ixt, ixl, ixL, ixT, ax0, ax1, ax2, ax3, abs1, int11, len1, len2, len3, len4, Option.bind_some, Option.map_some, Option.bind_none, Option.map_none, Bool.true_or, Bool.or_true, Bool.false_or, Bool.or_false, Bool.true_and, Bool.and_true, Bool.false_and, Bool.and_false, if_true, ite_true, eq_self, List.map_cons, List.map_nil, List.length_cons, List.length_nil, List.replicate_zero, List.replicate_succ, List.cons_append, List.nil_append, List.append_nil, Nat.sub_self, Nat.reduceAdd, Nat.reduceSub, Nat.zero_add, if_false, ite_false, Bool.not_true, Bool.not_false, Bool.false_eq_true, reduceIte, reduceCtorEq, pureXs, pureX, callD, decide_true, decide_false, Int.reduceEq, Int.reduceLT, Int.reduceLE, Int.reduceNeg, Int.reduceAdd, Int.reduceSub, Int.reduceMul, decide_eq_true_eq, Int.reduceNe, ne_eq, not_false_eq_true, not_true_eq_false, Option.some.injEq, c0, c1, c2, c3, aN1, aN2, aN3, aN4, itE, lstOf, hidFree, backO, backH]
  · subst e
    simp only [eb, d_bent_eq, exs, ex, ev, evs, evB, evA, gt0, gtS, pt0, ptS, ba, bs, ceq, cne, cin, cni, clt, cle, cgt, cge, eqi, bo1, io1, ret1, ret2, ret3, ret4, ret5, ret6, ret7, mv1, mv2, mv3, mv4, mv5, sgΦ, sgΦm, sgS, sgM, sgMt, sgI, sgA, putAll, iosOf, is1, is2, is3, shd, bk0, bk1, bk2, mt2, mt3, mt4, mt5, us1, us2, us3, us4, ixt, ixl, ixL, ixT, ax0, ax1, ax2, ax3, abs1, int11, len1, len2, len3, len4, Option.bind_some, Option.map_some, Option.bind_none, Option.map_none, Bool.true_or, Bool.or_true, Bool.false_or, Bool.or_false, Bool.true_and, Bool.and_true, Bool.false_and, Bool.and_false, if_true, ite_true, eq_self, List.map_cons, List.map_nil, List.length_cons, List.length_nil, List.replicate_zero, List.replicate_succ, List.cons_append, List.nil_append, List.append_nil, Nat.sub_self, Nat.reduceAdd, Nat.reduceSub, Nat.zero_add, if_false, ite_false, Bool.not_true, Bool.not_false, Bool.false_eq_true, reduceIte, reduceCtorEq, pureXs, pureX, callD, decide_true, decide_false, Int.reduceEq, Int.reduceLT, Int.reduceLE, Int.reduceNeg, Int.reduceAdd, Int.reduceSub, Int.reduceMul, decide_eq_true_eq, Int.reduceNe, ne_eq, not_false_eq_true, not_true_eq_false, Option.some.injEq, c0, c1, c2, c3, aN1, aN2, aN3, aN4, itE, lstOf, hidFree, backO, backH]
theorem ok_dot : PyData.canLay0 (D.str "dot").pd = true := by decide +kernel
theorem ok_str : PyData.canLay0 (D.str "stretch").pd = true := by decide +kernel
theorem ok_ring : PyData.canLay0 (D.str "ring").pd = true := by decide +kernel
theorem ok_arc : PyData.canLay0 (D.str "arc").pd = true := by decide +kernel
theorem ok_dI (i : Int) : (dI i).pd.canLay0 = true ∧ (dI i).pd.depth = 1 := ⟨rfl, rfl⟩
theorem ok_dP (p : Pt) : (dP p).pd.canLay0 = true ∧ (dP p).pd.depth = 2 := ⟨rfl, rfl⟩
theorem ok_dC (x : Pc) : (dC x).pd.canLay0 = true ∧ (dC x).pd.depth = 3 := by
  cases x with
  | dot p => exact ⟨by show (PyData.canLay0 (D.str "dot").pd && ((dP p).pd.canLay0 && true)) = true; rw [ok_dot]; rfl, rfl⟩
  | str a b => exact ⟨by show (PyData.canLay0 (D.str "stretch").pd && ((dP a).pd.canLay0 && ((dP b).pd.canLay0 && true))) = true; rw [ok_str]; rfl, rfl⟩
  | ring a b => exact ⟨by show (PyData.canLay0 (D.str "ring").pd && ((dP a).pd.canLay0 && ((dP b).pd.canLay0 && true))) = true; rw [ok_ring]; rfl, rfl⟩
  | arc c a b => exact ⟨by show (PyData.canLay0 (D.str "arc").pd && ((dP c).pd.canLay0 && ((dP a).pd.canLay0 && ((dP b).pd.canLay0 && true)))) = true; rw [ok_arc]; rfl, rfl⟩
theorem ok_ls : ∀ xs : List Pc, PyData.canLayAll0 (D.pds (xs.map dC)) = true ∧ PyData.depthAll (D.pds (xs.map dC)) ≤ 3
  | [] => ⟨rfl, by decide⟩
  | x :: xs => by
    obtain ⟨h1, h2⟩ := ok_ls xs
    obtain ⟨h3, h4⟩ := ok_dC x
    refine ⟨?_, ?_⟩
    · show ((dC x).pd.canLay0 && PyData.canLayAll0 (D.pds (xs.map dC))) = true
      rw [h3, h1]; rfl
    · show max ((dC x).pd.depth) (PyData.depthAll (D.pds (xs.map dC))) ≤ 3
      rw [h4]; omega
theorem sh_ls (xs : List Pc) : SeqAt.shaped (D.lst (xs.map dC)).pd = true := by
  obtain ⟨h1, h2⟩ := ok_ls xs
  show (PyData.canLayAll0 (D.pds (xs.map dC)) && decide (PyData.depthAll (D.pds (xs.map dC)) + 1 ≤ 64)) = true
  rw [h1, decide_eq_true (by omega)]
  rfl
theorem nel (x : Pc) (xs : List Pc) : eqD (.lst (dC x :: xs.map dC)) (.lst []) = some false := by
  unfold eqD
  rw [if_pos ⟨sh_ls (x :: xs), rfl⟩]
  rfl
theorem chS1 (n : Nat) {a b : Pt} {s : Pt × Pt} (ha : Bp 60 a) (hb : Bp 60 b) (h1 : Bp 60 s.1) (h2 : Bp 60 s.2) :
    run Pr (n + 9) 32 [.sh (.lst [dC (.str s.1 s.2)]), .sh (dC (.str a b))] = some (.sh (.bl (straight1 a b s)), []) := by
  have h := straight1_ok n ha hb h1 h2
  have e : eqD (.lst [dC (.str s.1 s.2)]) (.lst []) = some false := nel _ []
  rw [r32]
  simp only [dC] at h e
  simp only [d_chain_shown, dC, e, O.d, O.ds, lsO, k_stretch_dot, k_stretch_stretch, g28, show d_straight_chain.io = [] from rfl, h, exs, ex, ev, evs, evB, evA, gt0, gtS, pt0, ptS, ba, bs, ceq, cne, cin, cni, clt, cle, cgt, cge, eqi, bo1, io1, ret1, ret2, ret3, ret4, ret5, ret6, ret7, mv1, mv2, mv3, mv4, mv5, sgΦ, sgΦm, sgS, sgM, sgMt, sgI, sgA, putAll, iosOf, is1, is2, is3, shd, bk0, bk1, bk2, mt2, mt3, mt4, mt5, us1, us2, us3, us4, ixt, ixl, ixL, ixT, ax0, ax1, ax2, ax3, abs1, int11, len1, len2, len3, len4, Option.bind_some, Option.map_some, Option.bind_none, Option.map_none, Bool.true_or, Bool.or_true, Bool.false_or, Bool.or_false, Bool.true_and, Bool.and_true, Bool.false_and, Bool.and_false, if_true, ite_true, eq_self, List.map_cons, List.map_nil, List.length_cons, List.length_nil, List.replicate_zero, List.replicate_succ, List.cons_append, List.nil_append, List.append_nil, Nat.sub_self, Nat.reduceAdd, Nat.reduceSub, Nat.zero_add, if_false, ite_false, Bool.not_true, Bool.not_false, Bool.false_eq_true, reduceIte, reduceCtorEq, pureXs, pureX, callD, decide_true, decide_false, Int.reduceEq, Int.reduceLT, Int.reduceLE, Int.reduceNeg, Int.reduceAdd, Int.reduceSub, Int.reduceMul, decide_eq_true_eq, Int.reduceNe, ne_eq, not_false_eq_true, not_true_eq_false, Option.some.injEq, c0, c1, c2, c3]
theorem chS2 (n : Nat) {a b : Pt} {s t : Pt × Pt} (ha : Bp 60 a) (hb : Bp 60 b) (h1 : Bp 60 s.1) (h2 : Bp 60 s.2) (h3 : Bp 60 t.1) (h4 : Bp 60 t.2) :
    run Pr (n + 9) 32 [.sh (.lst [dC (.str s.1 s.2), dC (.str t.1 t.2)]), .sh (dC (.str a b))] = some (.sh (.bl (straight2 a b s t)), []) := by
  have h := straight2_ok n ha hb h1 h2 h3 h4
  have e : eqD (.lst [dC (.str s.1 s.2), dC (.str t.1 t.2)]) (.lst []) = some false := nel _ [.str t.1 t.2]
  rw [r32]
  simp only [dC] at h e
  simp only [d_chain_shown, dC, e, O.d, O.ds, lsO, k_stretch_dot, k_stretch_stretch, g28, show d_straight_chain.io = [] from rfl, h, exs, ex, ev, evs, evB, evA, gt0, gtS, pt0, ptS, ba, bs, ceq, cne, cin, cni, clt, cle, cgt, cge, eqi, bo1, io1, ret1, ret2, ret3, ret4, ret5, ret6, ret7, mv1, mv2, mv3, mv4, mv5, sgΦ, sgΦm, sgS, sgM, sgMt, sgI, sgA, putAll, iosOf, is1, is2, is3, shd, bk0, bk1, bk2, mt2, mt3, mt4, mt5, us1, us2, us3, us4, ixt, ixl, ixL, ixT, ax0, ax1, ax2, ax3, abs1, int11, len1, len2, len3, len4, Option.bind_some, Option.map_some, Option.bind_none, Option.map_none, Bool.true_or, Bool.or_true, Bool.false_or, Bool.or_false, Bool.true_and, Bool.and_true, Bool.false_and, Bool.and_false, if_true, ite_true, eq_self, List.map_cons, List.map_nil, List.length_cons, List.length_nil, List.replicate_zero, List.replicate_succ, List.cons_append, List.nil_append, List.append_nil, Nat.sub_self, Nat.reduceAdd, Nat.reduceSub, Nat.zero_add, if_false, ite_false, Bool.not_true, Bool.not_false, Bool.false_eq_true, reduceIte, reduceCtorEq, pureXs, pureX, callD, decide_true, decide_false, Int.reduceEq, Int.reduceLT, Int.reduceLE, Int.reduceNeg, Int.reduceAdd, Int.reduceSub, Int.reduceMul, decide_eq_true_eq, Int.reduceNe, ne_eq, not_false_eq_true, not_true_eq_false, Option.some.injEq, c0, c1, c2, c3]
theorem inR : inD (.str "ring") (.sh (.tup [.str "arc", .str "ring"])) = some true := by decide +kernel
theorem inA : inD (.str "arc") (.sh (.tup [.str "arc", .str "ring"])) = some true := by decide +kernel
theorem chR (n : Nat) {c r c' r' : Pt} (hc : Bp 60 c) (hr : Bp 60 r) (hc' : Bp 60 c') (hr' : Bp 60 r') :
    run Pr (n + 9) 32 [.sh (.lst [dC (.ring c r)]), .sh (dC (.ring c' r'))] = some (.sh (.bl (sameM c r c' r')), []) := by
  have h := same_ok (n + 2) (t := []) (t' := []) inR (x' := "ring") hc hr hc' hr'
  have e : eqD (.lst [dC (.ring c r)]) (.lst []) = some false := nel _ []
  rw [r32]
  simp only [dC] at h e
  simp only [d_chain_shown, dC, e, O.d, O.ds, lsO, k_ring_dot, k_ring_stretch, k_ring_ring, g29, show d_same_circle.io = [] from rfl, h, al1, Bool.and_true, exs, ex, ev, evs, evB, evA, gt0, gtS, pt0, ptS, ba, bs, ceq, cne, cin, cni, clt, cle, cgt, cge, eqi, bo1, io1, ret1, ret2, ret3, ret4, ret5, ret6, ret7, mv1, mv2, mv3, mv4, mv5, sgΦ, sgΦm, sgS, sgM, sgMt, sgI, sgA, putAll, iosOf, is1, is2, is3, shd, bk0, bk1, bk2, mt2, mt3, mt4, mt5, us1, us2, us3, us4, ixt, ixl, ixL, ixT, ax0, ax1, ax2, ax3, abs1, int11, len1, len2, len3, len4, Option.bind_some, Option.map_some, Option.bind_none, Option.map_none, Bool.true_or, Bool.or_true, Bool.false_or, Bool.or_false, Bool.true_and, Bool.and_true, Bool.false_and, Bool.and_false, if_true, ite_true, eq_self, List.map_cons, List.map_nil, List.length_cons, List.length_nil, List.replicate_zero, List.replicate_succ, List.cons_append, List.nil_append, List.append_nil, Nat.sub_self, Nat.reduceAdd, Nat.reduceSub, Nat.zero_add, if_false, ite_false, Bool.not_true, Bool.not_false, Bool.false_eq_true, reduceIte, reduceCtorEq, pureXs, pureX, callD, decide_true, decide_false, Int.reduceEq, Int.reduceLT, Int.reduceLE, Int.reduceNeg, Int.reduceAdd, Int.reduceSub, Int.reduceMul, decide_eq_true_eq, Int.reduceNe, ne_eq, not_false_eq_true, not_true_eq_false, Option.some.injEq, c0, c1, c2, c3, tupD, forL, itE, setTg, seqOf, lstOf, enumD, zipD, hidFree, tgSets, setss, sets, List.contains_cons, backO, backH, List.zip_cons_cons, List.zip_nil_left, List.zip_nil_right, List.foldl_cons, List.foldl_nil, compL, wipeE, backE, optI, isNonX, List.drop_zero, List.drop_succ_cons, List.take_succ_cons, List.take_zero, List.take_nil, List.drop_nil, LIM, Nat.reduceLeDiff, aN1, aN2, aN3, aN4, sl1, sl2, sl3, sl4, sl5, sl6]
  cases sameM c r c' r' <;> simp only [k_ring_ring, al1, Bool.and_true, exs, ex, ev, evs, evB, evA, gt0, gtS, pt0, ptS, ba, bs, ceq, cne, cin, cni, clt, cle, cgt, cge, eqi, bo1, io1, ret1, ret2, ret3, ret4, ret5, ret6, ret7, mv1, mv2, mv3, mv4, mv5, sgΦ, sgΦm, sgS, sgM, sgMt, sgI, sgA, putAll, iosOf, is1, is2, is3, shd, bk0, bk1, bk2, mt2, mt3, mt4, mt5, us1, us2, us3, us4, ixt, ixl, ixL, ixT, ax0, ax1, ax2, ax3, abs1, int11, len1, len2, len3, len4, Option.bind_some, Option.map_some, Option.bind_none, Option.map_none, Bool.true_or, Bool.or_true, Bool.false_or, Bool.or_false, Bool.true_and, Bool.and_true, Bool.false_and, Bool.and_false, if_true, ite_true, eq_self, List.map_cons, List.map_nil, List.length_cons, List.length_nil, List.replicate_zero, List.replicate_succ, List.cons_append, List.nil_append, List.append_nil, Nat.sub_self, Nat.reduceAdd, Nat.reduceSub, Nat.zero_add, if_false, ite_false, Bool.not_true, Bool.not_false, Bool.false_eq_true, reduceIte, reduceCtorEq, pureXs, pureX, callD, decide_true, decide_false, Int.reduceEq, Int.reduceLT, Int.reduceLE, Int.reduceNeg, Int.reduceAdd, Int.reduceSub, Int.reduceMul, decide_eq_true_eq, Int.reduceNe, ne_eq, not_false_eq_true, not_true_eq_false, Option.some.injEq, c0, c1, c2, c3, tupD, forL, itE, setTg, seqOf, lstOf, enumD, zipD, hidFree, tgSets, setss, sets, List.contains_cons, backO, backH, List.zip_cons_cons, List.zip_nil_left, List.zip_nil_right, List.foldl_cons, List.foldl_nil, compL, wipeE, backE, optI, isNonX, List.drop_zero, List.drop_succ_cons, List.take_succ_cons, List.take_zero, List.take_nil, List.drop_nil, LIM, Nat.reduceLeDiff, aN1, aN2, aN3, aN4, sl1, sl2, sl3, sl4, sl5, sl6]

theorem chA_1_arc (n : Nat) {x : Pt × Pt × Pt} {c a b : Pt} (hx : Ba 60 x) (hc : Bp 60 c) (ha : Bp 60 a) (hb : Bp 60 b) :
    run Pr (n + 10) 32 [.sh (.lst [dA x]), .sh (dC (.arc c a b))] = some (.sh (.bl (match (sameM x.1 x.2.1 c a && true) with
      | true => bentL 1 0 [x] a b
      | false => false)), []) := by
  have hb0 := bent_arc n (xs := [x]) (c := c) (a := a) (b := b) (by intro w hw; simp only [List.mem_cons, List.not_mem_nil, or_false] at hw; rcases hw with rfl <;> assumption) ha hb
  have e : eqD (.lst [dA x]) (.lst []) = some false := nel (.arc x.1 x.2.1 x.2.2) []
  have hx1 := same_ok (n + 3) (t := [dP x.2.2]) (t' := [dP b]) inA (x' := "arc") hx.c hx.a hc ha
  rw [r32]
  simp only [List.map_cons, List.map_nil, dA, dC, List.length_cons, List.length_nil, Nat.zero_add, Nat.reduceAdd] at hb0 e hx1
  simp only [d_chain_shown, dA, dC, e, O.d, O.ds, lsO, k_arc_dot, k_arc_stretch, k_arc_ring, g29, g31, show d_same_circle.io = [] from rfl, show d_bent_chain.io = [] from rfl, hb0, hx1, al1, al2, al3, exs, ex, ev, evs, evB, evA, gt0, gtS, pt0, ptS, ba, bs, ceq, cne, cin, cni, clt, cle, cgt, cge, eqi, bo1, io1, ret1, ret2, ret3, ret4, ret5, ret6, ret7, mv1, mv2, mv3, mv4, mv5, sgΦ, sgΦm, sgS, sgM, sgMt, sgI, sgA, putAll, iosOf, is1, is2, is3, shd, bk0, bk1, bk2, mt2, mt3, mt4, mt5, us1, us2, us3, us4, ixt, ixl, ixL, ixT, ax0, ax1, ax2, ax3, abs1, int11, len1, len2, len3, len4, Option.bind_some, Option.map_some, Option.bind_none, Option.map_none, Bool.true_or, Bool.or_true, Bool.false_or, Bool.or_false, Bool.true_and, Bool.and_true, Bool.false_and, Bool.and_false, if_true, ite_true, eq_self, List.map_cons, List.map_nil, List.length_cons, List.length_nil, List.replicate_zero, List.replicate_succ, List.cons_append, List.nil_append, List.append_nil, Nat.sub_self, Nat.reduceAdd, Nat.reduceSub, Nat.zero_add, if_false, ite_false, Bool.not_true, Bool.not_false, Bool.false_eq_true, reduceIte, reduceCtorEq, pureXs, pureX, callD, decide_true, decide_false, Int.reduceEq, Int.reduceLT, Int.reduceLE, Int.reduceNeg, Int.reduceAdd, Int.reduceSub, Int.reduceMul, decide_eq_true_eq, Int.reduceNe, ne_eq, not_false_eq_true, not_true_eq_false, Option.some.injEq, c0, c1, c2, c3, tupD, forL, itE, setTg, seqOf, lstOf, enumD, zipD, hidFree, tgSets, setss, sets, List.contains_cons, backO, backH, List.zip_cons_cons, List.zip_nil_left, List.zip_nil_right, List.foldl_cons, List.foldl_nil, compL, wipeE, backE, optI, isNonX, List.drop_zero, List.drop_succ_cons, List.take_succ_cons, List.take_zero, List.take_nil, List.drop_nil, LIM, Nat.reduceLeDiff, aN1, aN2, aN3, aN4, sl1, sl2, sl3, sl4, sl5, sl6]
  cases sameM x.1 x.2.1 c a <;> simp only [al1, al2, al3, hb0, g31, show d_bent_chain.io = [] from rfl, k_arc_ring, e, exs, ex, ev, evs, evB, evA, gt0, gtS, pt0, ptS, ba, bs, ceq, cne, cin, cni, clt, cle, cgt, cge, eqi, bo1, io1, ret1, ret2, ret3, ret4, ret5, ret6, ret7, mv1, mv2, mv3, mv4, mv5, sgΦ, sgΦm, sgS, sgM, sgMt, sgI, sgA, putAll, iosOf, is1, is2, is3, shd, bk0, bk1, bk2, mt2, mt3, mt4, mt5, us1, us2, us3, us4, ixt, ixl, ixL, ixT, ax0, ax1, ax2, ax3, abs1, int11, len1, len2, len3, len4, Option.bind_some, Option.map_some, Option.bind_none, Option.map_none, Bool.true_or, Bool.or_true, Bool.false_or, Bool.or_false, Bool.true_and, Bool.and_true, Bool.false_and, Bool.and_false, if_true, ite_true, eq_self, List.map_cons, List.map_nil, List.length_cons, List.length_nil, List.replicate_zero, List.replicate_succ, List.cons_append, List.nil_append, List.append_nil, Nat.sub_self, Nat.reduceAdd, Nat.reduceSub, Nat.zero_add, if_false, ite_false, Bool.not_true, Bool.not_false, Bool.false_eq_true, reduceIte, reduceCtorEq, pureXs, pureX, callD, decide_true, decide_false, Int.reduceEq, Int.reduceLT, Int.reduceLE, Int.reduceNeg, Int.reduceAdd, Int.reduceSub, Int.reduceMul, decide_eq_true_eq, Int.reduceNe, ne_eq, not_false_eq_true, not_true_eq_false, Option.some.injEq, c0, c1, c2, c3, tupD, forL, itE, setTg, seqOf, lstOf, enumD, zipD, hidFree, tgSets, setss, sets, List.contains_cons, backO, backH, List.zip_cons_cons, List.zip_nil_left, List.zip_nil_right, List.foldl_cons, List.foldl_nil, compL, wipeE, backE, optI, isNonX, List.drop_zero, List.drop_succ_cons, List.take_succ_cons, List.take_zero, List.take_nil, List.drop_nil, LIM, Nat.reduceLeDiff, aN1, aN2, aN3, aN4, sl1, sl2, sl3, sl4, sl5, sl6]
theorem chA_2_arc (n : Nat) {x y : Pt × Pt × Pt} {c a b : Pt} (hx : Ba 60 x) (hy : Ba 60 y) (hc : Bp 60 c) (ha : Bp 60 a) (hb : Bp 60 b) :
    run Pr (n + 10) 32 [.sh (.lst [dA x, dA y]), .sh (dC (.arc c a b))] = some (.sh (.bl (match (sameM x.1 x.2.1 c a && (sameM y.1 y.2.1 c a && true)) with
      | true => bentL 2 0 [x, y] a b
      | false => false)), []) := by
  have hb0 := bent_arc n (xs := [x, y]) (c := c) (a := a) (b := b) (by intro w hw; simp only [List.mem_cons, List.not_mem_nil, or_false] at hw; rcases hw with rfl | rfl <;> assumption) ha hb
  have e : eqD (.lst [dA x, dA y]) (.lst []) = some false := nel (.arc x.1 x.2.1 x.2.2) [.arc y.1 y.2.1 y.2.2]
  have hx1 := same_ok (n + 3) (t := [dP x.2.2]) (t' := [dP b]) inA (x' := "arc") hx.c hx.a hc ha
  have hy1 := same_ok (n + 3) (t := [dP y.2.2]) (t' := [dP b]) inA (x' := "arc") hy.c hy.a hc ha
  rw [r32]
  simp only [List.map_cons, List.map_nil, dA, dC, List.length_cons, List.length_nil, Nat.zero_add, Nat.reduceAdd] at hb0 e hx1 hy1
  simp only [d_chain_shown, dA, dC, e, O.d, O.ds, lsO, k_arc_dot, k_arc_stretch, k_arc_ring, g29, g31, show d_same_circle.io = [] from rfl, show d_bent_chain.io = [] from rfl, hb0, hx1, hy1, al1, al2, al3, exs, ex, ev, evs, evB, evA, gt0, gtS, pt0, ptS, ba, bs, ceq, cne, cin, cni, clt, cle, cgt, cge, eqi, bo1, io1, ret1, ret2, ret3, ret4, ret5, ret6, ret7, mv1, mv2, mv3, mv4, mv5, sgΦ, sgΦm, sgS, sgM, sgMt, sgI, sgA, putAll, iosOf, is1, is2, is3, shd, bk0, bk1, bk2, mt2, mt3, mt4, mt5, us1, us2, us3, us4, ixt, ixl, ixL, ixT, ax0, ax1, ax2, ax3, abs1, int11, len1, len2, len3, len4, Option.bind_some, Option.map_some, Option.bind_none, Option.map_none, Bool.true_or, Bool.or_true, Bool.false_or, Bool.or_false, Bool.true_and, Bool.and_true, Bool.false_and, Bool.and_false, if_true, ite_true, eq_self, List.map_cons, List.map_nil, List.length_cons, List.length_nil, List.replicate_zero, List.replicate_succ, List.cons_append, List.nil_append, List.append_nil, Nat.sub_self, Nat.reduceAdd, Nat.reduceSub, Nat.zero_add, if_false, ite_false, Bool.not_true, Bool.not_false, Bool.false_eq_true, reduceIte, reduceCtorEq, pureXs, pureX, callD, decide_true, decide_false, Int.reduceEq, Int.reduceLT, Int.reduceLE, Int.reduceNeg, Int.reduceAdd, Int.reduceSub, Int.reduceMul, decide_eq_true_eq, Int.reduceNe, ne_eq, not_false_eq_true, not_true_eq_false, Option.some.injEq, c0, c1, c2, c3, tupD, forL, itE, setTg, seqOf, lstOf, enumD, zipD, hidFree, tgSets, setss, sets, List.contains_cons, backO, backH, List.zip_cons_cons, List.zip_nil_left, List.zip_nil_right, List.foldl_cons, List.foldl_nil, compL, wipeE, backE, optI, isNonX, List.drop_zero, List.drop_succ_cons, List.take_succ_cons, List.take_zero, List.take_nil, List.drop_nil, LIM, Nat.reduceLeDiff, aN1, aN2, aN3, aN4, sl1, sl2, sl3, sl4, sl5, sl6]
  cases sameM x.1 x.2.1 c a <;> simp only [al1, al2, al3, hb0, g31, show d_bent_chain.io = [] from rfl, k_arc_ring, e, exs, ex, ev, evs, evB, evA, gt0, gtS, pt0, ptS, ba, bs, ceq, cne, cin, cni, clt, cle, cgt, cge, eqi, bo1, io1, ret1, ret2, ret3, ret4, ret5, ret6, ret7, mv1, mv2, mv3, mv4, mv5, sgΦ, sgΦm, sgS, sgM, sgMt, sgI, sgA, putAll, iosOf, is1, is2, is3, shd, bk0, bk1, bk2, mt2, mt3, mt4, mt5, us1, us2, us3, us4, ixt, ixl, ixL, ixT, ax0, ax1, ax2, ax3, abs1, int11, len1, len2, len3, len4, Option.bind_some, Option.map_some, Option.bind_none, Option.map_none, Bool.true_or, Bool.or_true, Bool.false_or, Bool.or_false, Bool.true_and, Bool.and_true, Bool.false_and, Bool.and_false, if_true, ite_true, eq_self, List.map_cons, List.map_nil, List.length_cons, List.length_nil, List.replicate_zero, List.replicate_succ, List.cons_append, List.nil_append, List.append_nil, Nat.sub_self, Nat.reduceAdd, Nat.reduceSub, Nat.zero_add, if_false, ite_false, Bool.not_true, Bool.not_false, Bool.false_eq_true, reduceIte, reduceCtorEq, pureXs, pureX, callD, decide_true, decide_false, Int.reduceEq, Int.reduceLT, Int.reduceLE, Int.reduceNeg, Int.reduceAdd, Int.reduceSub, Int.reduceMul, decide_eq_true_eq, Int.reduceNe, ne_eq, not_false_eq_true, not_true_eq_false, Option.some.injEq, c0, c1, c2, c3, tupD, forL, itE, setTg, seqOf, lstOf, enumD, zipD, hidFree, tgSets, setss, sets, List.contains_cons, backO, backH, List.zip_cons_cons, List.zip_nil_left, List.zip_nil_right, List.foldl_cons, List.foldl_nil, compL, wipeE, backE, optI, isNonX, List.drop_zero, List.drop_succ_cons, List.take_succ_cons, List.take_zero, List.take_nil, List.drop_nil, LIM, Nat.reduceLeDiff, aN1, aN2, aN3, aN4, sl1, sl2, sl3, sl4, sl5, sl6]
  cases sameM y.1 y.2.1 c a <;> simp only [al1, al2, al3, hb0, g31, show d_bent_chain.io = [] from rfl, k_arc_ring, e, exs, ex, ev, evs, evB, evA, gt0, gtS, pt0, ptS, ba, bs, ceq, cne, cin, cni, clt, cle, cgt, cge, eqi, bo1, io1, ret1, ret2, ret3, ret4, ret5, ret6, ret7, mv1, mv2, mv3, mv4, mv5, sgΦ, sgΦm, sgS, sgM, sgMt, sgI, sgA, putAll, iosOf, is1, is2, is3, shd, bk0, bk1, bk2, mt2, mt3, mt4, mt5, us1, us2, us3, us4, ixt, ixl, ixL, ixT, ax0, ax1, ax2, ax3, abs1, int11, len1, len2, len3, len4, Option.bind_some, Option.map_some, Option.bind_none, Option.map_none, Bool.true_or, Bool.or_true, Bool.false_or, Bool.or_false, Bool.true_and, Bool.and_true, Bool.false_and, Bool.and_false, if_true, ite_true, eq_self, List.map_cons, List.map_nil, List.length_cons, List.length_nil, List.replicate_zero, List.replicate_succ, List.cons_append, List.nil_append, List.append_nil, Nat.sub_self, Nat.reduceAdd, Nat.reduceSub, Nat.zero_add, if_false, ite_false, Bool.not_true, Bool.not_false, Bool.false_eq_true, reduceIte, reduceCtorEq, pureXs, pureX, callD, decide_true, decide_false, Int.reduceEq, Int.reduceLT, Int.reduceLE, Int.reduceNeg, Int.reduceAdd, Int.reduceSub, Int.reduceMul, decide_eq_true_eq, Int.reduceNe, ne_eq, not_false_eq_true, not_true_eq_false, Option.some.injEq, c0, c1, c2, c3, tupD, forL, itE, setTg, seqOf, lstOf, enumD, zipD, hidFree, tgSets, setss, sets, List.contains_cons, backO, backH, List.zip_cons_cons, List.zip_nil_left, List.zip_nil_right, List.foldl_cons, List.foldl_nil, compL, wipeE, backE, optI, isNonX, List.drop_zero, List.drop_succ_cons, List.take_succ_cons, List.take_zero, List.take_nil, List.drop_nil, LIM, Nat.reduceLeDiff, aN1, aN2, aN3, aN4, sl1, sl2, sl3, sl4, sl5, sl6]
theorem chA_2_ring (n : Nat) {x y : Pt × Pt × Pt} {c r : Pt} (hx : Ba 60 x) (hy : Ba 60 y) (hc : Bp 60 c) (hr : Bp 60 r) :
    run Pr (n + 10) 32 [.sh (.lst [dA x, dA y]), .sh (dC (.ring c r))] = some (.sh (.bl (match (sameM x.1 x.2.1 c r && (sameM y.1 y.2.1 c r && true)) with
      | true => bentL 2 0 [x, y] r r
      | false => false)), []) := by
  have hb0 := bent_ring n (xs := [x, y]) (c := c) (r := r) (by intro w hw; simp only [List.mem_cons, List.not_mem_nil, or_false] at hw; rcases hw with rfl | rfl <;> assumption) hr
  have e : eqD (.lst [dA x, dA y]) (.lst []) = some false := nel (.arc x.1 x.2.1 x.2.2) [.arc y.1 y.2.1 y.2.2]
  have hx1 := same_ok (n + 3) (t := [dP x.2.2]) (t' := []) inA (x' := "ring") hx.c hx.a hc hr
  have hy1 := same_ok (n + 3) (t := [dP y.2.2]) (t' := []) inA (x' := "ring") hy.c hy.a hc hr
  rw [r32]
  simp only [List.map_cons, List.map_nil, dA, dC, List.length_cons, List.length_nil, Nat.zero_add, Nat.reduceAdd] at hb0 e hx1 hy1
  simp only [d_chain_shown, dA, dC, e, O.d, O.ds, lsO, k_ring_dot, k_ring_stretch, k_arc_ring, g29, g31, show d_same_circle.io = [] from rfl, show d_bent_chain.io = [] from rfl, hb0, hx1, hy1, al1, al2, al3, exs, ex, ev, evs, evB, evA, gt0, gtS, pt0, ptS, ba, bs, ceq, cne, cin, cni, clt, cle, cgt, cge, eqi, bo1, io1, ret1, ret2, ret3, ret4, ret5, ret6, ret7, mv1, mv2, mv3, mv4, mv5, sgΦ, sgΦm, sgS, sgM, sgMt, sgI, sgA, putAll, iosOf, is1, is2, is3, shd, bk0, bk1, bk2, mt2, mt3, mt4, mt5, us1, us2, us3, us4, ixt, ixl, ixL, ixT, ax0, ax1, ax2, ax3, abs1, int11, len1, len2, len3, len4, Option.bind_some, Option.map_some, Option.bind_none, Option.map_none, Bool.true_or, Bool.or_true, Bool.false_or, Bool.or_false, Bool.true_and, Bool.and_true, Bool.false_and, Bool.and_false, if_true, ite_true, eq_self, List.map_cons, List.map_nil, List.length_cons, List.length_nil, List.replicate_zero, List.replicate_succ, List.cons_append, List.nil_append, List.append_nil, Nat.sub_self, Nat.reduceAdd, Nat.reduceSub, Nat.zero_add, if_false, ite_false, Bool.not_true, Bool.not_false, Bool.false_eq_true, reduceIte, reduceCtorEq, pureXs, pureX, callD, decide_true, decide_false, Int.reduceEq, Int.reduceLT, Int.reduceLE, Int.reduceNeg, Int.reduceAdd, Int.reduceSub, Int.reduceMul, decide_eq_true_eq, Int.reduceNe, ne_eq, not_false_eq_true, not_true_eq_false, Option.some.injEq, c0, c1, c2, c3, tupD, forL, itE, setTg, seqOf, lstOf, enumD, zipD, hidFree, tgSets, setss, sets, List.contains_cons, backO, backH, List.zip_cons_cons, List.zip_nil_left, List.zip_nil_right, List.foldl_cons, List.foldl_nil, compL, wipeE, backE, optI, isNonX, List.drop_zero, List.drop_succ_cons, List.take_succ_cons, List.take_zero, List.take_nil, List.drop_nil, LIM, Nat.reduceLeDiff, aN1, aN2, aN3, aN4, sl1, sl2, sl3, sl4, sl5, sl6]
  cases sameM x.1 x.2.1 c r <;> simp only [al1, al2, al3, hb0, g31, show d_bent_chain.io = [] from rfl, k_arc_ring, e, exs, ex, ev, evs, evB, evA, gt0, gtS, pt0, ptS, ba, bs, ceq, cne, cin, cni, clt, cle, cgt, cge, eqi, bo1, io1, ret1, ret2, ret3, ret4, ret5, ret6, ret7, mv1, mv2, mv3, mv4, mv5, sgΦ, sgΦm, sgS, sgM, sgMt, sgI, sgA, putAll, iosOf, is1, is2, is3, shd, bk0, bk1, bk2, mt2, mt3, mt4, mt5, us1, us2, us3, us4, ixt, ixl, ixL, ixT, ax0, ax1, ax2, ax3, abs1, int11, len1, len2, len3, len4, Option.bind_some, Option.map_some, Option.bind_none, Option.map_none, Bool.true_or, Bool.or_true, Bool.false_or, Bool.or_false, Bool.true_and, Bool.and_true, Bool.false_and, Bool.and_false, if_true, ite_true, eq_self, List.map_cons, List.map_nil, List.length_cons, List.length_nil, List.replicate_zero, List.replicate_succ, List.cons_append, List.nil_append, List.append_nil, Nat.sub_self, Nat.reduceAdd, Nat.reduceSub, Nat.zero_add, if_false, ite_false, Bool.not_true, Bool.not_false, Bool.false_eq_true, reduceIte, reduceCtorEq, pureXs, pureX, callD, decide_true, decide_false, Int.reduceEq, Int.reduceLT, Int.reduceLE, Int.reduceNeg, Int.reduceAdd, Int.reduceSub, Int.reduceMul, decide_eq_true_eq, Int.reduceNe, ne_eq, not_false_eq_true, not_true_eq_false, Option.some.injEq, c0, c1, c2, c3, tupD, forL, itE, setTg, seqOf, lstOf, enumD, zipD, hidFree, tgSets, setss, sets, List.contains_cons, backO, backH, List.zip_cons_cons, List.zip_nil_left, List.zip_nil_right, List.foldl_cons, List.foldl_nil, compL, wipeE, backE, optI, isNonX, List.drop_zero, List.drop_succ_cons, List.take_succ_cons, List.take_zero, List.take_nil, List.drop_nil, LIM, Nat.reduceLeDiff, aN1, aN2, aN3, aN4, sl1, sl2, sl3, sl4, sl5, sl6]
  cases sameM y.1 y.2.1 c r <;> simp only [al1, al2, al3, hb0, g31, show d_bent_chain.io = [] from rfl, k_arc_ring, e, exs, ex, ev, evs, evB, evA, gt0, gtS, pt0, ptS, ba, bs, ceq, cne, cin, cni, clt, cle, cgt, cge, eqi, bo1, io1, ret1, ret2, ret3, ret4, ret5, ret6, ret7, mv1, mv2, mv3, mv4, mv5, sgΦ, sgΦm, sgS, sgM, sgMt, sgI, sgA, putAll, iosOf, is1, is2, is3, shd, bk0, bk1, bk2, mt2, mt3, mt4, mt5, us1, us2, us3, us4, ixt, ixl, ixL, ixT, ax0, ax1, ax2, ax3, abs1, int11, len1, len2, len3, len4, Option.bind_some, Option.map_some, Option.bind_none, Option.map_none, Bool.true_or, Bool.or_true, Bool.false_or, Bool.or_false, Bool.true_and, Bool.and_true, Bool.false_and, Bool.and_false, if_true, ite_true, eq_self, List.map_cons, List.map_nil, List.length_cons, List.length_nil, List.replicate_zero, List.replicate_succ, List.cons_append, List.nil_append, List.append_nil, Nat.sub_self, Nat.reduceAdd, Nat.reduceSub, Nat.zero_add, if_false, ite_false, Bool.not_true, Bool.not_false, Bool.false_eq_true, reduceIte, reduceCtorEq, pureXs, pureX, callD, decide_true, decide_false, Int.reduceEq, Int.reduceLT, Int.reduceLE, Int.reduceNeg, Int.reduceAdd, Int.reduceSub, Int.reduceMul, decide_eq_true_eq, Int.reduceNe, ne_eq, not_false_eq_true, not_true_eq_false, Option.some.injEq, c0, c1, c2, c3, tupD, forL, itE, setTg, seqOf, lstOf, enumD, zipD, hidFree, tgSets, setss, sets, List.contains_cons, backO, backH, List.zip_cons_cons, List.zip_nil_left, List.zip_nil_right, List.foldl_cons, List.foldl_nil, compL, wipeE, backE, optI, isNonX, List.drop_zero, List.drop_succ_cons, List.take_succ_cons, List.take_zero, List.take_nil, List.drop_nil, LIM, Nat.reduceLeDiff, aN1, aN2, aN3, aN4, sl1, sl2, sl3, sl4, sl5, sl6]
theorem chA_3_ring (n : Nat) {x y z : Pt × Pt × Pt} {c r : Pt} (hx : Ba 60 x) (hy : Ba 60 y) (hz : Ba 60 z) (hc : Bp 60 c) (hr : Bp 60 r) :
    run Pr (n + 10) 32 [.sh (.lst [dA x, dA y, dA z]), .sh (dC (.ring c r))] = some (.sh (.bl (match (sameM x.1 x.2.1 c r && (sameM y.1 y.2.1 c r && (sameM z.1 z.2.1 c r && true))) with
      | true => bentL 3 0 [x, y, z] r r
      | false => false)), []) := by
  have hb0 := bent_ring n (xs := [x, y, z]) (c := c) (r := r) (by intro w hw; simp only [List.mem_cons, List.not_mem_nil, or_false] at hw; rcases hw with rfl | rfl | rfl <;> assumption) hr
  have e : eqD (.lst [dA x, dA y, dA z]) (.lst []) = some false := nel (.arc x.1 x.2.1 x.2.2) [.arc y.1 y.2.1 y.2.2, .arc z.1 z.2.1 z.2.2]
  have hx1 := same_ok (n + 3) (t := [dP x.2.2]) (t' := []) inA (x' := "ring") hx.c hx.a hc hr
  have hy1 := same_ok (n + 3) (t := [dP y.2.2]) (t' := []) inA (x' := "ring") hy.c hy.a hc hr
  have hz1 := same_ok (n + 3) (t := [dP z.2.2]) (t' := []) inA (x' := "ring") hz.c hz.a hc hr
  rw [r32]
  simp only [List.map_cons, List.map_nil, dA, dC, List.length_cons, List.length_nil, Nat.zero_add, Nat.reduceAdd] at hb0 e hx1 hy1 hz1
  simp only [d_chain_shown, dA, dC, e, O.d, O.ds, lsO, k_ring_dot, k_ring_stretch, k_arc_ring, g29, g31, show d_same_circle.io = [] from rfl, show d_bent_chain.io = [] from rfl, hb0, hx1, hy1, hz1, al1, al2, al3, exs, ex, ev, evs, evB, evA, gt0, gtS, pt0, ptS, ba, bs, ceq, cne, cin, cni, clt, cle, cgt, cge, eqi, bo1, io1, ret1, ret2, ret3, ret4, ret5, ret6, ret7, mv1, mv2, mv3, mv4, mv5, sgΦ, sgΦm, sgS, sgM, sgMt, sgI, sgA, putAll, iosOf, is1, is2, is3, shd, bk0, bk1, bk2, mt2, mt3, mt4, mt5, us1, us2, us3, us4, ixt, ixl, ixL, ixT, ax0, ax1, ax2, ax3, abs1, int11, len1, len2, len3, len4, Option.bind_some, Option.map_some, Option.bind_none, Option.map_none, Bool.true_or, Bool.or_true, Bool.false_or, Bool.or_false, Bool.true_and, Bool.and_true, Bool.false_and, Bool.and_false, if_true, ite_true, eq_self, List.map_cons, List.map_nil, List.length_cons, List.length_nil, List.replicate_zero, List.replicate_succ, List.cons_append, List.nil_append, List.append_nil, Nat.sub_self, Nat.reduceAdd, Nat.reduceSub, Nat.zero_add, if_false, ite_false, Bool.not_true, Bool.not_false, Bool.false_eq_true, reduceIte, reduceCtorEq, pureXs, pureX, callD, decide_true, decide_false, Int.reduceEq, Int.reduceLT, Int.reduceLE, Int.reduceNeg, Int.reduceAdd, Int.reduceSub, Int.reduceMul, decide_eq_true_eq, Int.reduceNe, ne_eq, not_false_eq_true, not_true_eq_false, Option.some.injEq, c0, c1, c2, c3, tupD, forL, itE, setTg, seqOf, lstOf, enumD, zipD, hidFree, tgSets, setss, sets, List.contains_cons, backO, backH, List.zip_cons_cons, List.zip_nil_left, List.zip_nil_right, List.foldl_cons, List.foldl_nil, compL, wipeE, backE, optI, isNonX, List.drop_zero, List.drop_succ_cons, List.take_succ_cons, List.take_zero, List.take_nil, List.drop_nil, LIM, Nat.reduceLeDiff, aN1, aN2, aN3, aN4, sl1, sl2, sl3, sl4, sl5, sl6]
  cases sameM x.1 x.2.1 c r <;> simp only [al1, al2, al3, hb0, g31, show d_bent_chain.io = [] from rfl, k_arc_ring, e, exs, ex, ev, evs, evB, evA, gt0, gtS, pt0, ptS, ba, bs, ceq, cne, cin, cni, clt, cle, cgt, cge, eqi, bo1, io1, ret1, ret2, ret3, ret4, ret5, ret6, ret7, mv1, mv2, mv3, mv4, mv5, sgΦ, sgΦm, sgS, sgM, sgMt, sgI, sgA, putAll, iosOf, is1, is2, is3, shd, bk0, bk1, bk2, mt2, mt3, mt4, mt5, us1, us2, us3, us4, ixt, ixl, ixL, ixT, ax0, ax1, ax2, ax3, abs1, int11, len1, len2, len3, len4, Option.bind_some, Option.map_some, Option.bind_none, Option.map_none, Bool.true_or, Bool.or_true, Bool.false_or, Bool.or_false, Bool.true_and, Bool.and_true, Bool.false_and, Bool.and_false, if_true, ite_true, eq_self, List.map_cons, List.map_nil, List.length_cons, List.length_nil, List.replicate_zero, List.replicate_succ, List.cons_append, List.nil_append, List.append_nil, Nat.sub_self, Nat.reduceAdd, Nat.reduceSub, Nat.zero_add, if_false, ite_false, Bool.not_true, Bool.not_false, Bool.false_eq_true, reduceIte, reduceCtorEq, pureXs, pureX, callD, decide_true, decide_false, Int.reduceEq, Int.reduceLT, Int.reduceLE, Int.reduceNeg, Int.reduceAdd, Int.reduceSub, Int.reduceMul, decide_eq_true_eq, Int.reduceNe, ne_eq, not_false_eq_true, not_true_eq_false, Option.some.injEq, c0, c1, c2, c3, tupD, forL, itE, setTg, seqOf, lstOf, enumD, zipD, hidFree, tgSets, setss, sets, List.contains_cons, backO, backH, List.zip_cons_cons, List.zip_nil_left, List.zip_nil_right, List.foldl_cons, List.foldl_nil, compL, wipeE, backE, optI, isNonX, List.drop_zero, List.drop_succ_cons, List.take_succ_cons, List.take_zero, List.take_nil, List.drop_nil, LIM, Nat.reduceLeDiff, aN1, aN2, aN3, aN4, sl1, sl2, sl3, sl4, sl5, sl6]
  cases sameM y.1 y.2.1 c r <;> simp only [al1, al2, al3, hb0, g31, show d_bent_chain.io = [] from rfl, k_arc_ring, e, exs, ex, ev, evs, evB, evA, gt0, gtS, pt0, ptS, ba, bs, ceq, cne, cin, cni, clt, cle, cgt, cge, eqi, bo1, io1, ret1, ret2, ret3, ret4, ret5, ret6, ret7, mv1, mv2, mv3, mv4, mv5, sgΦ, sgΦm, sgS, sgM, sgMt, sgI, sgA, putAll, iosOf, is1, is2, is3, shd, bk0, bk1, bk2, mt2, mt3, mt4, mt5, us1, us2, us3, us4, ixt, ixl, ixL, ixT, ax0, ax1, ax2, ax3, abs1, int11, len1, len2, len3, len4, Option.bind_some, Option.map_some, Option.bind_none, Option.map_none, Bool.true_or, Bool.or_true, Bool.false_or, Bool.or_false, Bool.true_and, Bool.and_true, Bool.false_and, Bool.and_false, if_true, ite_true, eq_self, List.map_cons, List.map_nil, List.length_cons, List.length_nil, List.replicate_zero, List.replicate_succ, List.cons_append, List.nil_append, List.append_nil, Nat.sub_self, Nat.reduceAdd, Nat.reduceSub, Nat.zero_add, if_false, ite_false, Bool.not_true, Bool.not_false, Bool.false_eq_true, reduceIte, reduceCtorEq, pureXs, pureX, callD, decide_true, decide_false, Int.reduceEq, Int.reduceLT, Int.reduceLE, Int.reduceNeg, Int.reduceAdd, Int.reduceSub, Int.reduceMul, decide_eq_true_eq, Int.reduceNe, ne_eq, not_false_eq_true, not_true_eq_false, Option.some.injEq, c0, c1, c2, c3, tupD, forL, itE, setTg, seqOf, lstOf, enumD, zipD, hidFree, tgSets, setss, sets, List.contains_cons, backO, backH, List.zip_cons_cons, List.zip_nil_left, List.zip_nil_right, List.foldl_cons, List.foldl_nil, compL, wipeE, backE, optI, isNonX, List.drop_zero, List.drop_succ_cons, List.take_succ_cons, List.take_zero, List.take_nil, List.drop_nil, LIM, Nat.reduceLeDiff, aN1, aN2, aN3, aN4, sl1, sl2, sl3, sl4, sl5, sl6]
  cases sameM z.1 z.2.1 c r <;> simp only [al1, al2, al3, hb0, g31, show d_bent_chain.io = [] from rfl, k_arc_ring, e, exs, ex, ev, evs, evB, evA, gt0, gtS, pt0, ptS, ba, bs, ceq, cne, cin, cni, clt, cle, cgt, cge, eqi, bo1, io1, ret1, ret2, ret3, ret4, ret5, ret6, ret7, mv1, mv2, mv3, mv4, mv5, sgΦ, sgΦm, sgS, sgM, sgMt, sgI, sgA, putAll, iosOf, is1, is2, is3, shd, bk0, bk1, bk2, mt2, mt3, mt4, mt5, us1, us2, us3, us4, ixt, ixl, ixL, ixT, ax0, ax1, ax2, ax3, abs1, int11, len1, len2, len3, len4, Option.bind_some, Option.map_some, Option.bind_none, Option.map_none, Bool.true_or, Bool.or_true, Bool.false_or, Bool.or_false, Bool.true_and, Bool.and_true, Bool.false_and, Bool.and_false, if_true, ite_true, eq_self, List.map_cons, List.map_nil, List.length_cons, List.length_nil, List.replicate_zero, List.replicate_succ, List.cons_append, List.nil_append, List.append_nil, Nat.sub_self, Nat.reduceAdd, Nat.reduceSub, Nat.zero_add, if_false, ite_false, Bool.not_true, Bool.not_false, Bool.false_eq_true, reduceIte, reduceCtorEq, pureXs, pureX, callD, decide_true, decide_false, Int.reduceEq, Int.reduceLT, Int.reduceLE, Int.reduceNeg, Int.reduceAdd, Int.reduceSub, Int.reduceMul, decide_eq_true_eq, Int.reduceNe, ne_eq, not_false_eq_true, not_true_eq_false, Option.some.injEq, c0, c1, c2, c3, tupD, forL, itE, setTg, seqOf, lstOf, enumD, zipD, hidFree, tgSets, setss, sets, List.contains_cons, backO, backH, List.zip_cons_cons, List.zip_nil_left, List.zip_nil_right, List.foldl_cons, List.foldl_nil, compL, wipeE, backE, optI, isNonX, List.drop_zero, List.drop_succ_cons, List.take_succ_cons, List.take_zero, List.take_nil, List.drop_nil, LIM, Nat.reduceLeDiff, aN1, aN2, aN3, aN4, sl1, sl2, sl3, sl4, sl5, sl6]
end K89

namespace K89
open PySem L2 Ev
def dG (st : List D) : D := .ins 0 [0, 1, 2] [.tup [.str "none"], .lst st, .lst []]
def lk (k : Int) : D := .tup [.int k, .int 0]
theorem tI {k : Int} : bltO .isInt [.sh (.int k)] = some (.sh (.bl true)) := rfl
theorem tB {k : Int} : bltO .isBool [.sh (.int k)] = some (.sh (.bl false)) := rfl
theorem tT {l : List D} : bltO .isTuple [.sh (.tup l)] = some (.sh (.bl true)) := rfl
theorem tL {l : List D} : bltO .isList [.sh (.lst l)] = some (.sh (.bl true)) := rfl
theorem n_s : eqD (.str "none") (.str "smaller") = some false := by decide +kernel
theorem at0 (n : Nat) : (Pr.sg n).atr 0 0 = true := rfl
theorem at1 (n : Nat) : (Pr.sg n).atr 0 1 = true := rfl
theorem at2 (n : Nat) : (Pr.sg n).atr 0 2 = true := rfl
theorem fl0 {a b c : D} : fldD [0, 1, 2] [a, b, c] 0 = some a := rfl
theorem fl1 {a b c : D} : fldD [0, 1, 2] [a, b, c] 1 = some b := rfl
theorem fl2 {a b c : D} : fldD [0, 1, 2] [a, b, c] 2 = some c := rfl
theorem num_ok (n : Nat) {k : Int} (h : 0 ≤ k) : run Pr (n + 1) 27 [.sh (.int k)] = some (.sh (.bl true), []) := by
  rw [r27]
  simp only [d_is_number, tI, tB, decide_eq_true h, exs, ex, ev, evs, evB, evA, gt0, gtS, pt0, ptS, ba, bs, ceq, cne, cin, cni, clt, cle, cgt, cge, eqi, bo1, io1, ret1, ret2, ret3, ret4, ret5, ret6, ret7, mv1, mv2, mv3, mv4, mv5, sgΦ, sgΦm, sgS, sgM, sgMt, sgI, sgA, putAll, iosOf, is1, is2, is3, shd, bk0, bk1, bk2, mt2, mt3, mt4, mt5, us1, us2, us3, us4, ixt, ixl, ixL, ixT, ax0, ax1, ax2, ax3, abs1, int11, len1, len2, len3, len4, Option.bind_some, Option.map_some, Option.bind_none, Option.map_none, Bool.true_or, Bool.or_true, Bool.false_or, Bool.or_false, Bool.true_and, Bool.and_true, Bool.false_and, Bool.and_false, if_true, ite_true, eq_self, List.map_cons, List.map_nil, List.length_cons, List.length_nil, List.replicate_zero, List.replicate_succ, List.cons_append, List.nil_append, List.append_nil, Nat.sub_self, Nat.reduceAdd, Nat.reduceSub, Nat.zero_add, if_false, ite_false, Bool.not_true, Bool.not_false, Bool.false_eq_true, reduceIte, reduceCtorEq, pureXs, pureX, callD, decide_true, decide_false, Int.reduceEq, Int.reduceLT, Int.reduceLE, Int.reduceNeg, Int.reduceAdd, Int.reduceSub, Int.reduceMul, decide_eq_true_eq, Int.reduceNe, ne_eq, not_false_eq_true, not_true_eq_false, Option.some.injEq, c0, c1, c2, c3]
theorem is_one_ok (n : Nat) {st : List D} {k : Int} (h0 : 0 ≤ k) (h1 : k < st.length) : run Pr (n + 2) 34 [.sh (dG st), .sh (lk k)] = some (.sh (.bl true), []) := by
  rw [r34]
  simp only [d_Given_is_one, dG, lk, tT, g27, show d_is_number.io = [] from rfl, num_ok _ h0, num_ok _ (show (0 : Int) ≤ 0 by decide), show Pr.atr 0 0 = true from rfl, show Pr.atr 0 1 = true from rfl, show Pr.atr 0 2 = true from rfl, fl0, fl1, fl2, n_s, Int.add_zero, decide_eq_true h1, show decide ((st.length : Int) ≤ k) = false from decide_eq_false (by omega), Bool.not_true, Bool.not_false, exs, ex, ev, evs, evB, evA, gt0, gtS, pt0, ptS, ba, bs, ceq, cne, cin, cni, clt, cle, cgt, cge, eqi, bo1, io1, ret1, ret2, ret3, ret4, ret5, ret6, ret7, mv1, mv2, mv3, mv4, mv5, sgΦ, sgΦm, sgS, sgM, sgMt, sgI, sgA, putAll, iosOf, is1, is2, is3, shd, bk0, bk1, bk2, mt2, mt3, mt4, mt5, us1, us2, us3, us4, ixt, ixl, ixL, ixT, ax0, ax1, ax2, ax3, abs1, int11, len1, len2, len3, len4, Option.bind_some, Option.map_some, Option.bind_none, Option.map_none, Bool.true_or, Bool.or_true, Bool.false_or, Bool.or_false, Bool.true_and, Bool.and_true, Bool.false_and, Bool.and_false, if_true, ite_true, eq_self, List.map_cons, List.map_nil, List.length_cons, List.length_nil, List.replicate_zero, List.replicate_succ, List.cons_append, List.nil_append, List.append_nil, Nat.sub_self, Nat.reduceAdd, Nat.reduceSub, Nat.zero_add, if_false, ite_false, Bool.not_true, Bool.not_false, Bool.false_eq_true, reduceIte, reduceCtorEq, pureXs, pureX, callD, decide_true, decide_false, Int.reduceEq, Int.reduceLT, Int.reduceLE, Int.reduceNeg, Int.reduceAdd, Int.reduceSub, Int.reduceMul, decide_eq_true_eq, Int.reduceNe, ne_eq, not_false_eq_true, not_true_eq_false, Option.some.injEq, c0, c1, c2, c3]
theorem piece_ok (n : Nat) {st : List D} {k : Int} {d : D} (h1 : k < st.length) (hd : atI st k = some d) : run Pr (n + 1) 35 [.sh (dG st), .sh (.int k), .sh (.int 0)] = some (.sh d, []) := by
  rw [r35]
  simp only [d_Given_piece, dG, show Pr.atr 0 1 = true from rfl, fl1, decide_eq_true h1, hd, exs, ex, ev, evs, evB, evA, gt0, gtS, pt0, ptS, ba, bs, ceq, cne, cin, cni, clt, cle, cgt, cge, eqi, bo1, io1, ret1, ret2, ret3, ret4, ret5, ret6, ret7, mv1, mv2, mv3, mv4, mv5, sgΦ, sgΦm, sgS, sgM, sgMt, sgI, sgA, putAll, iosOf, is1, is2, is3, shd, bk0, bk1, bk2, mt2, mt3, mt4, mt5, us1, us2, us3, us4, ixt, ixl, ixL, ixT, ax0, ax1, ax2, ax3, abs1, int11, len1, len2, len3, len4, Option.bind_some, Option.map_some, Option.bind_none, Option.map_none, Bool.true_or, Bool.or_true, Bool.false_or, Bool.or_false, Bool.true_and, Bool.and_true, Bool.false_and, Bool.and_false, if_true, ite_true, eq_self, List.map_cons, List.map_nil, List.length_cons, List.length_nil, List.replicate_zero, List.replicate_succ, List.cons_append, List.nil_append, List.append_nil, Nat.sub_self, Nat.reduceAdd, Nat.reduceSub, Nat.zero_add, if_false, ite_false, Bool.not_true, Bool.not_false, Bool.false_eq_true, reduceIte, reduceCtorEq, pureXs, pureX, callD, decide_true, decide_false, Int.reduceEq, Int.reduceLT, Int.reduceLE, Int.reduceNeg, Int.reduceAdd, Int.reduceSub, Int.reduceMul, decide_eq_true_eq, Int.reduceNe, ne_eq, not_false_eq_true, not_true_eq_false, Option.some.injEq, c0, c1, c2, c3]
theorem in0 {k : Int} : inD (.tup [.int k, .int 0]) (.lst []) = some false := rfl
theorem in1 {j k : Int} (h : j ≠ k) : inD (.tup [.int k, .int 0]) (.lst [.sh (.tup [.int j, .int 0])]) = some false := by
  have e : inD (.tup [.int k, .int 0]) (.lst [.sh (.tup [.int j, .int 0])]) = (if SeqAt.shaped (D.tup [.int k, .int 0]).pd = true ∧ SeqAt.shaped (.list (D.pds [.tup [.int j, .int 0]])) = true then some ((D.pds [.tup [.int j, .int 0]]).any fun z => PyData.eqv z (D.tup [.int k, .int 0]).pd) else none) := rfl
  rw [e, if_pos ⟨rfl, rfl⟩]
  show some (((j == k) && ((0 == (0 : Int)) && true)) || false) = _
  rw [show (j == k) = false from beq_false_of_ne h]
  rfl
theorem s7 {a : D} : slO (.sh (.lst [a])) none (some 0) = some (.lst []) := rfl
theorem s8 {a b : D} : slO (.sh (.lst [a, b])) none (some 0) = some (.lst []) := rfl
theorem s9 {a b : D} : slO (.sh (.lst [a, b])) none (some 1) = some (.lst [.sh a]) := rfl
theorem rg1 : (-(2 : Int) ^ 62 ≤ 1 ∧ (1 : Int) < 2 ^ 62) = True := by decide
theorem rg2 : (-(2 : Int) ^ 62 ≤ 2 ∧ (2 : Int) < 2 ^ 62) = True := by decide
theorem rd1 : rangeD 0 1 = [.int 0] := rfl
theorem rd2 : rangeD 0 2 = [.int 0, .int 1] := rfl
theorem cov1 (n : Nat) {st : List D} {k : Int} {d pc : D} {s : Str} {q b : Bool} (h0 : 0 ≤ k) (h1 : k < st.length) (hd : atI st k = some d) (hp : ixO (.sh pc) 0 = some (.sh (.str s))) (hq : eqD (.str s) (.str "stretch") = some q)
    (hc : run Pr (n + 10) 32 [.sh (.lst [d]), .sh pc] = some (.sh (.bl b), [])) : run Pr (n + 11) 36 [.sh (dG st), .sh (.lst [lk k]), .sh pc] = some (.sh (.bl b), []) := by
  have e1 := is_one_ok (n + 8) (st := st) h0 h1
  have e2 := piece_ok (n + 9) (st := st) h1 hd
  rw [r36]
  simp only [dG, lk] at e1 e2
  simp only [dG, e1, e2, hp, hq, hc, d_Given_covers, lk, tL, show Pr.msg 0 = [false] from rfl, show Pr.msg 1 = [false] from rfl, show Pr.mth 0 0 = some 34 from rfl, show Pr.mth 0 1 = some 35 from rfl, clsO, g32, show d_chain_shown.io = [] from rfl, in0, s7, s8, s9, rg1, rg2, rd1, rd2, al1, al2, al3, an1, an2, O.d, O.ds, and_self, Bool.not_true, Bool.not_false, exs, ex, ev, evs, evB, evA, gt0, gtS, pt0, ptS, ba, bs, ceq, cne, cin, cni, clt, cle, cgt, cge, eqi, bo1, io1, ret1, ret2, ret3, ret4, ret5, ret6, ret7, mv1, mv2, mv3, mv4, mv5, sgΦ, sgΦm, sgS, sgM, sgMt, sgI, sgA, putAll, iosOf, is1, is2, is3, shd, bk0, bk1, bk2, mt2, mt3, mt4, mt5, us1, us2, us3, us4, ixt, ixl, ixL, ixT, ax0, ax1, ax2, ax3, abs1, int11, len1, len2, len3, len4, Option.bind_some, Option.map_some, Option.bind_none, Option.map_none, Bool.true_or, Bool.or_true, Bool.false_or, Bool.or_false, Bool.true_and, Bool.and_true, Bool.false_and, Bool.and_false, if_true, ite_true, eq_self, List.map_cons, List.map_nil, List.length_cons, List.length_nil, List.replicate_zero, List.replicate_succ, List.cons_append, List.nil_append, List.append_nil, Nat.sub_self, Nat.reduceAdd, Nat.reduceSub, Nat.zero_add, if_false, ite_false, Bool.not_true, Bool.not_false, Bool.false_eq_true, reduceIte, reduceCtorEq, pureXs, pureX, callD, decide_true, decide_false, Int.reduceEq, Int.reduceLT, Int.reduceLE, Int.reduceNeg, Int.reduceAdd, Int.reduceSub, Int.reduceMul, decide_eq_true_eq, Int.reduceNe, ne_eq, not_false_eq_true, not_true_eq_false, Option.some.injEq, c0, c1, c2, c3, tupD, forL, itE, setTg, seqOf, lstOf, enumD, zipD, hidFree, tgSets, setss, sets, List.contains_cons, backO, backH, List.zip_cons_cons, List.zip_nil_left, List.zip_nil_right, List.foldl_cons, List.foldl_nil, compL, wipeE, backE, optI, isNonX, List.drop_zero, List.drop_succ_cons, List.take_succ_cons, List.take_zero, List.take_nil, List.drop_nil, LIM, Nat.reduceLeDiff, aN1, aN2, aN3, aN4, sl1, sl2, sl3, sl4, sl5, sl6]
  cases q <;> simp only [e1, e2, hc, d_Given_covers, lk, tL, show Pr.msg 0 = [false] from rfl, show Pr.msg 1 = [false] from rfl, show Pr.mth 0 0 = some 34 from rfl, show Pr.mth 0 1 = some 35 from rfl, clsO, g32, show d_chain_shown.io = [] from rfl, in0, s7, s8, s9, rg1, rg2, rd1, rd2, al1, al2, al3, an1, an2, O.d, O.ds, and_self, Bool.not_true, Bool.not_false, exs, ex, ev, evs, evB, evA, gt0, gtS, pt0, ptS, ba, bs, ceq, cne, cin, cni, clt, cle, cgt, cge, eqi, bo1, io1, ret1, ret2, ret3, ret4, ret5, ret6, ret7, mv1, mv2, mv3, mv4, mv5, sgΦ, sgΦm, sgS, sgM, sgMt, sgI, sgA, putAll, iosOf, is1, is2, is3, shd, bk0, bk1, bk2, mt2, mt3, mt4, mt5, us1, us2, us3, us4, ixt, ixl, ixL, ixT, ax0, ax1, ax2, ax3, abs1, int11, len1, len2, len3, len4, Option.bind_some, Option.map_some, Option.bind_none, Option.map_none, Bool.true_or, Bool.or_true, Bool.false_or, Bool.or_false, Bool.true_and, Bool.and_true, Bool.false_and, Bool.and_false, if_true, ite_true, eq_self, List.map_cons, List.map_nil, List.length_cons, List.length_nil, List.replicate_zero, List.replicate_succ, List.cons_append, List.nil_append, List.append_nil, Nat.sub_self, Nat.reduceAdd, Nat.reduceSub, Nat.zero_add, if_false, ite_false, Bool.not_true, Bool.not_false, Bool.false_eq_true, reduceIte, reduceCtorEq, pureXs, pureX, callD, decide_true, decide_false, Int.reduceEq, Int.reduceLT, Int.reduceLE, Int.reduceNeg, Int.reduceAdd, Int.reduceSub, Int.reduceMul, decide_eq_true_eq, Int.reduceNe, ne_eq, not_false_eq_true, not_true_eq_false, Option.some.injEq, c0, c1, c2, c3, tupD, forL, itE, setTg, seqOf, lstOf, enumD, zipD, hidFree, tgSets, setss, sets, List.contains_cons, backO, backH, List.zip_cons_cons, List.zip_nil_left, List.zip_nil_right, List.foldl_cons, List.foldl_nil, compL, wipeE, backE, optI, isNonX, List.drop_zero, List.drop_succ_cons, List.take_succ_cons, List.take_zero, List.take_nil, List.drop_nil, LIM, Nat.reduceLeDiff, aN1, aN2, aN3, aN4, sl1, sl2, sl3, sl4, sl5, sl6]
theorem cov2 (n : Nat) {st : List D} {j k : Int} {d e pc : D} {s : Str} {q b : Bool} (h0 : 0 ≤ k) (h1 : k < st.length) (hd : atI st k = some e) (h2 : 0 ≤ j) (h3 : j < st.length) (he : atI st j = some d) (hjk : j ≠ k) (hp : ixO (.sh pc) 0 = some (.sh (.str s))) (hq : eqD (.str s) (.str "stretch") = some q)
    (hc : run Pr (n + 10) 32 [.sh (.lst [d, e]), .sh pc] = some (.sh (.bl b), [])) : run Pr (n + 11) 36 [.sh (dG st), .sh (.lst [lk j, lk k]), .sh pc] = some (.sh (.bl b), []) := by
  have e1 := is_one_ok (n + 8) (st := st) h0 h1
  have e2 := piece_ok (n + 9) (st := st) h1 hd
  have e3 := is_one_ok (n + 8) (st := st) h2 h3
  have e4 := piece_ok (n + 9) (st := st) h3 he
  rw [r36]
  simp only [dG, lk] at e1 e2 e3 e4
  simp only [dG, e1, e2, e3, e4, hp, hq, hc, in1 hjk, d_Given_covers, lk, tL, show Pr.msg 0 = [false] from rfl, show Pr.msg 1 = [false] from rfl, show Pr.mth 0 0 = some 34 from rfl, show Pr.mth 0 1 = some 35 from rfl, clsO, g32, show d_chain_shown.io = [] from rfl, in0, s7, s8, s9, rg1, rg2, rd1, rd2, al1, al2, al3, an1, an2, O.d, O.ds, and_self, Bool.not_true, Bool.not_false, exs, ex, ev, evs, evB, evA, gt0, gtS, pt0, ptS, ba, bs, ceq, cne, cin, cni, clt, cle, cgt, cge, eqi, bo1, io1, ret1, ret2, ret3, ret4, ret5, ret6, ret7, mv1, mv2, mv3, mv4, mv5, sgΦ, sgΦm, sgS, sgM, sgMt, sgI, sgA, putAll, iosOf, is1, is2, is3, shd, bk0, bk1, bk2, mt2, mt3, mt4, mt5, us1, us2, us3, us4, ixt, ixl, ixL, ixT, ax0, ax1, ax2, ax3, abs1, int11, len1, len2, len3, len4, Option.bind_some, Option.map_some, Option.bind_none, Option.map_none, Bool.true_or, Bool.or_true, Bool.false_or, Bool.or_false, Bool.true_and, Bool.and_true, Bool.false_and, Bool.and_false, if_true, ite_true, eq_self, List.map_cons, List.map_nil, List.length_cons, List.length_nil, List.replicate_zero, List.replicate_succ, List.cons_append, List.nil_append, List.append_nil, Nat.sub_self, Nat.reduceAdd, Nat.reduceSub, Nat.zero_add, if_false, ite_false, Bool.not_true, Bool.not_false, Bool.false_eq_true, reduceIte, reduceCtorEq, pureXs, pureX, callD, decide_true, decide_false, Int.reduceEq, Int.reduceLT, Int.reduceLE, Int.reduceNeg, Int.reduceAdd, Int.reduceSub, Int.reduceMul, decide_eq_true_eq, Int.reduceNe, ne_eq, not_false_eq_true, not_true_eq_false, Option.some.injEq, c0, c1, c2, c3, tupD, forL, itE, setTg, seqOf, lstOf, enumD, zipD, hidFree, tgSets, setss, sets, List.contains_cons, backO, backH, List.zip_cons_cons, List.zip_nil_left, List.zip_nil_right, List.foldl_cons, List.foldl_nil, compL, wipeE, backE, optI, isNonX, List.drop_zero, List.drop_succ_cons, List.take_succ_cons, List.take_zero, List.take_nil, List.drop_nil, LIM, Nat.reduceLeDiff, aN1, aN2, aN3, aN4, sl1, sl2, sl3, sl4, sl5, sl6]
  cases q <;> simp only [e1, e2, e3, e4, hc, in1 hjk, d_Given_covers, lk, tL, show Pr.msg 0 = [false] from rfl, show Pr.msg 1 = [false] from rfl, show Pr.mth 0 0 = some 34 from rfl, show Pr.mth 0 1 = some 35 from rfl, clsO, g32, show d_chain_shown.io = [] from rfl, in0, s7, s8, s9, rg1, rg2, rd1, rd2, al1, al2, al3, an1, an2, O.d, O.ds, and_self, Bool.not_true, Bool.not_false, exs, ex, ev, evs, evB, evA, gt0, gtS, pt0, ptS, ba, bs, ceq, cne, cin, cni, clt, cle, cgt, cge, eqi, bo1, io1, ret1, ret2, ret3, ret4, ret5, ret6, ret7, mv1, mv2, mv3, mv4, mv5, sgΦ, sgΦm, sgS, sgM, sgMt, sgI, sgA, putAll, iosOf, is1, is2, is3, shd, bk0, bk1, bk2, mt2, mt3, mt4, mt5, us1, us2, us3, us4, ixt, ixl, ixL, ixT, ax0, ax1, ax2, ax3, abs1, int11, len1, len2, len3, len4, Option.bind_some, Option.map_some, Option.bind_none, Option.map_none, Bool.true_or, Bool.or_true, Bool.false_or, Bool.or_false, Bool.true_and, Bool.and_true, Bool.false_and, Bool.and_false, if_true, ite_true, eq_self, List.map_cons, List.map_nil, List.length_cons, List.length_nil, List.replicate_zero, List.replicate_succ, List.cons_append, List.nil_append, List.append_nil, Nat.sub_self, Nat.reduceAdd, Nat.reduceSub, Nat.zero_add, if_false, ite_false, Bool.not_true, Bool.not_false, Bool.false_eq_true, reduceIte, reduceCtorEq, pureXs, pureX, callD, decide_true, decide_false, Int.reduceEq, Int.reduceLT, Int.reduceLE, Int.reduceNeg, Int.reduceAdd, Int.reduceSub, Int.reduceMul, decide_eq_true_eq, Int.reduceNe, ne_eq, not_false_eq_true, not_true_eq_false, Option.some.injEq, c0, c1, c2, c3, tupD, forL, itE, setTg, seqOf, lstOf, enumD, zipD, hidFree, tgSets, setss, sets, List.contains_cons, backO, backH, List.zip_cons_cons, List.zip_nil_left, List.zip_nil_right, List.foldl_cons, List.foldl_nil, compL, wipeE, backE, optI, isNonX, List.drop_zero, List.drop_succ_cons, List.take_succ_cons, List.take_zero, List.take_nil, List.drop_nil, LIM, Nat.reduceLeDiff, aN1, aN2, aN3, aN4, sl1, sl2, sl3, sl4, sl5, sl6]
theorem cov3 (n : Nat) {st : List D} {i j k : Int} {c d e pc : D} {s : Str} {b : Bool} (h0 : 0 ≤ k) (h1 : k < st.length) (hd : atI st k = some e) (h2 : 0 ≤ j) (h3 : j < st.length) (he : atI st j = some d) (h4 : 0 ≤ i) (h5 : i < st.length) (hf : atI st i = some c) (hp : ixO (.sh pc) 0 = some (.sh (.str s))) (hq : eqD (.str s) (.str "stretch") = some false)
    (hc : run Pr (n + 10) 32 [.sh (.lst [c, d, e]), .sh pc] = some (.sh (.bl b), [])) : run Pr (n + 11) 36 [.sh (dG st), .sh (.lst [lk i, lk j, lk k]), .sh pc] = some (.sh (.bl b), []) := by
  have e1 := is_one_ok (n + 8) (st := st) h0 h1
  have e2 := piece_ok (n + 9) (st := st) h1 hd
  have e3 := is_one_ok (n + 8) (st := st) h2 h3
  have e4 := piece_ok (n + 9) (st := st) h3 he
  have e5 := is_one_ok (n + 8) (st := st) h4 h5
  have e6 := piece_ok (n + 9) (st := st) h5 hf
  rw [r36]
  simp only [dG, lk] at e1 e2 e3 e4 e5 e6
  simp only [dG, e1, e2, e3, e4, e5, e6, hp, hq, hc, d_Given_covers, lk, tL, show Pr.msg 0 = [false] from rfl, show Pr.msg 1 = [false] from rfl, show Pr.mth 0 0 = some 34 from rfl, show Pr.mth 0 1 = some 35 from rfl, clsO, g32, show d_chain_shown.io = [] from rfl, in0, s7, s8, s9, rg1, rg2, rd1, rd2, al1, al2, al3, an1, an2, O.d, O.ds, and_self, Bool.not_true, Bool.not_false, exs, ex, ev, evs, evB, evA, gt0, gtS, pt0, ptS, ba, bs, ceq, cne, cin, cni, clt, cle, cgt, cge, eqi, bo1, io1, ret1, ret2, ret3, ret4, ret5, ret6, ret7, mv1, mv2, mv3, mv4, mv5, sgΦ, sgΦm, sgS, sgM, sgMt, sgI, sgA, putAll, iosOf, is1, is2, is3, shd, bk0, bk1, bk2, mt2, mt3, mt4, mt5, us1, us2, us3, us4, ixt, ixl, ixL, ixT, ax0, ax1, ax2, ax3, abs1, int11, len1, len2, len3, len4, Option.bind_some, Option.map_some, Option.bind_none, Option.map_none, Bool.true_or, Bool.or_true, Bool.false_or, Bool.or_false, Bool.true_and, Bool.and_true, Bool.false_and, Bool.and_false, if_true, ite_true, eq_self, List.map_cons, List.map_nil, List.length_cons, List.length_nil, List.replicate_zero, List.replicate_succ, List.cons_append, List.nil_append, List.append_nil, Nat.sub_self, Nat.reduceAdd, Nat.reduceSub, Nat.zero_add, if_false, ite_false, Bool.not_true, Bool.not_false, Bool.false_eq_true, reduceIte, reduceCtorEq, pureXs, pureX, callD, decide_true, decide_false, Int.reduceEq, Int.reduceLT, Int.reduceLE, Int.reduceNeg, Int.reduceAdd, Int.reduceSub, Int.reduceMul, decide_eq_true_eq, Int.reduceNe, ne_eq, not_false_eq_true, not_true_eq_false, Option.some.injEq, c0, c1, c2, c3, tupD, forL, itE, setTg, seqOf, lstOf, enumD, zipD, hidFree, tgSets, setss, sets, List.contains_cons, backO, backH, List.zip_cons_cons, List.zip_nil_left, List.zip_nil_right, List.foldl_cons, List.foldl_nil, compL, wipeE, backE, optI, isNonX, List.drop_zero, List.drop_succ_cons, List.take_succ_cons, List.take_zero, List.take_nil, List.drop_nil, LIM, Nat.reduceLeDiff, aN1, aN2, aN3, aN4, sl1, sl2, sl3, sl4, sl5, sl6]
end K89

namespace K89
open PySem L2 Ev
theorem t1 {a : D} : slO (.sh (.lst [a])) (some 1) none = some (.lst []) := rfl
theorem t2 {a b : D} : slO (.sh (.lst [a, b])) (some 2) none = some (.lst []) := rfl
theorem t3 {a b c : D} : slO (.sh (.lst [a, b, c])) (some 3) none = some (.lst []) := rfl
theorem ps1 (n : Nat) {st : List D} {p1 q1 : D} {b : Bool} (h1 : run Pr (n + 11) 36 [.sh (dG st), .sh q1, .sh p1] = some (.sh (.bl b), [])) :
    run Pr (n + 12) 38 [.sh (dG st), .sh (.tup [.lst [p1], .lst []]), .sh (.lst [q1])] = some (.sh (.bl b), []) := by
  rw [r38]
  simp only [dG] at h1
  simp only [h1, d_papers_shown, tL, dG, clsO, show Pr.msg 2 = [false] from rfl, show Pr.mth 0 2 = some 36 from rfl, t1, t2, t3, Int.add_zero, Bool.not_true, Bool.not_false, O.d, O.ds, exs, ex, ev, evs, evB, evA, gt0, gtS, pt0, ptS, ba, bs, ceq, cne, cin, cni, clt, cle, cgt, cge, eqi, bo1, io1, ret1, ret2, ret3, ret4, ret5, ret6, ret7, mv1, mv2, mv3, mv4, mv5, sgΦ, sgΦm, sgS, sgM, sgMt, sgI, sgA, putAll, iosOf, is1, is2, is3, shd, bk0, bk1, bk2, mt2, mt3, mt4, mt5, us1, us2, us3, us4, ixt, ixl, ixL, ixT, ax0, ax1, ax2, ax3, abs1, int11, len1, len2, len3, len4, Option.bind_some, Option.map_some, Option.bind_none, Option.map_none, Bool.true_or, Bool.or_true, Bool.false_or, Bool.or_false, Bool.true_and, Bool.and_true, Bool.false_and, Bool.and_false, if_true, ite_true, eq_self, List.map_cons, List.map_nil, List.length_cons, List.length_nil, List.replicate_zero, List.replicate_succ, List.cons_append, List.nil_append, List.append_nil, Nat.sub_self, Nat.reduceAdd, Nat.reduceSub, Nat.zero_add, if_false, ite_false, Bool.not_true, Bool.not_false, Bool.false_eq_true, reduceIte, reduceCtorEq, pureXs, pureX, callD, decide_true, decide_false, Int.reduceEq, Int.reduceLT, Int.reduceLE, Int.reduceNeg, Int.reduceAdd, Int.reduceSub, Int.reduceMul, decide_eq_true_eq, Int.reduceNe, ne_eq, not_false_eq_true, not_true_eq_false, Option.some.injEq, c0, c1, c2, c3, tupD, forL, itE, setTg, seqOf, lstOf, enumD, zipD, hidFree, tgSets, setss, sets, List.contains_cons, backO, backH, List.zip_cons_cons, List.zip_nil_left, List.zip_nil_right, List.foldl_cons, List.foldl_nil, compL, wipeE, backE, optI, isNonX, List.drop_zero, List.drop_succ_cons, List.take_succ_cons, List.take_zero, List.take_nil, List.drop_nil, LIM, Nat.reduceLeDiff, aN1, aN2, aN3, aN4, sl1, sl2, sl3, sl4, sl5, sl6]
  cases b <;> simp only [h1, d_papers_shown, tL, dG, clsO, show Pr.msg 2 = [false] from rfl, show Pr.mth 0 2 = some 36 from rfl, t1, t2, t3, Int.add_zero, Bool.not_true, Bool.not_false, O.d, O.ds, exs, ex, ev, evs, evB, evA, gt0, gtS, pt0, ptS, ba, bs, ceq, cne, cin, cni, clt, cle, cgt, cge, eqi, bo1, io1, ret1, ret2, ret3, ret4, ret5, ret6, ret7, mv1, mv2, mv3, mv4, mv5, sgΦ, sgΦm, sgS, sgM, sgMt, sgI, sgA, putAll, iosOf, is1, is2, is3, shd, bk0, bk1, bk2, mt2, mt3, mt4, mt5, us1, us2, us3, us4, ixt, ixl, ixL, ixT, ax0, ax1, ax2, ax3, abs1, int11, len1, len2, len3, len4, Option.bind_some, Option.map_some, Option.bind_none, Option.map_none, Bool.true_or, Bool.or_true, Bool.false_or, Bool.or_false, Bool.true_and, Bool.and_true, Bool.false_and, Bool.and_false, if_true, ite_true, eq_self, List.map_cons, List.map_nil, List.length_cons, List.length_nil, List.replicate_zero, List.replicate_succ, List.cons_append, List.nil_append, List.append_nil, Nat.sub_self, Nat.reduceAdd, Nat.reduceSub, Nat.zero_add, if_false, ite_false, Bool.not_true, Bool.not_false, Bool.false_eq_true, reduceIte, reduceCtorEq, pureXs, pureX, callD, decide_true, decide_false, Int.reduceEq, Int.reduceLT, Int.reduceLE, Int.reduceNeg, Int.reduceAdd, Int.reduceSub, Int.reduceMul, decide_eq_true_eq, Int.reduceNe, ne_eq, not_false_eq_true, not_true_eq_false, Option.some.injEq, c0, c1, c2, c3, tupD, forL, itE, setTg, seqOf, lstOf, enumD, zipD, hidFree, tgSets, setss, sets, List.contains_cons, backO, backH, List.zip_cons_cons, List.zip_nil_left, List.zip_nil_right, List.foldl_cons, List.foldl_nil, compL, wipeE, backE, optI, isNonX, List.drop_zero, List.drop_succ_cons, List.take_succ_cons, List.take_zero, List.take_nil, List.drop_nil, LIM, Nat.reduceLeDiff, aN1, aN2, aN3, aN4, sl1, sl2, sl3, sl4, sl5, sl6]
theorem ps2 (n : Nat) {st : List D} {p1 q1 p2 q2 : D} {b : Bool} (h1 : run Pr (n + 11) 36 [.sh (dG st), .sh q1, .sh p1] = some (.sh (.bl true), [])) (h2 : run Pr (n + 11) 36 [.sh (dG st), .sh q2, .sh p2] = some (.sh (.bl b), [])) :
    run Pr (n + 12) 38 [.sh (dG st), .sh (.tup [.lst [p1, p2], .lst []]), .sh (.lst [q1, q2])] = some (.sh (.bl b), []) := by
  rw [r38]
  simp only [dG] at h1 h2
  simp only [h1, h2, d_papers_shown, tL, dG, clsO, show Pr.msg 2 = [false] from rfl, show Pr.mth 0 2 = some 36 from rfl, t1, t2, t3, Int.add_zero, Bool.not_true, Bool.not_false, O.d, O.ds, exs, ex, ev, evs, evB, evA, gt0, gtS, pt0, ptS, ba, bs, ceq, cne, cin, cni, clt, cle, cgt, cge, eqi, bo1, io1, ret1, ret2, ret3, ret4, ret5, ret6, ret7, mv1, mv2, mv3, mv4, mv5, sgΦ, sgΦm, sgS, sgM, sgMt, sgI, sgA, putAll, iosOf, is1, is2, is3, shd, bk0, bk1, bk2, mt2, mt3, mt4, mt5, us1, us2, us3, us4, ixt, ixl, ixL, ixT, ax0, ax1, ax2, ax3, abs1, int11, len1, len2, len3, len4, Option.bind_some, Option.map_some, Option.bind_none, Option.map_none, Bool.true_or, Bool.or_true, Bool.false_or, Bool.or_false, Bool.true_and, Bool.and_true, Bool.false_and, Bool.and_false, if_true, ite_true, eq_self, List.map_cons, List.map_nil, List.length_cons, List.length_nil, List.replicate_zero, List.replicate_succ, List.cons_append, List.nil_append, List.append_nil, Nat.sub_self, Nat.reduceAdd, Nat.reduceSub, Nat.zero_add, if_false, ite_false, Bool.not_true, Bool.not_false, Bool.false_eq_true, reduceIte, reduceCtorEq, pureXs, pureX, callD, decide_true, decide_false, Int.reduceEq, Int.reduceLT, Int.reduceLE, Int.reduceNeg, Int.reduceAdd, Int.reduceSub, Int.reduceMul, decide_eq_true_eq, Int.reduceNe, ne_eq, not_false_eq_true, not_true_eq_false, Option.some.injEq, c0, c1, c2, c3, tupD, forL, itE, setTg, seqOf, lstOf, enumD, zipD, hidFree, tgSets, setss, sets, List.contains_cons, backO, backH, List.zip_cons_cons, List.zip_nil_left, List.zip_nil_right, List.foldl_cons, List.foldl_nil, compL, wipeE, backE, optI, isNonX, List.drop_zero, List.drop_succ_cons, List.take_succ_cons, List.take_zero, List.take_nil, List.drop_nil, LIM, Nat.reduceLeDiff, aN1, aN2, aN3, aN4, sl1, sl2, sl3, sl4, sl5, sl6]
  cases b <;> simp only [h1, h2, d_papers_shown, tL, dG, clsO, show Pr.msg 2 = [false] from rfl, show Pr.mth 0 2 = some 36 from rfl, t1, t2, t3, Int.add_zero, Bool.not_true, Bool.not_false, O.d, O.ds, exs, ex, ev, evs, evB, evA, gt0, gtS, pt0, ptS, ba, bs, ceq, cne, cin, cni, clt, cle, cgt, cge, eqi, bo1, io1, ret1, ret2, ret3, ret4, ret5, ret6, ret7, mv1, mv2, mv3, mv4, mv5, sgΦ, sgΦm, sgS, sgM, sgMt, sgI, sgA, putAll, iosOf, is1, is2, is3, shd, bk0, bk1, bk2, mt2, mt3, mt4, mt5, us1, us2, us3, us4, ixt, ixl, ixL, ixT, ax0, ax1, ax2, ax3, abs1, int11, len1, len2, len3, len4, Option.bind_some, Option.map_some, Option.bind_none, Option.map_none, Bool.true_or, Bool.or_true, Bool.false_or, Bool.or_false, Bool.true_and, Bool.and_true, Bool.false_and, Bool.and_false, if_true, ite_true, eq_self, List.map_cons, List.map_nil, List.length_cons, List.length_nil, List.replicate_zero, List.replicate_succ, List.cons_append, List.nil_append, List.append_nil, Nat.sub_self, Nat.reduceAdd, Nat.reduceSub, Nat.zero_add, if_false, ite_false, Bool.not_true, Bool.not_false, Bool.false_eq_true, reduceIte, reduceCtorEq, pureXs, pureX, callD, decide_true, decide_false, Int.reduceEq, Int.reduceLT, Int.reduceLE, Int.reduceNeg, Int.reduceAdd, Int.reduceSub, Int.reduceMul, decide_eq_true_eq, Int.reduceNe, ne_eq, not_false_eq_true, not_true_eq_false, Option.some.injEq, c0, c1, c2, c3, tupD, forL, itE, setTg, seqOf, lstOf, enumD, zipD, hidFree, tgSets, setss, sets, List.contains_cons, backO, backH, List.zip_cons_cons, List.zip_nil_left, List.zip_nil_right, List.foldl_cons, List.foldl_nil, compL, wipeE, backE, optI, isNonX, List.drop_zero, List.drop_succ_cons, List.take_succ_cons, List.take_zero, List.take_nil, List.drop_nil, LIM, Nat.reduceLeDiff, aN1, aN2, aN3, aN4, sl1, sl2, sl3, sl4, sl5, sl6]
theorem ps3 (n : Nat) {st : List D} {p1 q1 p2 q2 p3 q3 : D} {b : Bool} (h1 : run Pr (n + 11) 36 [.sh (dG st), .sh q1, .sh p1] = some (.sh (.bl true), [])) (h2 : run Pr (n + 11) 36 [.sh (dG st), .sh q2, .sh p2] = some (.sh (.bl true), [])) (h3 : run Pr (n + 11) 36 [.sh (dG st), .sh q3, .sh p3] = some (.sh (.bl b), [])) :
    run Pr (n + 12) 38 [.sh (dG st), .sh (.tup [.lst [p1, p2, p3], .lst []]), .sh (.lst [q1, q2, q3])] = some (.sh (.bl b), []) := by
  rw [r38]
  simp only [dG] at h1 h2 h3
  simp only [h1, h2, h3, d_papers_shown, tL, dG, clsO, show Pr.msg 2 = [false] from rfl, show Pr.mth 0 2 = some 36 from rfl, t1, t2, t3, Int.add_zero, Bool.not_true, Bool.not_false, O.d, O.ds, exs, ex, ev, evs, evB, evA, gt0, gtS, pt0, ptS, ba, bs, ceq, cne, cin, cni, clt, cle, cgt, cge, eqi, bo1, io1, ret1, ret2, ret3, ret4, ret5, ret6, ret7, mv1, mv2, mv3, mv4, mv5, sgΦ, sgΦm, sgS, sgM, sgMt, sgI, sgA, putAll, iosOf, is1, is2, is3, shd, bk0, bk1, bk2, mt2, mt3, mt4, mt5, us1, us2, us3, us4, ixt, ixl, ixL, ixT, ax0, ax1, ax2, ax3, abs1, int11, len1, len2, len3, len4, Option.bind_some, Option.map_some, Option.bind_none, Option.map_none, Bool.true_or, Bool.or_true, Bool.false_or, Bool.or_false, Bool.true_and, Bool.and_true, Bool.false_and, Bool.and_false, if_true, ite_true, eq_self, List.map_cons, List.map_nil, List.length_cons, List.length_nil, List.replicate_zero, List.replicate_succ, List.cons_append, List.nil_append, List.append_nil, Nat.sub_self, Nat.reduceAdd, Nat.reduceSub, Nat.zero_add, if_false, ite_false, Bool.not_true, Bool.not_false, Bool.false_eq_true, reduceIte, reduceCtorEq, pureXs, pureX, callD, decide_true, decide_false, Int.reduceEq, Int.reduceLT, Int.reduceLE, Int.reduceNeg, Int.reduceAdd, Int.reduceSub, Int.reduceMul, decide_eq_true_eq, Int.reduceNe, ne_eq, not_false_eq_true, not_true_eq_false, Option.some.injEq, c0, c1, c2, c3, tupD, forL, itE, setTg, seqOf, lstOf, enumD, zipD, hidFree, tgSets, setss, sets, List.contains_cons, backO, backH, List.zip_cons_cons, List.zip_nil_left, List.zip_nil_right, List.foldl_cons, List.foldl_nil, compL, wipeE, backE, optI, isNonX, List.drop_zero, List.drop_succ_cons, List.take_succ_cons, List.take_zero, List.take_nil, List.drop_nil, LIM, Nat.reduceLeDiff, aN1, aN2, aN3, aN4, sl1, sl2, sl3, sl4, sl5, sl6]
  cases b <;> simp only [h1, h2, h3, d_papers_shown, tL, dG, clsO, show Pr.msg 2 = [false] from rfl, show Pr.mth 0 2 = some 36 from rfl, t1, t2, t3, Int.add_zero, Bool.not_true, Bool.not_false, O.d, O.ds, exs, ex, ev, evs, evB, evA, gt0, gtS, pt0, ptS, ba, bs, ceq, cne, cin, cni, clt, cle, cgt, cge, eqi, bo1, io1, ret1, ret2, ret3, ret4, ret5, ret6, ret7, mv1, mv2, mv3, mv4, mv5, sgΦ, sgΦm, sgS, sgM, sgMt, sgI, sgA, putAll, iosOf, is1, is2, is3, shd, bk0, bk1, bk2, mt2, mt3, mt4, mt5, us1, us2, us3, us4, ixt, ixl, ixL, ixT, ax0, ax1, ax2, ax3, abs1, int11, len1, len2, len3, len4, Option.bind_some, Option.map_some, Option.bind_none, Option.map_none, Bool.true_or, Bool.or_true, Bool.false_or, Bool.or_false, Bool.true_and, Bool.and_true, Bool.false_and, Bool.and_false, if_true, ite_true, eq_self, List.map_cons, List.map_nil, List.length_cons, List.length_nil, List.replicate_zero, List.replicate_succ, List.cons_append, List.nil_append, List.append_nil, Nat.sub_self, Nat.reduceAdd, Nat.reduceSub, Nat.zero_add, if_false, ite_false, Bool.not_true, Bool.not_false, Bool.false_eq_true, reduceIte, reduceCtorEq, pureXs, pureX, callD, decide_true, decide_false, Int.reduceEq, Int.reduceLT, Int.reduceLE, Int.reduceNeg, Int.reduceAdd, Int.reduceSub, Int.reduceMul, decide_eq_true_eq, Int.reduceNe, ne_eq, not_false_eq_true, not_true_eq_false, Option.some.injEq, c0, c1, c2, c3, tupD, forL, itE, setTg, seqOf, lstOf, enumD, zipD, hidFree, tgSets, setss, sets, List.contains_cons, backO, backH, List.zip_cons_cons, List.zip_nil_left, List.zip_nil_right, List.foldl_cons, List.foldl_nil, compL, wipeE, backE, optI, isNonX, List.drop_zero, List.drop_succ_cons, List.take_succ_cons, List.take_zero, List.take_nil, List.drop_nil, LIM, Nat.reduceLeDiff, aN1, aN2, aN3, aN4, sl1, sl2, sl3, sl4, sl5, sl6]
theorem init_ok (n : Nat) (w st fl : D) : run Pr (n + 1) 33 [.ins 0 [] [], .sh w, .sh st, .sh fl] = some (.sh .non, [.ins 0 [0, 1, 2] [.sh w, .sh st, .sh fl]]) := rfl
theorem alike_ok (n : Nat) {st1 st2 q1 q2 : List D} {b1 b2 : Bool} (h1 : run Pr (n + 12) 38 [.sh (dG st2), .sh (.tup [.lst st1, .lst []]), .sh (.lst q1)] = some (.sh (.bl b1), [])) (h2 : run Pr (n + 12) 38 [.sh (dG st1), .sh (.tup [.lst st2, .lst []]), .sh (.lst q2)] = some (.sh (.bl b2), [])) :
    run Pr (n + 13) 39 [.sh (.tup [.tup [.str "none"], .tup [.lst st1, .lst []], .tup [.lst st2, .lst []]]), .sh (.tup [.lst q1, .lst q2])] = some (.sh (.bl (b1 && b2)), []) := by
  rw [r39]
  simp only [dG] at h1 h2
  simp only [h1, h2, d_alike_shown, dG, tT, show Pr.ini 0 = some 33 from rfl, g38, show d_papers_shown.io = [] from rfl, init_ok, O.d, O.ds, Bool.not_true, Bool.not_false, exs, ex, ev, evs, evB, evA, gt0, gtS, pt0, ptS, ba, bs, ceq, cne, cin, cni, clt, cle, cgt, cge, eqi, bo1, io1, ret1, ret2, ret3, ret4, ret5, ret6, ret7, mv1, mv2, mv3, mv4, mv5, sgΦ, sgΦm, sgS, sgM, sgMt, sgI, sgA, putAll, iosOf, is1, is2, is3, shd, bk0, bk1, bk2, mt2, mt3, mt4, mt5, us1, us2, us3, us4, ixt, ixl, ixL, ixT, ax0, ax1, ax2, ax3, abs1, int11, len1, len2, len3, len4, Option.bind_some, Option.map_some, Option.bind_none, Option.map_none, Bool.true_or, Bool.or_true, Bool.false_or, Bool.or_false, Bool.true_and, Bool.and_true, Bool.false_and, Bool.and_false, if_true, ite_true, eq_self, List.map_cons, List.map_nil, List.length_cons, List.length_nil, List.replicate_zero, List.replicate_succ, List.cons_append, List.nil_append, List.append_nil, Nat.sub_self, Nat.reduceAdd, Nat.reduceSub, Nat.zero_add, if_false, ite_false, Bool.not_true, Bool.not_false, Bool.false_eq_true, reduceIte, reduceCtorEq, pureXs, pureX, callD, decide_true, decide_false, Int.reduceEq, Int.reduceLT, Int.reduceLE, Int.reduceNeg, Int.reduceAdd, Int.reduceSub, Int.reduceMul, decide_eq_true_eq, Int.reduceNe, ne_eq, not_false_eq_true, not_true_eq_false, Option.some.injEq, c0, c1, c2, c3, tupD, forL, itE, setTg, seqOf, lstOf, enumD, zipD, hidFree, tgSets, setss, sets, List.contains_cons, backO, backH, List.zip_cons_cons, List.zip_nil_left, List.zip_nil_right, List.foldl_cons, List.foldl_nil, compL, wipeE, backE, optI, isNonX, List.drop_zero, List.drop_succ_cons, List.take_succ_cons, List.take_zero, List.take_nil, List.drop_nil, LIM, Nat.reduceLeDiff, aN1, aN2, aN3, aN4, sl1, sl2, sl3, sl4, sl5, sl6]
  cases b1 <;> simp only [h1, h2, d_alike_shown, dG, tT, show Pr.ini 0 = some 33 from rfl, g38, show d_papers_shown.io = [] from rfl, init_ok, O.d, O.ds, Bool.not_true, Bool.not_false, exs, ex, ev, evs, evB, evA, gt0, gtS, pt0, ptS, ba, bs, ceq, cne, cin, cni, clt, cle, cgt, cge, eqi, bo1, io1, ret1, ret2, ret3, ret4, ret5, ret6, ret7, mv1, mv2, mv3, mv4, mv5, sgΦ, sgΦm, sgS, sgM, sgMt, sgI, sgA, putAll, iosOf, is1, is2, is3, shd, bk0, bk1, bk2, mt2, mt3, mt4, mt5, us1, us2, us3, us4, ixt, ixl, ixL, ixT, ax0, ax1, ax2, ax3, abs1, int11, len1, len2, len3, len4, Option.bind_some, Option.map_some, Option.bind_none, Option.map_none, Bool.true_or, Bool.or_true, Bool.false_or, Bool.or_false, Bool.true_and, Bool.and_true, Bool.false_and, Bool.and_false, if_true, ite_true, eq_self, List.map_cons, List.map_nil, List.length_cons, List.length_nil, List.replicate_zero, List.replicate_succ, List.cons_append, List.nil_append, List.append_nil, Nat.sub_self, Nat.reduceAdd, Nat.reduceSub, Nat.zero_add, if_false, ite_false, Bool.not_true, Bool.not_false, Bool.false_eq_true, reduceIte, reduceCtorEq, pureXs, pureX, callD, decide_true, decide_false, Int.reduceEq, Int.reduceLT, Int.reduceLE, Int.reduceNeg, Int.reduceAdd, Int.reduceSub, Int.reduceMul, decide_eq_true_eq, Int.reduceNe, ne_eq, not_false_eq_true, not_true_eq_false, Option.some.injEq, c0, c1, c2, c3, tupD, forL, itE, setTg, seqOf, lstOf, enumD, zipD, hidFree, tgSets, setss, sets, List.contains_cons, backO, backH, List.zip_cons_cons, List.zip_nil_left, List.zip_nil_right, List.foldl_cons, List.foldl_nil, compL, wipeE, backE, optI, isNonX, List.drop_zero, List.drop_succ_cons, List.take_succ_cons, List.take_zero, List.take_nil, List.drop_nil, LIM, Nat.reduceLeDiff, aN1, aN2, aN3, aN4, sl1, sl2, sl3, sl4, sl5, sl6]
end K89

namespace K89
open PySem L2 Ev
def Fd (m : Int) (F : O) : Prop := ∃ a k f : Int, F = .lst [.sh (.int a), .sh (.int k), .sh (.int f)] ∧ 0 ≤ k ∧ k ≤ m
theorem fm_b (a : Int) {b : Int} (h : 0 < b) : 0 ≤ a.fmod b ∧ a.fmod b < b := by
  rw [Int.fmod_eq_emod_of_nonneg _ (by omega)]
  exact ⟨Int.emod_nonneg _ (by omega), Int.emod_lt_of_pos _ h⟩
theorem Sz.of {k : Nat} {i b : Int} (h0 : 0 ≤ i) (h1 : i < b) (hb : Sz k b) : Sz k i := by
  unfold Sz at *
  omega
theorem bpw : binO .pow (.sh (.int 10)) (.sh (.int 18)) = some (.sh (.int 1000000000000000000)) := rfl
theorem ixn0 : ixN 3 0 = some 0 := rfl
theorem ixn1 : ixN 3 1 = some 1 := rfl
theorem ow {os : List O} : ownL (.lst os) = some os := rfl
theorem draw_ok (n : Nat) {m M : Int} {F : O} (hm : m ≤ 1000) (h0 : 0 < M) (h1 : M ≤ 100) (hF : Fd m F) : ∃ v F', run Pr (n + 1) 42 [F, .sh (.int M)] = some (.sh (.int v), [F']) ∧ Fd (m + 1) F' ∧ 0 ≤ v ∧ v < M := by
  obtain ⟨a, k, f, rfl, k0, k1⟩ := hF
  have hM : M ≠ 0 := by omega
  have hM2 : M.natAbs.log2 < 9000 := by
    have : M.natAbs < 2 ^ (9 + 1) := by omega
    have := Ev.lg this
    omega
  have sk : Sz 20 k := by unfold Sz; omega
  have s1 : Sz 13 7919 := by unfold Sz; decide
  have s2 : Sz 33 (7919 * k) := s1.mul sk
  have s3 : Sz 53 (7919 * k * k) := s2.mul sk
  have s4 : Sz 60 (a.fmod 1000000000000000000) := Sz.of (fm_b a (by decide)).1 (fm_b a (by decide)).2 (by unfold Sz; decide)
  have s5 : Sz 61 (a.fmod 1000000000000000000 + 7919 * k * k) := s4.add (s3.mono (by decide))
  have s6 : Sz 62 (a.fmod 1000000000000000000 + 7919 * k * k + k) := s5.add (sk.mono (by decide))
  have s7 : Sz 16 48271 := by unfold Sz; decide
  have e1 := bm (s1.mono (show 13 ≤ 250 by decide)) (sk.mono (show 20 ≤ 250 by decide))
  have e2 := bm (s2.mono (show 33 ≤ 250 by decide)) (sk.mono (show 20 ≤ 250 by decide))
  have e3 := bm (s6.mono (show 62 ≤ 250 by decide)) (s7.mono (show 16 ≤ 250 by decide))
  have s8 : ∀ y : Int, Sz 61 (y.fmod 2305843009213693951) := fun y => Sz.of (fm_b y (by decide)).1 (fm_b y (by decide)).2 (by unfold Sz; decide)
  have s9 : Sz 61 1442695040888963407 := by unfold Sz; decide
  have e4 := fun y : Int => bm ((s8 y).mono (show 61 ≤ 250 by decide)) (s9.mono (show 61 ≤ 250 by decide))
  have e5 := fun s : Int => bmod (s := s) (t := 2305843009213693951) (by decide)
  have e6 := fun s : Int => bmod (s := s) (t := 2305843009213693921) (by decide)
  have e7 := fun s : Int => bmod (s := s) (t := 1000000000000000000) (by decide)
  have e8 := fun s : Int => bfd (s := s) (t := 16) (by decide) (by decide)
  by_cases c1 : f = 1
  · by_cases c2 : 0 < a
    · refine ⟨a.fmod M, .lst [.sh (.int (a.fdiv M)), .sh (.int (k + 1)), .sh (.int f)], ?_, ⟨_, _, _, rfl, by omega, by omega⟩, fm_b a h0⟩
      rw [r42]
      simp only [d__law_draw, decide_eq_true c1, decide_eq_true c2, bpw, ow, ixn0, ixn1, bmod hM, bfd hM hM2, List.set_cons_zero, List.set_cons_succ, exs, ex, ev, evs, evB, evA, gt0, gtS, pt0, ptS, ba, bs, ceq, cne, cin, cni, clt, cle, cgt, cge, eqi, bo1, io1, ret1, ret2, ret3, ret4, ret5, ret6, ret7, mv1, mv2, mv3, mv4, mv5, sgΦ, sgΦm, sgS, sgM, sgMt, sgI, sgA, putAll, iosOf, is1, is2, is3, shd, bk0, bk1, bk2, mt2, mt3, mt4, mt5, us1, us2, us3, us4, ixt, ixl, ixL, ixT, ax0, ax1, ax2, ax3, abs1, int11, len1, len2, len3, len4, Option.bind_some, Option.map_some, Option.bind_none, Option.map_none, Bool.true_or, Bool.or_true, Bool.false_or, Bool.or_false, Bool.true_and, Bool.and_true, Bool.false_and, Bool.and_false, if_true, ite_true, eq_self, List.map_cons, List.map_nil, List.length_cons, List.length_nil, List.replicate_zero, List.replicate_succ, List.cons_append, List.nil_append, List.append_nil, Nat.sub_self, Nat.reduceAdd, Nat.reduceSub, Nat.zero_add, if_false, ite_false, Bool.not_true, Bool.not_false, Bool.false_eq_true, reduceIte, reduceCtorEq, pureXs, pureX, callD, decide_true, decide_false, Int.reduceEq, Int.reduceLT, Int.reduceLE, Int.reduceNeg, Int.reduceAdd, Int.reduceSub, Int.reduceMul, decide_eq_true_eq, Int.reduceNe, ne_eq, not_false_eq_true, not_true_eq_false, Option.some.injEq, c0, c1, c2, c3]
    · refine ⟨((((a.fmod 1000000000000000000 + 7919 * k * k + k) * 48271).fmod 2305843009213693951 * 1442695040888963407 + 4321).fmod 2305843009213693921).fdiv 16 |>.fmod M, .lst [.sh (.int a), .sh (.int (k + 1)), .sh (.int f)], ?_, ⟨_, _, _, rfl, by omega, by omega⟩, fm_b _ h0⟩
      rw [r42]
      simp only [d__law_draw, decide_eq_true c1, decide_eq_false c2, e1, e2, e3, e4, e5, e6, e7, e8, bpw, ow, ixn0, ixn1, bmod hM, bfd hM hM2, List.set_cons_zero, List.set_cons_succ, exs, ex, ev, evs, evB, evA, gt0, gtS, pt0, ptS, ba, bs, ceq, cne, cin, cni, clt, cle, cgt, cge, eqi, bo1, io1, ret1, ret2, ret3, ret4, ret5, ret6, ret7, mv1, mv2, mv3, mv4, mv5, sgΦ, sgΦm, sgS, sgM, sgMt, sgI, sgA, putAll, iosOf, is1, is2, is3, shd, bk0, bk1, bk2, mt2, mt3, mt4, mt5, us1, us2, us3, us4, ixt, ixl, ixL, ixT, ax0, ax1, ax2, ax3, abs1, int11, len1, len2, len3, len4, Option.bind_some, Option.map_some, Option.bind_none, Option.map_none, Bool.true_or, Bool.or_true, Bool.false_or, Bool.or_false, Bool.true_and, Bool.and_true, Bool.false_and, Bool.and_false, if_true, ite_true, eq_self, List.map_cons, List.map_nil, List.length_cons, List.length_nil, List.replicate_zero, List.replicate_succ, List.cons_append, List.nil_append, List.append_nil, Nat.sub_self, Nat.reduceAdd, Nat.reduceSub, Nat.zero_add, if_false, ite_false, Bool.not_true, Bool.not_false, Bool.false_eq_true, reduceIte, reduceCtorEq, pureXs, pureX, callD, decide_true, decide_false, Int.reduceEq, Int.reduceLT, Int.reduceLE, Int.reduceNeg, Int.reduceAdd, Int.reduceSub, Int.reduceMul, decide_eq_true_eq, Int.reduceNe, ne_eq, not_false_eq_true, not_true_eq_false, Option.some.injEq, c0, c1, c2, c3]
  · refine ⟨((((a.fmod 1000000000000000000 + 7919 * k * k + k) * 48271).fmod 2305843009213693951 * 1442695040888963407 + 4321).fmod 2305843009213693921).fdiv 16 |>.fmod M, .lst [.sh (.int a), .sh (.int (k + 1)), .sh (.int f)], ?_, ⟨_, _, _, rfl, by omega, by omega⟩, fm_b _ h0⟩
    rw [r42]
    simp only [d__law_draw, decide_eq_false c1, e1, e2, e3, e4, e5, e6, e7, e8, bpw, ow, ixn0, ixn1, bmod hM, bfd hM hM2, List.set_cons_zero, List.set_cons_succ, exs, ex, ev, evs, evB, evA, gt0, gtS, pt0, ptS, ba, bs, ceq, cne, cin, cni, clt, cle, cgt, cge, eqi, bo1, io1, ret1, ret2, ret3, ret4, ret5, ret6, ret7, mv1, mv2, mv3, mv4, mv5, sgΦ, sgΦm, sgS, sgM, sgMt, sgI, sgA, putAll, iosOf, is1, is2, is3, shd, bk0, bk1, bk2, mt2, mt3, mt4, mt5, us1, us2, us3, us4, ixt, ixl, ixL, ixT, ax0, ax1, ax2, ax3, abs1, int11, len1, len2, len3, len4, Option.bind_some, Option.map_some, Option.bind_none, Option.map_none, Bool.true_or, Bool.or_true, Bool.false_or, Bool.or_false, Bool.true_and, Bool.and_true, Bool.false_and, Bool.and_false, if_true, ite_true, eq_self, List.map_cons, List.map_nil, List.length_cons, List.length_nil, List.replicate_zero, List.replicate_succ, List.cons_append, List.nil_append, List.append_nil, Nat.sub_self, Nat.reduceAdd, Nat.reduceSub, Nat.zero_add, if_false, ite_false, Bool.not_true, Bool.not_false, Bool.false_eq_true, reduceIte, reduceCtorEq, pureXs, pureX, callD, decide_true, decide_false, Int.reduceEq, Int.reduceLT, Int.reduceLE, Int.reduceNeg, Int.reduceAdd, Int.reduceSub, Int.reduceMul, decide_eq_true_eq, Int.reduceNe, ne_eq, not_false_eq_true, not_true_eq_false, Option.some.injEq, c0, c1, c2, c3]
theorem feed_ok (n : Nat) (c : Int) : ∃ F, run Pr (n + 1) 41 [.sh (.int c)] = some (F, []) ∧ Fd 0 F := by
  refine ⟨.lst [.sh (.int c), .sh (.int 0), .sh (.int (if decide (1000000000000000000 ≤ c) = true then 1 else 0))], ?_, ⟨_, _, _, rfl, by decide, by decide⟩⟩
  rw [r41]
  simp only [d__law_feed, bpw, exs, ex, ev, evs, evB, evA, gt0, gtS, pt0, ptS, ba, bs, ceq, cne, cin, cni, clt, cle, cgt, cge, eqi, bo1, io1, ret1, ret2, ret3, ret4, ret5, ret6, ret7, mv1, mv2, mv3, mv4, mv5, sgΦ, sgΦm, sgS, sgM, sgMt, sgI, sgA, putAll, iosOf, is1, is2, is3, shd, bk0, bk1, bk2, mt2, mt3, mt4, mt5, us1, us2, us3, us4, ixt, ixl, ixL, ixT, ax0, ax1, ax2, ax3, abs1, int11, len1, len2, len3, len4, Option.bind_some, Option.map_some, Option.bind_none, Option.map_none, Bool.true_or, Bool.or_true, Bool.false_or, Bool.or_false, Bool.true_and, Bool.and_true, Bool.false_and, Bool.and_false, if_true, ite_true, eq_self, List.map_cons, List.map_nil, List.length_cons, List.length_nil, List.replicate_zero, List.replicate_succ, List.cons_append, List.nil_append, List.append_nil, Nat.sub_self, Nat.reduceAdd, Nat.reduceSub, Nat.zero_add, if_false, ite_false, Bool.not_true, Bool.not_false, Bool.false_eq_true, reduceIte, reduceCtorEq, pureXs, pureX, callD, decide_true, decide_false, Int.reduceEq, Int.reduceLT, Int.reduceLE, Int.reduceNeg, Int.reduceAdd, Int.reduceSub, Int.reduceMul, decide_eq_true_eq, Int.reduceNe, ne_eq, not_false_eq_true, not_true_eq_false, Option.some.injEq, c0, c1, c2, c3]
theorem point_ok (n : Nat) {m : Int} {F : O} (hm : m ≤ 900) (hF : Fd m F) : ∃ (p : Pt) (F' : O), run Pr (n + 2) 43 [F] = some (.sh (dP p), [F']) ∧ Fd (m + 2) F' ∧ -6 ≤ p.1 ∧ p.1 ≤ 6 ∧ -6 ≤ p.2 ∧ p.2 ≤ 6 := by
  obtain ⟨v, F1, e1, f1, a1, b1⟩ := draw_ok n (by omega) (show (0 : Int) < 13 by decide) (by decide) hF
  obtain ⟨w, F2, e2, f2, a2, b2⟩ := draw_ok n (by omega) (show (0 : Int) < 13 by decide) (by decide) f1
  refine ⟨(v - 6, w - 6), F2, ?_, by rw [show m + 2 = m + 1 + 1 by omega]; exact f2, by show -6 ≤ v - 6; omega, by show v - 6 ≤ 6; omega, by show -6 ≤ w - 6; omega, by show w - 6 ≤ 6; omega⟩
  obtain ⟨_, _, _, rfl, _⟩ := hF
  obtain ⟨_, _, _, rfl, _⟩ := f1
  obtain ⟨_, _, _, rfl, _⟩ := f2
  rw [r43]
  simp only [d__law_point, g42, show d__law_draw.io = [true] from rfl, e1, e2, Option.isNone_none, List.contains_nil, exs, ex, ev, evs, evB, evA, gt0, gtS, pt0, ptS, ba, bs, ceq, cne, cin, cni, clt, cle, cgt, cge, eqi, bo1, io1, ret1, ret2, ret3, ret4, ret5, ret6, ret7, mv1, mv2, mv3, mv4, mv5, sgΦ, sgΦm, sgS, sgM, sgMt, sgI, sgA, putAll, iosOf, is1, is2, is3, shd, bk0, bk1, bk2, mt2, mt3, mt4, mt5, us1, us2, us3, us4, ixt, ixl, ixL, ixT, ax0, ax1, ax2, ax3, abs1, int11, len1, len2, len3, len4, Option.bind_some, Option.map_some, Option.bind_none, Option.map_none, Bool.true_or, Bool.or_true, Bool.false_or, Bool.or_false, Bool.true_and, Bool.and_true, Bool.false_and, Bool.and_false, if_true, ite_true, eq_self, List.map_cons, List.map_nil, List.length_cons, List.length_nil, List.replicate_zero, List.replicate_succ, List.cons_append, List.nil_append, List.append_nil, Nat.sub_self, Nat.reduceAdd, Nat.reduceSub, Nat.zero_add, if_false, ite_false, Bool.not_true, Bool.not_false, Bool.false_eq_true, reduceIte, reduceCtorEq, pureXs, pureX, callD, decide_true, decide_false, Int.reduceEq, Int.reduceLT, Int.reduceLE, Int.reduceNeg, Int.reduceAdd, Int.reduceSub, Int.reduceMul, decide_eq_true_eq, Int.reduceNe, ne_eq, not_false_eq_true, not_true_eq_false, Option.some.injEq, c0, c1, c2, c3]
  rfl
end K89

namespace K89
open PySem L2 Ev
def qM (p : Pt) (a : Int) : Pt := (p.1 + 4, p.2 + a)
def r0M (p : Pt) (way h : Int) : Pt := (p.1 + way, p.2 + h)
def rM (p : Pt) (a way h : Int) : Pt := if r0M p way h = qM p a then (p.1 + way + 0, p.2 + h + 3) else r0M p way h
def hM (p : Pt) (a way h : Int) : Int := if r0M p way h = qM p a then h + 3 else h
def bM (p : Pt) (a way h : Int) (g : Bool) : Pt := if (g && decide (way = 2)) = true then ((rM p a way h).1 + 1, (rM p a way h).2 + 0) else rM p a way h
def dueM (p : Pt) (a way h : Int) (g : Bool) : Bool := match decide (way = 2) with
  | true => (match decide (a = 2 * hM p a way h) with
    | true => !(g && decide (way = 2))
    | false => false)
  | false => false
def strRes (p : Pt) (a way h : Int) (g : Bool) : O := .lst [.lst [.sh (dC (stretchM p (rM p a way h))), .sh (dC (stretchM (bM p a way h g) (qM p a)))], .sh (dC (stretchM p (qM p a))), .lst [.sh (lk 0), .sh (lk 1)], .sh (.bl (dueM p a way h g))]
theorem Bp.of {p : Pt} (h1 : -1000000 ≤ p.1) (h2 : p.1 ≤ 1000000) (h3 : -1000000 ≤ p.2) (h4 : p.2 ≤ 1000000) : Bp 60 p := ⟨by unfold Sz; omega, by unfold Sz; omega⟩
theorem tg_ok (n : Nat) {p q : Pt} (h1 : Bp 60 p) (h2 : Bp 60 q) : run Pr (n + 4) 6 [.sh (.tup [.tup [.int p.1, .int 1], .tup [.int p.2, .int 1]]), .sh (.tup [.tup [.int q.1, .int 1], .tup [.int q.2, .int 1]])] = some (.sh (.tup [.tup [.int (p.1 + q.1), .int 1], .tup [.int (p.2 + q.2), .int 1]]), []) := together_ok n (h1.mono (by decide)) (h2.mono (by decide))
theorem st_ok (n : Nat) {p q : Pt} (h1 : Bp 60 p) (h2 : Bp 60 q) : run Pr (n + 3) 16 [.sh (.tup [.tup [.int p.1, .int 1], .tup [.int p.2, .int 1]]), .sh (.tup [.tup [.int q.1, .int 1], .tup [.int q.2, .int 1]])] = some (.sh (dC (stretchM p q)), []) := stretch_ok n (h1.mono (by decide)) (h2.mono (by decide))
theorem eq_raw (p q : Pt) : eqD (.tup [.tup [.int p.1, .int 1], .tup [.int p.2, .int 1]]) (.tup [.tup [.int q.1, .int 1], .tup [.int q.2, .int 1]]) = some (decide (p = q)) := eqdP p q
theorem straight_ok (n : Nat) {m : Int} {F : O} (hm : m ≤ 500) (hF : Fd m F) : ∃ (p : Pt) (a way h : Int) (g : Bool) (F' : O), run Pr (n + 6) 46 [F] = some (strRes p a way h g, [F']) ∧ Fd (m + 20) F' ∧
    (-6 ≤ p.1 ∧ p.1 ≤ 6 ∧ -6 ≤ p.2 ∧ p.2 ≤ 6) ∧ (0 ≤ a ∧ a < 5) ∧ (way = 2 ∨ way = 4) ∧ (-2 ≤ h ∧ h < 7) := by
  obtain ⟨p, F1, e1, f1, p1, p2, p3, p4⟩ := point_ok (n + 3) (by omega) hF
  obtain ⟨a, F2, e2, f2, a1, a2⟩ := draw_ok (n + 4) (by omega) (show (0 : Int) < 5 by decide) (by decide) f1
  obtain ⟨w, F3, e3, f3, w1, w2⟩ := draw_ok (n + 4) (by omega) (show (0 : Int) < 2 by decide) (by decide) f2
  obtain ⟨h, F4, e4, f4, h1, h2⟩ := draw_ok (n + 4) (by omega) (show (0 : Int) < 9 by decide) (by decide) f3
  obtain ⟨g, F5, e5, f5, g1, g2⟩ := draw_ok (n + 4) (by omega) (show (0 : Int) < 3 by decide) (by decide) f4
  obtain ⟨way, hway, hw⟩ : ∃ way : Int, (way = 2 ∨ way = 4) ∧ atI [D.int 2, D.int 4] w = some (.int way) := by
    have : w = 0 ∨ w = 1 := by omega
    rcases this with rfl | rfl
    · exact ⟨2, .inl rfl, rfl⟩
    · exact ⟨4, .inr rfl, rfl⟩
  refine ⟨p, a, way, h - 2, decide (g = 0), F5, ?_, ?_, ⟨p1, p2, p3, p4⟩, ⟨a1, a2⟩, hway, by omega, by omega⟩
  rotate_left
  · obtain ⟨x, y, z, e, k0, k1⟩ := f5
    exact ⟨x, y, z, e, k0, by omega⟩
  have bp : Bp 60 p := Bp.of (by omega) (by omega) (by omega) (by omega)
  have b4 : Bp 60 ((4, a) : Pt) := Bp.of (by show (-1000000 : Int) ≤ 4; decide) (by show (4 : Int) ≤ 1000000; decide) (by show -1000000 ≤ a; omega) (by show a ≤ 1000000; omega)
  have bw : Bp 60 ((way, h - 2) : Pt) := Bp.of (by show -1000000 ≤ way; omega) (by show way ≤ 1000000; omega) (by show -1000000 ≤ h - 2; omega) (by show h - 2 ≤ 1000000; omega)
  have bq : Bp 60 (qM p a) := Bp.of (by show -1000000 ≤ p.1 + 4; omega) (by show p.1 + 4 ≤ 1000000; omega) (by show -1000000 ≤ p.2 + a; omega) (by show p.2 + a ≤ 1000000; omega)
  have br0 : Bp 60 (r0M p way (h - 2)) := Bp.of (by show -1000000 ≤ p.1 + way; omega) (by show p.1 + way ≤ 1000000; omega) (by show -1000000 ≤ p.2 + (h - 2); omega) (by show p.2 + (h - 2) ≤ 1000000; omega)
  have br3 : Bp 60 ((p.1 + way + 0, p.2 + (h - 2) + 3) : Pt) := Bp.of (by show -1000000 ≤ p.1 + way + 0; omega) (by show p.1 + way + 0 ≤ 1000000; omega) (by show -1000000 ≤ p.2 + (h - 2) + 3; omega) (by show p.2 + (h - 2) + 3 ≤ 1000000; omega)
  have b03 : Bp 60 ((0, 3) : Pt) := Bp.of (by decide) (by decide) (by decide) (by decide)
  have b10 : Bp 60 ((1, 0) : Pt) := Bp.of (by decide) (by decide) (by decide) (by decide)
  have bb0 : Bp 60 ((p.1 + way + 1, p.2 + (h - 2) + 0) : Pt) := Bp.of (by show -1000000 ≤ p.1 + way + 1; omega) (by show p.1 + way + 1 ≤ 1000000; omega) (by show -1000000 ≤ p.2 + (h - 2) + 0; omega) (by show p.2 + (h - 2) + 0 ≤ 1000000; omega)
  have bb3 : Bp 60 ((p.1 + way + 0 + 1, p.2 + (h - 2) + 3 + 0) : Pt) := Bp.of (by show -1000000 ≤ p.1 + way + 0 + 1; omega) (by show p.1 + way + 0 + 1 ≤ 1000000; omega) (by show -1000000 ≤ p.2 + (h - 2) + 3 + 0; omega) (by show p.2 + (h - 2) + 3 + 0 ≤ 1000000; omega)
  have tq := tg_ok (n + 1) bp b4
  have tr := tg_ok (n + 1) bp bw
  have tr3 := tg_ok (n + 1) br0 b03
  have tb := tg_ok (n + 1) br0 b10
  have tb3 := tg_ok (n + 1) br3 b10
  have sr := st_ok (n + 2) bp br0
  have sr3 := st_ok (n + 2) bp br3
  have sq := st_ok (n + 2) bp bq
  have x1 := st_ok (n + 2) br0 bq
  have x2 := st_ok (n + 2) br3 bq
  have x3 := st_ok (n + 2) bb0 bq
  have x4 := st_ok (n + 2) bb3 bq
  have er := eq_raw (r0M p way (h - 2)) (qM p a)
  have m2 : binO .mul (.sh (.int 2)) (.sh (.int (h - 2))) = some (.sh (.int (2 * (h - 2)))) := bm (by unfold Sz; decide) (by unfold Sz; omega)
  have m3 : binO .mul (.sh (.int 2)) (.sh (.int (h - 2 + 3))) = some (.sh (.int (2 * (h - 2 + 3)))) := bm (by unfold Sz; decide) (by unfold Sz; omega)
  obtain ⟨_, _, _, rfl, _⟩ := hF
  obtain ⟨_, _, _, rfl, _⟩ := f1
  obtain ⟨_, _, _, rfl, _⟩ := f2
  obtain ⟨_, _, _, rfl, _⟩ := f3
  obtain ⟨_, _, _, rfl, _⟩ := f4
  obtain ⟨_, _, _, rfl, _⟩ := f5
  obtain ⟨gb, d2⟩ : ∃ gb, decide (g = 0) = gb := ⟨_, rfl⟩
  obtain ⟨u1, d3⟩ : ∃ u, decide (a = 2 * (h - 2 + 3)) = u := ⟨_, rfl⟩
  obtain ⟨u2, d4⟩ : ∃ u, decide (a = 2 * (h - 2)) = u := ⟨_, rfl⟩
  rw [r46]
  simp only [dP, dI] at e1
  simp only [qM, r0M] at tq tr tr3 tb tb3 sr sr3 sq x1 x2 x3 x4
  by_cases c1 : r0M p way (h - 2) = qM p a
  · rw [decide_eq_true c1] at er
    simp only [qM, r0M] at er
    cases gb <;> cases u1 <;> rcases hway with rfl | rfl <;>
      simp only [strRes, rM, hM, bM, dueM, if_pos c1, qM, d2, d3, d4, e1, e2, e3, e4, e5, hw, tq, tr, tr3, tb, tb3, sr, sr3, sq, x1, x2, x3, x4, er, m2, m3, d__law_straight_ones, O.d, O.ds, if_true, if_false, Bool.false_eq_true, show decide ((2 : Int) = 2) = true from rfl, show decide ((4 : Int) = 2) = false from rfl, dP, dI, lk, g42, g43, g6, g16, show d__law_draw.io = [true] from rfl, show d__law_point.io = [true] from rfl, show d_together.io = [] from rfl, show d_stretch.io = [] from rfl, Option.isNone_none, List.contains_nil, Option.isNone_some, Bool.not_true, Bool.not_false, exs, ex, ev, evs, evB, evA, gt0, gtS, pt0, ptS, ba, bs, ceq, cne, cin, cni, clt, cle, cgt, cge, eqi, bo1, io1, ret1, ret2, ret3, ret4, ret5, ret6, ret7, mv1, mv2, mv3, mv4, mv5, sgΦ, sgΦm, sgS, sgM, sgMt, sgI, sgA, putAll, iosOf, is1, is2, is3, shd, bk0, bk1, bk2, mt2, mt3, mt4, mt5, us1, us2, us3, us4, ixt, ixl, ixL, ixT, ax0, ax1, ax2, ax3, abs1, int11, len1, len2, len3, len4, Option.bind_some, Option.map_some, Option.bind_none, Option.map_none, Bool.true_or, Bool.or_true, Bool.false_or, Bool.or_false, Bool.true_and, Bool.and_true, Bool.false_and, Bool.and_false, if_true, ite_true, eq_self, List.map_cons, List.map_nil, List.length_cons, List.length_nil, List.replicate_zero, List.replicate_succ, List.cons_append, List.nil_append, List.append_nil, Nat.sub_self, Nat.reduceAdd, Nat.reduceSub, Nat.zero_add, if_false, ite_false, Bool.not_true, Bool.not_false, Bool.false_eq_true, reduceIte, reduceCtorEq, pureXs, pureX, callD, decide_true, decide_false, Int.reduceEq, Int.reduceLT, Int.reduceLE, Int.reduceNeg, Int.reduceAdd, Int.reduceSub, Int.reduceMul, decide_eq_true_eq, Int.reduceNe, ne_eq, not_false_eq_true, not_true_eq_false, Option.some.injEq, c0, c1, c2, c3]
  · rw [decide_eq_false c1] at er
    have hr : rM p a way (h - 2) = (p.1 + way, p.2 + (h - 2)) := if_neg c1
    have hh : hM p a way (h - 2) = h - 2 := if_neg c1
    simp only [qM, r0M] at er
    cases gb <;> cases u2 <;> rcases hway with rfl | rfl <;>
      simp only [strRes, hr, hh, bM, dueM, qM, d2, d3, d4, e1, e2, e3, e4, e5, hw, tq, tr, tr3, tb, tb3, sr, sr3, sq, x1, x2, x3, x4, er, m2, m3, d__law_straight_ones, O.d, O.ds, if_true, if_false, Bool.false_eq_true, show decide ((2 : Int) = 2) = true from rfl, show decide ((4 : Int) = 2) = false from rfl, dP, dI, lk, g42, g43, g6, g16, show d__law_draw.io = [true] from rfl, show d__law_point.io = [true] from rfl, show d_together.io = [] from rfl, show d_stretch.io = [] from rfl, Option.isNone_none, List.contains_nil, Option.isNone_some, Bool.not_true, Bool.not_false, exs, ex, ev, evs, evB, evA, gt0, gtS, pt0, ptS, ba, bs, ceq, cne, cin, cni, clt, cle, cgt, cge, eqi, bo1, io1, ret1, ret2, ret3, ret4, ret5, ret6, ret7, mv1, mv2, mv3, mv4, mv5, sgΦ, sgΦm, sgS, sgM, sgMt, sgI, sgA, putAll, iosOf, is1, is2, is3, shd, bk0, bk1, bk2, mt2, mt3, mt4, mt5, us1, us2, us3, us4, ixt, ixl, ixL, ixT, ax0, ax1, ax2, ax3, abs1, int11, len1, len2, len3, len4, Option.bind_some, Option.map_some, Option.bind_none, Option.map_none, Bool.true_or, Bool.or_true, Bool.false_or, Bool.or_false, Bool.true_and, Bool.and_true, Bool.false_and, Bool.and_false, if_true, ite_true, eq_self, List.map_cons, List.map_nil, List.length_cons, List.length_nil, List.replicate_zero, List.replicate_succ, List.cons_append, List.nil_append, List.append_nil, Nat.sub_self, Nat.reduceAdd, Nat.reduceSub, Nat.zero_add, if_false, ite_false, Bool.not_true, Bool.not_false, Bool.false_eq_true, reduceIte, reduceCtorEq, pureXs, pureX, callD, decide_true, decide_false, Int.reduceEq, Int.reduceLT, Int.reduceLE, Int.reduceNeg, Int.reduceAdd, Int.reduceSub, Int.reduceMul, decide_eq_true_eq, Int.reduceNe, ne_eq, not_false_eq_true, not_true_eq_false, Option.some.injEq, c0, c1, c2, c3]
end K89

namespace K89
open PySem L2 Ev
def leM (v : Pt) : Pt := (0 - v.2, v.1)
theorem le_raw (n : Nat) (x y : Int) : run Pr (n + 1) 44 [.sh (.tup [.tup [.int x, .int 1], .tup [.int y, .int 1]])] = some (.sh (.tup [.tup [.int (0 - y), .int 1], .tup [.int x, .int 1]]), []) := by
  rw [r44]
  simp only [d__law_left, exs, ex, ev, evs, evB, evA, gt0, gtS, pt0, ptS, ba, bs, ceq, cne, cin, cni, clt, cle, cgt, cge, eqi, bo1, io1, ret1, ret2, ret3, ret4, ret5, ret6, ret7, mv1, mv2, mv3, mv4, mv5, sgΦ, sgΦm, sgS, sgM, sgMt, sgI, sgA, putAll, iosOf, is1, is2, is3, shd, bk0, bk1, bk2, mt2, mt3, mt4, mt5, us1, us2, us3, us4, ixt, ixl, ixL, ixT, ax0, ax1, ax2, ax3, abs1, int11, len1, len2, len3, len4, Option.bind_some, Option.map_some, Option.bind_none, Option.map_none, Bool.true_or, Bool.or_true, Bool.false_or, Bool.or_false, Bool.true_and, Bool.and_true, Bool.false_and, Bool.and_false, if_true, ite_true, eq_self, List.map_cons, List.map_nil, List.length_cons, List.length_nil, List.replicate_zero, List.replicate_succ, List.cons_append, List.nil_append, List.append_nil, Nat.sub_self, Nat.reduceAdd, Nat.reduceSub, Nat.zero_add, if_false, ite_false, Bool.not_true, Bool.not_false, Bool.false_eq_true, reduceIte, reduceCtorEq, pureXs, pureX, callD, decide_true, decide_false, Int.reduceEq, Int.reduceLT, Int.reduceLE, Int.reduceNeg, Int.reduceAdd, Int.reduceSub, Int.reduceMul, decide_eq_true_eq, Int.reduceNe, ne_eq, not_false_eq_true, not_true_eq_false, Option.some.injEq, c0, c1, c2, c3]
theorem of_ok (n : Nat) {p q : Pt} (h1 : Bp 60 p) (h2 : Bp 60 q) : run Pr (n + 4) 7 [.sh (.tup [.tup [.int p.1, .int 1], .tup [.int p.2, .int 1]]), .sh (.tup [.tup [.int q.1, .int 1], .tup [.int q.2, .int 1]])] = some (.sh (.tup [.tup [.int (p.1 - q.1), .int 1], .tup [.int (p.2 - q.2), .int 1]]), []) := off_ok n (h1.mono (by decide)) (h2.mono (by decide))
def rR (c v : Pt) : Pt := (c.1 + v.1, c.2 + v.2)
def oR (c v : Pt) (b : Bool) : Pt := match b with
  | true => (c.1 + v.1 + 0, c.2 + v.2 + 0)
  | false => (c.1 + v.1 + v.1, c.2 + v.2 + v.2)
def lR (c v : Pt) : Pt := (c.1 + (0 - v.2), c.2 + v.1)
def gR (c v : Pt) : Pt := (c.1 + (0 - (0 - v.2)), c.2 + (0 - v.1))
def kR (c v : Pt) : Pt := (c.1 + (0 - v.1), c.2 + (0 - v.2))
def res0 (c v : Pt) (b : Bool) : O := .lst [.lst [.sh (dC (.ring c (rR c v)))], .sh (dC (.ring c (oR c v b))), .lst [.sh (lk 0)], .sh (.bl b)]
def arcs (c v : Pt) : List D := [dC (.arc c (gR c v) (lR c v)), dC (.arc c (lR c v) (gR c v))]
def res1 (c v : Pt) (b : Bool) : O := .lst [.sh (.lst (arcs c v)), .sh (dC (.ring c (oR c v b))), .lst [.sh (lk 0), .sh (lk 1), .sh (lk 0)], .sh (.bl b)]
def res2 (c v : Pt) : O := .lst [.sh (.lst (arcs c v)), .sh (dC (.arc c (rR c v) (kR c v))), .lst [.sh (lk 0), .sh (lk 1)], .sh (.bl true)]
theorem round_ok (n : Nat) {m : Int} {F : O} (hm : m ≤ 500) (hF : Fd m F) : ∃ (c v : Pt) (b : Bool) (R F' : O), run Pr (n + 6) 47 [F] = some (R, [F']) ∧ (R = res0 c v b ∨ R = res1 c v b ∨ R = res2 c v) ∧ Fd (m + 20) F' ∧
    (-6 ≤ c.1 ∧ c.1 ≤ 6 ∧ -6 ≤ c.2 ∧ c.2 ≤ 6) ∧ (1 ≤ v.1 ∧ v.1 < 5) ∧ (-3 ≤ v.2 ∧ v.2 < 4) := by
  obtain ⟨c, F1, e1, f1, p1, p2, p3, p4⟩ := point_ok (n + 3) (by omega) hF
  obtain ⟨x, F2, e2, f2, x1, x2⟩ := draw_ok (n + 4) (by omega) (show (0 : Int) < 4 by decide) (by decide) f1
  obtain ⟨y, F3, e3, f3, y1, y2⟩ := draw_ok (n + 4) (by omega) (show (0 : Int) < 7 by decide) (by decide) f2
  obtain ⟨w, F4, e4, f4, w1, w2⟩ := draw_ok (n + 4) (by omega) (show (0 : Int) < 2 by decide) (by decide) f3
  obtain ⟨g, F5, e5, f5, g1, g2⟩ := draw_ok (n + 4) (by omega) (show (0 : Int) < 2 by decide) (by decide) f4
  obtain ⟨h, F6, e6, f6, h1, h2⟩ := draw_ok (n + 4) (by omega) (show (0 : Int) < 2 by decide) (by decide) f5
  have bc : Bp 60 c := Bp.of (by omega) (by omega) (by omega) (by omega)
  have bv : Bp 60 ((1 + x, y - 3) : Pt) := Bp.of (by show -1000000 ≤ 1 + x; omega) (by show 1 + x ≤ 1000000; omega) (by show -1000000 ≤ y - 3; omega) (by show y - 3 ≤ 1000000; omega)
  have bl : Bp 60 ((0 - (y - 3), 1 + x) : Pt) := Bp.of (by show -1000000 ≤ 0 - (y - 3); omega) (by show 0 - (y - 3) ≤ 1000000; omega) (by show -1000000 ≤ 1 + x; omega) (by show 1 + x ≤ 1000000; omega)
  have bg : Bp 60 ((0 - (0 - (y - 3)), 0 - (1 + x)) : Pt) := Bp.of (by show -1000000 ≤ 0 - (0 - (y - 3)); omega) (by show 0 - (0 - (y - 3)) ≤ 1000000; omega) (by show -1000000 ≤ 0 - (1 + x); omega) (by show 0 - (1 + x) ≤ 1000000; omega)
  have bk : Bp 60 ((0 - (1 + x), 0 - (y - 3)) : Pt) := Bp.of (by show -1000000 ≤ 0 - (1 + x); omega) (by show 0 - (1 + x) ≤ 1000000; omega) (by show -1000000 ≤ 0 - (y - 3); omega) (by show 0 - (y - 3) ≤ 1000000; omega)
  have br : Bp 60 ((c.1 + (1 + x), c.2 + (y - 3)) : Pt) := Bp.of (by show -1000000 ≤ c.1 + (1 + x); omega) (by show c.1 + (1 + x) ≤ 1000000; omega) (by show -1000000 ≤ c.2 + (y - 3); omega) (by show c.2 + (y - 3) ≤ 1000000; omega)
  have b0 : Bp 60 ((0, 0) : Pt) := Bp.of (by decide) (by decide) (by decide) (by decide)
  have t1 := tg_ok (n + 1) bc bv
  have t2 := tg_ok (n + 1) br b0
  have t3 := tg_ok (n + 1) br bv
  have t4 := tg_ok (n + 1) bc bl
  have t5 := tg_ok (n + 1) bc bg
  have t6 := tg_ok (n + 1) bc bk
  have t7 := of_ok (n + 1) b0 bl
  have t8 := of_ok (n + 1) b0 bv
  have t9 := le_raw (n + 4) (1 + x) (y - 3)
  obtain ⟨bw, hw, hx⟩ : ∃ b : Bool, decide (w = 0) = b ∧ atI [D.tup [.tup [.int 0, .int 1], .tup [.int 0, .int 1]], D.tup [.tup [.int (1 + x), .int 1], .tup [.int (y - 3), .int 1]]] w = some (match b with | true => D.tup [.tup [.int 0, .int 1], .tup [.int 0, .int 1]] | false => D.tup [.tup [.int (1 + x), .int 1], .tup [.int (y - 3), .int 1]]) := by
    have : w = 0 ∨ w = 1 := by omega
    rcases this with rfl | rfl
    · exact ⟨true, rfl, rfl⟩
    · exact ⟨false, rfl, rfl⟩
  have q1 : -6 ≤ c.1 ∧ c.1 ≤ 6 ∧ -6 ≤ c.2 ∧ c.2 ≤ 6 := ⟨p1, p2, p3, p4⟩
  have q2 : 1 ≤ ((1 + x, y - 3) : Pt).1 ∧ ((1 + x, y - 3) : Pt).1 < 5 := ⟨by show 1 ≤ 1 + x; omega, by show 1 + x < 5; omega⟩
  have q3 : -3 ≤ ((1 + x, y - 3) : Pt).2 ∧ ((1 + x, y - 3) : Pt).2 < 4 := ⟨by show -3 ≤ y - 3; omega, by show y - 3 < 4; omega⟩
  have w5 : Fd (m + 20) F5 := by
    obtain ⟨x, y, z, e, k0, k1⟩ := f5
    exact ⟨x, y, z, e, k0, by omega⟩
  have w6 : Fd (m + 20) F6 := by
    obtain ⟨x, y, z, e, k0, k1⟩ := f6
    exact ⟨x, y, z, e, k0, by omega⟩
  obtain ⟨_, _, _, rfl, _⟩ := hF
  obtain ⟨_, _, _, rfl, _⟩ := f1
  obtain ⟨_, _, _, rfl, _⟩ := f2
  obtain ⟨_, _, _, rfl, _⟩ := f3
  obtain ⟨_, _, _, rfl, _⟩ := f4
  obtain ⟨_, _, _, rfl, _⟩ := f5
  obtain ⟨_, _, _, rfl, _⟩ := f6
  simp only [dP, dI] at e1
  by_cases d1 : g = 0
  · refine ⟨c, (1 + x, y - 3), bw, _, _, ?_, .inl rfl, w5, q1, q2, q3⟩
    rw [r47]
    cases bw <;> simp only [res0, rR, oR, hw, hx, decide_eq_true d1, e1, e2, e3, e4, e5, t1, t2, t3, d__law_round_ones, O.d, O.ds, dC, dP, dI, lk, g42, g43, g44, g6, g7, show d__law_draw.io = [true] from rfl, show d__law_point.io = [true] from rfl, show d__law_left.io = [] from rfl, show d_off.io = [] from rfl, show d_together.io = [] from rfl, Option.isNone_none, List.contains_nil, Option.isNone_some, Bool.not_true, Bool.not_false, exs, ex, ev, evs, evB, evA, gt0, gtS, pt0, ptS, ba, bs, ceq, cne, cin, cni, clt, cle, cgt, cge, eqi, bo1, io1, ret1, ret2, ret3, ret4, ret5, ret6, ret7, mv1, mv2, mv3, mv4, mv5, sgΦ, sgΦm, sgS, sgM, sgMt, sgI, sgA, putAll, iosOf, is1, is2, is3, shd, bk0, bk1, bk2, mt2, mt3, mt4, mt5, us1, us2, us3, us4, ixt, ixl, ixL, ixT, ax0, ax1, ax2, ax3, abs1, int11, len1, len2, len3, len4, Option.bind_some, Option.map_some, Option.bind_none, Option.map_none, Bool.true_or, Bool.or_true, Bool.false_or, Bool.or_false, Bool.true_and, Bool.and_true, Bool.false_and, Bool.and_false, if_true, ite_true, eq_self, List.map_cons, List.map_nil, List.length_cons, List.length_nil, List.replicate_zero, List.replicate_succ, List.cons_append, List.nil_append, List.append_nil, Nat.sub_self, Nat.reduceAdd, Nat.reduceSub, Nat.zero_add, if_false, ite_false, Bool.not_true, Bool.not_false, Bool.false_eq_true, reduceIte, reduceCtorEq, pureXs, pureX, callD, decide_true, decide_false, Int.reduceEq, Int.reduceLT, Int.reduceLE, Int.reduceNeg, Int.reduceAdd, Int.reduceSub, Int.reduceMul, decide_eq_true_eq, Int.reduceNe, ne_eq, not_false_eq_true, not_true_eq_false, Option.some.injEq, c0, c1, c2, c3]
  · by_cases d2 : h = 0
    · refine ⟨c, (1 + x, y - 3), bw, _, _, ?_, .inr (.inl rfl), w6, q1, q2, q3⟩
      rw [r47]
      cases bw <;> simp only [res1, arcs, rR, oR, gR, lR, kR, hw, hx, decide_eq_false d1, decide_eq_true d2, e1, e2, e3, e4, e5, e6, t1, t2, t3, t4, t5, t6, t7, t8, t9, d__law_round_ones, O.d, O.ds, dC, dP, dI, lk, g42, g43, g44, g6, g7, show d__law_draw.io = [true] from rfl, show d__law_point.io = [true] from rfl, show d__law_left.io = [] from rfl, show d_off.io = [] from rfl, show d_together.io = [] from rfl, Option.isNone_none, List.contains_nil, Option.isNone_some, Bool.not_true, Bool.not_false, exs, ex, ev, evs, evB, evA, gt0, gtS, pt0, ptS, ba, bs, ceq, cne, cin, cni, clt, cle, cgt, cge, eqi, bo1, io1, ret1, ret2, ret3, ret4, ret5, ret6, ret7, mv1, mv2, mv3, mv4, mv5, sgΦ, sgΦm, sgS, sgM, sgMt, sgI, sgA, putAll, iosOf, is1, is2, is3, shd, bk0, bk1, bk2, mt2, mt3, mt4, mt5, us1, us2, us3, us4, ixt, ixl, ixL, ixT, ax0, ax1, ax2, ax3, abs1, int11, len1, len2, len3, len4, Option.bind_some, Option.map_some, Option.bind_none, Option.map_none, Bool.true_or, Bool.or_true, Bool.false_or, Bool.or_false, Bool.true_and, Bool.and_true, Bool.false_and, Bool.and_false, if_true, ite_true, eq_self, List.map_cons, List.map_nil, List.length_cons, List.length_nil, List.replicate_zero, List.replicate_succ, List.cons_append, List.nil_append, List.append_nil, Nat.sub_self, Nat.reduceAdd, Nat.reduceSub, Nat.zero_add, if_false, ite_false, Bool.not_true, Bool.not_false, Bool.false_eq_true, reduceIte, reduceCtorEq, pureXs, pureX, callD, decide_true, decide_false, Int.reduceEq, Int.reduceLT, Int.reduceLE, Int.reduceNeg, Int.reduceAdd, Int.reduceSub, Int.reduceMul, decide_eq_true_eq, Int.reduceNe, ne_eq, not_false_eq_true, not_true_eq_false, Option.some.injEq, c0, c1, c2, c3]
    · refine ⟨c, (1 + x, y - 3), bw, _, _, ?_, .inr (.inr rfl), w6, q1, q2, q3⟩
      rw [r47]
      cases bw <;> simp only [res2, arcs, rR, oR, gR, lR, kR, hw, hx, decide_eq_false d1, decide_eq_false d2, e1, e2, e3, e4, e5, e6, t1, t2, t3, t4, t5, t6, t7, t8, t9, d__law_round_ones, O.d, O.ds, dC, dP, dI, lk, g42, g43, g44, g6, g7, show d__law_draw.io = [true] from rfl, show d__law_point.io = [true] from rfl, show d__law_left.io = [] from rfl, show d_off.io = [] from rfl, show d_together.io = [] from rfl, Option.isNone_none, List.contains_nil, Option.isNone_some, Bool.not_true, Bool.not_false, exs, ex, ev, evs, evB, evA, gt0, gtS, pt0, ptS, ba, bs, ceq, cne, cin, cni, clt, cle, cgt, cge, eqi, bo1, io1, ret1, ret2, ret3, ret4, ret5, ret6, ret7, mv1, mv2, mv3, mv4, mv5, sgΦ, sgΦm, sgS, sgM, sgMt, sgI, sgA, putAll, iosOf, is1, is2, is3, shd, bk0, bk1, bk2, mt2, mt3, mt4, mt5, us1, us2, us3, us4, ixt, ixl, ixL, ixT, ax0, ax1, ax2, ax3, abs1, int11, len1, len2, len3, len4, Option.bind_some, Option.map_some, Option.bind_none, Option.map_none, Bool.true_or, Bool.or_true, Bool.false_or, Bool.or_false, Bool.true_and, Bool.and_true, Bool.false_and, Bool.and_false, if_true, ite_true, eq_self, List.map_cons, List.map_nil, List.length_cons, List.length_nil, List.replicate_zero, List.replicate_succ, List.cons_append, List.nil_append, List.append_nil, Nat.sub_self, Nat.reduceAdd, Nat.reduceSub, Nat.zero_add, if_false, ite_false, Bool.not_true, Bool.not_false, Bool.false_eq_true, reduceIte, reduceCtorEq, pureXs, pureX, callD, decide_true, decide_false, Int.reduceEq, Int.reduceLT, Int.reduceLE, Int.reduceNeg, Int.reduceAdd, Int.reduceSub, Int.reduceMul, decide_eq_true_eq, Int.reduceNe, ne_eq, not_false_eq_true, not_true_eq_false, Option.some.injEq, c0, c1, c2, c3]
end K89

namespace K89
open PySem L2 Ev
theorem lo1 {l : List D} : lstOf (.sh (.lst l)) = some l := rfl
theorem lo2 {os : List O} : lstOf (.lst os) = unSh os := rfl
theorem le2 : eqD (.lst [.tup [.int 1, .int 0], .tup [.int 0, .int 0]]) (.lst [.tup [.int 0, .int 0], .tup [.int 1, .int 0]]) = some false := by decide +kernel
theorem le1 : eqD (.lst [.tup [.int 0, .int 0]]) (.lst [.tup [.int 0, .int 0]]) = some true := by decide +kernel
theorem le3 : eqD (.lst [.tup [.int 0, .int 0], .tup [.int 1, .int 0], .tup [.int 0, .int 0]]) (.lst [.tup [.int 0, .int 0], .tup [.int 1, .int 0], .tup [.int 0, .int 0]]) = some true := by decide +kernel
theorem links1 (n : Nat) {m : Int} {F : O} {d : Bool} (hm : m ≤ 900) (hF : Fd m F) : ∃ F', run Pr (n + 2) 45 [F, .sh (.lst [lk 0]), .sh (.bl d)] = some (.lst [.sh (.lst [lk 0]), .sh (.bl d)], [F']) := by
  obtain ⟨w, F1, e1, f1, w1, w2⟩ := draw_ok n (by omega) (show (0 : Int) < 5 by decide) (by decide) hF
  refine ⟨F1, ?_⟩
  rw [r45]
  by_cases c0 : w = 0
  · simp only [e1, decide_eq_true c0, show decide (w = 1) = false from decide_eq_false (by omega), d__law_links, lk, g42, show d__law_draw.io = [true] from rfl, lo1, le1, le2, le3, sl1, sl2, sl3, optI, isNonX, List.reverse_cons, List.reverse_nil, lsO, O.d, O.ds, Option.isNone_none, List.contains_nil, Option.isNone_some, Bool.not_true, Bool.not_false, exs, ex, ev, evs, evB, evA, gt0, gtS, pt0, ptS, ba, bs, ceq, cne, cin, cni, clt, cle, cgt, cge, eqi, bo1, io1, ret1, ret2, ret3, ret4, ret5, ret6, ret7, mv1, mv2, mv3, mv4, mv5, sgΦ, sgΦm, sgS, sgM, sgMt, sgI, sgA, putAll, iosOf, is1, is2, is3, shd, bk0, bk1, bk2, mt2, mt3, mt4, mt5, us1, us2, us3, us4, ixt, ixl, ixL, ixT, ax0, ax1, ax2, ax3, abs1, int11, len1, len2, len3, len4, Option.bind_some, Option.map_some, Option.bind_none, Option.map_none, Bool.true_or, Bool.or_true, Bool.false_or, Bool.or_false, Bool.true_and, Bool.and_true, Bool.false_and, Bool.and_false, if_true, ite_true, eq_self, List.map_cons, List.map_nil, List.length_cons, List.length_nil, List.replicate_zero, List.replicate_succ, List.cons_append, List.nil_append, List.append_nil, Nat.sub_self, Nat.reduceAdd, Nat.reduceSub, Nat.zero_add, if_false, ite_false, Bool.not_true, Bool.not_false, Bool.false_eq_true, reduceIte, reduceCtorEq, pureXs, pureX, callD, decide_true, decide_false, Int.reduceEq, Int.reduceLT, Int.reduceLE, Int.reduceNeg, Int.reduceAdd, Int.reduceSub, Int.reduceMul, decide_eq_true_eq, Int.reduceNe, ne_eq, not_false_eq_true, not_true_eq_false, Option.some.injEq, c0, c1, c2, c3]
  · by_cases c1 : w = 1
    · simp only [e1, decide_eq_false c0, decide_eq_true c1, d__law_links, lk, g42, show d__law_draw.io = [true] from rfl, lo1, le1, le2, le3, sl1, sl2, sl3, optI, isNonX, List.reverse_cons, List.reverse_nil, lsO, O.d, O.ds, Option.isNone_none, List.contains_nil, Option.isNone_some, Bool.not_true, Bool.not_false, exs, ex, ev, evs, evB, evA, gt0, gtS, pt0, ptS, ba, bs, ceq, cne, cin, cni, clt, cle, cgt, cge, eqi, bo1, io1, ret1, ret2, ret3, ret4, ret5, ret6, ret7, mv1, mv2, mv3, mv4, mv5, sgΦ, sgΦm, sgS, sgM, sgMt, sgI, sgA, putAll, iosOf, is1, is2, is3, shd, bk0, bk1, bk2, mt2, mt3, mt4, mt5, us1, us2, us3, us4, ixt, ixl, ixL, ixT, ax0, ax1, ax2, ax3, abs1, int11, len1, len2, len3, len4, Option.bind_some, Option.map_some, Option.bind_none, Option.map_none, Bool.true_or, Bool.or_true, Bool.false_or, Bool.or_false, Bool.true_and, Bool.and_true, Bool.false_and, Bool.and_false, if_true, ite_true, eq_self, List.map_cons, List.map_nil, List.length_cons, List.length_nil, List.replicate_zero, List.replicate_succ, List.cons_append, List.nil_append, List.append_nil, Nat.sub_self, Nat.reduceAdd, Nat.reduceSub, Nat.zero_add, if_false, ite_false, Bool.not_true, Bool.not_false, Bool.false_eq_true, reduceIte, reduceCtorEq, pureXs, pureX, callD, decide_true, decide_false, Int.reduceEq, Int.reduceLT, Int.reduceLE, Int.reduceNeg, Int.reduceAdd, Int.reduceSub, Int.reduceMul, decide_eq_true_eq, Int.reduceNe, ne_eq, not_false_eq_true, not_true_eq_false, Option.some.injEq, c0, c1, c2, c3]
    · simp only [e1, decide_eq_false c0, decide_eq_false c1, d__law_links, lk, g42, show d__law_draw.io = [true] from rfl, lo1, le1, le2, le3, sl1, sl2, sl3, optI, isNonX, List.reverse_cons, List.reverse_nil, lsO, O.d, O.ds, Option.isNone_none, List.contains_nil, Option.isNone_some, Bool.not_true, Bool.not_false, exs, ex, ev, evs, evB, evA, gt0, gtS, pt0, ptS, ba, bs, ceq, cne, cin, cni, clt, cle, cgt, cge, eqi, bo1, io1, ret1, ret2, ret3, ret4, ret5, ret6, ret7, mv1, mv2, mv3, mv4, mv5, sgΦ, sgΦm, sgS, sgM, sgMt, sgI, sgA, putAll, iosOf, is1, is2, is3, shd, bk0, bk1, bk2, mt2, mt3, mt4, mt5, us1, us2, us3, us4, ixt, ixl, ixL, ixT, ax0, ax1, ax2, ax3, abs1, int11, len1, len2, len3, len4, Option.bind_some, Option.map_some, Option.bind_none, Option.map_none, Bool.true_or, Bool.or_true, Bool.false_or, Bool.or_false, Bool.true_and, Bool.and_true, Bool.false_and, Bool.and_false, if_true, ite_true, eq_self, List.map_cons, List.map_nil, List.length_cons, List.length_nil, List.replicate_zero, List.replicate_succ, List.cons_append, List.nil_append, List.append_nil, Nat.sub_self, Nat.reduceAdd, Nat.reduceSub, Nat.zero_add, if_false, ite_false, Bool.not_true, Bool.not_false, Bool.false_eq_true, reduceIte, reduceCtorEq, pureXs, pureX, callD, decide_true, decide_false, Int.reduceEq, Int.reduceLT, Int.reduceLE, Int.reduceNeg, Int.reduceAdd, Int.reduceSub, Int.reduceMul, decide_eq_true_eq, Int.reduceNe, ne_eq, not_false_eq_true, not_true_eq_false, Option.some.injEq, c0, c1, c2, c3]
theorem links2 (n : Nat) {m : Int} {F : O} {d : Bool} (hm : m ≤ 900) (hF : Fd m F) : ∃ R F', run Pr (n + 2) 45 [F, .sh (.lst [lk 0, lk 1]), .sh (.bl d)] = some (R, [F']) ∧ (R = .lst [.sh (.lst [lk 0, lk 1]), .sh (.bl d)] ∨ R = .lst [.lst [.sh (lk 0)], .sh (.bl false)] ∨ R = .lst [.lst [.sh (lk 1), .sh (lk 0)], .sh (.bl false)]) := by
  obtain ⟨w, F1, e1, f1, w1, w2⟩ := draw_ok n (by omega) (show (0 : Int) < 5 by decide) (by decide) hF
  by_cases c0 : w = 0
  · refine ⟨_, F1, ?_, .inr (.inl rfl)⟩
    rw [r45]
    simp only [e1, decide_eq_true c0, show decide (w = 1) = false from decide_eq_false (by omega), d__law_links, lk, g42, show d__law_draw.io = [true] from rfl, lo1, le1, le2, le3, sl1, sl2, sl3, optI, isNonX, List.reverse_cons, List.reverse_nil, lsO, O.d, O.ds, Option.isNone_none, List.contains_nil, Option.isNone_some, Bool.not_true, Bool.not_false, exs, ex, ev, evs, evB, evA, gt0, gtS, pt0, ptS, ba, bs, ceq, cne, cin, cni, clt, cle, cgt, cge, eqi, bo1, io1, ret1, ret2, ret3, ret4, ret5, ret6, ret7, mv1, mv2, mv3, mv4, mv5, sgΦ, sgΦm, sgS, sgM, sgMt, sgI, sgA, putAll, iosOf, is1, is2, is3, shd, bk0, bk1, bk2, mt2, mt3, mt4, mt5, us1, us2, us3, us4, ixt, ixl, ixL, ixT, ax0, ax1, ax2, ax3, abs1, int11, len1, len2, len3, len4, Option.bind_some, Option.map_some, Option.bind_none, Option.map_none, Bool.true_or, Bool.or_true, Bool.false_or, Bool.or_false, Bool.true_and, Bool.and_true, Bool.false_and, Bool.and_false, if_true, ite_true, eq_self, List.map_cons, List.map_nil, List.length_cons, List.length_nil, List.replicate_zero, List.replicate_succ, List.cons_append, List.nil_append, List.append_nil, Nat.sub_self, Nat.reduceAdd, Nat.reduceSub, Nat.zero_add, if_false, ite_false, Bool.not_true, Bool.not_false, Bool.false_eq_true, reduceIte, reduceCtorEq, pureXs, pureX, callD, decide_true, decide_false, Int.reduceEq, Int.reduceLT, Int.reduceLE, Int.reduceNeg, Int.reduceAdd, Int.reduceSub, Int.reduceMul, decide_eq_true_eq, Int.reduceNe, ne_eq, not_false_eq_true, not_true_eq_false, Option.some.injEq, c0, c1, c2, c3]
  · by_cases c1 : w = 1
    · refine ⟨_, F1, ?_, .inr (.inr rfl)⟩
      rw [r45]
      simp only [e1, decide_eq_false c0, decide_eq_true c1, d__law_links, lk, g42, show d__law_draw.io = [true] from rfl, lo1, le1, le2, le3, sl1, sl2, sl3, optI, isNonX, List.reverse_cons, List.reverse_nil, lsO, O.d, O.ds, Option.isNone_none, List.contains_nil, Option.isNone_some, Bool.not_true, Bool.not_false, exs, ex, ev, evs, evB, evA, gt0, gtS, pt0, ptS, ba, bs, ceq, cne, cin, cni, clt, cle, cgt, cge, eqi, bo1, io1, ret1, ret2, ret3, ret4, ret5, ret6, ret7, mv1, mv2, mv3, mv4, mv5, sgΦ, sgΦm, sgS, sgM, sgMt, sgI, sgA, putAll, iosOf, is1, is2, is3, shd, bk0, bk1, bk2, mt2, mt3, mt4, mt5, us1, us2, us3, us4, ixt, ixl, ixL, ixT, ax0, ax1, ax2, ax3, abs1, int11, len1, len2, len3, len4, Option.bind_some, Option.map_some, Option.bind_none, Option.map_none, Bool.true_or, Bool.or_true, Bool.false_or, Bool.or_false, Bool.true_and, Bool.and_true, Bool.false_and, Bool.and_false, if_true, ite_true, eq_self, List.map_cons, List.map_nil, List.length_cons, List.length_nil, List.replicate_zero, List.replicate_succ, List.cons_append, List.nil_append, List.append_nil, Nat.sub_self, Nat.reduceAdd, Nat.reduceSub, Nat.zero_add, if_false, ite_false, Bool.not_true, Bool.not_false, Bool.false_eq_true, reduceIte, reduceCtorEq, pureXs, pureX, callD, decide_true, decide_false, Int.reduceEq, Int.reduceLT, Int.reduceLE, Int.reduceNeg, Int.reduceAdd, Int.reduceSub, Int.reduceMul, decide_eq_true_eq, Int.reduceNe, ne_eq, not_false_eq_true, not_true_eq_false, Option.some.injEq, c0, c1, c2, c3]
    · refine ⟨_, F1, ?_, .inl rfl⟩
      rw [r45]
      simp only [e1, decide_eq_false c0, decide_eq_false c1, d__law_links, lk, g42, show d__law_draw.io = [true] from rfl, lo1, le1, le2, le3, sl1, sl2, sl3, optI, isNonX, List.reverse_cons, List.reverse_nil, lsO, O.d, O.ds, Option.isNone_none, List.contains_nil, Option.isNone_some, Bool.not_true, Bool.not_false, exs, ex, ev, evs, evB, evA, gt0, gtS, pt0, ptS, ba, bs, ceq, cne, cin, cni, clt, cle, cgt, cge, eqi, bo1, io1, ret1, ret2, ret3, ret4, ret5, ret6, ret7, mv1, mv2, mv3, mv4, mv5, sgΦ, sgΦm, sgS, sgM, sgMt, sgI, sgA, putAll, iosOf, is1, is2, is3, shd, bk0, bk1, bk2, mt2, mt3, mt4, mt5, us1, us2, us3, us4, ixt, ixl, ixL, ixT, ax0, ax1, ax2, ax3, abs1, int11, len1, len2, len3, len4, Option.bind_some, Option.map_some, Option.bind_none, Option.map_none, Bool.true_or, Bool.or_true, Bool.false_or, Bool.or_false, Bool.true_and, Bool.and_true, Bool.false_and, Bool.and_false, if_true, ite_true, eq_self, List.map_cons, List.map_nil, List.length_cons, List.length_nil, List.replicate_zero, List.replicate_succ, List.cons_append, List.nil_append, List.append_nil, Nat.sub_self, Nat.reduceAdd, Nat.reduceSub, Nat.zero_add, if_false, ite_false, Bool.not_true, Bool.not_false, Bool.false_eq_true, reduceIte, reduceCtorEq, pureXs, pureX, callD, decide_true, decide_false, Int.reduceEq, Int.reduceLT, Int.reduceLE, Int.reduceNeg, Int.reduceAdd, Int.reduceSub, Int.reduceMul, decide_eq_true_eq, Int.reduceNe, ne_eq, not_false_eq_true, not_true_eq_false, Option.some.injEq, c0, c1, c2, c3]
theorem links3 (n : Nat) {m : Int} {F : O} {d : Bool} (hm : m ≤ 900) (hF : Fd m F) : ∃ R F', run Pr (n + 2) 45 [F, .sh (.lst [lk 0, lk 1, lk 0]), .sh (.bl d)] = some (R, [F']) ∧ (R = .lst [.sh (.lst [lk 0, lk 1, lk 0]), .sh (.bl d)] ∨ R = .lst [.lst [.sh (lk 0), .sh (lk 1)], .sh (.bl false)]) := by
  obtain ⟨w, F1, e1, f1, w1, w2⟩ := draw_ok n (by omega) (show (0 : Int) < 5 by decide) (by decide) hF
  by_cases c0 : w = 0
  · refine ⟨_, F1, ?_, .inr rfl⟩
    rw [r45]
    simp only [e1, decide_eq_true c0, show decide (w = 1) = false from decide_eq_false (by omega), d__law_links, lk, g42, show d__law_draw.io = [true] from rfl, lo1, le1, le2, le3, sl1, sl2, sl3, optI, isNonX, List.reverse_cons, List.reverse_nil, lsO, O.d, O.ds, Option.isNone_none, List.contains_nil, Option.isNone_some, Bool.not_true, Bool.not_false, exs, ex, ev, evs, evB, evA, gt0, gtS, pt0, ptS, ba, bs, ceq, cne, cin, cni, clt, cle, cgt, cge, eqi, bo1, io1, ret1, ret2, ret3, ret4, ret5, ret6, ret7, mv1, mv2, mv3, mv4, mv5, sgΦ, sgΦm, sgS, sgM, sgMt, sgI, sgA, putAll, iosOf, is1, is2, is3, shd, bk0, bk1, bk2, mt2, mt3, mt4, mt5, us1, us2, us3, us4, ixt, ixl, ixL, ixT, ax0, ax1, ax2, ax3, abs1, int11, len1, len2, len3, len4, Option.bind_some, Option.map_some, Option.bind_none, Option.map_none, Bool.true_or, Bool.or_true, Bool.false_or, Bool.or_false, Bool.true_and, Bool.and_true, Bool.false_and, Bool.and_false, if_true, ite_true, eq_self, List.map_cons, List.map_nil, List.length_cons, List.length_nil, List.replicate_zero, List.replicate_succ, List.cons_append, List.nil_append, List.append_nil, Nat.sub_self, Nat.reduceAdd, Nat.reduceSub, Nat.zero_add, if_false, ite_false, Bool.not_true, Bool.not_false, Bool.false_eq_true, reduceIte, reduceCtorEq, pureXs, pureX, callD, decide_true, decide_false, Int.reduceEq, Int.reduceLT, Int.reduceLE, Int.reduceNeg, Int.reduceAdd, Int.reduceSub, Int.reduceMul, decide_eq_true_eq, Int.reduceNe, ne_eq, not_false_eq_true, not_true_eq_false, Option.some.injEq, c0, c1, c2, c3]
  · by_cases c1 : w = 1
    · refine ⟨_, F1, ?_, .inl rfl⟩
      rw [r45]
      simp only [e1, decide_eq_false c0, decide_eq_true c1, d__law_links, lk, g42, show d__law_draw.io = [true] from rfl, lo1, le1, le2, le3, sl1, sl2, sl3, optI, isNonX, List.reverse_cons, List.reverse_nil, lsO, O.d, O.ds, Option.isNone_none, List.contains_nil, Option.isNone_some, Bool.not_true, Bool.not_false, exs, ex, ev, evs, evB, evA, gt0, gtS, pt0, ptS, ba, bs, ceq, cne, cin, cni, clt, cle, cgt, cge, eqi, bo1, io1, ret1, ret2, ret3, ret4, ret5, ret6, ret7, mv1, mv2, mv3, mv4, mv5, sgΦ, sgΦm, sgS, sgM, sgMt, sgI, sgA, putAll, iosOf, is1, is2, is3, shd, bk0, bk1, bk2, mt2, mt3, mt4, mt5, us1, us2, us3, us4, ixt, ixl, ixL, ixT, ax0, ax1, ax2, ax3, abs1, int11, len1, len2, len3, len4, Option.bind_some, Option.map_some, Option.bind_none, Option.map_none, Bool.true_or, Bool.or_true, Bool.false_or, Bool.or_false, Bool.true_and, Bool.and_true, Bool.false_and, Bool.and_false, if_true, ite_true, eq_self, List.map_cons, List.map_nil, List.length_cons, List.length_nil, List.replicate_zero, List.replicate_succ, List.cons_append, List.nil_append, List.append_nil, Nat.sub_self, Nat.reduceAdd, Nat.reduceSub, Nat.zero_add, if_false, ite_false, Bool.not_true, Bool.not_false, Bool.false_eq_true, reduceIte, reduceCtorEq, pureXs, pureX, callD, decide_true, decide_false, Int.reduceEq, Int.reduceLT, Int.reduceLE, Int.reduceNeg, Int.reduceAdd, Int.reduceSub, Int.reduceMul, decide_eq_true_eq, Int.reduceNe, ne_eq, not_false_eq_true, not_true_eq_false, Option.some.injEq, c0, c1, c2, c3]
    · refine ⟨_, F1, ?_, .inl rfl⟩
      rw [r45]
      simp only [e1, decide_eq_false c0, decide_eq_false c1, d__law_links, lk, g42, show d__law_draw.io = [true] from rfl, lo1, le1, le2, le3, sl1, sl2, sl3, optI, isNonX, List.reverse_cons, List.reverse_nil, lsO, O.d, O.ds, Option.isNone_none, List.contains_nil, Option.isNone_some, Bool.not_true, Bool.not_false, exs, ex, ev, evs, evB, evA, gt0, gtS, pt0, ptS, ba, bs, ceq, cne, cin, cni, clt, cle, cgt, cge, eqi, bo1, io1, ret1, ret2, ret3, ret4, ret5, ret6, ret7, mv1, mv2, mv3, mv4, mv5, sgΦ, sgΦm, sgS, sgM, sgMt, sgI, sgA, putAll, iosOf, is1, is2, is3, shd, bk0, bk1, bk2, mt2, mt3, mt4, mt5, us1, us2, us3, us4, ixt, ixl, ixL, ixT, ax0, ax1, ax2, ax3, abs1, int11, len1, len2, len3, len4, Option.bind_some, Option.map_some, Option.bind_none, Option.map_none, Bool.true_or, Bool.or_true, Bool.false_or, Bool.or_false, Bool.true_and, Bool.and_true, Bool.false_and, Bool.and_false, if_true, ite_true, eq_self, List.map_cons, List.map_nil, List.length_cons, List.length_nil, List.replicate_zero, List.replicate_succ, List.cons_append, List.nil_append, List.append_nil, Nat.sub_self, Nat.reduceAdd, Nat.reduceSub, Nat.zero_add, if_false, ite_false, Bool.not_true, Bool.not_false, Bool.false_eq_true, reduceIte, reduceCtorEq, pureXs, pureX, callD, decide_true, decide_false, Int.reduceEq, Int.reduceLT, Int.reduceLE, Int.reduceNeg, Int.reduceAdd, Int.reduceSub, Int.reduceMul, decide_eq_true_eq, Int.reduceNe, ne_eq, not_false_eq_true, not_true_eq_false, Option.some.injEq, c0, c1, c2, c3]
def tailB : Sts := (.cons (.set 7 (.comp (.nm 10) (.rng (.cons (.blt .len (.cons (.var 3) .nil)) .nil)) (.con (.bl true)) (.lst (.cons (.tup (.cons (.var 10) (.cons (.con (.int 0)) .nil))) .nil)) [10])) (.cons (.set 8 (.tup (.cons (.tup (.cons (.con (.str "none")) .nil)) (.cons (.tup (.cons (.bin .add (.var 3) (.lst (.cons (.var 4) .nil))) (.cons (.lst .nil) .nil))) (.cons (.tup (.cons (.var 3) (.cons (.lst .nil) .nil))) .nil))))) (.cons (.set 9 (.lst (.cons (.call 39 (.cons (.var 8) (.cons (.tup (.cons (.bin .add (.shr (.var 7)) (.lst (.cons (.var 5) .nil))) (.cons (.var 7) .nil))) .nil))) .nil))) (.cons (.app 9 (.call 39 (.cons (.tup (.cons (.idc (.var 8) 0) (.cons (.idc (.var 8) 2) (.cons (.idc (.var 8) 1) .nil)))) (.cons (.tup (.cons (.var 7) (.cons (.bin .add (.shr (.var 7)) (.lst (.cons (.var 5) .nil))) .nil))) .nil)))) (.cons (.iff (.or_ (.cmp .ne (.var 9) (.lst (.cons (.var 6) (.cons (.var 6) .nil)))) (.cmp .inn (.con (.bl false)) (.comp (.nm 11) (.seq (.var 9)) (.con (.bl true)) (.blt .isBool (.cons (.var 11) .nil)) [11]))) (.cons (.ret (.con (.bl false))) .nil) .nil) .nil)))))
theorem ebl (d : Bool) : eqD (.lst [.bl d, .bl d]) (.lst [.bl d, .bl d]) = some true := by cases d <;> decide +kernel
theorem inb : inD (.bl false) (.lst [.sh (.bl true), .sh (.bl true)]) = some false := by decide +kernel
theorem tBb {d : Bool} : bltO .isBool [.sh (.bl d)] = some (.sh (.bl true)) := rfl
theorem ba1 {l1 l2 : List O} {x y : List D} (h1 : unSh l1 = some x) (h2 : unSh l2 = some y) (h3 : x.length + y.length ≤ 100000) : binO .add (.lst l1) (.lst l2) = some (.lst ((x ++ y).map .sh)) := by
  have e : binO .add (.lst l1) (.lst l2) = (match unSh l1, unSh l2 with
    | some xs, some ys => if xs.length + ys.length ≤ LIM then some (lsO (xs ++ ys)) else none
    | _, _ => none) := rfl
  rw [e, h1, h2]
  exact if_pos h3
theorem ba2 {l2 : List O} {x y : List D} (h2 : unSh l2 = some y) (h3 : x.length + y.length ≤ 100000) : binO .add (.sh (.lst x)) (.lst l2) = some (.lst ((x ++ y).map .sh)) := by
  have e : binO .add (.sh (.lst x)) (.lst l2) = (match unSh l2 with
    | some ys => if x.length + ys.length ≤ LIM then some (lsO (x ++ ys)) else none
    | _ => none) := by
    show (match some x, unSh l2 with
      | some xs, some ys => if xs.length + ys.length ≤ LIM then some (lsO (xs ++ ys)) else none
      | _, _ => none) = _
    cases unSh l2 <;> rfl
  rw [e, h2]
  exact if_pos h3
theorem mk_a {d : D} {os l : List O} : mkTup (.sh d :: .lst os :: l) = .tup (.sh d :: .lst os :: l) := rfl
theorem mk_b {d : D} {os l : List O} : mkTup (.sh d :: .tup os :: l) = .tup (.sh d :: .tup os :: l) := rfl
theorem mk_c {os l : List O} : mkTup (.lst os :: l) = .tup (.lst os :: l) := rfl
theorem ods (ls : List D) : O.ds (ls.map O.sh) = ls := by
  induction ls with
  | nil => rfl
  | cons a l ih => show a :: O.ds (l.map O.sh) = a :: l; rw [ih]
theorem tail_2 (n : Nat) {a b e : D} {d : Bool} {s0 s1 s2 x7 x8 x9 x10 x11 : Option O} {O3 lo : O} {ls : List D} (h3 : O3 = .lst [.sh a, .sh b] ∨ O3 = .sh (.lst [a, b])) (hl : lo = .lst (ls.map .sh) ∨ lo = .sh (.lst ls))
    (h1 : run Pr (n + 13) 39 [.sh (.tup [.tup [.str "none"], .tup [.lst [a, b, e], .lst []], .tup [.lst [a, b], .lst []]]), .sh (.tup [.lst [.lst [lk 0], .lst [lk 1], .lst ls], .lst [.lst [lk 0], .lst [lk 1]]])] = some (.sh (.bl d), []))
    (h2 : run Pr (n + 13) 39 [.sh (.tup [.tup [.str "none"], .tup [.lst [a, b], .lst []], .tup [.lst [a, b, e], .lst []]]), .sh (.tup [.lst [.lst [lk 0], .lst [lk 1]], .lst [.lst [lk 0], .lst [lk 1], .lst ls]])] = some (.sh (.bl d), [])) :
    ∃ ρ', exs (Pr.sg (n + 13)) tailB [s0, s1, s2, some O3, some (.sh e), some lo, some (.sh (.bl d)), x7, x8, x9, x10, x11] = some (.nx ρ') ∧ ρ'.length = 12 := by
  simp only [lk] at h1 h2
  have a1 : binO .add (.lst [.sh a, .sh b]) (.lst [.sh e]) = some (.lst [.sh a, .sh b, .sh e]) := rfl
  have a2 : binO .add (.sh (.lst [a, b])) (.lst [.sh e]) = some (.lst [.sh a, .sh b, .sh e]) := rfl
  have a3 : binO .add (.sh (.lst [.lst [.tup [.int 0, .int 0]], .lst [.tup [.int 1, .int 0]]])) (.lst [.sh (.lst ls)]) = some (.lst [.sh (.lst [.tup [.int 0, .int 0]]), .sh (.lst [.tup [.int 1, .int 0]]), .sh (.lst ls)]) := rfl
  rcases h3 with rfl | rfl <;> rcases hl with rfl | rfl
  all_goals
    simp only [h1, h2, a1, a2, a3, Nat.reduceLT, Nat.reduceLeDiff, tailB, lk, g39, show d_alike_shown.io = [] from rfl, lo1, lo2, ods, ebl, inb, tBb, rg1, rg2, rd1, rd2, mk_a, mk_b, mk_c, O.d, O.ds, lsO, ow, and_self, Bool.not_true, Bool.not_false, exs, ex, ev, evs, evB, evA, gt0, gtS, pt0, ptS, ba, bs, ceq, cne, cin, cni, clt, cle, cgt, cge, eqi, bo1, io1, ret1, ret2, ret3, ret4, ret5, ret6, ret7, mv1, mv2, mv3, mv4, mv5, sgΦ, sgΦm, sgS, sgM, sgMt, sgI, sgA, putAll, iosOf, is1, is2, is3, shd, bk0, bk1, bk2, mt2, mt3, mt4, mt5, us1, us2, us3, us4, ixt, ixl, ixL, ixT, ax0, ax1, ax2, ax3, abs1, int11, len1, len2, len3, len4, Option.bind_some, Option.map_some, Option.bind_none, Option.map_none, Bool.true_or, Bool.or_true, Bool.false_or, Bool.or_false, Bool.true_and, Bool.and_true, Bool.false_and, Bool.and_false, if_true, ite_true, eq_self, List.map_cons, List.map_nil, List.length_cons, List.length_nil, List.replicate_zero, List.replicate_succ, List.cons_append, List.nil_append, List.append_nil, Nat.sub_self, Nat.reduceAdd, Nat.reduceSub, Nat.zero_add, if_false, ite_false, Bool.not_true, Bool.not_false, Bool.false_eq_true, reduceIte, reduceCtorEq, pureXs, pureX, callD, decide_true, decide_false, Int.reduceEq, Int.reduceLT, Int.reduceLE, Int.reduceNeg, Int.reduceAdd, Int.reduceSub, Int.reduceMul, decide_eq_true_eq, Int.reduceNe, ne_eq, not_false_eq_true, not_true_eq_false, Option.some.injEq, c0, c1, c2, c3, tupD, forL, itE, setTg, seqOf, lstOf, enumD, zipD, hidFree, tgSets, setss, sets, List.contains_cons, backO, backH, List.zip_cons_cons, List.zip_nil_left, List.zip_nil_right, List.foldl_cons, List.foldl_nil, compL, wipeE, backE, optI, isNonX, List.drop_zero, List.drop_succ_cons, List.take_succ_cons, List.take_zero, List.take_nil, List.drop_nil, LIM, Nat.reduceLeDiff, aN1, aN2, aN3, aN4, sl1, sl2, sl3, sl4, sl5, sl6]
    exact ⟨_, rfl, rfl⟩
theorem tail_1 (n : Nat) {a e : D} {d : Bool} {s0 s1 s2 x7 x8 x9 x10 x11 : Option O} {O3 lo : O} {ls : List D} (h3 : O3 = .lst [.sh a]) (hl : lo = .lst (ls.map .sh) ∨ lo = .sh (.lst ls))
    (h1 : run Pr (n + 13) 39 [.sh (.tup [.tup [.str "none"], .tup [.lst [a, e], .lst []], .tup [.lst [a], .lst []]]), .sh (.tup [.lst [.lst [lk 0], .lst ls], .lst [.lst [lk 0]]])] = some (.sh (.bl d), []))
    (h2 : run Pr (n + 13) 39 [.sh (.tup [.tup [.str "none"], .tup [.lst [a], .lst []], .tup [.lst [a, e], .lst []]]), .sh (.tup [.lst [.lst [lk 0]], .lst [.lst [lk 0], .lst ls]])] = some (.sh (.bl d), [])) :
    ∃ ρ', exs (Pr.sg (n + 13)) tailB [s0, s1, s2, some O3, some (.sh e), some lo, some (.sh (.bl d)), x7, x8, x9, x10, x11] = some (.nx ρ') ∧ ρ'.length = 12 := by
  simp only [lk] at h1 h2
  have a1 : binO .add (.lst [.sh a]) (.lst [.sh e]) = some (.lst [.sh a, .sh e]) := rfl
  have a3 : binO .add (.sh (.lst [.lst [.tup [.int 0, .int 0]]])) (.lst [.sh (.lst ls)]) = some (.lst [.sh (.lst [.tup [.int 0, .int 0]]), .sh (.lst ls)]) := rfl
  subst h3
  rcases hl with rfl | rfl
  all_goals
    simp only [h1, h2, a1, a3, Nat.reduceLT, Nat.reduceLeDiff, tailB, lk, g39, show d_alike_shown.io = [] from rfl, lo1, lo2, ods, ebl, inb, tBb, rg1, rg2, rd1, rd2, mk_a, mk_b, mk_c, O.d, O.ds, lsO, ow, and_self, Bool.not_true, Bool.not_false, exs, ex, ev, evs, evB, evA, gt0, gtS, pt0, ptS, ba, bs, ceq, cne, cin, cni, clt, cle, cgt, cge, eqi, bo1, io1, ret1, ret2, ret3, ret4, ret5, ret6, ret7, mv1, mv2, mv3, mv4, mv5, sgΦ, sgΦm, sgS, sgM, sgMt, sgI, sgA, putAll, iosOf, is1, is2, is3, shd, bk0, bk1, bk2, mt2, mt3, mt4, mt5, us1, us2, us3, us4, ixt, ixl, ixL, ixT, ax0, ax1, ax2, ax3, abs1, int11, len1, len2, len3, len4, Option.bind_some, Option.map_some, Option.bind_none, Option.map_none, Bool.true_or, Bool.or_true, Bool.false_or, Bool.or_false, Bool.true_and, Bool.and_true, Bool.false_and, Bool.and_false, if_true, ite_true, eq_self, List.map_cons, List.map_nil, List.length_cons, List.length_nil, List.replicate_zero, List.replicate_succ, List.cons_append, List.nil_append, List.append_nil, Nat.sub_self, Nat.reduceAdd, Nat.reduceSub, Nat.zero_add, if_false, ite_false, Bool.not_true, Bool.not_false, Bool.false_eq_true, reduceIte, reduceCtorEq, pureXs, pureX, callD, decide_true, decide_false, Int.reduceEq, Int.reduceLT, Int.reduceLE, Int.reduceNeg, Int.reduceAdd, Int.reduceSub, Int.reduceMul, decide_eq_true_eq, Int.reduceNe, ne_eq, not_false_eq_true, not_true_eq_false, Option.some.injEq, c0, c1, c2, c3, tupD, forL, itE, setTg, seqOf, lstOf, enumD, zipD, hidFree, tgSets, setss, sets, List.contains_cons, backO, backH, List.zip_cons_cons, List.zip_nil_left, List.zip_nil_right, List.foldl_cons, List.foldl_nil, compL, wipeE, backE, optI, isNonX, List.drop_zero, List.drop_succ_cons, List.take_succ_cons, List.take_zero, List.take_nil, List.drop_nil, LIM, Nat.reduceLeDiff, aN1, aN2, aN3, aN4, sl1, sl2, sl3, sl4, sl5, sl6]
    exact ⟨_, rfl, rfl⟩
end K89

namespace K89
open PySem L2 Ev
def sh (t u : Pt) : Pt := (t.1 + u.1, t.2 + u.2)
theorem sh_off (t u v : Pt) : offM (sh t u) (sh t v) = offM u v := by
  apply Prod.ext
  · show t.1 + u.1 - (t.1 + v.1) = u.1 - v.1; omega
  · show t.2 + u.2 - (t.2 + v.2) = u.2 - v.2; omega
theorem sh_eq (t u v : Pt) : (sh t u = sh t v) ↔ u = v := by
  constructor
  · intro h
    have h1 : t.1 + u.1 = t.1 + v.1 := congrArg Prod.fst h
    have h2 : t.2 + u.2 = t.2 + v.2 := congrArg Prod.snd h
    exact Prod.ext (by omega) (by omega)
  · intro h; rw [h]
theorem sh_deq (t u v : Pt) : decide (sh t u = sh t v) = decide (u = v) := by
  by_cases h : u = v
  · rw [decide_eq_true h, decide_eq_true ((sh_eq t u v).mpr h)]
  · rw [decide_eq_false h, decide_eq_false (fun z => h ((sh_eq t u v).mp z))]
theorem sh_bef (t u v : Pt) : befM (sh t u) (sh t v) = befM u v := by
  unfold befM
  have e1 : decide ((sh t u).1 < (sh t v).1) = decide (u.1 < v.1) := by
    show decide (t.1 + u.1 < t.1 + v.1) = _
    by_cases h : u.1 < v.1
    · rw [decide_eq_true h, decide_eq_true (by omega)]
    · rw [decide_eq_false h, decide_eq_false (by omega)]
  have e2 : decide ((sh t u).1 = (sh t v).1) = decide (u.1 = v.1) := by
    show decide (t.1 + u.1 = t.1 + v.1) = _
    by_cases h : u.1 = v.1
    · rw [decide_eq_true h, decide_eq_true (by omega)]
    · rw [decide_eq_false h, decide_eq_false (by omega)]
  have e3 : decide ((sh t u).2 < (sh t v).2) = decide (u.2 < v.2) := by
    show decide (t.2 + u.2 < t.2 + v.2) = _
    by_cases h : u.2 < v.2
    · rw [decide_eq_true h, decide_eq_true (by omega)]
    · rw [decide_eq_false h, decide_eq_false (by omega)]
  rw [e1, e2, e3]
theorem sh_side (t a b p : Pt) : sideM (sh t a) (sh t b) (sh t p) = sideM a b p := by
  unfold sideM
  rw [sh_off, sh_off]
theorem sh_far (t u v : Pt) : farM (sh t u) (sh t v) = farM u v := by
  unfold farM
  rw [sh_off]
theorem sh_ahead (t c a p q : Pt) : aheadM (sh t c) (sh t a) (sh t p) (sh t q) = aheadM c a p q := by
  unfold aheadM
  simp only [sh_off]
theorem sh_onS (t a b p : Pt) : onM (.str (sh t a) (sh t b)) (sh t p) = onM (.str a b) p := by
  simp only [onM, liesM, sh_side, sh_bef]
theorem sh_onA (t c a b p : Pt) : onM (.arc (sh t c) (sh t a) (sh t b)) (sh t p) = onM (.arc c a b) p := by
  simp only [onM, sh_far, sh_deq, sh_ahead]
def sh2 (t : Pt) (s : Pt × Pt) : Pt × Pt := (sh t s.1, sh t s.2)
theorem sh_s1 (t a b : Pt) (s : Pt × Pt) : straight1 (sh t a) (sh t b) (sh2 t s) = straight1 a b s := by
  simp only [straight1, ckS, endS, sh2, sh_side, sh_onS]
theorem sh_s2 (t a b : Pt) (s u : Pt × Pt) : straight2 (sh t a) (sh t b) (sh2 t s) (sh2 t u) = straight2 a b s u := by
  simp only [straight2, ckS, endS, sh2, sh_side, sh_onS]
theorem sh_same (t c r c' r' : Pt) : sameM (sh t c) (sh t r) (sh t c') (sh t r') = sameM c r c' r' := by
  simp only [sameM, sh_deq, sh_far]
theorem sh_comes (t c a b h g : Pt) : comesM (sh t c) (sh t a) (sh t b) (sh t h) (sh t g) = comesM c a b h g := by
  simp only [comesM, sh_deq, sh_onA, sh_ahead]
def sh3 (t : Pt) (s : Pt × Pt × Pt) : Pt × Pt × Pt := (sh t s.1, sh t s.2.1, sh t s.2.2)
theorem sh_bent (t : Pt) (m : Int) : ∀ (xs : List (Pt × Pt × Pt)) (k : Nat) (h g : Pt), bentL m k (xs.map (sh3 t)) (sh t h) (sh t g) = bentL m k xs h g
  | [], _, _, _ => rfl
  | x :: xs, k, h, g => by
    show bentL m k (sh3 t x :: xs.map (sh3 t)) (sh t h) (sh t g) = _
    unfold bentL
    rw [show onM (.arc (sh3 t x).1 (sh3 t x).2.1 (sh3 t x).2.2) (sh t h) = onM (.arc x.1 x.2.1 x.2.2) h from sh_onA t _ _ _ _, show decide ((sh3 t x).2.2 = sh t h) = decide (x.2.2 = h) from sh_deq t _ _, show comesM (sh3 t x).1 (sh3 t x).2.1 (sh3 t x).2.2 (sh t h) (sh t g) = comesM x.1 x.2.1 x.2.2 h g from sh_comes t _ _ _ _ _, show bentL m (k + 1) (xs.map (sh3 t)) (sh3 t x).2.2 (sh t g) = bentL m (k + 1) xs x.2.2 g from sh_bent t m xs (k + 1) _ _]
def ordM (u v : Pt) : Pt × Pt := match befM v u with
  | true => (v, u)
  | false => (u, v)
theorem sh_ord (t u v : Pt) : ordM (sh t u) (sh t v) = sh2 t (ordM u v) := by
  unfold ordM
  rw [sh_bef]
  cases befM v u <;> rfl
theorem str_ord {u v : Pt} (h : decide (u = v) = false) : stretchM u v = .str (ordM u v).1 (ordM u v).2 := by
  unfold stretchM ordM
  rw [h]
  cases befM v u <;> rfl
theorem rng {n : Nat} {P : Int → Bool} (h : ((List.range n).all fun i => P (i : Int)) = true) {a : Int} (h0 : 0 ≤ a) (h1 : a < n) : P a = true := by
  have := List.all_eq_true.mp h a.toNat (List.mem_range.mpr (by omega))
  rwa [show ((a.toNat : Nat) : Int) = a by omega] at this
/-- the straight ones, seen from their first point -/
def checkS (a way h : Int) (g : Bool) : Bool :=
  let o : Pt := (0, 0)
  let r := rM o a way h
  let b := bM o a way h g
  let q := qM o a
  let A := ordM o r
  let B := ordM b q
  let E := ordM o q
  !decide (o = r) && (!decide (b = q) && (!decide (o = q) && (straight1 A.1 A.2 A && (straight1 B.1 B.2 B && ((straight2 E.1 E.2 A B == dueM o a way h g) && (!straight2 E.1 E.2 B A && !straight1 E.1 E.2 A))))))
theorem checkS_all : ((List.range 5).all fun a => (List.range 9).all fun h => [2, 4].all fun way => [true, false].all fun g => checkS a way ((h : Int) - 2) g) = true := by decide +kernel
def arcX (c v : Pt) : Pt × Pt × Pt := (c, gR c v, lR c v)
def arcY (c v : Pt) : Pt × Pt × Pt := (c, lR c v, gR c v)
def ch1 (x : Pt × Pt × Pt) (c a b : Pt) : Bool := match sameM x.1 x.2.1 c a && true with
  | true => bentL 1 0 [x] a b
  | false => false
def ch2 (x y : Pt × Pt × Pt) (c a b : Pt) : Bool := match sameM x.1 x.2.1 c a && (sameM y.1 y.2.1 c a && true) with
  | true => bentL 2 0 [x, y] a b
  | false => false
def ch3 (x y z : Pt × Pt × Pt) (c a b : Pt) : Bool := match sameM x.1 x.2.1 c a && (sameM y.1 y.2.1 c a && (sameM z.1 z.2.1 c a && true)) with
  | true => bentL 3 0 [x, y, z] a b
  | false => false
def checkR (v : Pt) (b : Bool) : Bool :=
  let c : Pt := (0, 0)
  let r := rR c v
  let o := oR c v b
  let X := arcX c v
  let Y := arcY c v
  sameM c r c r && ((sameM c r c o == b) && (ch1 X c (gR c v) (lR c v) && (ch1 Y c (lR c v) (gR c v) && ((ch3 X Y X c o o == b) && (!ch2 X Y c o o && (ch2 X Y c r (kR c v) && (!ch1 X c r (kR c v) && !ch2 Y X c r (kR c v))))))))
theorem checkR_all : ((List.range 4).all fun x => (List.range 7).all fun y => [true, false].all fun b => checkR ((x : Int) + 1, (y : Int) - 3) b) = true := by decide +kernel
end K89

namespace K89
open PySem L2 Ev
def oo : Pt := (0, 0)
theorem sh_o (p : Pt) : sh p oo = p := by
  apply Prod.ext
  · show p.1 + 0 = p.1; omega
  · show p.2 + 0 = p.2; omega
theorem sh_q (p : Pt) (a : Int) : qM p a = sh p (qM oo a) := by
  apply Prod.ext
  · show p.1 + 4 = p.1 + (0 + 4); omega
  · show p.2 + a = p.2 + (0 + a); omega
theorem sh_r0 (p : Pt) (way h : Int) : r0M p way h = sh p (r0M oo way h) := by
  apply Prod.ext
  · show p.1 + way = p.1 + (0 + way); omega
  · show p.2 + h = p.2 + (0 + h); omega
theorem sh_r (p : Pt) (a way h : Int) : rM p a way h = sh p (rM oo a way h) := by
  unfold rM
  rw [sh_r0 p, sh_q p]
  by_cases e : r0M oo way h = qM oo a
  · rw [if_pos e, if_pos ((sh_eq p _ _).mpr e)]
    apply Prod.ext
    · show p.1 + way + 0 = p.1 + (0 + way + 0); omega
    · show p.2 + h + 3 = p.2 + (0 + h + 3); omega
  · rw [if_neg e, if_neg (fun z => e ((sh_eq p _ _).mp z))]
theorem sh_h (p : Pt) (a way h : Int) : hM p a way h = hM oo a way h := by
  unfold hM
  rw [sh_r0 p, sh_q p]
  by_cases e : r0M oo way h = qM oo a
  · rw [if_pos e, if_pos ((sh_eq p _ _).mpr e)]
  · rw [if_neg e, if_neg (fun z => e ((sh_eq p _ _).mp z))]
theorem sh_b (p : Pt) (a way h : Int) (g : Bool) : bM p a way h g = sh p (bM oo a way h g) := by
  unfold bM
  rw [sh_r p]
  split
  · apply Prod.ext
    · show p.1 + (rM oo a way h).1 + 1 = p.1 + ((rM oo a way h).1 + 1); omega
    · show p.2 + (rM oo a way h).2 + 0 = p.2 + ((rM oo a way h).2 + 0); omega
  · rfl
theorem sh_due (p : Pt) (a way h : Int) (g : Bool) : dueM p a way h g = dueM oo a way h g := by
  unfold dueM
  rw [sh_h p]
structure StrF (p : Pt) (a way h : Int) (g : Bool) : Prop where
  n1 : decide (p = rM p a way h) = false
  n2 : decide (bM p a way h g = qM p a) = false
  n3 : decide (p = qM p a) = false
  sA : straight1 (ordM p (rM p a way h)).1 (ordM p (rM p a way h)).2 (ordM p (rM p a way h)) = true
  sB : straight1 (ordM (bM p a way h g) (qM p a)).1 (ordM (bM p a way h g) (qM p a)).2 (ordM (bM p a way h g) (qM p a)) = true
  l01 : straight2 (ordM p (qM p a)).1 (ordM p (qM p a)).2 (ordM p (rM p a way h)) (ordM (bM p a way h g) (qM p a)) = dueM p a way h g
  l10 : straight2 (ordM p (qM p a)).1 (ordM p (qM p a)).2 (ordM (bM p a way h g) (qM p a)) (ordM p (rM p a way h)) = false
  l0 : straight1 (ordM p (qM p a)).1 (ordM p (qM p a)).2 (ordM p (rM p a way h)) = false
theorem strF {p : Pt} {a way h : Int} {g : Bool} (ha : 0 ≤ a ∧ a < 5) (hw : way = 2 ∨ way = 4) (hh : -2 ≤ h ∧ h < 7) : StrF p a way h g := by
  have c : checkS a way h g = true := by
    have c1 := rng (n := 5) (P := fun a => (List.range 9).all fun h => [2, 4].all fun way => [true, false].all fun g => checkS a way ((h : Int) - 2) g) checkS_all ha.1 ha.2
    have c2 := rng (n := 9) (P := fun h => [2, 4].all fun way => [true, false].all fun g => checkS a way (h - 2) g) c1 (show 0 ≤ h + 2 by omega) (show h + 2 < 9 by omega)
    have e : h + 2 - 2 = h := by omega
    simp only [e] at c2
    have c3 := List.all_eq_true.mp c2 way (by rcases hw with rfl | rfl <;> simp)
    exact List.all_eq_true.mp c3 g (by cases g <;> simp)
  unfold checkS at c
  simp only [Bool.and_eq_true, Bool.not_eq_true', beq_iff_eq] at c
  obtain ⟨c1, c2, c3, c4, c5, c6, c7, c8⟩ := c
  have eA : ordM p (rM p a way h) = sh2 p (ordM oo (rM oo a way h)) := by
    rw [← sh_ord, sh_o, ← sh_r]
  have eB : ordM (bM p a way h g) (qM p a) = sh2 p (ordM (bM oo a way h g) (qM oo a)) := by
    rw [← sh_ord, ← sh_b, ← sh_q]
  have eE : ordM p (qM p a) = sh2 p (ordM oo (qM oo a)) := by
    rw [← sh_ord, sh_o, ← sh_q]
  refine ⟨?_, ?_, ?_, ?_, ?_, ?_, ?_, ?_⟩
  · have := sh_deq p oo (rM oo a way h)
    rw [sh_o, ← sh_r] at this
    rw [this]; exact c1
  · have := sh_deq p (bM oo a way h g) (qM oo a)
    rw [← sh_b, ← sh_q] at this
    rw [this]; exact c2
  · have := sh_deq p oo (qM oo a)
    rw [sh_o, ← sh_q] at this
    rw [this]; exact c3
  · rw [eA]; exact (sh_s1 p _ _ _).trans c4
  · rw [eB]; exact (sh_s1 p _ _ _).trans c5
  · rw [eA, eB, eE, sh_due]; exact (sh_s2 p _ _ _ _).trans c6
  · rw [eA, eB, eE]; exact (sh_s2 p _ _ _ _).trans c7
  · rw [eA, eE]; exact (sh_s1 p _ _ _).trans c8
/-- round ones: c is a shift -/
theorem sh_rR (c v : Pt) : rR c v = sh c (rR oo v) := by
  apply Prod.ext
  · show c.1 + v.1 = c.1 + (0 + v.1); omega
  · show c.2 + v.2 = c.2 + (0 + v.2); omega
theorem sh_oR (c v : Pt) (b : Bool) : oR c v b = sh c (oR oo v b) := by
  cases b
  · apply Prod.ext
    · show c.1 + v.1 + v.1 = c.1 + (0 + v.1 + v.1); omega
    · show c.2 + v.2 + v.2 = c.2 + (0 + v.2 + v.2); omega
  · apply Prod.ext
    · show c.1 + v.1 + 0 = c.1 + (0 + v.1 + 0); omega
    · show c.2 + v.2 + 0 = c.2 + (0 + v.2 + 0); omega
theorem sh_lR (c v : Pt) : lR c v = sh c (lR oo v) := by
  apply Prod.ext
  · show c.1 + (0 - v.2) = c.1 + (0 + (0 - v.2)); omega
  · show c.2 + v.1 = c.2 + (0 + v.1); omega
theorem sh_gR (c v : Pt) : gR c v = sh c (gR oo v) := by
  apply Prod.ext
  · show c.1 + (0 - (0 - v.2)) = c.1 + (0 + (0 - (0 - v.2))); omega
  · show c.2 + (0 - v.1) = c.2 + (0 + (0 - v.1)); omega
theorem sh_kR (c v : Pt) : kR c v = sh c (kR oo v) := by
  apply Prod.ext
  · show c.1 + (0 - v.1) = c.1 + (0 + (0 - v.1)); omega
  · show c.2 + (0 - v.2) = c.2 + (0 + (0 - v.2)); omega
theorem sh_X (c v : Pt) : arcX c v = sh3 c (arcX oo v) := by
  unfold arcX sh3
  rw [sh_gR, sh_lR, sh_o]
theorem sh_Y (c v : Pt) : arcY c v = sh3 c (arcY oo v) := by
  unfold arcY sh3
  rw [sh_gR, sh_lR, sh_o]
theorem sh_c1 (t : Pt) (x : Pt × Pt × Pt) (c a b : Pt) : ch1 (sh3 t x) (sh t c) (sh t a) (sh t b) = ch1 x c a b := by
  unfold ch1
  rw [show sameM (sh3 t x).1 (sh3 t x).2.1 (sh t c) (sh t a) = sameM x.1 x.2.1 c a from sh_same t _ _ _ _, show bentL 1 0 [sh3 t x] (sh t a) (sh t b) = bentL 1 0 [x] a b from sh_bent t 1 [x] 0 a b]
theorem sh_c2 (t : Pt) (x y : Pt × Pt × Pt) (c a b : Pt) : ch2 (sh3 t x) (sh3 t y) (sh t c) (sh t a) (sh t b) = ch2 x y c a b := by
  unfold ch2
  rw [show sameM (sh3 t x).1 (sh3 t x).2.1 (sh t c) (sh t a) = sameM x.1 x.2.1 c a from sh_same t _ _ _ _, show sameM (sh3 t y).1 (sh3 t y).2.1 (sh t c) (sh t a) = sameM y.1 y.2.1 c a from sh_same t _ _ _ _, show bentL 2 0 [sh3 t x, sh3 t y] (sh t a) (sh t b) = bentL 2 0 [x, y] a b from sh_bent t 2 [x, y] 0 a b]
theorem sh_c3 (t : Pt) (x y z : Pt × Pt × Pt) (c a b : Pt) : ch3 (sh3 t x) (sh3 t y) (sh3 t z) (sh t c) (sh t a) (sh t b) = ch3 x y z c a b := by
  unfold ch3
  rw [show sameM (sh3 t x).1 (sh3 t x).2.1 (sh t c) (sh t a) = sameM x.1 x.2.1 c a from sh_same t _ _ _ _, show sameM (sh3 t y).1 (sh3 t y).2.1 (sh t c) (sh t a) = sameM y.1 y.2.1 c a from sh_same t _ _ _ _, show sameM (sh3 t z).1 (sh3 t z).2.1 (sh t c) (sh t a) = sameM z.1 z.2.1 c a from sh_same t _ _ _ _, show bentL 3 0 [sh3 t x, sh3 t y, sh3 t z] (sh t a) (sh t b) = bentL 3 0 [x, y, z] a b from sh_bent t 3 [x, y, z] 0 a b]
structure RoF (c v : Pt) (b : Bool) : Prop where
  s0 : sameM c (rR c v) c (rR c v) = true
  s1 : sameM c (rR c v) c (oR c v b) = b
  oX : ch1 (arcX c v) c (gR c v) (lR c v) = true
  oY : ch1 (arcY c v) c (lR c v) (gR c v) = true
  r3 : ch3 (arcX c v) (arcY c v) (arcX c v) c (oR c v b) (oR c v b) = b
  r2 : ch2 (arcX c v) (arcY c v) c (oR c v b) (oR c v b) = false
  a2 : ch2 (arcX c v) (arcY c v) c (rR c v) (kR c v) = true
  a1 : ch1 (arcX c v) c (rR c v) (kR c v) = false
  a0 : ch2 (arcY c v) (arcX c v) c (rR c v) (kR c v) = false
theorem roF {c v : Pt} {b : Bool} (h1 : 1 ≤ v.1 ∧ v.1 < 5) (h2 : -3 ≤ v.2 ∧ v.2 < 4) : RoF c v b := by
  have k : checkR v b = true := by
    have c1 := rng (n := 4) (P := fun x => (List.range 7).all fun y => [true, false].all fun b => checkR (x + 1, (y : Int) - 3) b) checkR_all (show 0 ≤ v.1 - 1 by omega) (show v.1 - 1 < 4 by omega)
    have c2 := rng (n := 7) (P := fun y => [true, false].all fun b => checkR (v.1 - 1 + 1, y - 3) b) c1 (show 0 ≤ v.2 + 3 by omega) (show v.2 + 3 < 7 by omega)
    have e : ((v.1 - 1 + 1, v.2 + 3 - 3) : Pt) = v := Prod.ext (show v.1 - 1 + 1 = v.1 by omega) (show v.2 + 3 - 3 = v.2 by omega)
    simp only [e] at c2
    exact List.all_eq_true.mp c2 b (by cases b <;> simp)
  unfold checkR at k
  simp only [Bool.and_eq_true, Bool.not_eq_true', beq_iff_eq] at k
  obtain ⟨k1, k2, k3, k4, k5, k6, k7, k8, k9⟩ := k
  have ec : c = sh c oo := (sh_o c).symm
  refine ⟨?_, ?_, ?_, ?_, ?_, ?_, ?_, ?_, ?_⟩
  · rw [sh_rR]
    have := sh_same c oo (rR oo v) oo (rR oo v)
    rw [sh_o] at this
    exact this.trans k1
  · rw [sh_rR, sh_oR]
    have := sh_same c oo (rR oo v) oo (oR oo v b)
    rw [sh_o] at this
    exact this.trans k2
  · rw [sh_X, sh_gR, sh_lR]
    have := sh_c1 c (arcX oo v) oo (gR oo v) (lR oo v)
    rw [sh_o] at this
    exact this.trans k3
  · rw [sh_Y, sh_gR, sh_lR]
    have := sh_c1 c (arcY oo v) oo (lR oo v) (gR oo v)
    rw [sh_o] at this
    exact this.trans k4
  · rw [sh_X, sh_Y, sh_oR]
    have := sh_c3 c (arcX oo v) (arcY oo v) (arcX oo v) oo (oR oo v b) (oR oo v b)
    rw [sh_o] at this
    exact this.trans k5
  · rw [sh_X, sh_Y, sh_oR]
    have := sh_c2 c (arcX oo v) (arcY oo v) oo (oR oo v b) (oR oo v b)
    rw [sh_o] at this
    exact this.trans k6
  · rw [sh_X, sh_Y, sh_rR, sh_kR]
    have := sh_c2 c (arcX oo v) (arcY oo v) oo (rR oo v) (kR oo v)
    rw [sh_o] at this
    exact this.trans k7
  · rw [sh_X, sh_rR, sh_kR]
    have := sh_c1 c (arcX oo v) oo (rR oo v) (kR oo v)
    rw [sh_o] at this
    exact this.trans k8
  · rw [sh_X, sh_Y, sh_rR, sh_kR]
    have := sh_c2 c (arcY oo v) (arcX oo v) oo (rR oo v) (kR oo v)
    rw [sh_o] at this
    exact this.trans k9
end K89

namespace K89
open PySem L2 Ev
theorem alike2 (n : Nat) {A B E : D} {ls : List D} {sA sB : Str} {qA qB d : Bool} (hA : ixO (.sh A) 0 = some (.sh (.str sA))) (kA : eqD (.str sA) (.str "stretch") = some qA) (hB : ixO (.sh B) 0 = some (.sh (.str sB))) (kB : eqD (.str sB) (.str "stretch") = some qB)
    (cA : run Pr (n + 10) 32 [.sh (.lst [A]), .sh A] = some (.sh (.bl true), [])) (cB : run Pr (n + 10) 32 [.sh (.lst [B]), .sh B] = some (.sh (.bl true), []))
    (cE : run Pr (n + 11) 36 [.sh (dG [A, B]), .sh (.lst ls), .sh E] = some (.sh (.bl d), [])) :
    run Pr (n + 13) 39 [.sh (.tup [.tup [.str "none"], .tup [.lst [A, B, E], .lst []], .tup [.lst [A, B], .lst []]]), .sh (.tup [.lst [.lst [lk 0], .lst [lk 1], .lst ls], .lst [.lst [lk 0], .lst [lk 1]]])] = some (.sh (.bl d), []) ∧
    run Pr (n + 13) 39 [.sh (.tup [.tup [.str "none"], .tup [.lst [A, B], .lst []], .tup [.lst [A, B, E], .lst []]]), .sh (.tup [.lst [.lst [lk 0], .lst [lk 1]], .lst [.lst [lk 0], .lst [lk 1], .lst ls]])] = some (.sh (.bl d), []) := by
  have a1 := cov1 n (st := [A, B]) (k := 0) (by decide) (by show (0 : Int) < 2; decide) rfl hA kA cA
  have a2 := cov1 n (st := [A, B]) (k := 1) (by decide) (by show (1 : Int) < 2; decide) rfl hB kB cB
  have b1 := cov1 n (st := [A, B, E]) (k := 0) (by decide) (by show (0 : Int) < 3; decide) rfl hA kA cA
  have b2 := cov1 n (st := [A, B, E]) (k := 1) (by decide) (by show (1 : Int) < 3; decide) rfl hB kB cB
  have p1 := ps3 n a1 a2 cE
  have p2 := ps2 n b1 b2
  have x := alike_ok n p1 p2
  have y := alike_ok n p2 p1
  rw [Bool.and_true] at x
  rw [Bool.true_and] at y
  exact ⟨x, y⟩
theorem alike1 (n : Nat) {A E : D} {ls : List D} {sA : Str} {qA d : Bool} (hA : ixO (.sh A) 0 = some (.sh (.str sA))) (kA : eqD (.str sA) (.str "stretch") = some qA)
    (cA : run Pr (n + 10) 32 [.sh (.lst [A]), .sh A] = some (.sh (.bl true), []))
    (cE : run Pr (n + 11) 36 [.sh (dG [A]), .sh (.lst ls), .sh E] = some (.sh (.bl d), [])) :
    run Pr (n + 13) 39 [.sh (.tup [.tup [.str "none"], .tup [.lst [A, E], .lst []], .tup [.lst [A], .lst []]]), .sh (.tup [.lst [.lst [lk 0], .lst ls], .lst [.lst [lk 0]]])] = some (.sh (.bl d), []) ∧
    run Pr (n + 13) 39 [.sh (.tup [.tup [.str "none"], .tup [.lst [A], .lst []], .tup [.lst [A, E], .lst []]]), .sh (.tup [.lst [.lst [lk 0]], .lst [.lst [lk 0], .lst ls]])] = some (.sh (.bl d), []) := by
  have a1 := cov1 n (st := [A]) (k := 0) (by decide) (by show (0 : Int) < 1; decide) rfl hA kA cA
  have b1 := cov1 n (st := [A, E]) (k := 0) (by decide) (by show (0 : Int) < 2; decide) rfl hA kA cA
  have p1 := ps2 n a1 cE
  have p2 := ps1 n b1
  have x := alike_ok n p1 p2
  have y := alike_ok n p2 p1
  rw [Bool.and_true] at x
  rw [Bool.true_and] at y
  exact ⟨x, y⟩
theorem ord_b {u v : Pt} (hu : Bp 60 u) (hv : Bp 60 v) : Bp 60 (ordM u v).1 ∧ Bp 60 (ordM u v).2 := by
  unfold ordM
  cases befM v u
  · exact ⟨hu, hv⟩
  · exact ⟨hv, hu⟩
/-- the covers of the one more, of straight ones -/
theorem str_all (n : Nat) {p : Pt} {a way h : Int} {g : Bool} (hp : -6 ≤ p.1 ∧ p.1 ≤ 6 ∧ -6 ≤ p.2 ∧ p.2 ≤ 6) (ha : 0 ≤ a ∧ a < 5) (hw : way = 2 ∨ way = 4) (hh : -2 ≤ h ∧ h < 7) {ls : List D} {d : Bool}
    (hls : (ls = [lk 0, lk 1] ∧ d = dueM p a way h g) ∨ (ls = [lk 0] ∧ d = false) ∨ (ls = [lk 1, lk 0] ∧ d = false)) {s0 s1 s2 x7 x8 x9 x10 x11 : Option O} {lo : O} (hl : lo = .lst (ls.map .sh) ∨ lo = .sh (.lst ls)) :
    ∃ ρ', exs (Pr.sg (n + 13)) tailB [s0, s1, s2, some (.lst [.sh (dC (stretchM p (rM p a way h))), .sh (dC (stretchM (bM p a way h g) (qM p a)))]), some (.sh (dC (stretchM p (qM p a)))), some lo, some (.sh (.bl d)), x7, x8, x9, x10, x11] = some (.nx ρ') ∧ ρ'.length = 12 := by
  obtain ⟨n1, n2, n3, sA, sB, l01, l10, l0⟩ := strF (p := p) (g := g) ha hw hh
  have bp : Bp 60 p := Bp.of (by omega) (by omega) (by omega) (by omega)
  have bq : Bp 60 (qM p a) := Bp.of (by show -1000000 ≤ p.1 + 4; omega) (by show p.1 + 4 ≤ 1000000; omega) (by show -1000000 ≤ p.2 + a; omega) (by show p.2 + a ≤ 1000000; omega)
  have r' : (-100 ≤ (rM p a way h).1 ∧ (rM p a way h).1 ≤ 100) ∧ (-100 ≤ (rM p a way h).2 ∧ (rM p a way h).2 ≤ 100) := by
    unfold rM
    split
    · exact ⟨⟨by show -100 ≤ p.1 + way + 0; omega, by show p.1 + way + 0 ≤ 100; omega⟩, ⟨by show -100 ≤ p.2 + h + 3; omega, by show p.2 + h + 3 ≤ 100; omega⟩⟩
    · exact ⟨⟨by show -100 ≤ p.1 + way; omega, by show p.1 + way ≤ 100; omega⟩, ⟨by show -100 ≤ p.2 + h; omega, by show p.2 + h ≤ 100; omega⟩⟩
  have br : Bp 60 (rM p a way h) := Bp.of (by omega) (by omega) (by omega) (by omega)
  have bb : Bp 60 (bM p a way h g) := by
    unfold bM
    split
    · exact Bp.of (by show -1000000 ≤ (rM p a way h).1 + 1; omega) (by show (rM p a way h).1 + 1 ≤ 1000000; omega) (by show -1000000 ≤ (rM p a way h).2 + 0; omega) (by show (rM p a way h).2 + 0 ≤ 1000000; omega)
    · exact br
  rw [str_ord n1, str_ord n2, str_ord n3]
  obtain ⟨A1, A2⟩ := ord_b bp br
  obtain ⟨B1, B2⟩ := ord_b bb bq
  obtain ⟨E1, E2⟩ := ord_b bp bq
  have cA := chS1 (n + 1) (s := ordM p (rM p a way h)) A1 A2 A1 A2
  have cB := chS1 (n + 1) (s := ordM (bM p a way h g) (qM p a)) B1 B2 B1 B2
  rw [sA] at cA
  rw [sB] at cB
  have cE : run Pr (n + 11) 36 [.sh (dG [dC (.str (ordM p (rM p a way h)).1 (ordM p (rM p a way h)).2), dC (.str (ordM (bM p a way h g) (qM p a)).1 (ordM (bM p a way h g) (qM p a)).2)]), .sh (.lst ls), .sh (dC (.str (ordM p (qM p a)).1 (ordM p (qM p a)).2))] = some (.sh (.bl d), []) := by
    rcases hls with ⟨rfl, rfl⟩ | ⟨rfl, rfl⟩ | ⟨rfl, rfl⟩
    · have k := chS2 (n + 1) (s := ordM p (rM p a way h)) (t := ordM (bM p a way h g) (qM p a)) E1 E2 A1 A2 B1 B2
      rw [l01] at k
      exact cov2 n (j := 0) (k := 1) (by decide) (by show (1 : Int) < 2; decide) rfl (by decide) (by show (0 : Int) < 2; decide) rfl (by decide) rfl k_stretch_stretch k
    · have k := chS1 (n + 1) (s := ordM p (rM p a way h)) E1 E2 A1 A2
      rw [l0] at k
      exact cov1 n (k := 0) (by decide) (by show (0 : Int) < 2; decide) rfl rfl k_stretch_stretch k
    · have k := chS2 (n + 1) (s := ordM (bM p a way h g) (qM p a)) (t := ordM p (rM p a way h)) E1 E2 B1 B2 A1 A2
      rw [l10] at k
      exact cov2 n (j := 1) (k := 0) (by decide) (by show (0 : Int) < 2; decide) rfl (by decide) (by show (1 : Int) < 2; decide) rfl (by decide) rfl k_stretch_stretch k
  obtain ⟨x, y⟩ := alike2 n rfl k_stretch_stretch rfl k_stretch_stretch cA cB cE
  exact tail_2 n (.inl rfl) hl x y
theorem bnd {c v : Pt} (hp : -6 ≤ c.1 ∧ c.1 ≤ 6 ∧ -6 ≤ c.2 ∧ c.2 ≤ 6) (h1 : 1 ≤ v.1 ∧ v.1 < 5) (h2 : -3 ≤ v.2 ∧ v.2 < 4) (b : Bool) : Bp 60 c ∧ Bp 60 (rR c v) ∧ Bp 60 (oR c v b) ∧ Bp 60 (lR c v) ∧ Bp 60 (gR c v) ∧ Bp 60 (kR c v) := by
  refine ⟨Bp.of (by omega) (by omega) (by omega) (by omega), Bp.of ?_ ?_ ?_ ?_, ?_, Bp.of ?_ ?_ ?_ ?_, Bp.of ?_ ?_ ?_ ?_, Bp.of ?_ ?_ ?_ ?_⟩
  any_goals (cases b <;> refine Bp.of ?_ ?_ ?_ ?_)
  all_goals simp only [rR, oR, lR, gR, kR]
  all_goals omega
theorem ring_all (n : Nat) {c v : Pt} {b : Bool} (hp : -6 ≤ c.1 ∧ c.1 ≤ 6 ∧ -6 ≤ c.2 ∧ c.2 ≤ 6) (h1 : 1 ≤ v.1 ∧ v.1 < 5) (h2 : -3 ≤ v.2 ∧ v.2 < 4) {s0 s1 s2 x7 x8 x9 x10 x11 : Option O} :
    ∃ ρ', exs (Pr.sg (n + 13)) tailB [s0, s1, s2, some (.lst [.sh (dC (.ring c (rR c v)))]), some (.sh (dC (.ring c (oR c v b)))), some (.sh (.lst [lk 0])), some (.sh (.bl b)), x7, x8, x9, x10, x11] = some (.nx ρ') ∧ ρ'.length = 12 := by
  have f := roF (c := c) (b := b) h1 h2
  obtain ⟨bc, br, bo, _⟩ := bnd hp h1 h2 b
  have cA := chR (n + 1) bc br bc br
  have cE := chR (n + 1) bc br bc bo
  rw [f.s0] at cA
  rw [f.s1] at cE
  obtain ⟨x, y⟩ := alike1 n (ls := [lk 0]) rfl k_ring_stretch cA (cov1 n (k := 0) (by decide) (by show (0 : Int) < 1; decide) rfl rfl k_ring_stretch cE)
  exact tail_1 n rfl (.inr rfl) x y
theorem arcs_all (n : Nat) {c v : Pt} {b d : Bool} {E : D} {ls : List D} (hp : -6 ≤ c.1 ∧ c.1 ≤ 6 ∧ -6 ≤ c.2 ∧ c.2 ≤ 6) (h1 : 1 ≤ v.1 ∧ v.1 < 5) (h2 : -3 ≤ v.2 ∧ v.2 < 4)
    (hls : (E = dC (.ring c (oR c v b)) ∧ ((ls = [lk 0, lk 1, lk 0] ∧ d = b) ∨ (ls = [lk 0, lk 1] ∧ d = false))) ∨ (E = dC (.arc c (rR c v) (kR c v)) ∧ ((ls = [lk 0, lk 1] ∧ d = true) ∨ (ls = [lk 0] ∧ d = false) ∨ (ls = [lk 1, lk 0] ∧ d = false))))
    {s0 s1 s2 x7 x8 x9 x10 x11 : Option O} {lo : O} (hl : lo = .lst (ls.map .sh) ∨ lo = .sh (.lst ls)) :
    ∃ ρ', exs (Pr.sg (n + 13)) tailB [s0, s1, s2, some (.sh (.lst (arcs c v))), some (.sh E), some lo, some (.sh (.bl d)), x7, x8, x9, x10, x11] = some (.nx ρ') ∧ ρ'.length = 12 := by
  have f := roF (c := c) (b := b) h1 h2
  obtain ⟨bc, br, bo, bl, bg, bk⟩ := bnd hp h1 h2 b
  have hX : Ba 60 (arcX c v) := ⟨bc, bg, bl⟩
  have hY : Ba 60 (arcY c v) := ⟨bc, bl, bg⟩
  have cA : run Pr (n + 10) 32 [.sh (.lst [dA (arcX c v)]), .sh (dC (.arc c (gR c v) (lR c v)))] = some (.sh (.bl (ch1 (arcX c v) c (gR c v) (lR c v))), []) := chA_1_arc n hX bc bg bl
  have cB : run Pr (n + 10) 32 [.sh (.lst [dA (arcY c v)]), .sh (dC (.arc c (lR c v) (gR c v)))] = some (.sh (.bl (ch1 (arcY c v) c (lR c v) (gR c v))), []) := chA_1_arc n hY bc bl bg
  rw [f.oX] at cA
  rw [f.oY] at cB
  have cE : run Pr (n + 11) 36 [.sh (dG [dA (arcX c v), dA (arcY c v)]), .sh (.lst ls), .sh E] = some (.sh (.bl d), []) := by
    rcases hls with ⟨rfl, ⟨rfl, rfl⟩ | ⟨rfl, rfl⟩⟩ | ⟨rfl, ⟨rfl, rfl⟩ | ⟨rfl, rfl⟩ | ⟨rfl, rfl⟩⟩
    · have k : run Pr (n + 10) 32 [.sh (.lst [dA (arcX c v), dA (arcY c v), dA (arcX c v)]), .sh (dC (.ring c (oR c v d)))] = some (.sh (.bl (ch3 (arcX c v) (arcY c v) (arcX c v) c (oR c v d) (oR c v d))), []) := chA_3_ring n hX hY hX bc bo
      rw [f.r3] at k
      exact cov3 n (i := 0) (j := 1) (k := 0) (by decide) (by show (0 : Int) < 2; decide) rfl (by decide) (by show (1 : Int) < 2; decide) rfl (by decide) (by show (0 : Int) < 2; decide) rfl rfl k_ring_stretch k
    · have k : run Pr (n + 10) 32 [.sh (.lst [dA (arcX c v), dA (arcY c v)]), .sh (dC (.ring c (oR c v b)))] = some (.sh (.bl (ch2 (arcX c v) (arcY c v) c (oR c v b) (oR c v b))), []) := chA_2_ring n hX hY bc bo
      rw [f.r2] at k
      exact cov2 n (j := 0) (k := 1) (by decide) (by show (1 : Int) < 2; decide) rfl (by decide) (by show (0 : Int) < 2; decide) rfl (by decide) rfl k_ring_stretch k
    · have k : run Pr (n + 10) 32 [.sh (.lst [dA (arcX c v), dA (arcY c v)]), .sh (dC (.arc c (rR c v) (kR c v)))] = some (.sh (.bl (ch2 (arcX c v) (arcY c v) c (rR c v) (kR c v))), []) := chA_2_arc n hX hY bc br bk
      rw [f.a2] at k
      exact cov2 n (j := 0) (k := 1) (by decide) (by show (1 : Int) < 2; decide) rfl (by decide) (by show (0 : Int) < 2; decide) rfl (by decide) rfl k_arc_stretch k
    · have k : run Pr (n + 10) 32 [.sh (.lst [dA (arcX c v)]), .sh (dC (.arc c (rR c v) (kR c v)))] = some (.sh (.bl (ch1 (arcX c v) c (rR c v) (kR c v))), []) := chA_1_arc n hX bc br bk
      rw [f.a1] at k
      exact cov1 n (k := 0) (by decide) (by show (0 : Int) < 2; decide) rfl rfl k_arc_stretch k
    · have k : run Pr (n + 10) 32 [.sh (.lst [dA (arcY c v), dA (arcX c v)]), .sh (dC (.arc c (rR c v) (kR c v)))] = some (.sh (.bl (ch2 (arcY c v) (arcX c v) c (rR c v) (kR c v))), []) := chA_2_arc n hY hX bc br bk
      rw [f.a0] at k
      exact cov2 n (j := 1) (k := 0) (by decide) (by show (0 : Int) < 2; decide) rfl (by decide) (by show (1 : Int) < 2; decide) rfl (by decide) rfl k_arc_stretch k
  obtain ⟨x, y⟩ := alike2 n rfl k_arc_stretch rfl k_arc_stretch cA cB cE
  exact tail_2 n (.inr rfl) hl x y
end K89

namespace K89
open PySem L2 Ev
def forB : Sts := (.cons (.set 2 (.call 41 (.cons (.var 1) .nil))) (.cons (.iff (.cmp .eq (.call 42 (.cons (.var 2) (.cons (.con (.int 2)) .nil))) (.con (.int 0))) (.cons (.unp [3, 4, 5, 6] (.call 46 (.cons (.var 2) .nil))) .nil) (.cons (.unp [3, 4, 5, 6] (.call 47 (.cons (.var 2) .nil))) .nil)) (.cons (.unp [5, 6] (.call 45 (.cons (.var 2) (.cons (.var 5) (.cons (.var 6) .nil))))) tailB)))
theorem d_law_eq : d_law = { np := 1, nl := 12, io := [], body := (.cons (.for_ (.nm 1) (.seq (.bin .add (.lst (.cons (.call 40 (.cons (.var 0) (.cons (.con (.int 0)) .nil))) .nil)) (.slc (.var 0) (.con (.int 1)) (.con (.int 12))))) forB) (.cons (.ret (.con (.bl true))) .nil)) } := rfl
theorem loop_ok (n : Nat) (c : Int) (x0 x2 x3 x4 x5 x6 x7 x8 x9 x10 x11 : Option O) : ∃ ρ', exs (Pr.sg (n + 13)) forB [x0, some (.sh (.int c)), x2, x3, x4, x5, x6, x7, x8, x9, x10, x11] = some (.nx ρ') ∧ ρ'.length = 12 := by
  obtain ⟨F, e1, f1⟩ := feed_ok (n + 12) c
  obtain ⟨w, F2, e2, f2, w1, w2⟩ := draw_ok (n + 12) (by decide) (show (0 : Int) < 2 by decide) (by decide) f1
  by_cases c0 : w = 0
  · obtain ⟨p, a, way, h, g, F3, e3, f3, b1, b2, b3, b4⟩ := straight_ok (n + 7) (by decide) f2
    obtain ⟨R, F4, e4, hR⟩ := links2 (n + 11) (d := dueM p a way h g) (by decide) f3
    have key := fun (ls : List D) (d : Bool) hls lo hl => str_all n (p := p) (a := a) (way := way) (h := h) (g := g) b1 b2 b3 b4 (ls := ls) (d := d) hls (s0 := x0) (s1 := some (.sh (.int c))) (s2 := some F4) (x7 := x7) (x8 := x8) (x9 := x9) (x10 := x10) (x11 := x11) (lo := lo) hl
    have k1 := key [lk 0, lk 1] (dueM p a way h g) (.inl ⟨rfl, rfl⟩) _ (.inr rfl)
    have k2 := key [lk 0] false (.inr (.inl ⟨rfl, rfl⟩)) _ (.inl rfl)
    have k3 := key [lk 1, lk 0] false (.inr (.inr ⟨rfl, rfl⟩)) _ (.inl rfl)
    obtain ⟨_, _, _, rfl, _⟩ := f1
    obtain ⟨_, _, _, rfl, _⟩ := f2
    obtain ⟨_, _, _, rfl, _⟩ := f3
    simp only [strRes, lk] at e3
    simp only [lk, List.map_cons, List.map_nil] at e4 hR k1 k2 k3
    rcases hR with rfl | rfl | rfl
    · simp only [e1, e2, e3, e4, decide_eq_true c0, forB, lk, O.d, O.ds, g41, g42, g45, g46, g47, show d__law_feed.io = [] from rfl, show d__law_draw.io = [true] from rfl, show d__law_links.io = [true] from rfl, show d__law_straight_ones.io = [true] from rfl, show d__law_round_ones.io = [true] from rfl, Option.isNone_none, List.contains_nil, Option.isNone_some, Bool.not_true, Bool.not_false, setTg, List.zip_cons_cons, List.zip_nil_left, List.zip_nil_right, List.foldl_cons, List.foldl_nil, exs, ex, ev, evs, evB, evA, gt0, gtS, pt0, ptS, ba, bs, ceq, cne, cin, cni, clt, cle, cgt, cge, eqi, bo1, io1, ret1, ret2, ret3, ret4, ret5, ret6, ret7, mv1, mv2, mv3, mv4, mv5, sgΦ, sgΦm, sgS, sgM, sgMt, sgI, sgA, putAll, iosOf, is1, is2, is3, shd, bk0, bk1, bk2, mt2, mt3, mt4, mt5, us1, us2, us3, us4, ixt, ixl, ixL, ixT, ax0, ax1, ax2, ax3, abs1, int11, len1, len2, len3, len4, Option.bind_some, Option.map_some, Option.bind_none, Option.map_none, Bool.true_or, Bool.or_true, Bool.false_or, Bool.or_false, Bool.true_and, Bool.and_true, Bool.false_and, Bool.and_false, if_true, ite_true, eq_self, List.map_cons, List.map_nil, List.length_cons, List.length_nil, List.replicate_zero, List.replicate_succ, List.cons_append, List.nil_append, List.append_nil, Nat.sub_self, Nat.reduceAdd, Nat.reduceSub, Nat.zero_add, if_false, ite_false, Bool.not_true, Bool.not_false, Bool.false_eq_true, reduceIte, reduceCtorEq, pureXs, pureX, callD, decide_true, decide_false, Int.reduceEq, Int.reduceLT, Int.reduceLE, Int.reduceNeg, Int.reduceAdd, Int.reduceSub, Int.reduceMul, decide_eq_true_eq, Int.reduceNe, ne_eq, not_false_eq_true, not_true_eq_false, Option.some.injEq, c0, c1, c2, c3]
      exact k1
    · simp only [e1, e2, e3, e4, decide_eq_true c0, forB, lk, O.d, O.ds, g41, g42, g45, g46, g47, show d__law_feed.io = [] from rfl, show d__law_draw.io = [true] from rfl, show d__law_links.io = [true] from rfl, show d__law_straight_ones.io = [true] from rfl, show d__law_round_ones.io = [true] from rfl, Option.isNone_none, List.contains_nil, Option.isNone_some, Bool.not_true, Bool.not_false, setTg, List.zip_cons_cons, List.zip_nil_left, List.zip_nil_right, List.foldl_cons, List.foldl_nil, exs, ex, ev, evs, evB, evA, gt0, gtS, pt0, ptS, ba, bs, ceq, cne, cin, cni, clt, cle, cgt, cge, eqi, bo1, io1, ret1, ret2, ret3, ret4, ret5, ret6, ret7, mv1, mv2, mv3, mv4, mv5, sgΦ, sgΦm, sgS, sgM, sgMt, sgI, sgA, putAll, iosOf, is1, is2, is3, shd, bk0, bk1, bk2, mt2, mt3, mt4, mt5, us1, us2, us3, us4, ixt, ixl, ixL, ixT, ax0, ax1, ax2, ax3, abs1, int11, len1, len2, len3, len4, Option.bind_some, Option.map_some, Option.bind_none, Option.map_none, Bool.true_or, Bool.or_true, Bool.false_or, Bool.or_false, Bool.true_and, Bool.and_true, Bool.false_and, Bool.and_false, if_true, ite_true, eq_self, List.map_cons, List.map_nil, List.length_cons, List.length_nil, List.replicate_zero, List.replicate_succ, List.cons_append, List.nil_append, List.append_nil, Nat.sub_self, Nat.reduceAdd, Nat.reduceSub, Nat.zero_add, if_false, ite_false, Bool.not_true, Bool.not_false, Bool.false_eq_true, reduceIte, reduceCtorEq, pureXs, pureX, callD, decide_true, decide_false, Int.reduceEq, Int.reduceLT, Int.reduceLE, Int.reduceNeg, Int.reduceAdd, Int.reduceSub, Int.reduceMul, decide_eq_true_eq, Int.reduceNe, ne_eq, not_false_eq_true, not_true_eq_false, Option.some.injEq, c0, c1, c2, c3]
      exact k2
    · simp only [e1, e2, e3, e4, decide_eq_true c0, forB, lk, O.d, O.ds, g41, g42, g45, g46, g47, show d__law_feed.io = [] from rfl, show d__law_draw.io = [true] from rfl, show d__law_links.io = [true] from rfl, show d__law_straight_ones.io = [true] from rfl, show d__law_round_ones.io = [true] from rfl, Option.isNone_none, List.contains_nil, Option.isNone_some, Bool.not_true, Bool.not_false, setTg, List.zip_cons_cons, List.zip_nil_left, List.zip_nil_right, List.foldl_cons, List.foldl_nil, exs, ex, ev, evs, evB, evA, gt0, gtS, pt0, ptS, ba, bs, ceq, cne, cin, cni, clt, cle, cgt, cge, eqi, bo1, io1, ret1, ret2, ret3, ret4, ret5, ret6, ret7, mv1, mv2, mv3, mv4, mv5, sgΦ, sgΦm, sgS, sgM, sgMt, sgI, sgA, putAll, iosOf, is1, is2, is3, shd, bk0, bk1, bk2, mt2, mt3, mt4, mt5, us1, us2, us3, us4, ixt, ixl, ixL, ixT, ax0, ax1, ax2, ax3, abs1, int11, len1, len2, len3, len4, Option.bind_some, Option.map_some, Option.bind_none, Option.map_none, Bool.true_or, Bool.or_true, Bool.false_or, Bool.or_false, Bool.true_and, Bool.and_true, Bool.false_and, Bool.and_false, if_true, ite_true, eq_self, List.map_cons, List.map_nil, List.length_cons, List.length_nil, List.replicate_zero, List.replicate_succ, List.cons_append, List.nil_append, List.append_nil, Nat.sub_self, Nat.reduceAdd, Nat.reduceSub, Nat.zero_add, if_false, ite_false, Bool.not_true, Bool.not_false, Bool.false_eq_true, reduceIte, reduceCtorEq, pureXs, pureX, callD, decide_true, decide_false, Int.reduceEq, Int.reduceLT, Int.reduceLE, Int.reduceNeg, Int.reduceAdd, Int.reduceSub, Int.reduceMul, decide_eq_true_eq, Int.reduceNe, ne_eq, not_false_eq_true, not_true_eq_false, Option.some.injEq, c0, c1, c2, c3]
      exact k3
  · obtain ⟨p, v, b, R0, F3, e3, hR0, f3, b1, b2, b3⟩ := round_ok (n + 7) (by decide) f2
    rcases hR0 with rfl | rfl | rfl
    · obtain ⟨F4, e4⟩ := links1 (n + 11) (d := b) (by decide) f3
      have k1 := ring_all n (b := b) b1 b2 b3 (s0 := x0) (s1 := some (.sh (.int c))) (s2 := some F4) (x7 := x7) (x8 := x8) (x9 := x9) (x10 := x10) (x11 := x11)
      obtain ⟨_, _, _, rfl, _⟩ := f1
      obtain ⟨_, _, _, rfl, _⟩ := f2
      obtain ⟨_, _, _, rfl, _⟩ := f3
      simp only [res0, lk] at e3
      simp only [lk] at e4 k1
      simp only [e1, e2, e3, e4, decide_eq_false c0, forB, lk, O.d, O.ds, g41, g42, g45, g46, g47, show d__law_feed.io = [] from rfl, show d__law_draw.io = [true] from rfl, show d__law_links.io = [true] from rfl, show d__law_straight_ones.io = [true] from rfl, show d__law_round_ones.io = [true] from rfl, Option.isNone_none, List.contains_nil, Option.isNone_some, Bool.not_true, Bool.not_false, setTg, List.zip_cons_cons, List.zip_nil_left, List.zip_nil_right, List.foldl_cons, List.foldl_nil, exs, ex, ev, evs, evB, evA, gt0, gtS, pt0, ptS, ba, bs, ceq, cne, cin, cni, clt, cle, cgt, cge, eqi, bo1, io1, ret1, ret2, ret3, ret4, ret5, ret6, ret7, mv1, mv2, mv3, mv4, mv5, sgΦ, sgΦm, sgS, sgM, sgMt, sgI, sgA, putAll, iosOf, is1, is2, is3, shd, bk0, bk1, bk2, mt2, mt3, mt4, mt5, us1, us2, us3, us4, ixt, ixl, ixL, ixT, ax0, ax1, ax2, ax3, abs1, int11, len1, len2, len3, len4, Option.bind_some, Option.map_some, Option.bind_none, Option.map_none, Bool.true_or, Bool.or_true, Bool.false_or, Bool.or_false, Bool.true_and, Bool.and_true, Bool.false_and, Bool.and_false, if_true, ite_true, eq_self, List.map_cons, List.map_nil, List.length_cons, List.length_nil, List.replicate_zero, List.replicate_succ, List.cons_append, List.nil_append, List.append_nil, Nat.sub_self, Nat.reduceAdd, Nat.reduceSub, Nat.zero_add, if_false, ite_false, Bool.not_true, Bool.not_false, Bool.false_eq_true, reduceIte, reduceCtorEq, pureXs, pureX, callD, decide_true, decide_false, Int.reduceEq, Int.reduceLT, Int.reduceLE, Int.reduceNeg, Int.reduceAdd, Int.reduceSub, Int.reduceMul, decide_eq_true_eq, Int.reduceNe, ne_eq, not_false_eq_true, not_true_eq_false, Option.some.injEq, c0, c1, c2, c3]
      exact k1
    · obtain ⟨R, F4, e4, hR⟩ := links3 (n + 11) (d := b) (by decide) f3
      have key := fun (ls : List D) (d : Bool) hls lo hl => arcs_all n (c := p) (v := v) (b := b) (d := d) (E := dC (.ring p (oR p v b))) (ls := ls) b1 b2 b3 hls (s0 := x0) (s1 := some (.sh (.int c))) (s2 := some F4) (x7 := x7) (x8 := x8) (x9 := x9) (x10 := x10) (x11 := x11) (lo := lo) hl
      have k1 := key [lk 0, lk 1, lk 0] b (.inl ⟨rfl, .inl ⟨rfl, rfl⟩⟩) _ (.inr rfl)
      have k2 := key [lk 0, lk 1] false (.inl ⟨rfl, .inr ⟨rfl, rfl⟩⟩) _ (.inl rfl)
      obtain ⟨_, _, _, rfl, _⟩ := f1
      obtain ⟨_, _, _, rfl, _⟩ := f2
      obtain ⟨_, _, _, rfl, _⟩ := f3
      simp only [res1, lk] at e3
      simp only [lk, List.map_cons, List.map_nil] at e4 hR k1 k2
      rcases hR with rfl | rfl
      · simp only [e1, e2, e3, e4, decide_eq_false c0, forB, lk, O.d, O.ds, g41, g42, g45, g46, g47, show d__law_feed.io = [] from rfl, show d__law_draw.io = [true] from rfl, show d__law_links.io = [true] from rfl, show d__law_straight_ones.io = [true] from rfl, show d__law_round_ones.io = [true] from rfl, Option.isNone_none, List.contains_nil, Option.isNone_some, Bool.not_true, Bool.not_false, setTg, List.zip_cons_cons, List.zip_nil_left, List.zip_nil_right, List.foldl_cons, List.foldl_nil, exs, ex, ev, evs, evB, evA, gt0, gtS, pt0, ptS, ba, bs, ceq, cne, cin, cni, clt, cle, cgt, cge, eqi, bo1, io1, ret1, ret2, ret3, ret4, ret5, ret6, ret7, mv1, mv2, mv3, mv4, mv5, sgΦ, sgΦm, sgS, sgM, sgMt, sgI, sgA, putAll, iosOf, is1, is2, is3, shd, bk0, bk1, bk2, mt2, mt3, mt4, mt5, us1, us2, us3, us4, ixt, ixl, ixL, ixT, ax0, ax1, ax2, ax3, abs1, int11, len1, len2, len3, len4, Option.bind_some, Option.map_some, Option.bind_none, Option.map_none, Bool.true_or, Bool.or_true, Bool.false_or, Bool.or_false, Bool.true_and, Bool.and_true, Bool.false_and, Bool.and_false, if_true, ite_true, eq_self, List.map_cons, List.map_nil, List.length_cons, List.length_nil, List.replicate_zero, List.replicate_succ, List.cons_append, List.nil_append, List.append_nil, Nat.sub_self, Nat.reduceAdd, Nat.reduceSub, Nat.zero_add, if_false, ite_false, Bool.not_true, Bool.not_false, Bool.false_eq_true, reduceIte, reduceCtorEq, pureXs, pureX, callD, decide_true, decide_false, Int.reduceEq, Int.reduceLT, Int.reduceLE, Int.reduceNeg, Int.reduceAdd, Int.reduceSub, Int.reduceMul, decide_eq_true_eq, Int.reduceNe, ne_eq, not_false_eq_true, not_true_eq_false, Option.some.injEq, c0, c1, c2, c3]
        exact k1
      · simp only [e1, e2, e3, e4, decide_eq_false c0, forB, lk, O.d, O.ds, g41, g42, g45, g46, g47, show d__law_feed.io = [] from rfl, show d__law_draw.io = [true] from rfl, show d__law_links.io = [true] from rfl, show d__law_straight_ones.io = [true] from rfl, show d__law_round_ones.io = [true] from rfl, Option.isNone_none, List.contains_nil, Option.isNone_some, Bool.not_true, Bool.not_false, setTg, List.zip_cons_cons, List.zip_nil_left, List.zip_nil_right, List.foldl_cons, List.foldl_nil, exs, ex, ev, evs, evB, evA, gt0, gtS, pt0, ptS, ba, bs, ceq, cne, cin, cni, clt, cle, cgt, cge, eqi, bo1, io1, ret1, ret2, ret3, ret4, ret5, ret6, ret7, mv1, mv2, mv3, mv4, mv5, sgΦ, sgΦm, sgS, sgM, sgMt, sgI, sgA, putAll, iosOf, is1, is2, is3, shd, bk0, bk1, bk2, mt2, mt3, mt4, mt5, us1, us2, us3, us4, ixt, ixl, ixL, ixT, ax0, ax1, ax2, ax3, abs1, int11, len1, len2, len3, len4, Option.bind_some, Option.map_some, Option.bind_none, Option.map_none, Bool.true_or, Bool.or_true, Bool.false_or, Bool.or_false, Bool.true_and, Bool.and_true, Bool.false_and, Bool.and_false, if_true, ite_true, eq_self, List.map_cons, List.map_nil, List.length_cons, List.length_nil, List.replicate_zero, List.replicate_succ, List.cons_append, List.nil_append, List.append_nil, Nat.sub_self, Nat.reduceAdd, Nat.reduceSub, Nat.zero_add, if_false, ite_false, Bool.not_true, Bool.not_false, Bool.false_eq_true, reduceIte, reduceCtorEq, pureXs, pureX, callD, decide_true, decide_false, Int.reduceEq, Int.reduceLT, Int.reduceLE, Int.reduceNeg, Int.reduceAdd, Int.reduceSub, Int.reduceMul, decide_eq_true_eq, Int.reduceNe, ne_eq, not_false_eq_true, not_true_eq_false, Option.some.injEq, c0, c1, c2, c3]
        exact k2
    · obtain ⟨R, F4, e4, hR⟩ := links2 (n + 11) (d := true) (by decide) f3
      have key := fun (ls : List D) (d : Bool) hls lo hl => arcs_all n (c := p) (v := v) (b := b) (d := d) (E := dC (.arc p (rR p v) (kR p v))) (ls := ls) b1 b2 b3 hls (s0 := x0) (s1 := some (.sh (.int c))) (s2 := some F4) (x7 := x7) (x8 := x8) (x9 := x9) (x10 := x10) (x11 := x11) (lo := lo) hl
      have k1 := key [lk 0, lk 1] true (.inr ⟨rfl, .inl ⟨rfl, rfl⟩⟩) _ (.inr rfl)
      have k2 := key [lk 0] false (.inr ⟨rfl, .inr (.inl ⟨rfl, rfl⟩)⟩) _ (.inl rfl)
      have k3 := key [lk 1, lk 0] false (.inr ⟨rfl, .inr (.inr ⟨rfl, rfl⟩)⟩) _ (.inl rfl)
      obtain ⟨_, _, _, rfl, _⟩ := f1
      obtain ⟨_, _, _, rfl, _⟩ := f2
      obtain ⟨_, _, _, rfl, _⟩ := f3
      simp only [res2, lk] at e3
      simp only [lk, List.map_cons, List.map_nil] at e4 hR k1 k2 k3
      rcases hR with rfl | rfl | rfl
      · simp only [e1, e2, e3, e4, decide_eq_false c0, forB, lk, O.d, O.ds, g41, g42, g45, g46, g47, show d__law_feed.io = [] from rfl, show d__law_draw.io = [true] from rfl, show d__law_links.io = [true] from rfl, show d__law_straight_ones.io = [true] from rfl, show d__law_round_ones.io = [true] from rfl, Option.isNone_none, List.contains_nil, Option.isNone_some, Bool.not_true, Bool.not_false, setTg, List.zip_cons_cons, List.zip_nil_left, List.zip_nil_right, List.foldl_cons, List.foldl_nil, exs, ex, ev, evs, evB, evA, gt0, gtS, pt0, ptS, ba, bs, ceq, cne, cin, cni, clt, cle, cgt, cge, eqi, bo1, io1, ret1, ret2, ret3, ret4, ret5, ret6, ret7, mv1, mv2, mv3, mv4, mv5, sgΦ, sgΦm, sgS, sgM, sgMt, sgI, sgA, putAll, iosOf, is1, is2, is3, shd, bk0, bk1, bk2, mt2, mt3, mt4, mt5, us1, us2, us3, us4, ixt, ixl, ixL, ixT, ax0, ax1, ax2, ax3, abs1, int11, len1, len2, len3, len4, Option.bind_some, Option.map_some, Option.bind_none, Option.map_none, Bool.true_or, Bool.or_true, Bool.false_or, Bool.or_false, Bool.true_and, Bool.and_true, Bool.false_and, Bool.and_false, if_true, ite_true, eq_self, List.map_cons, List.map_nil, List.length_cons, List.length_nil, List.replicate_zero, List.replicate_succ, List.cons_append, List.nil_append, List.append_nil, Nat.sub_self, Nat.reduceAdd, Nat.reduceSub, Nat.zero_add, if_false, ite_false, Bool.not_true, Bool.not_false, Bool.false_eq_true, reduceIte, reduceCtorEq, pureXs, pureX, callD, decide_true, decide_false, Int.reduceEq, Int.reduceLT, Int.reduceLE, Int.reduceNeg, Int.reduceAdd, Int.reduceSub, Int.reduceMul, decide_eq_true_eq, Int.reduceNe, ne_eq, not_false_eq_true, not_true_eq_false, Option.some.injEq, c0, c1, c2, c3]
        exact k1
      · simp only [e1, e2, e3, e4, decide_eq_false c0, forB, lk, O.d, O.ds, g41, g42, g45, g46, g47, show d__law_feed.io = [] from rfl, show d__law_draw.io = [true] from rfl, show d__law_links.io = [true] from rfl, show d__law_straight_ones.io = [true] from rfl, show d__law_round_ones.io = [true] from rfl, Option.isNone_none, List.contains_nil, Option.isNone_some, Bool.not_true, Bool.not_false, setTg, List.zip_cons_cons, List.zip_nil_left, List.zip_nil_right, List.foldl_cons, List.foldl_nil, exs, ex, ev, evs, evB, evA, gt0, gtS, pt0, ptS, ba, bs, ceq, cne, cin, cni, clt, cle, cgt, cge, eqi, bo1, io1, ret1, ret2, ret3, ret4, ret5, ret6, ret7, mv1, mv2, mv3, mv4, mv5, sgΦ, sgΦm, sgS, sgM, sgMt, sgI, sgA, putAll, iosOf, is1, is2, is3, shd, bk0, bk1, bk2, mt2, mt3, mt4, mt5, us1, us2, us3, us4, ixt, ixl, ixL, ixT, ax0, ax1, ax2, ax3, abs1, int11, len1, len2, len3, len4, Option.bind_some, Option.map_some, Option.bind_none, Option.map_none, Bool.true_or, Bool.or_true, Bool.false_or, Bool.or_false, Bool.true_and, Bool.and_true, Bool.false_and, Bool.and_false, if_true, ite_true, eq_self, List.map_cons, List.map_nil, List.length_cons, List.length_nil, List.replicate_zero, List.replicate_succ, List.cons_append, List.nil_append, List.append_nil, Nat.sub_self, Nat.reduceAdd, Nat.reduceSub, Nat.zero_add, if_false, ite_false, Bool.not_true, Bool.not_false, Bool.false_eq_true, reduceIte, reduceCtorEq, pureXs, pureX, callD, decide_true, decide_false, Int.reduceEq, Int.reduceLT, Int.reduceLE, Int.reduceNeg, Int.reduceAdd, Int.reduceSub, Int.reduceMul, decide_eq_true_eq, Int.reduceNe, ne_eq, not_false_eq_true, not_true_eq_false, Option.some.injEq, c0, c1, c2, c3]
        exact k2
      · simp only [e1, e2, e3, e4, decide_eq_false c0, forB, lk, O.d, O.ds, g41, g42, g45, g46, g47, show d__law_feed.io = [] from rfl, show d__law_draw.io = [true] from rfl, show d__law_links.io = [true] from rfl, show d__law_straight_ones.io = [true] from rfl, show d__law_round_ones.io = [true] from rfl, Option.isNone_none, List.contains_nil, Option.isNone_some, Bool.not_true, Bool.not_false, setTg, List.zip_cons_cons, List.zip_nil_left, List.zip_nil_right, List.foldl_cons, List.foldl_nil, exs, ex, ev, evs, evB, evA, gt0, gtS, pt0, ptS, ba, bs, ceq, cne, cin, cni, clt, cle, cgt, cge, eqi, bo1, io1, ret1, ret2, ret3, ret4, ret5, ret6, ret7, mv1, mv2, mv3, mv4, mv5, sgΦ, sgΦm, sgS, sgM, sgMt, sgI, sgA, putAll, iosOf, is1, is2, is3, shd, bk0, bk1, bk2, mt2, mt3, mt4, mt5, us1, us2, us3, us4, ixt, ixl, ixL, ixT, ax0, ax1, ax2, ax3, abs1, int11, len1, len2, len3, len4, Option.bind_some, Option.map_some, Option.bind_none, Option.map_none, Bool.true_or, Bool.or_true, Bool.false_or, Bool.or_false, Bool.true_and, Bool.and_true, Bool.false_and, Bool.and_false, if_true, ite_true, eq_self, List.map_cons, List.map_nil, List.length_cons, List.length_nil, List.replicate_zero, List.replicate_succ, List.cons_append, List.nil_append, List.append_nil, Nat.sub_self, Nat.reduceAdd, Nat.reduceSub, Nat.zero_add, if_false, ite_false, Bool.not_true, Bool.not_false, Bool.false_eq_true, reduceIte, reduceCtorEq, pureXs, pureX, callD, decide_true, decide_false, Int.reduceEq, Int.reduceLT, Int.reduceLE, Int.reduceNeg, Int.reduceAdd, Int.reduceSub, Int.reduceMul, decide_eq_true_eq, Int.reduceNe, ne_eq, not_false_eq_true, not_true_eq_false, Option.some.injEq, c0, c1, c2, c3]
        exact k3
theorem len12 {ρ : Ev.Env} (h : ρ.length = 12) : ∃ x0 x1 x2 x3 x4 x5 x6 x7 x8 x9 x10 x11, ρ = [x0, x1, x2, x3, x4, x5, x6, x7, x8, x9, x10, x11] := by
  match ρ, h with
  | [x0, x1, x2, x3, x4, x5, x6, x7, x8, x9, x10, x11], _ => exact ⟨x0, x1, x2, x3, x4, x5, x6, x7, x8, x9, x10, x11, rfl⟩
theorem forL_c {t : Tg} {b : Ev.Env → Option Out} {d : D} {ds : List D} {ρ : Ev.Env} : forL t b (d :: ds) ρ = (setTg t (.sh d) ρ).bind fun ρ1 => (b ρ1).bind fun o => (match o with
      | .nx ρ => forL t b ds ρ
      | .ct ρ => forL t b ds ρ
      | .bk ρ => some (.nx ρ)
      | .rt o ρ => some (.rt o ρ)) := rfl
theorem loops {b : Ev.Env → Option Out} (hb : ∀ (c : Int) (x0 x2 x3 x4 x5 x6 x7 x8 x9 x10 x11 : Option O), ∃ ρ', b [x0, some (.sh (.int c)), x2, x3, x4, x5, x6, x7, x8, x9, x10, x11] = some (.nx ρ') ∧ ρ'.length = 12) : ∀ (cs : List Int) (ρ : Ev.Env), ρ.length = 12 → ∃ ρ', forL (.nm 1) b (cs.map D.int) ρ = some (.nx ρ') ∧ ρ'.length = 12
  | [], ρ, h => ⟨ρ, rfl, h⟩
  | c :: cs, ρ, h => by
    obtain ⟨x0, x1, x2, x3, x4, x5, x6, x7, x8, x9, x10, x11, rfl⟩ := len12 h
    obtain ⟨ρ1, e1, h1⟩ := hb c x0 x2 x3 x4 x5 x6 x7 x8 x9 x10 x11
    obtain ⟨ρ2, e2, h2⟩ := loops hb cs ρ1 h1
    refine ⟨ρ2, ?_, h2⟩
    rw [List.map_cons, forL_c, show setTg (.nm 1) (.sh (.int c)) [x0, x1, x2, x3, x4, x5, x6, x7, x8, x9, x10, x11] = some [x0, some (.sh (.int c)), x2, x3, x4, x5, x6, x7, x8, x9, x10, x11] from rfl, Option.bind_some, e1, Option.bind_some]
    exact e2
end K89

namespace K89
open PySem L2 Ev
theorem cell_ok (n : Nat) (ns : List Int) : ∃ c, run Pr (n + 1) 40 [.sh (.scr ns), .sh (.int 0)] = some (.sh (.int c), []) := by
  cases ns with
  | nil =>
    refine ⟨0, ?_⟩
    have l4 : bltO .len [.sh (.scr [])] = some (.sh (.int (([] : List Int).length : Nat))) := len4
    rw [r40]
    simp only [d__law_cell_at, l4, exs, ex, ev, evs, evB, evA, gt0, gtS, pt0, ptS, ba, bs, ceq, cne, cin, cni, clt, cle, cgt, cge, eqi, bo1, io1, ret1, ret2, ret3, ret4, ret5, ret6, ret7, mv1, mv2, mv3, mv4, mv5, sgΦ, sgΦm, sgS, sgM, sgMt, sgI, sgA, putAll, iosOf, is1, is2, is3, shd, bk0, bk1, bk2, mt2, mt3, mt4, mt5, us1, us2, us3, us4, ixt, ixl, ixL, ixT, ax0, ax1, ax2, ax3, abs1, int11, len1, len2, len3, len4, Option.bind_some, Option.map_some, Option.bind_none, Option.map_none, Bool.true_or, Bool.or_true, Bool.false_or, Bool.or_false, Bool.true_and, Bool.and_true, Bool.false_and, Bool.and_false, if_true, ite_true, eq_self, List.map_cons, List.map_nil, List.length_cons, List.length_nil, List.replicate_zero, List.replicate_succ, List.cons_append, List.nil_append, List.append_nil, Nat.sub_self, Nat.reduceAdd, Nat.reduceSub, Nat.zero_add, if_false, ite_false, Bool.not_true, Bool.not_false, Bool.false_eq_true, reduceIte, reduceCtorEq, pureXs, pureX, callD, decide_true, decide_false, Int.reduceEq, Int.reduceLT, Int.reduceLE, Int.reduceNeg, Int.reduceAdd, Int.reduceSub, Int.reduceMul, decide_eq_true_eq, Int.reduceNe, ne_eq, not_false_eq_true, not_true_eq_false, Option.some.injEq, c0, c1, c2, c3]
  | cons c cs =>
    refine ⟨c, ?_⟩
    have i1 : ixO (.sh (.scr (c :: cs))) 0 = some (.sh (.int c)) := by
      have e : ixO (.sh (.scr (c :: cs))) 0 = (atI (c :: cs) 0).map fun n => .sh (.int n) := rfl
      rw [e, ax0]
      rfl
    have l4 : bltO .len [.sh (.scr (c :: cs))] = some (.sh (.int ((c :: cs).length : Nat))) := len4
    have i2 : decide ((0 : Int) < ((cs.length + 1 : Nat) : Int)) = true := decide_eq_true (by omega)
    rw [r40]
    simp only [d__law_cell_at, l4, i1, i2, exs, ex, ev, evs, evB, evA, gt0, gtS, pt0, ptS, ba, bs, ceq, cne, cin, cni, clt, cle, cgt, cge, eqi, bo1, io1, ret1, ret2, ret3, ret4, ret5, ret6, ret7, mv1, mv2, mv3, mv4, mv5, sgΦ, sgΦm, sgS, sgM, sgMt, sgI, sgA, putAll, iosOf, is1, is2, is3, shd, bk0, bk1, bk2, mt2, mt3, mt4, mt5, us1, us2, us3, us4, ixt, ixl, ixL, ixT, ax0, ax1, ax2, ax3, abs1, int11, len1, len2, len3, len4, Option.bind_some, Option.map_some, Option.bind_none, Option.map_none, Bool.true_or, Bool.or_true, Bool.false_or, Bool.or_false, Bool.true_and, Bool.and_true, Bool.false_and, Bool.and_false, if_true, ite_true, eq_self, List.map_cons, List.map_nil, List.length_cons, List.length_nil, List.replicate_zero, List.replicate_succ, List.cons_append, List.nil_append, List.append_nil, Nat.sub_self, Nat.reduceAdd, Nat.reduceSub, Nat.zero_add, if_false, ite_false, Bool.not_true, Bool.not_false, Bool.false_eq_true, reduceIte, reduceCtorEq, pureXs, pureX, callD, decide_true, decide_false, Int.reduceEq, Int.reduceLT, Int.reduceLE, Int.reduceNeg, Int.reduceAdd, Int.reduceSub, Int.reduceMul, decide_eq_true_eq, Int.reduceNe, ne_eq, not_false_eq_true, not_true_eq_false, Option.some.injEq, c0, c1, c2, c3]
theorem sl_ok (ns : List Int) : ∃ ms : List Int, ms.length ≤ ns.length ∧ slO (.sh (.scr ns)) (some 1) (some 12) = some (.lst ((ms.map D.int).map .sh)) := by
  refine ⟨(ns.drop (HT.sIx (ns.map D.int).length 0 (some 1))).take (HT.sIx (ns.map D.int).length (ns.map D.int).length (some 12) - HT.sIx (ns.map D.int).length 0 (some 1)), ?_, ?_⟩
  · rw [List.length_take, List.length_drop]; omega
  · have e : slO (.sh (.scr ns)) (some 1) (some 12) = some (lsO (cutD (ns.map D.int) (some 1) (some 12))) := rfl
    rw [e]
    unfold lsO cutD
    simp only [List.map_take, List.map_drop]
theorem unm (ds : List D) : unSh (ds.map O.sh) = some ds := by
  induction ds with
  | nil => rfl
  | cons d ds ih => show (unSh (ds.map O.sh)).map (d :: ·) = _; rw [ih]; rfl
theorem bad2 {c : Int} {ms : List Int} (h : ms.length ≤ 63) : binO .add (.lst [.sh (.int c)]) (.lst ((ms.map D.int).map .sh)) = some (.lst (((c :: ms).map D.int).map .sh)) := by
  have e := ba1 (l1 := [.sh (.int c)]) (l2 := (ms.map D.int).map .sh) (x := [.int c]) (y := ms.map D.int) rfl (unm _) (by rw [List.length_map]; show 1 + ms.length ≤ 100000; omega)
  exact e
def seqq (ds : List D) : seqOf (.lst (ds.map .sh)) = some ds := by
  have e : seqOf (.lst (ds.map .sh)) = (match unSh (ds.map O.sh) with
    | some ds => some ds
    | none => tupOf (.lst (ds.map .sh))) := rfl
  rw [e, unm]
theorem law_ok89 (n : Nat) (ns : List Int) (hl : ns.length ≤ 63) : ∃ r, run Pr (n + 14) 48 [.sh (.scr ns)] = some (.sh (.bl true), r) := by
  obtain ⟨c, e1⟩ := cell_ok (n + 12) ns
  obtain ⟨ms, hm, e2⟩ := sl_ok ns
  have e3 := bad2 (c := c) (ms := ms) (by omega)
  obtain ⟨ρ', e4, h4⟩ := loops (b := exs (Pr.sg (n + 13)) forB) (fun c x0 x2 x3 x4 x5 x6 x7 x8 x9 x10 x11 => loop_ok n c x0 x2 x3 x4 x5 x6 x7 x8 x9 x10 x11) (c :: ms) [some (.sh (.scr ns)), none, none, none, none, none, none, none, none, none, none, none] rfl
  have e5 := seqq ((c :: ms).map D.int)
  refine ⟨[], ?_⟩
  have e6 : (fun ρ => exs (Pr.sg (n + 13)) forB ρ) = exs (Pr.sg (n + 13)) forB := rfl
  generalize hq : (c :: ms).map D.int = q at e3 e4 e5
  rw [r48]
  simp only [d_law_eq, g40, show d__law_cell_at.io = [] from rfl, e1, e2, e3, e4, e5, e6, itE, optI, isNonX, hidFree, backO, backH, exs, ex, ev, evs, evB, evA, gt0, gtS, pt0, ptS, ba, bs, ceq, cne, cin, cni, clt, cle, cgt, cge, eqi, bo1, io1, ret1, ret2, ret3, ret4, ret5, ret6, ret7, mv1, mv2, mv3, mv4, mv5, sgΦ, sgΦm, sgS, sgM, sgMt, sgI, sgA, putAll, iosOf, is1, is2, is3, shd, bk0, bk1, bk2, mt2, mt3, mt4, mt5, us1, us2, us3, us4, ixt, ixl, ixL, ixT, ax0, ax1, ax2, ax3, abs1, int11, len1, len2, len3, len4, Option.bind_some, Option.map_some, Option.bind_none, Option.map_none, Bool.true_or, Bool.or_true, Bool.false_or, Bool.or_false, Bool.true_and, Bool.and_true, Bool.false_and, Bool.and_false, if_true, ite_true, eq_self, List.map_cons, List.map_nil, List.length_cons, List.length_nil, List.replicate_zero, List.replicate_succ, List.cons_append, List.nil_append, List.append_nil, Nat.sub_self, Nat.reduceAdd, Nat.reduceSub, Nat.zero_add, if_false, ite_false, Bool.not_true, Bool.not_false, Bool.false_eq_true, reduceIte, reduceCtorEq, pureXs, pureX, callD, decide_true, decide_false, Int.reduceEq, Int.reduceLT, Int.reduceLE, Int.reduceNeg, Int.reduceAdd, Int.reduceSub, Int.reduceMul, decide_eq_true_eq, Int.reduceNe, ne_eq, not_false_eq_true, not_true_eq_false, Option.some.injEq, c0, c1, c2, c3]
end K89

namespace K89
open PySem L2 Ev
def dd_divisor : He.DefD := ⟨("divisor", none), "divisor", "divisor", defArgs s_divisor, defBody s_divisor, defScope s_divisor, [], []⟩
def dd_ratio : He.DefD := ⟨("ratio", none), "ratio", "ratio", defArgs s_ratio, defBody s_ratio, defScope s_ratio, [], []⟩
def dd_plus : He.DefD := ⟨("plus", none), "plus", "plus", defArgs s_plus, defBody s_plus, defScope s_plus, [], []⟩
def dd_minus : He.DefD := ⟨("minus", none), "minus", "minus", defArgs s_minus, defBody s_minus, defScope s_minus, [], []⟩
def dd_times : He.DefD := ⟨("times", none), "times", "times", defArgs s_times, defBody s_times, defScope s_times, [], []⟩
def dd_below : He.DefD := ⟨("below", none), "below", "below", defArgs s_below, defBody s_below, defScope s_below, [], []⟩
def dd_together : He.DefD := ⟨("together", none), "together", "together", defArgs s_together, defBody s_together, defScope s_together, [], []⟩
def dd_off : He.DefD := ⟨("off", none), "off", "off", defArgs s_off, defBody s_off, defScope s_off, [], []⟩
def dd_grown : He.DefD := ⟨("grown", none), "grown", "grown", defArgs s_grown, defBody s_grown, defScope s_grown, [], []⟩
def dd_turned : He.DefD := ⟨("turned", none), "turned", "turned", defArgs s_turned, defBody s_turned, defScope s_turned, [], []⟩
def dd_along : He.DefD := ⟨("along", none), "along", "along", defArgs s_along, defBody s_along, defScope s_along, [], []⟩
def dd_across : He.DefD := ⟨("across", none), "across", "across", defArgs s_across, defBody s_across, defScope s_across, [], []⟩
def dd_far : He.DefD := ⟨("far", none), "far", "far", defArgs s_far, defBody s_far, defScope s_far, [], []⟩
def dd_sign_of : He.DefD := ⟨("sign_of", none), "sign_of", "sign_of", defArgs s_sign_of, defBody s_sign_of, defScope s_sign_of, [], []⟩
def dd_side : He.DefD := ⟨("side", none), "side", "side", defArgs s_side, defBody s_side, defScope s_side, [], []⟩
def dd_before : He.DefD := ⟨("before", none), "before", "before", defArgs s_before, defBody s_before, defScope s_before, [], []⟩
def dd_stretch : He.DefD := ⟨("stretch", none), "stretch", "stretch", defArgs s_stretch, defBody s_stretch, defScope s_stretch, [], []⟩
def dd_lies_on : He.DefD := ⟨("lies_on", none), "lies_on", "lies_on", defArgs s_lies_on, defBody s_lies_on, defScope s_lies_on, [], []⟩
def dd_quarter_of : He.DefD := ⟨("quarter_of", none), "quarter_of", "quarter_of", defArgs s_quarter_of, defBody s_quarter_of, defScope s_quarter_of, [], []⟩
def dd_ahead : He.DefD := ⟨("ahead", none), "ahead", "ahead", defArgs s_ahead, defBody s_ahead, defScope s_ahead, [], []⟩
def dd_on : He.DefD := ⟨("on", none), "on", "on", defArgs s_on, defBody s_on, defScope s_on, [], []⟩
def dd_first : He.DefD := ⟨("first", none), "first", "first", defArgs s_first, defBody s_first, defScope s_first, [], []⟩
def dd_led : He.DefD := ⟨("led", none), "led", "led", defArgs s_led, defBody s_led, defScope s_led, [], []⟩
def dd_behind : He.DefD := ⟨("behind", none), "behind", "behind", defArgs s_behind, defBody s_behind, defScope s_behind, [], []⟩
def dd_led_piece : He.DefD := ⟨("led_piece", none), "led_piece", "led_piece", defArgs s_led_piece, defBody s_led_piece, defScope s_led_piece, [], []⟩
def dd_power : He.DefD := ⟨("power", none), "power", "power", defArgs s_power, defBody s_power, defScope s_power, [], []⟩
def dd_frame_of : He.DefD := ⟨("frame_of", none), "frame_of", "frame_of", defArgs s_frame_of, defBody s_frame_of, defScope s_frame_of, [], []⟩
def dd_is_number : He.DefD := ⟨("is_number", none), "is_number", "is_number", defArgs s_is_number, defBody s_is_number, defScope s_is_number, [], []⟩
def dd_straight_chain : He.DefD := ⟨("straight_chain", none), "straight_chain", "straight_chain", defArgs s_straight_chain, defBody s_straight_chain, defScope s_straight_chain, [], []⟩
def dd_same_circle : He.DefD := ⟨("same_circle", none), "same_circle", "same_circle", defArgs s_same_circle, defBody s_same_circle, defScope s_same_circle, [], []⟩
def dd_comes_to : He.DefD := ⟨("comes_to", none), "comes_to", "comes_to", defArgs s_comes_to, defBody s_comes_to, defScope s_comes_to, [], []⟩
def dd_bent_chain : He.DefD := ⟨("bent_chain", none), "bent_chain", "bent_chain", defArgs s_bent_chain, defBody s_bent_chain, defScope s_bent_chain, [], []⟩
def dd_chain_shown : He.DefD := ⟨("chain_shown", none), "chain_shown", "chain_shown", defArgs s_chain_shown, defBody s_chain_shown, defScope s_chain_shown, [], []⟩
def dd_Given__init_ : He.DefD := ⟨("Given", some "__init__"), "__init__", "Given.__init__", defArgs s_Given__init_, defBody s_Given__init_, defScope s_Given__init_, [], []⟩
def dd_Given_is_one : He.DefD := ⟨("Given", some "is_one"), "is_one", "Given.is_one", defArgs s_Given_is_one, defBody s_Given_is_one, defScope s_Given_is_one, [], []⟩
def dd_Given_piece : He.DefD := ⟨("Given", some "piece"), "piece", "Given.piece", defArgs s_Given_piece, defBody s_Given_piece, defScope s_Given_piece, [], []⟩
def dd_Given_covers : He.DefD := ⟨("Given", some "covers"), "covers", "Given.covers", defArgs s_Given_covers, defBody s_Given_covers, defScope s_Given_covers, [], []⟩
def dd_Given_covers_all : He.DefD := ⟨("Given", some "covers_all"), "covers_all", "Given.covers_all", defArgs s_Given_covers_all, defBody s_Given_covers_all, defScope s_Given_covers_all, [], []⟩
def dd_papers_shown : He.DefD := ⟨("papers_shown", none), "papers_shown", "papers_shown", defArgs s_papers_shown, defBody s_papers_shown, defScope s_papers_shown, [], []⟩
def dd_alike_shown : He.DefD := ⟨("alike_shown", none), "alike_shown", "alike_shown", defArgs s_alike_shown, defBody s_alike_shown, defScope s_alike_shown, [], []⟩
def dd__law_cell_at : He.DefD := ⟨("_law_cell_at", none), "_law_cell_at", "_law_cell_at", defArgs s__law_cell_at, defBody s__law_cell_at, defScope s__law_cell_at, [], []⟩
def dd__law_feed : He.DefD := ⟨("_law_feed", none), "_law_feed", "_law_feed", defArgs s__law_feed, defBody s__law_feed, defScope s__law_feed, [], []⟩
def dd__law_draw : He.DefD := ⟨("_law_draw", none), "_law_draw", "_law_draw", defArgs s__law_draw, defBody s__law_draw, defScope s__law_draw, [], []⟩
def dd__law_point : He.DefD := ⟨("_law_point", none), "_law_point", "_law_point", defArgs s__law_point, defBody s__law_point, defScope s__law_point, [], []⟩
def dd__law_left : He.DefD := ⟨("_law_left", none), "_law_left", "_law_left", defArgs s__law_left, defBody s__law_left, defScope s__law_left, [], []⟩
def dd__law_links : He.DefD := ⟨("_law_links", none), "_law_links", "_law_links", defArgs s__law_links, defBody s__law_links, defScope s__law_links, [], []⟩
def dd__law_straight_ones : He.DefD := ⟨("_law_straight_ones", none), "_law_straight_ones", "_law_straight_ones", defArgs s__law_straight_ones, defBody s__law_straight_ones, defScope s__law_straight_ones, [], []⟩
def dd__law_round_ones : He.DefD := ⟨("_law_round_ones", none), "_law_round_ones", "_law_round_ones", defArgs s__law_round_ones, defBody s__law_round_ones, defScope s__law_round_ones, [], []⟩
def dd_law : He.DefD := ⟨("law", none), "law", "law", defArgs s_law, defBody s_law, defScope s_law, [], []⟩
theorem ok_divisor : DefOk Pr Tb fnm dd_divisor d_divisor N_divisor ["one", "other"] := ⟨c_divisor, rfl, rfl, by decide, rfl, rfl, rfl, fun _ _ _ _ _ _ us hl => match us, hl with | [_, _], _ => rfl, fun B W => b_divisor B W⟩
theorem ok_ratio : DefOk Pr Tb fnm dd_ratio d_ratio N_ratio ["top", "bottom"] := ⟨c_ratio, rfl, rfl, by decide, rfl, rfl, rfl, fun _ _ _ _ _ _ us hl => match us, hl with | [_, _], _ => rfl, fun B W => b_ratio B W⟩
theorem ok_plus : DefOk Pr Tb fnm dd_plus d_plus N_plus ["one", "other"] := ⟨c_plus, rfl, rfl, by decide, rfl, rfl, rfl, fun _ _ _ _ _ _ us hl => match us, hl with | [_, _], _ => rfl, fun B W => b_plus B W⟩
theorem ok_minus : DefOk Pr Tb fnm dd_minus d_minus N_minus ["one", "other"] := ⟨c_minus, rfl, rfl, by decide, rfl, rfl, rfl, fun _ _ _ _ _ _ us hl => match us, hl with | [_, _], _ => rfl, fun B W => b_minus B W⟩
theorem ok_times : DefOk Pr Tb fnm dd_times d_times N_times ["one", "other"] := ⟨c_times, rfl, rfl, by decide, rfl, rfl, rfl, fun _ _ _ _ _ _ us hl => match us, hl with | [_, _], _ => rfl, fun B W => b_times B W⟩
theorem ok_below : DefOk Pr Tb fnm dd_below d_below N_below ["one", "other"] := ⟨c_below, rfl, rfl, by decide, rfl, rfl, rfl, fun _ _ _ _ _ _ us hl => match us, hl with | [_, _], _ => rfl, fun B W => b_below B W⟩
theorem ok_together : DefOk Pr Tb fnm dd_together d_together N_together ["p", "q"] := ⟨c_together, rfl, rfl, by decide, rfl, rfl, rfl, fun _ _ _ _ _ _ us hl => match us, hl with | [_, _], _ => rfl, fun B W => b_together B W⟩
theorem ok_off : DefOk Pr Tb fnm dd_off d_off N_off ["p", "q"] := ⟨c_off, rfl, rfl, by decide, rfl, rfl, rfl, fun _ _ _ _ _ _ us hl => match us, hl with | [_, _], _ => rfl, fun B W => b_off B W⟩
theorem ok_grown : DefOk Pr Tb fnm dd_grown d_grown N_grown ["p", "number"] := ⟨c_grown, rfl, rfl, by decide, rfl, rfl, rfl, fun _ _ _ _ _ _ us hl => match us, hl with | [_, _], _ => rfl, fun B W => b_grown B W⟩
theorem ok_turned : DefOk Pr Tb fnm dd_turned d_turned N_turned ["p", "quarters"] := ⟨c_turned, rfl, rfl, by decide, rfl, rfl, rfl, fun _ _ _ _ _ _ us hl => match us, hl with | [_, _], _ => rfl, fun B W => b_turned B W⟩
theorem ok_along : DefOk Pr Tb fnm dd_along d_along N_along ["p", "q"] := ⟨c_along, rfl, rfl, by decide, rfl, rfl, rfl, fun _ _ _ _ _ _ us hl => match us, hl with | [_, _], _ => rfl, fun B W => b_along B W⟩
theorem ok_across : DefOk Pr Tb fnm dd_across d_across N_across ["p", "q"] := ⟨c_across, rfl, rfl, by decide, rfl, rfl, rfl, fun _ _ _ _ _ _ us hl => match us, hl with | [_, _], _ => rfl, fun B W => b_across B W⟩
theorem ok_far : DefOk Pr Tb fnm dd_far d_far N_far ["p", "q"] := ⟨c_far, rfl, rfl, by decide, rfl, rfl, rfl, fun _ _ _ _ _ _ us hl => match us, hl with | [_, _], _ => rfl, fun B W => b_far B W⟩
theorem ok_sign_of : DefOk Pr Tb fnm dd_sign_of d_sign_of N_sign_of ["number"] := ⟨c_sign_of, rfl, rfl, by decide, rfl, rfl, rfl, fun _ _ _ _ _ _ us hl => match us, hl with | [_], _ => rfl, fun B W => b_sign_of B W⟩
theorem ok_side : DefOk Pr Tb fnm dd_side d_side N_side ["a", "b", "p"] := ⟨c_side, rfl, rfl, by decide, rfl, rfl, rfl, fun _ _ _ _ _ _ us hl => match us, hl with | [_, _, _], _ => rfl, fun B W => b_side B W⟩
theorem ok_before : DefOk Pr Tb fnm dd_before d_before N_before ["p", "q"] := ⟨c_before, rfl, rfl, by decide, rfl, rfl, rfl, fun _ _ _ _ _ _ us hl => match us, hl with | [_, _], _ => rfl, fun B W => b_before B W⟩
theorem ok_stretch : DefOk Pr Tb fnm dd_stretch d_stretch N_stretch ["p", "q"] := ⟨c_stretch, rfl, rfl, by decide, rfl, rfl, rfl, fun _ _ _ _ _ _ us hl => match us, hl with | [_, _], _ => rfl, fun B W => b_stretch B W⟩
theorem ok_lies_on : DefOk Pr Tb fnm dd_lies_on d_lies_on N_lies_on ["piece", "p"] := ⟨c_lies_on, rfl, rfl, by decide, rfl, rfl, rfl, fun _ _ _ _ _ _ us hl => match us, hl with | [_, _], _ => rfl, fun B W => b_lies_on B W⟩
theorem ok_quarter_of : DefOk Pr Tb fnm dd_quarter_of d_quarter_of N_quarter_of ["one", "other"] := ⟨c_quarter_of, rfl, rfl, by decide, rfl, rfl, rfl, fun _ _ _ _ _ _ us hl => match us, hl with | [_, _], _ => rfl, fun B W => b_quarter_of B W⟩
theorem ok_ahead : DefOk Pr Tb fnm dd_ahead d_ahead N_ahead ["c", "a", "p", "q"] := ⟨c_ahead, rfl, rfl, by decide, rfl, rfl, rfl, fun _ _ _ _ _ _ us hl => match us, hl with | [_, _, _, _], _ => rfl, fun B W => b_ahead B W⟩
theorem ok_on : DefOk Pr Tb fnm dd_on d_on N_on ["piece", "p"] := ⟨c_on, rfl, rfl, by decide, rfl, rfl, rfl, fun _ _ _ _ _ _ us hl => match us, hl with | [_, _], _ => rfl, fun B W => b_on B W⟩
theorem ok_first : DefOk Pr Tb fnm dd_first d_first N_first [] := ⟨c_first, rfl, rfl, by decide, rfl, rfl, rfl, fun _ _ _ _ _ _ us hl => match us, hl with | [], _ => rfl, fun B W => b_first B W⟩
theorem ok_led : DefOk Pr Tb fnm dd_led d_led N_led ["frame", "p"] := ⟨c_led, rfl, rfl, by decide, rfl, rfl, rfl, fun _ _ _ _ _ _ us hl => match us, hl with | [_, _], _ => rfl, fun B W => b_led B W⟩
theorem ok_behind : DefOk Pr Tb fnm dd_behind d_behind N_behind ["one", "other"] := ⟨c_behind, rfl, rfl, by decide, rfl, rfl, rfl, fun _ _ _ _ _ _ us hl => match us, hl with | [_, _], _ => rfl, fun B W => b_behind B W⟩
theorem ok_led_piece : DefOk Pr Tb fnm dd_led_piece d_led_piece N_led_piece ["frame", "piece"] := ⟨c_led_piece, rfl, rfl, by decide, rfl, rfl, rfl, fun _ _ _ _ _ _ us hl => match us, hl with | [_, _], _ => rfl, fun B W => b_led_piece B W⟩
theorem ok_power : DefOk Pr Tb fnm dd_power d_power N_power ["frame", "n"] := ⟨c_power, rfl, rfl, by decide, rfl, rfl, rfl, fun _ _ _ _ _ _ us hl => match us, hl with | [_, _], _ => rfl, fun B W => b_power B W⟩
theorem ok_frame_of : DefOk Pr Tb fnm dd_frame_of d_frame_of N_frame_of ["wanted"] := ⟨c_frame_of, rfl, rfl, by decide, rfl, rfl, rfl, fun _ _ _ _ _ _ us hl => match us, hl with | [_], _ => rfl, fun B W => b_frame_of B W⟩
theorem ok_is_number : DefOk Pr Tb fnm dd_is_number d_is_number N_is_number ["thing"] := ⟨c_is_number, rfl, rfl, by decide, rfl, rfl, rfl, fun _ _ _ _ _ _ us hl => match us, hl with | [_], _ => rfl, fun B W => b_is_number B W⟩
theorem ok_straight_chain : DefOk Pr Tb fnm dd_straight_chain d_straight_chain N_straight_chain ["pieces", "piece"] := ⟨c_straight_chain, rfl, rfl, by decide, rfl, rfl, rfl, fun _ _ _ _ _ _ us hl => match us, hl with | [_, _], _ => rfl, fun B W => b_straight_chain B W⟩
theorem ok_same_circle : DefOk Pr Tb fnm dd_same_circle d_same_circle N_same_circle ["one", "piece"] := ⟨c_same_circle, rfl, rfl, by decide, rfl, rfl, rfl, fun _ _ _ _ _ _ us hl => match us, hl with | [_, _], _ => rfl, fun B W => b_same_circle B W⟩
theorem ok_comes_to : DefOk Pr Tb fnm dd_comes_to d_comes_to N_comes_to ["one", "here", "goal"] := ⟨c_comes_to, rfl, rfl, by decide, rfl, rfl, rfl, fun _ _ _ _ _ _ us hl => match us, hl with | [_, _, _], _ => rfl, fun B W => b_comes_to B W⟩
theorem ok_bent_chain : DefOk Pr Tb fnm dd_bent_chain d_bent_chain N_bent_chain ["pieces", "piece"] := ⟨c_bent_chain, rfl, rfl, by decide, rfl, rfl, rfl, fun _ _ _ _ _ _ us hl => match us, hl with | [_, _], _ => rfl, fun B W => b_bent_chain B W⟩
theorem ok_chain_shown : DefOk Pr Tb fnm dd_chain_shown d_chain_shown N_chain_shown ["pieces", "piece"] := ⟨c_chain_shown, rfl, rfl, by decide, rfl, rfl, rfl, fun _ _ _ _ _ _ us hl => match us, hl with | [_, _], _ => rfl, fun B W => b_chain_shown B W⟩
theorem ok_Given__init_ : DefOk Pr Tb fnm dd_Given__init_ d_Given__init_ N_Given__init_ ["self", "wanted", "still", "flow"] := ⟨c_Given__init_, rfl, rfl, by decide, rfl, rfl, rfl, fun _ _ _ _ _ _ us hl => match us, hl with | [_, _, _, _], _ => rfl, fun B W => b_Given__init_ B W⟩
theorem ok_Given_is_one : DefOk Pr Tb fnm dd_Given_is_one d_Given_is_one N_Given_is_one ["self", "thing"] := ⟨c_Given_is_one, rfl, rfl, by decide, rfl, rfl, rfl, fun _ _ _ _ _ _ us hl => match us, hl with | [_, _], _ => rfl, fun B W => b_Given_is_one B W⟩
theorem ok_Given_piece : DefOk Pr Tb fnm dd_Given_piece d_Given_piece N_Given_piece ["self", "number", "n"] := ⟨c_Given_piece, rfl, rfl, by decide, rfl, rfl, rfl, fun _ _ _ _ _ _ us hl => match us, hl with | [_, _, _], _ => rfl, fun B W => b_Given_piece B W⟩
theorem ok_Given_covers : DefOk Pr Tb fnm dd_Given_covers d_Given_covers N_Given_covers ["self", "paper", "piece"] := ⟨c_Given_covers, rfl, rfl, by decide, rfl, rfl, rfl, fun _ _ _ _ _ _ us hl => match us, hl with | [_, _, _], _ => rfl, fun B W => b_Given_covers B W⟩
theorem ok_Given_covers_all : DefOk Pr Tb fnm dd_Given_covers_all d_Given_covers_all N_Given_covers_all ["self", "papers", "piece"] := ⟨c_Given_covers_all, rfl, rfl, by decide, rfl, rfl, rfl, fun _ _ _ _ _ _ us hl => match us, hl with | [_, _, _], _ => rfl, fun B W => b_Given_covers_all B W⟩
theorem ok_papers_shown : DefOk Pr Tb fnm dd_papers_shown d_papers_shown N_papers_shown ["given", "one", "papers"] := ⟨c_papers_shown, rfl, rfl, by decide, rfl, rfl, rfl, fun _ _ _ _ _ _ us hl => match us, hl with | [_, _, _], _ => rfl, fun B W => b_papers_shown B W⟩
theorem ok_alike_shown : DefOk Pr Tb fnm dd_alike_shown d_alike_shown N_alike_shown ["even", "papers"] := ⟨c_alike_shown, rfl, rfl, by decide, rfl, rfl, rfl, fun _ _ _ _ _ _ us hl => match us, hl with | [_, _], _ => rfl, fun B W => b_alike_shown B W⟩
theorem ok__law_cell_at : DefOk Pr Tb fnm dd__law_cell_at d__law_cell_at N__law_cell_at ["_law_script", "_law_k"] := ⟨c__law_cell_at, rfl, rfl, by decide, rfl, rfl, rfl, fun _ _ _ _ _ _ us hl => match us, hl with | [_, _], _ => rfl, fun B W => b__law_cell_at B W⟩
theorem ok__law_feed : DefOk Pr Tb fnm dd__law_feed d__law_feed N__law_feed ["_law_cell"] := ⟨c__law_feed, rfl, rfl, by decide, rfl, rfl, rfl, fun _ _ _ _ _ _ us hl => match us, hl with | [_], _ => rfl, fun B W => b__law_feed B W⟩
theorem ok__law_draw : DefOk Pr Tb fnm dd__law_draw d__law_draw N__law_draw ["_law_feed_here", "_law_many"] := ⟨c__law_draw, rfl, rfl, by decide, rfl, rfl, rfl, fun _ _ _ _ _ _ us hl => match us, hl with | [_, _], _ => rfl, fun B W => b__law_draw B W⟩
theorem ok__law_point : DefOk Pr Tb fnm dd__law_point d__law_point N__law_point ["_law_feed_here"] := ⟨c__law_point, rfl, rfl, by decide, rfl, rfl, rfl, fun _ _ _ _ _ _ us hl => match us, hl with | [_], _ => rfl, fun B W => b__law_point B W⟩
theorem ok__law_left : DefOk Pr Tb fnm dd__law_left d__law_left N__law_left ["_law_v"] := ⟨c__law_left, rfl, rfl, by decide, rfl, rfl, rfl, fun _ _ _ _ _ _ us hl => match us, hl with | [_], _ => rfl, fun B W => b__law_left B W⟩
theorem ok__law_links : DefOk Pr Tb fnm dd__law_links d__law_links N__law_links ["_law_feed_here", "_law_links_here", "_law_due"] := ⟨c__law_links, rfl, rfl, by decide, rfl, rfl, rfl, fun _ _ _ _ _ _ us hl => match us, hl with | [_, _, _], _ => rfl, fun B W => b__law_links B W⟩
theorem ok__law_straight_ones : DefOk Pr Tb fnm dd__law_straight_ones d__law_straight_ones N__law_straight_ones ["_law_feed_here"] := ⟨c__law_straight_ones, rfl, rfl, by decide, rfl, rfl, rfl, fun _ _ _ _ _ _ us hl => match us, hl with | [_], _ => rfl, fun B W => b__law_straight_ones B W⟩
theorem ok__law_round_ones : DefOk Pr Tb fnm dd__law_round_ones d__law_round_ones N__law_round_ones ["_law_feed_here"] := ⟨c__law_round_ones, rfl, rfl, by decide, rfl, rfl, rfl, fun _ _ _ _ _ _ us hl => match us, hl with | [_], _ => rfl, fun B W => b__law_round_ones B W⟩
theorem ok_law : DefOk Pr Tb fnm dd_law d_law N_law ["_law_script"] := ⟨c_law, rfl, rfl, by decide, rfl, rfl, rfl, fun _ _ _ _ _ _ us hl => match us, hl with | [_], _ => rfl, fun B W => b_law B W⟩
def fnL : List He.DefD := [dd_divisor, dd_ratio, dd_plus, dd_minus, dd_times, dd_below, dd_together, dd_off, dd_grown, dd_turned, dd_along, dd_across, dd_far, dd_sign_of, dd_side, dd_before, dd_stretch, dd_lies_on, dd_quarter_of, dd_ahead, dd_on, dd_first, dd_led, dd_behind, dd_led_piece, dd_power, dd_frame_of, dd_is_number, dd_straight_chain, dd_same_circle, dd_comes_to, dd_bent_chain, dd_chain_shown, dd_Given__init_, dd_Given_is_one, dd_Given_piece, dd_Given_covers, dd_Given_covers_all, dd_papers_shown, dd_alike_shown, dd__law_cell_at, dd__law_feed, dd__law_draw, dd__law_point, dd__law_left, dd__law_links, dd__law_straight_ones, dd__law_round_ones, dd_law]
def fa : List He.Fa := ([.glo "divisor", .glo "ratio", .glo "plus", .glo "minus", .glo "times", .glo "below", .glo "together", .glo "off", .glo "grown", .glo "turned", .glo "along", .glo "across", .glo "far", .glo "sign_of", .glo "side", .glo "before", .glo "stretch", .glo "lies_on", .glo "quarter_of", .glo "ahead", .glo "on", .glo "first", .glo "led", .glo "behind", .glo "led_piece", .glo "power", .glo "frame_of", .glo "is_number", .glo "straight_chain", .glo "same_circle"] : List He.Fa) ++ ([.glo "comes_to", .glo "bent_chain", .glo "chain_shown", .glo "papers_shown", .glo "alike_shown", .glo "_law_cell_at", .glo "_law_feed", .glo "_law_draw", .glo "_law_point", .glo "_law_left", .glo "_law_links", .glo "_law_straight_ones", .glo "_law_round_ones", .glo "law", .cls "Given", .meth "Given" "is_one", .meth "Given" "piece", .meth "Given" "covers", .meth "Given" "covers_all", .glo "Given", .mkr "Given", .noat "Given" "wanted", .noat "Given" "still", .noat "Given" "flow", .free "abs", .free "range", .free "int", .free "tuple", .free "isinstance", .free "bool"] : List He.Fa) ++ ([.free "zip", .free "enumerate", .free "len", .free "all", .free "list", .free "any", .int "MOST_TOLD" 2000] : List He.Fa)
def caF (K : PySem.W.Frag) (c : Nat) : Addr := match c with
  | 0 => He.ga K "Given"
  | _ => 0
section
variable {K : PySem.W.Frag} {h : Heap} {mg : Str → Option Value}
theorem f_df (g : Nat) (d : Def) (hd : Pr.defs[g]? = some d) : ∃ dd N ps, fnL[g]? = some dd ∧ DefOk Pr Tb fnm dd d N ps := by
  match g, hd with
  | 0, hd => cases (show some d_divisor = some d from hd); exact ⟨dd_divisor, N_divisor, _, rfl, ok_divisor⟩
  | 1, hd => cases (show some d_ratio = some d from hd); exact ⟨dd_ratio, N_ratio, _, rfl, ok_ratio⟩
  | 2, hd => cases (show some d_plus = some d from hd); exact ⟨dd_plus, N_plus, _, rfl, ok_plus⟩
  | 3, hd => cases (show some d_minus = some d from hd); exact ⟨dd_minus, N_minus, _, rfl, ok_minus⟩
  | 4, hd => cases (show some d_times = some d from hd); exact ⟨dd_times, N_times, _, rfl, ok_times⟩
  | 5, hd => cases (show some d_below = some d from hd); exact ⟨dd_below, N_below, _, rfl, ok_below⟩
  | 6, hd => cases (show some d_together = some d from hd); exact ⟨dd_together, N_together, _, rfl, ok_together⟩
  | 7, hd => cases (show some d_off = some d from hd); exact ⟨dd_off, N_off, _, rfl, ok_off⟩
  | 8, hd => cases (show some d_grown = some d from hd); exact ⟨dd_grown, N_grown, _, rfl, ok_grown⟩
  | 9, hd => cases (show some d_turned = some d from hd); exact ⟨dd_turned, N_turned, _, rfl, ok_turned⟩
  | 10, hd => cases (show some d_along = some d from hd); exact ⟨dd_along, N_along, _, rfl, ok_along⟩
  | 11, hd => cases (show some d_across = some d from hd); exact ⟨dd_across, N_across, _, rfl, ok_across⟩
  | 12, hd => cases (show some d_far = some d from hd); exact ⟨dd_far, N_far, _, rfl, ok_far⟩
  | 13, hd => cases (show some d_sign_of = some d from hd); exact ⟨dd_sign_of, N_sign_of, _, rfl, ok_sign_of⟩
  | 14, hd => cases (show some d_side = some d from hd); exact ⟨dd_side, N_side, _, rfl, ok_side⟩
  | 15, hd => cases (show some d_before = some d from hd); exact ⟨dd_before, N_before, _, rfl, ok_before⟩
  | 16, hd => cases (show some d_stretch = some d from hd); exact ⟨dd_stretch, N_stretch, _, rfl, ok_stretch⟩
  | 17, hd => cases (show some d_lies_on = some d from hd); exact ⟨dd_lies_on, N_lies_on, _, rfl, ok_lies_on⟩
  | 18, hd => cases (show some d_quarter_of = some d from hd); exact ⟨dd_quarter_of, N_quarter_of, _, rfl, ok_quarter_of⟩
  | 19, hd => cases (show some d_ahead = some d from hd); exact ⟨dd_ahead, N_ahead, _, rfl, ok_ahead⟩
  | 20, hd => cases (show some d_on = some d from hd); exact ⟨dd_on, N_on, _, rfl, ok_on⟩
  | 21, hd => cases (show some d_first = some d from hd); exact ⟨dd_first, N_first, _, rfl, ok_first⟩
  | 22, hd => cases (show some d_led = some d from hd); exact ⟨dd_led, N_led, _, rfl, ok_led⟩
  | 23, hd => cases (show some d_behind = some d from hd); exact ⟨dd_behind, N_behind, _, rfl, ok_behind⟩
  | 24, hd => cases (show some d_led_piece = some d from hd); exact ⟨dd_led_piece, N_led_piece, _, rfl, ok_led_piece⟩
  | 25, hd => cases (show some d_power = some d from hd); exact ⟨dd_power, N_power, _, rfl, ok_power⟩
  | 26, hd => cases (show some d_frame_of = some d from hd); exact ⟨dd_frame_of, N_frame_of, _, rfl, ok_frame_of⟩
  | 27, hd => cases (show some d_is_number = some d from hd); exact ⟨dd_is_number, N_is_number, _, rfl, ok_is_number⟩
  | 28, hd => cases (show some d_straight_chain = some d from hd); exact ⟨dd_straight_chain, N_straight_chain, _, rfl, ok_straight_chain⟩
  | 29, hd => cases (show some d_same_circle = some d from hd); exact ⟨dd_same_circle, N_same_circle, _, rfl, ok_same_circle⟩
  | 30, hd => cases (show some d_comes_to = some d from hd); exact ⟨dd_comes_to, N_comes_to, _, rfl, ok_comes_to⟩
  | 31, hd => cases (show some d_bent_chain = some d from hd); exact ⟨dd_bent_chain, N_bent_chain, _, rfl, ok_bent_chain⟩
  | 32, hd => cases (show some d_chain_shown = some d from hd); exact ⟨dd_chain_shown, N_chain_shown, _, rfl, ok_chain_shown⟩
  | 33, hd => cases (show some d_Given__init_ = some d from hd); exact ⟨dd_Given__init_, N_Given__init_, _, rfl, ok_Given__init_⟩
  | 34, hd => cases (show some d_Given_is_one = some d from hd); exact ⟨dd_Given_is_one, N_Given_is_one, _, rfl, ok_Given_is_one⟩
  | 35, hd => cases (show some d_Given_piece = some d from hd); exact ⟨dd_Given_piece, N_Given_piece, _, rfl, ok_Given_piece⟩
  | 36, hd => cases (show some d_Given_covers = some d from hd); exact ⟨dd_Given_covers, N_Given_covers, _, rfl, ok_Given_covers⟩
  | 37, hd => cases (show some d_Given_covers_all = some d from hd); exact ⟨dd_Given_covers_all, N_Given_covers_all, _, rfl, ok_Given_covers_all⟩
  | 38, hd => cases (show some d_papers_shown = some d from hd); exact ⟨dd_papers_shown, N_papers_shown, _, rfl, ok_papers_shown⟩
  | 39, hd => cases (show some d_alike_shown = some d from hd); exact ⟨dd_alike_shown, N_alike_shown, _, rfl, ok_alike_shown⟩
  | 40, hd => cases (show some d__law_cell_at = some d from hd); exact ⟨dd__law_cell_at, N__law_cell_at, _, rfl, ok__law_cell_at⟩
  | 41, hd => cases (show some d__law_feed = some d from hd); exact ⟨dd__law_feed, N__law_feed, _, rfl, ok__law_feed⟩
  | 42, hd => cases (show some d__law_draw = some d from hd); exact ⟨dd__law_draw, N__law_draw, _, rfl, ok__law_draw⟩
  | 43, hd => cases (show some d__law_point = some d from hd); exact ⟨dd__law_point, N__law_point, _, rfl, ok__law_point⟩
  | 44, hd => cases (show some d__law_left = some d from hd); exact ⟨dd__law_left, N__law_left, _, rfl, ok__law_left⟩
  | 45, hd => cases (show some d__law_links = some d from hd); exact ⟨dd__law_links, N__law_links, _, rfl, ok__law_links⟩
  | 46, hd => cases (show some d__law_straight_ones = some d from hd); exact ⟨dd__law_straight_ones, N__law_straight_ones, _, rfl, ok__law_straight_ones⟩
  | 47, hd => cases (show some d__law_round_ones = some d from hd); exact ⟨dd__law_round_ones, N__law_round_ones, _, rfl, ok__law_round_ones⟩
  | 48, hd => cases (show some d_law = some d from hd); exact ⟨dd_law, N_law, _, rfl, ok_law⟩
  | k + 49, hd => exact nomatch (show none = some d from hd)
theorem f_fn (c : He.SaysD fa fnL K) (X : K.In h) (G : h.Ns mainGlobals mg) (g : Nat) (y : Str) (k : Nat) (hd : Tb.fn[g]? = some (y, k)) (hy : y ≠ Str.empty) : ∃ d dd, Pr.defs[g]? = some d ∧ fnL[g]? = some dd ∧ d.np = k ∧ dd.at_ = (y, none) ∧ mg y = some (.ref (He.ga K y)) := by
  match g, hd with
  | 0, hd => cases (show some (("divisor" : Str), 2) = some (y, k) from hd); exact ⟨d_divisor, dd_divisor, rfl, rfl, rfl, rfl, He.glo_ok X G (c.fact 0 rfl)⟩
  | 1, hd => cases (show some (("ratio" : Str), 2) = some (y, k) from hd); exact ⟨d_ratio, dd_ratio, rfl, rfl, rfl, rfl, He.glo_ok X G (c.fact 1 rfl)⟩
  | 2, hd => cases (show some (("plus" : Str), 2) = some (y, k) from hd); exact ⟨d_plus, dd_plus, rfl, rfl, rfl, rfl, He.glo_ok X G (c.fact 2 rfl)⟩
  | 3, hd => cases (show some (("minus" : Str), 2) = some (y, k) from hd); exact ⟨d_minus, dd_minus, rfl, rfl, rfl, rfl, He.glo_ok X G (c.fact 3 rfl)⟩
  | 4, hd => cases (show some (("times" : Str), 2) = some (y, k) from hd); exact ⟨d_times, dd_times, rfl, rfl, rfl, rfl, He.glo_ok X G (c.fact 4 rfl)⟩
  | 5, hd => cases (show some (("below" : Str), 2) = some (y, k) from hd); exact ⟨d_below, dd_below, rfl, rfl, rfl, rfl, He.glo_ok X G (c.fact 5 rfl)⟩
  | 6, hd => cases (show some (("together" : Str), 2) = some (y, k) from hd); exact ⟨d_together, dd_together, rfl, rfl, rfl, rfl, He.glo_ok X G (c.fact 6 rfl)⟩
  | 7, hd => cases (show some (("off" : Str), 2) = some (y, k) from hd); exact ⟨d_off, dd_off, rfl, rfl, rfl, rfl, He.glo_ok X G (c.fact 7 rfl)⟩
  | 8, hd => cases (show some (("grown" : Str), 2) = some (y, k) from hd); exact ⟨d_grown, dd_grown, rfl, rfl, rfl, rfl, He.glo_ok X G (c.fact 8 rfl)⟩
  | 9, hd => cases (show some (("turned" : Str), 2) = some (y, k) from hd); exact ⟨d_turned, dd_turned, rfl, rfl, rfl, rfl, He.glo_ok X G (c.fact 9 rfl)⟩
  | 10, hd => cases (show some (("along" : Str), 2) = some (y, k) from hd); exact ⟨d_along, dd_along, rfl, rfl, rfl, rfl, He.glo_ok X G (c.fact 10 rfl)⟩
  | 11, hd => cases (show some (("across" : Str), 2) = some (y, k) from hd); exact ⟨d_across, dd_across, rfl, rfl, rfl, rfl, He.glo_ok X G (c.fact 11 rfl)⟩
  | 12, hd => cases (show some (("far" : Str), 2) = some (y, k) from hd); exact ⟨d_far, dd_far, rfl, rfl, rfl, rfl, He.glo_ok X G (c.fact 12 rfl)⟩
  | 13, hd => cases (show some (("sign_of" : Str), 1) = some (y, k) from hd); exact ⟨d_sign_of, dd_sign_of, rfl, rfl, rfl, rfl, He.glo_ok X G (c.fact 13 rfl)⟩
  | 14, hd => cases (show some (("side" : Str), 3) = some (y, k) from hd); exact ⟨d_side, dd_side, rfl, rfl, rfl, rfl, He.glo_ok X G (c.fact 14 rfl)⟩
  | 15, hd => cases (show some (("before" : Str), 2) = some (y, k) from hd); exact ⟨d_before, dd_before, rfl, rfl, rfl, rfl, He.glo_ok X G (c.fact 15 rfl)⟩
  | 16, hd => cases (show some (("stretch" : Str), 2) = some (y, k) from hd); exact ⟨d_stretch, dd_stretch, rfl, rfl, rfl, rfl, He.glo_ok X G (c.fact 16 rfl)⟩
  | 17, hd => cases (show some (("lies_on" : Str), 2) = some (y, k) from hd); exact ⟨d_lies_on, dd_lies_on, rfl, rfl, rfl, rfl, He.glo_ok X G (c.fact 17 rfl)⟩
  | 18, hd => cases (show some (("quarter_of" : Str), 2) = some (y, k) from hd); exact ⟨d_quarter_of, dd_quarter_of, rfl, rfl, rfl, rfl, He.glo_ok X G (c.fact 18 rfl)⟩
  | 19, hd => cases (show some (("ahead" : Str), 4) = some (y, k) from hd); exact ⟨d_ahead, dd_ahead, rfl, rfl, rfl, rfl, He.glo_ok X G (c.fact 19 rfl)⟩
  | 20, hd => cases (show some (("on" : Str), 2) = some (y, k) from hd); exact ⟨d_on, dd_on, rfl, rfl, rfl, rfl, He.glo_ok X G (c.fact 20 rfl)⟩
  | 21, hd => cases (show some (("first" : Str), 0) = some (y, k) from hd); exact ⟨d_first, dd_first, rfl, rfl, rfl, rfl, He.glo_ok X G (c.fact 21 rfl)⟩
  | 22, hd => cases (show some (("led" : Str), 2) = some (y, k) from hd); exact ⟨d_led, dd_led, rfl, rfl, rfl, rfl, He.glo_ok X G (c.fact 22 rfl)⟩
  | 23, hd => cases (show some (("behind" : Str), 2) = some (y, k) from hd); exact ⟨d_behind, dd_behind, rfl, rfl, rfl, rfl, He.glo_ok X G (c.fact 23 rfl)⟩
  | 24, hd => cases (show some (("led_piece" : Str), 2) = some (y, k) from hd); exact ⟨d_led_piece, dd_led_piece, rfl, rfl, rfl, rfl, He.glo_ok X G (c.fact 24 rfl)⟩
  | 25, hd => cases (show some (("power" : Str), 2) = some (y, k) from hd); exact ⟨d_power, dd_power, rfl, rfl, rfl, rfl, He.glo_ok X G (c.fact 25 rfl)⟩
  | 26, hd => cases (show some (("frame_of" : Str), 1) = some (y, k) from hd); exact ⟨d_frame_of, dd_frame_of, rfl, rfl, rfl, rfl, He.glo_ok X G (c.fact 26 rfl)⟩
  | 27, hd => cases (show some (("is_number" : Str), 1) = some (y, k) from hd); exact ⟨d_is_number, dd_is_number, rfl, rfl, rfl, rfl, He.glo_ok X G (c.fact 27 rfl)⟩
  | 28, hd => cases (show some (("straight_chain" : Str), 2) = some (y, k) from hd); exact ⟨d_straight_chain, dd_straight_chain, rfl, rfl, rfl, rfl, He.glo_ok X G (c.fact 28 rfl)⟩
  | 29, hd => cases (show some (("same_circle" : Str), 2) = some (y, k) from hd); exact ⟨d_same_circle, dd_same_circle, rfl, rfl, rfl, rfl, He.glo_ok X G (c.fact 29 rfl)⟩
  | 30, hd => cases (show some (("comes_to" : Str), 3) = some (y, k) from hd); exact ⟨d_comes_to, dd_comes_to, rfl, rfl, rfl, rfl, He.glo_ok X G (c.fact 30 rfl)⟩
  | 31, hd => cases (show some (("bent_chain" : Str), 2) = some (y, k) from hd); exact ⟨d_bent_chain, dd_bent_chain, rfl, rfl, rfl, rfl, He.glo_ok X G (c.fact 31 rfl)⟩
  | 32, hd => cases (show some (("chain_shown" : Str), 2) = some (y, k) from hd); exact ⟨d_chain_shown, dd_chain_shown, rfl, rfl, rfl, rfl, He.glo_ok X G (c.fact 32 rfl)⟩
  | 33, hd => cases (show some (("" : Str), 4) = some (y, k) from hd); exact absurd rfl hy
  | 34, hd => cases (show some (("" : Str), 2) = some (y, k) from hd); exact absurd rfl hy
  | 35, hd => cases (show some (("" : Str), 3) = some (y, k) from hd); exact absurd rfl hy
  | 36, hd => cases (show some (("" : Str), 3) = some (y, k) from hd); exact absurd rfl hy
  | 37, hd => cases (show some (("" : Str), 3) = some (y, k) from hd); exact absurd rfl hy
  | 38, hd => cases (show some (("papers_shown" : Str), 3) = some (y, k) from hd); exact ⟨d_papers_shown, dd_papers_shown, rfl, rfl, rfl, rfl, He.glo_ok X G (c.fact 33 rfl)⟩
  | 39, hd => cases (show some (("alike_shown" : Str), 2) = some (y, k) from hd); exact ⟨d_alike_shown, dd_alike_shown, rfl, rfl, rfl, rfl, He.glo_ok X G (c.fact 34 rfl)⟩
  | 40, hd => cases (show some (("_law_cell_at" : Str), 2) = some (y, k) from hd); exact ⟨d__law_cell_at, dd__law_cell_at, rfl, rfl, rfl, rfl, He.glo_ok X G (c.fact 35 rfl)⟩
  | 41, hd => cases (show some (("_law_feed" : Str), 1) = some (y, k) from hd); exact ⟨d__law_feed, dd__law_feed, rfl, rfl, rfl, rfl, He.glo_ok X G (c.fact 36 rfl)⟩
  | 42, hd => cases (show some (("_law_draw" : Str), 2) = some (y, k) from hd); exact ⟨d__law_draw, dd__law_draw, rfl, rfl, rfl, rfl, He.glo_ok X G (c.fact 37 rfl)⟩
  | 43, hd => cases (show some (("_law_point" : Str), 1) = some (y, k) from hd); exact ⟨d__law_point, dd__law_point, rfl, rfl, rfl, rfl, He.glo_ok X G (c.fact 38 rfl)⟩
  | 44, hd => cases (show some (("_law_left" : Str), 1) = some (y, k) from hd); exact ⟨d__law_left, dd__law_left, rfl, rfl, rfl, rfl, He.glo_ok X G (c.fact 39 rfl)⟩
  | 45, hd => cases (show some (("_law_links" : Str), 3) = some (y, k) from hd); exact ⟨d__law_links, dd__law_links, rfl, rfl, rfl, rfl, He.glo_ok X G (c.fact 40 rfl)⟩
  | 46, hd => cases (show some (("_law_straight_ones" : Str), 1) = some (y, k) from hd); exact ⟨d__law_straight_ones, dd__law_straight_ones, rfl, rfl, rfl, rfl, He.glo_ok X G (c.fact 41 rfl)⟩
  | 47, hd => cases (show some (("_law_round_ones" : Str), 1) = some (y, k) from hd); exact ⟨d__law_round_ones, dd__law_round_ones, rfl, rfl, rfl, rfl, He.glo_ok X G (c.fact 42 rfl)⟩
  | 48, hd => cases (show some (("law" : Str), 1) = some (y, k) from hd); exact ⟨d_law, dd_law, rfl, rfl, rfl, rfl, He.glo_ok X G (c.fact 43 rfl)⟩
  | k + 49, hd => exact nomatch hd
theorem f_mt (c : He.SaysD fa fnL K) (m : Nat) (y : Str) (k c1 g : Nat) (h1 : Tb.mt[m]? = some (y, k)) (h2 : Pr.mth c1 m = some g) : ∃ d dd, Pr.defs[g]? = some d ∧ fnL[g]? = some dd ∧ d.np = k ∧ Pr.sig g = Pr.msg m ∧ Cls K (caF K c1) ∧ Meth K (caF K c1) y (He.fAd K dd.at_) := by
  match m, h1 with
  | 0, h1 =>
    cases (show some (("is_one" : Str), 2) = some (y, k) from h1)
    match c1, h2 with
    | 0, h2 => cases (show some 34 = some g from h2); exact ⟨d_Given_is_one, dd_Given_is_one, rfl, rfl, rfl, rfl, He.cls_ok (c.fact 44 rfl), He.meth_ok (c.fact 45 rfl)⟩
    | c2 + 1, h2 => exact nomatch h2
  | 1, h1 =>
    cases (show some (("piece" : Str), 3) = some (y, k) from h1)
    match c1, h2 with
    | 0, h2 => cases (show some 35 = some g from h2); exact ⟨d_Given_piece, dd_Given_piece, rfl, rfl, rfl, rfl, He.cls_ok (c.fact 44 rfl), He.meth_ok (c.fact 46 rfl)⟩
    | c2 + 1, h2 => exact nomatch h2
  | 2, h1 =>
    cases (show some (("covers" : Str), 3) = some (y, k) from h1)
    match c1, h2 with
    | 0, h2 => cases (show some 36 = some g from h2); exact ⟨d_Given_covers, dd_Given_covers, rfl, rfl, rfl, rfl, He.cls_ok (c.fact 44 rfl), He.meth_ok (c.fact 47 rfl)⟩
    | c2 + 1, h2 => exact nomatch h2
  | 3, h1 =>
    cases (show some (("covers_all" : Str), 3) = some (y, k) from h1)
    match c1, h2 with
    | 0, h2 => cases (show some 37 = some g from h2); exact ⟨d_Given_covers_all, dd_Given_covers_all, rfl, rfl, rfl, rfl, He.cls_ok (c.fact 44 rfl), He.meth_ok (c.fact 48 rfl)⟩
    | c2 + 1, h2 => exact nomatch h2
  | m + 4, h1 => exact nomatch h1
theorem f_mk (c : He.SaysD fa fnL K) (X : K.In h) (G : h.Ns mainGlobals mg) (c1 : Nat) (y : Str) (k g : Nat) (h1 : Tb.cl[c1]? = some (y, k)) (h2 : Pr.ini c1 = some g) : ∃ d dd, Pr.defs[g]? = some d ∧ fnL[g]? = some dd ∧ d.np = k + 1 ∧ d.io = [true] ∧ mg y = some (.ref (caF K c1)) ∧ Mk K (caF K c1) (He.fAd K dd.at_) := by
  match c1, h1 with
  | 0, h1 => cases (show some (("Given" : Str), 3) = some (y, k) from h1); cases (show some 33 = some g from h2); exact ⟨d_Given__init_, dd_Given__init_, rfl, rfl, rfl, rfl, He.glo_ok X G (c.fact 49 rfl), He.mkr_ok (c.fact 50 rfl)⟩
  | c2 + 1, h1 => exact nomatch h1
theorem f_at (c : He.SaysD fa fnL K) (c1 f : Nat) (h2 : Pr.atr c1 f = true) : Cls K (caF K c1) ∧ NoAttr K (caF K c1) (fnm f) := by
  match c1, f, h2 with
  | 0, 0, h2 => exact ⟨He.cls_ok (c.fact 44 rfl), He.noat_ok (c.fact 51 rfl)⟩
  | 0, 1, h2 => exact ⟨He.cls_ok (c.fact 44 rfl), He.noat_ok (c.fact 52 rfl)⟩
  | 0, 2, h2 => exact ⟨He.cls_ok (c.fact 44 rfl), He.noat_ok (c.fact 53 rfl)⟩
  | 0, f + 3, h2 => exact nomatch h2
  | c2 + 1, _, h2 => exact nomatch h2
theorem f_fr (c : He.SaysD fa fnL K) (X : K.In h) (G : h.Ns mainGlobals mg) (i : Nat) (y : Str) (h1 : Tb.free[i]? = some y) : mg y = none := by
  match i, h1 with
  | 0, h1 => cases (show some ("abs" : Str) = some y from h1); exact He.free_ok X G (c.fact 54 rfl)
  | 1, h1 => cases (show some ("range" : Str) = some y from h1); exact He.free_ok X G (c.fact 55 rfl)
  | 2, h1 => cases (show some ("int" : Str) = some y from h1); exact He.free_ok X G (c.fact 56 rfl)
  | 3, h1 => cases (show some ("tuple" : Str) = some y from h1); exact He.free_ok X G (c.fact 57 rfl)
  | 4, h1 => cases (show some ("isinstance" : Str) = some y from h1); exact He.free_ok X G (c.fact 58 rfl)
  | 5, h1 => cases (show some ("bool" : Str) = some y from h1); exact He.free_ok X G (c.fact 59 rfl)
  | 6, h1 => cases (show some ("zip" : Str) = some y from h1); exact He.free_ok X G (c.fact 60 rfl)
  | 7, h1 => cases (show some ("enumerate" : Str) = some y from h1); exact He.free_ok X G (c.fact 61 rfl)
  | 8, h1 => cases (show some ("len" : Str) = some y from h1); exact He.free_ok X G (c.fact 62 rfl)
  | 9, h1 => cases (show some ("all" : Str) = some y from h1); exact He.free_ok X G (c.fact 63 rfl)
  | 10, h1 => cases (show some ("list" : Str) = some y from h1); exact He.free_ok X G (c.fact 64 rfl)
  | 11, h1 => cases (show some ("any" : Str) = some y from h1); exact He.free_ok X G (c.fact 65 rfl)
  | i + 12, h1 => exact nomatch h1
theorem f_co (c : He.SaysD fa fnL K) (X : K.In h) (G : h.Ns mainGlobals mg) (i : Nat) (y : Str) (d : D) (h1 : Tb.con[i]? = some (y, d)) : ∃ u v, mg y = some u ∧ RelV v u ∧ ∀ G H, RepD K (caF K) fnm G H v d := by
  match i, h1 with
  | 0, h1 => cases (show some (("MOST_TOLD" : Str), (D.int 2000)) = some (y, d) from h1); obtain ⟨t, e⟩ := He.int_ok X G (c.fact 66 (f := .int "MOST_TOLD" 2000) rfl); exact ⟨_, .int _, e, ⟨t, rfl⟩, fun _ _ => .int _⟩
  | i + 1, h1 => exact nomatch h1
theorem f_all (c : He.SaysD fa fnL K) (X : K.In h) (G : h.Ns mainGlobals mg) : Facts Pr Tb fnL K mg (caF K) fnm := ⟨f_df, f_fn c X G, f_mt c, f_mk c X G, f_at c, f_fr c X G, f_co c X G, nmOf_inj (by decide +kernel)⟩
end
def loose : List Str := (["MillError", "NoNumber", "divisor", "ratio", "plus", "minus", "times", "below", "together", "off", "grown", "turned", "along", "across", "far", "sign_of", "side", "before", "stretch", "lies_on", "quarter_of", "ahead", "on", "first", "led", "behind", "led_piece", "power", "frame_of", "is_number"] : List Str) ++ (["straight_chain", "same_circle", "comes_to", "bent_chain", "chain_shown", "Given", "papers_shown", "alike_shown", "_law_cell_at", "_law_feed", "_law_draw", "_law_point", "_law_left", "_law_links", "_law_straight_ones", "_law_round_ones", "NOUGHT", "ONE", "MOST_TOLD"] : List Str)
abbrev Rw : PySem.W.OpenRow := PySem.W.OpenLaw.row PySem.Challenge.rw_arcmill_k89_papers_nearly_right
abbrev hk : PySem.W.Hook := He.hookD 4 fa fnL
def ob (s : PySem.W.SharedT) : He.AlD := He.obsDG 4 fa fnL (HandSHeadRun.getT s)
theorem ob_eq (s : PySem.W.SharedT) : ob s = hk.obs s.abs := He.obsDG_eq (HandSHeadRun.getT_eq s)
theorem hrun (w : World) : HandSHeadRun.RunEq Rw (PySem.W.view Rw.prog [59]) hk ob 3000 loose w := by
  intro os
  kernel_rfl
def lawIx : Nat := 48
open PySem PySem.W PySem.Calls PyProof.Rows in
theorem holds_of (lv : Nat) (hlv : Room (2 * lv) callerA) (hm : ∀ ns : List Int, ns.length ≤ 63 → ∃ r, run Pr lv lawIx [.sh (.scr ns)] = some (.sh (.bl true), r)) : PySem.Challenge.rw_arcmill_k89_papers_nearly_right.Holds := by
  w_on; o_law
  refine HandSHeadRun.head_any (r := OpenLaw.row PySem.Challenge.rw_arcmill_k89_papers_nearly_right) (q := view (OpenLaw.row PySem.Challenge.rw_arcmill_k89_papers_nearly_right).prog [59]) (H := hk) (ob := ob) (M := 3000) (loose := loose) (d := HandSHeadRun.topDef (OpenLaw.row PySem.Challenge.rw_arcmill_k89_papers_nearly_right).prog 59) (kwd := []) ob_eq
    (by kernel_rfl) (fun s => by kernel_rfl) hrun (by kernel_rfl) (by kernel_rfl) (by kernel_rfl) (by rfl) (by first | assumption | decide +kernel) (by decide +kernel) ⟨rfl, rfl, rfl, rfl, rfl, by decide +kernel⟩ ?hw ?hc
  case hw => w_witness2
  case hc =>
    refine L2.walk_ofE (l := PySem.Challenge.rw_arcmill_k89_papers_nearly_right) (n := 63) (k := 2 * lv) (x := "_law_script") (CX := L2.CX0) rfl (by decide) (by kernel_rfl) hlv ?F (fun _ _ _ _ z => z)
    intro w mg a0 h Y G hmg0
    obtain ⟨K, KX, c⟩ := Y
    have hmg : mg ("law" : PySem.Str) = some (.ref a0) := by
      have e : (HandSHeadRun.topDef (OpenLaw.row PySem.Challenge.rw_arcmill_k89_papers_nearly_right).prog 59).name = ("law" : PySem.Str) := by kernel_rfl
      rw [← e]
      exact hmg0
    obtain ⟨fd2, sp2, g1, g2, g3⟩ := law_ok (Pg := PySem.Challenge.rw_arcmill_k89_papers_nearly_right.prog) (w := w) c (f_all c KX G) lv lawIx (d := d_law) (dd := dd_law) (y := "law") (x := "_law_script") rfl rfl rfl rfl rfl ok_law hm
    have e := hmg.symm.trans (He.glo_ok KX G (c.fact 43 (f := .glo "law") rfl))
    cases e
    exact ⟨K, fd2, sp2, KX, g1, fun H a ns hl _ hS => g2 H a ns hl hS, fun base _ _ => g3 base⟩
end K89

theorem PySem.Challenge.cw_arcmill_k89_papers_nearly_right_holds : PySem.Challenge.rw_arcmill_k89_papers_nearly_right.Holds := by
  exact K89.holds_of 14 ⟨rfl, by decide, by decide⟩ (fun ns h => K89.law_ok89 0 ns h)
