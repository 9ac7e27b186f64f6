import PyProof.Rows.All
import Wide.All
import OpenK.AllK
import Wide.FinOn
import HandS.ForMost
import HandS.Gcd
import HandS.Wide
import HandS.IsInst
import HandS.Deep
import HandS.TupAny
import KE.KMathG
import HandS.SortInts
import HandS.Zip
import HandS.Rev
import PySem.Challenge.RW_soldtoworths_k86_exact_fractions
set_option Elab.async false
set_option linter.all false
set_option maxRecDepth 100000
set_option maxHeartbeats 4000000
/-! DL0: data by value over the hand layer. -/
namespace DL
open PySem PySem.Spec L2

/-! ### values by content -/
inductive SV where
  | non | bl (b : Bool) | int (i : Int) | str (x : Str) | tup (xs : List SV) | lst (xs : List SV) | raw (v : V) | gen
inductive DV where
  | sh (s : SV) | own (xs : List DV)
structure GS where
  cells : List Int
  rests : List Int
  turn : Int
  ok : 0 < cells.length ∧ rests.length = cells.length
abbrev Wd := Option (Addr × Addr × Addr)
def Wd.as : Wd → List Addr
  | none => []
  | some (a, b, c) => [a, b, c]
def msk (O : List Addr) (H : Hp) : Hp := fun b => if b ∈ O then none else H b
abbrev Fg := PySem.W.Frag

mutual
inductive RepS (K : Fg) (W : Wd) (H : Hp) : V → SV → Prop
  | non : RepS K W H .non .non
  | bl {b : Bool} : RepS K W H (.bl b) (.bl b)
  | int {i : Int} : RepS K W H (.int i) (.int i)
  | str {x : Str} : RepS K W H (.str x) (.str x)
  | raw {v : V} : RepS K W H v (.raw v)
  | gen {a b c : Addr} (h : W = some (a, b, c)) : RepS K W H (.ref a) .gen
  | tup {a : Addr} {vs : List V} {xs : List SV} (h : SqT K H a vs) (r : RepSs K W H vs xs) : RepS K W H (.ref a) (.tup xs)
  | lst {a : Addr} {vs : List V} {xs : List SV} (h : H a = some (.lst vs)) (r : RepSs K W H vs xs) : RepS K W H (.ref a) (.lst xs)
inductive RepSs (K : Fg) (W : Wd) (H : Hp) : List V → List SV → Prop
  | nil : RepSs K W H [] []
  | cons {v : V} {vs : List V} {x : SV} {xs : List SV} (h : RepS K W H v x) (t : RepSs K W H vs xs) : RepSs K W H (v :: vs) (x :: xs)
end
mutual
inductive Rep (K : Fg) (W : Wd) (O : List Addr) (H : Hp) : V → DV → List Addr → Prop
  | sh {v : V} {s : SV} (h : RepS K W (msk O H) v s) : Rep K W O H v (.sh s) []
  | own {a : Addr} {vs : List V} {ds : List DV} {fp : List Addr} (ha : a ∈ O) (hw : a ∉ W.as) (h : H a = some (.lst vs)) (r : Reps K W O H vs ds fp) : Rep K W O H (.ref a) (.own ds) (a :: fp)
inductive Reps (K : Fg) (W : Wd) (O : List Addr) (H : Hp) : List V → List DV → List Addr → Prop
  | nil : Reps K W O H [] [] []
  | cons {v : V} {vs : List V} {d : DV} {ds : List DV} {fp fq : List Addr} (h : Rep K W O H v d fp) (t : Reps K W O H vs ds fq) : Reps K W O H (v :: vs) (d :: ds) (fp ++ fq)
end

theorem sqT_mono {K : Fg} {H H' : Hp} {a : Addr} {xs : List V} (e : Same H H') (h : SqT K H a xs) : SqT K H' a xs := by
  rcases h with (h | ⟨o, h⟩) | h
  · exact .inl (.inl (e _ _ h))
  · exact .inl (.inr ⟨o, e _ _ h⟩)
  · exact .inr h
section
variable {K : Fg} {W : Wd} {H H' : Hp} {O O' : List Addr}
mutual
theorem RepS.mono (e : Same H H') : ∀ {v : V} {s : SV}, RepS K W H v s → RepS K W H' v s
  | _, _, .non => .non
  | _, _, .bl => .bl
  | _, _, .int => .int
  | _, _, .str => .str
  | _, _, .raw => .raw
  | _, _, .gen h => .gen h
  | _, _, .tup h r => .tup (sqT_mono e h) (RepSs.mono e r)
  | _, _, .lst h r => .lst (e _ _ h) (RepSs.mono e r)
theorem RepSs.mono (e : Same H H') : ∀ {vs : List V} {xs : List SV}, RepSs K W H vs xs → RepSs K W H' vs xs
  | _, _, .nil => .nil
  | _, _, .cons h t => .cons (RepS.mono e h) (RepSs.mono e t)
end
/-- the draws' state alone may change -/
def Ext (W : Wd) (H H' : Hp) : Prop := ∀ b o, b ∉ W.as → H b = some o → H' b = some o
theorem Ext.refl : Ext W H H := fun _ _ _ h => h
theorem Ext.trans {H1 H2 : Hp} (a : Ext W H H1) (b : Ext W H1 H2) : Ext W H H2 := fun c o n h => b c o n (a c o n h)
theorem Same.ext (e : Same H H') : Ext W H H' := fun b o _ h => e b o h
mutual
theorem Rep.mono (hm : Same (msk O H) (msk O' H')) (e : Ext W H H') : ∀ {v : V} {d : DV} {fp : List Addr}, (∀ a ∈ fp, a ∈ O') → Rep K W O H v d fp → Rep K W O' H' v d fp
  | _, _, _, _, .sh h => .sh (RepS.mono hm h)
  | _, _, _, ho, .own ha hw h r => .own (ho _ List.mem_cons_self) hw (e _ _ hw h) (Reps.mono hm e (fun b hb => ho b (List.mem_cons_of_mem _ hb)) r)
theorem Reps.mono (hm : Same (msk O H) (msk O' H')) (e : Ext W H H') : ∀ {vs : List V} {ds : List DV} {fp : List Addr}, (∀ a ∈ fp, a ∈ O') → Reps K W O H vs ds fp → Reps K W O' H' vs ds fp
  | _, _, _, _, .nil => .nil
  | _, _, _, ho, .cons h t => .cons (Rep.mono hm e (fun b hb => ho b (List.mem_append_left _ hb)) h) (Reps.mono hm e (fun b hb => ho b (List.mem_append_right _ hb)) t)
end
mutual
theorem Rep.inO : ∀ {v : V} {d : DV} {fp : List Addr}, Rep K W O H v d fp → ∀ a ∈ fp, a ∈ O ∧ a ∉ W.as ∧ H a ≠ none
  | _, _, _, .sh _, a, h => by simp at h
  | _, _, _, .own ha hw h r, a, m => by
    rcases List.mem_cons.mp m with e | m
    · subst e; exact ⟨ha, hw, by rw [h]; simp⟩
    · exact Reps.inO r a m
theorem Reps.inO : ∀ {vs : List V} {ds : List DV} {fp : List Addr}, Reps K W O H vs ds fp → ∀ a ∈ fp, a ∈ O ∧ a ∉ W.as ∧ H a ≠ none
  | _, _, _, .nil, a, h => by simp at h
  | _, _, _, .cons h t, a, m => by
    rcases List.mem_append.mp m with m | m
    · exact Rep.inO h a m
    · exact Reps.inO t a m
end
theorem Reps.length : ∀ {vs : List V} {ds : List DV} {fp : List Addr}, Reps K W O H vs ds fp → vs.length = ds.length
  | _, _, _, .nil => rfl
  | _, _, _, .cons _ t => by rw [List.length_cons, List.length_cons, Reps.length t]
theorem RepSs.length : ∀ {vs : List V} {xs : List SV}, RepSs K W H vs xs → vs.length = xs.length
  | _, _, .nil => rfl
  | _, _, .cons _ t => by rw [List.length_cons, List.length_cons, RepSs.length t]
theorem RepSs.get : ∀ {vs : List V} {xs : List SV} {i : Nat} {x : SV}, RepSs K W H vs xs → xs[i]? = some x → ∃ v, vs[i]? = some v ∧ RepS K W H v x
  | _, _, _, _, .nil, h => by simp at h
  | _, _, 0, _, .cons h t, e => by
    have e' := Option.some.inj e
    subst e'
    exact ⟨_, rfl, h⟩
  | _, _, i + 1, _, .cons h t, e => by
    obtain ⟨v, e1, r⟩ := RepSs.get (i := i) t (by simpa using e)
    exact ⟨v, by simpa using e1, r⟩
theorem Reps.get : ∀ {vs : List V} {ds : List DV} {fp : List Addr} {i : Nat} {d : DV}, Reps K W O H vs ds fp → ds[i]? = some d → ∃ v fq, vs[i]? = some v ∧ Rep K W O H v d fq
  | _, _, _, _, _, .nil, h => by simp at h
  | _, _, _, 0, _, .cons h t, e => by
    have e' := Option.some.inj e
    subst e'
    exact ⟨_, _, rfl, h⟩
  | _, _, _, i + 1, _, .cons h t, e => by
    obtain ⟨v, fq, e1, r⟩ := Reps.get (i := i) t (by simpa using e)
    exact ⟨v, fq, by simpa using e1, r⟩
theorem RepSs.append : ∀ {vs ws : List V} {xs ys : List SV}, RepSs K W H vs xs → RepSs K W H ws ys → RepSs K W H (vs ++ ws) (xs ++ ys)
  | _, _, _, _, .nil, r => r
  | _, _, _, _, .cons h t, r => .cons h (RepSs.append t r)
theorem Reps.append : ∀ {vs ws : List V} {xs ys : List DV} {fp fq : List Addr}, Reps K W O H vs xs fp → Reps K W O H ws ys fq → Reps K W O H (vs ++ ws) (xs ++ ys) (fp ++ fq)
  | _, _, _, _, _, _, .nil, r => r
  | _, _, _, _, _, _, .cons h t, r => by
    rw [List.append_assoc]
    exact .cons h (Reps.append t r)
theorem Reps.ofS : ∀ {vs : List V} {xs : List SV}, RepSs K W (msk O H) vs xs → Reps K W O H vs (xs.map DV.sh) []
  | _, _, .nil => .nil
  | _, _, .cons h t => .cons (fp := []) (.sh h) (Reps.ofS t)
theorem Reps.toS : ∀ {vs : List V} {xs : List SV} {fp : List Addr}, Reps K W O H vs (xs.map DV.sh) fp → RepSs K W (msk O H) vs xs ∧ fp = []
  | _, [], _, .nil => ⟨.nil, rfl⟩
  | _, x :: xs, _, .cons (.sh h) t => by
    obtain ⟨r, e⟩ := Reps.toS t
    subst e
    exact ⟨.cons h r, rfl⟩
end
mutual
def DV.frz : DV → SV
  | .sh s => s
  | .own ds => .lst (DV.frzs ds)
def DV.frzs : List DV → List SV
  | [] => []
  | d :: ds => d.frz :: DV.frzs ds
end
theorem frzs_sh : ∀ xs : List SV, DV.frzs (xs.map DV.sh) = xs
  | [] => rfl
  | x :: xs => by simp [DV.frzs, DV.frz, frzs_sh xs]
section
variable {K : Fg} {W : Wd} {H H' : Hp} {O O' : List Addr}
theorem msk_le (h : ∀ b, b ∈ O' → b ∈ O) : Same (msk O H) (msk O' H) := fun b o e => by
  unfold msk at *
  by_cases hb : b ∈ O
  · rw [if_pos hb] at e; cases e
  · rw [if_neg hb] at e
    rw [if_neg fun z => hb (h b z)]
    exact e
theorem msk_get {b : Addr} {o : HO} (h : b ∉ O) (e : H b = some o) : msk O H b = some o := by unfold msk; rw [if_neg h]; exact e
theorem of_msk {b : Addr} {o : HO} (e : msk O H b = some o) : H b = some o ∧ b ∉ O := by
  unfold msk at e
  by_cases hb : b ∈ O
  · rw [if_pos hb] at e; cases e
  · rw [if_neg hb] at e; exact ⟨e, hb⟩
mutual
theorem Rep.freeze (hO : ∀ b, b ∈ O' → b ∈ O) : ∀ {v : V} {d : DV} {fp : List Addr}, (∀ a ∈ fp, a ∉ O') → Rep K W O H v d fp → RepS K W (msk O' H) v d.frz
  | _, _, _, _, .sh h => by unfold DV.frz; exact RepS.mono (msk_le hO) h
  | _, _, _, ho, .own ha hw h r => by
    unfold DV.frz
    exact .lst (msk_get (ho _ List.mem_cons_self) h) (Reps.freeze hO (fun b hb => ho b (List.mem_cons_of_mem _ hb)) r)
theorem Reps.freeze (hO : ∀ b, b ∈ O' → b ∈ O) : ∀ {vs : List V} {ds : List DV} {fp : List Addr}, (∀ a ∈ fp, a ∉ O') → Reps K W O H vs ds fp → RepSs K W (msk O' H) vs (DV.frzs ds)
  | _, _, _, _, .nil => by unfold DV.frzs; exact .nil
  | _, _, _, ho, .cons h t => by
    unfold DV.frzs
    exact .cons (Rep.freeze hO (fun b hb => ho b (List.mem_append_left _ hb)) h) (Reps.freeze hO (fun b hb => ho b (List.mem_append_right _ hb)) t)
end
end

/-! ### the slots -/
abbrev Env := List (Option DV)
inductive ERep (K : Fg) (W : Wd) (O : List Addr) (H : Hp) : St → Env → List Addr → Prop
  | nil : ERep K W O H [] [] []
  | non {x : Option V} {σ : St} {ρ : Env} {fp : List Addr} (t : ERep K W O H σ ρ fp) : ERep K W O H (x :: σ) (none :: ρ) fp
  | som {v : V} {d : DV} {σ : St} {ρ : Env} {fp fq : List Addr} (h : Rep K W O H v d fp) (t : ERep K W O H σ ρ fq) : ERep K W O H (some v :: σ) (some d :: ρ) (fp ++ fq)
section
variable {K : Fg} {W : Wd} {H H' : Hp} {O O' : List Addr}
theorem ERep.mono (hm : Same (msk O H) (msk O' H')) (e : Ext W H H') : ∀ {σ : St} {ρ : Env} {fp : List Addr}, (∀ a ∈ fp, a ∈ O') → ERep K W O H σ ρ fp → ERep K W O' H' σ ρ fp
  | _, _, _, _, .nil => .nil
  | _, _, _, ho, .non t => .non (ERep.mono hm e ho t)
  | _, _, _, ho, .som h t => .som (Rep.mono hm e (fun b hb => ho b (List.mem_append_left _ hb)) h) (ERep.mono hm e (fun b hb => ho b (List.mem_append_right _ hb)) t)
theorem ERep.inO : ∀ {σ : St} {ρ : Env} {fp : List Addr}, ERep K W O H σ ρ fp → ∀ a ∈ fp, a ∈ O ∧ a ∉ W.as ∧ H a ≠ none
  | _, _, _, .nil, a, h => by simp at h
  | _, _, _, .non t, a, h => ERep.inO t a h
  | _, _, _, .som h t, a, m => by
    rcases List.mem_append.mp m with m | m
    · exact Rep.inO h a m
    · exact ERep.inO t a m
/-- a slot, and the rest -/
theorem ERep.at : ∀ {σ : St} {ρ : Env} {fp : List Addr} {i : Nat} {d : DV}, ERep K W O H σ ρ fp → ρ[i]? = some (some d) →
    ∃ v fq, σ[i]? = some (some v) ∧ Rep K W O H v d fq ∧ ∀ a ∈ fq, a ∈ fp
  | _, _, _, _, _, .nil, h => by simp at h
  | _, _, _, 0, _, .non t, h => by cases (Option.some.inj h)
  | _, _, _, i + 1, _, .non t, h => by
    obtain ⟨v, fq, e, r, hs⟩ := ERep.at (i := i) t (by simpa using h)
    exact ⟨v, fq, by simpa using e, r, hs⟩
  | _, _, _, 0, _, .som r t, h => by
    cases (Option.some.inj (Option.some.inj h))
    exact ⟨_, _, rfl, r, fun a m => List.mem_append_left _ m⟩
  | _, _, _, i + 1, _, .som r t, h => by
    obtain ⟨v, fq, e, r, hs⟩ := ERep.at (i := i) t (by simpa using h)
    exact ⟨v, fq, by simpa using e, r, fun a m => List.mem_append_right _ (hs a m)⟩
/-- a slot is stored anew -/
theorem ERep.set {v : V} {d : DV} {f1 : List Addr} (r1 : Rep K W O H v d f1) : ∀ {σ : St} {ρ : Env} {fp : List Addr} (i : Nat), ERep K W O H σ ρ fp → (fp ++ f1).Nodup →
    ∃ fq, ERep K W O H (σ.set i (some v)) (ρ.set i (some d)) fq ∧ fq.Nodup ∧ ∀ a ∈ fq, a ∈ fp ∨ a ∈ f1
  | _, _, _, _, .nil, hn => ⟨[], .nil, List.nodup_nil, fun a h => by simp at h⟩
  | _, _, fp, 0, .non t, hn => ⟨f1 ++ fp, .som r1 t, by
      rw [List.nodup_append] at hn ⊢
      exact ⟨hn.2.1, hn.1, fun a ha b hb e => hn.2.2 b hb a ha e.symm⟩, fun a h => (List.mem_append.mp h).symm⟩
  | _, _, fp, i + 1, .non t, hn => by
    obtain ⟨fq, h1, h2, h3⟩ := ERep.set r1 i t hn
    exact ⟨fq, .non h1, h2, h3⟩
  | _, _, _, 0, .som (fp := fp) (fq := fq) r t, hn => ⟨f1 ++ fq, .som r1 t, by
      rw [List.nodup_append] at hn ⊢
      have h1 := (List.nodup_append.mp hn.1)
      exact ⟨hn.2.1, h1.2.1, fun a ha b hb e => hn.2.2 b (List.mem_append_right _ hb) a ha e.symm⟩, fun a h => by
      rcases List.mem_append.mp h with h | h
      · exact .inr h
      · exact .inl (List.mem_append_right _ h)⟩
  | _, _, _, i + 1, .som (fp := fp) (fq := fr) r t, hn => by
    have hn' := List.nodup_append.mp hn
    have hn1 := List.nodup_append.mp hn'.1
    obtain ⟨fq, h1, h2, h3⟩ := ERep.set r1 i t (by
      rw [List.nodup_append]
      exact ⟨hn1.2.1, hn'.2.1, fun a ha b hb => hn'.2.2 a (List.mem_append_right _ ha) b hb⟩)
    refine ⟨fp ++ fq, .som r h1, ?_, fun a h => ?_⟩
    · rw [List.nodup_append]
      refine ⟨hn1.1, h2, fun a ha b hb e => ?_⟩
      subst e
      rcases h3 a hb with z | z
      · exact hn1.2.2 a ha a z rfl
      · exact hn'.2.2 a (List.mem_append_left _ ha) a z rfl
    · rcases List.mem_append.mp h with h | h
      · exact .inl (List.mem_append_left _ h)
      · rcases h3 a h with z | z
        · exact .inl (List.mem_append_right _ z)
        · exact .inr z
end

/-! ### the state -/
def GOk (W : Wd) (O : List Addr) (H : Hp) (g : GS) : Prop := match W with
  | none => True
  | some (a, b, c) => a ∈ O ∧ b ∈ O ∧ c ∈ O ∧ a ≠ b ∧ a ≠ c ∧ b ≠ c ∧ H a = some (.lst [.ref b, .ref c, .int g.turn]) ∧ H b = some (.lst (g.cells.map V.int)) ∧ H c = some (.lst (g.rests.map V.int))
theorem GOk.mem {W : Wd} {O : List Addr} {H : Hp} {g : GS} (h : GOk W O H g) : ∀ a ∈ W.as, a ∈ O ∧ H a ≠ none := fun x hx => by
  match W with
  | none => simp [Wd.as] at hx
  | some (a, b, c) =>
    obtain ⟨h1, h2, h3, _, _, _, h4, h5, h6⟩ := h
    have hx' : x = a ∨ x = b ∨ x = c := by simpa [Wd.as] using hx
    rcases hx' with e | e | e
    · subst e; exact ⟨h1, by rw [h4]; simp⟩
    · subst e; exact ⟨h2, by rw [h5]; simp⟩
    · subst e; exact ⟨h3, by rw [h6]; simp⟩
theorem GOk.same {W : Wd} {O : List Addr} {H H' : Hp} {g : GS} (h : GOk W O H g) (e : Same H H') : GOk W O H' g := by
  match W with
  | none => trivial
  | some (a, b, c) =>
    obtain ⟨h1, h2, h3, n1, n2, n3, h4, h5, h6⟩ := h
    exact ⟨h1, h2, h3, n1, n2, n3, e _ _ h4, e _ _ h5, e _ _ h6⟩
/-- the entry: what is owned there, the heap there -/
abbrev Bs := List Addr × Hp
/-- without the slots -/
structure Den0 (B : Bs) (W : Wd) (O : List Addr) (H : Hp) (g : GS) : Prop where
  base : Ext W B.2 H
  sub : ∀ a ∈ B.1, a ∈ O
  new : ∀ a ∈ O, a ∈ B.1 ∨ B.2 a = none
  dom : ∀ a ∈ O, H a ≠ none
  gen : GOk W B.1 H g
  bdom : ∀ a ∈ B.1, B.2 a ≠ none
structure Den (K : Fg) (B : Bs) (W : Wd) (O : List Addr) (σ : St) (H : Hp) (ρ : Env) (g : GS) : Prop extends Den0 B W O H g where
  env : ∃ fp, ERep K W O H σ ρ fp ∧ fp.Nodup ∧ ∀ a ∈ fp, B.2 a = none
section
variable {K : Fg} {B : Bs} {W : Wd} {H H' : Hp} {O O' : List Addr} {σ : St} {ρ : Env} {g g' : GS}
theorem Den0.was (D : Den0 B W O H g) : ∀ a ∈ W.as, a ∈ O := fun a h => D.sub a (D.gen.mem a h).1
/-- shared data stay -/
theorem Den0.keeps (D : Den0 B W O H g) (e : Ext W H H') {fp : List Addr} (hf : ∀ a ∈ fp, H a = none) : Same (msk O H) (msk (fp ++ O) H') := fun b o h => by
  obtain ⟨h1, h2⟩ := of_msk h
  refine msk_get (fun z => ?_) (e b o (fun z => h2 (D.was b z)) h1)
  rcases List.mem_append.mp z with z | z
  · rw [hf b z] at h1; cases h1
  · exact h2 z
theorem Den0.keep (D : Den0 B W O H g) (e : Ext W H H') : Same (msk O H) (msk O H') := D.keeps e (fp := []) fun a h => by simp at h
theorem Den0.grow {fp : List Addr} (D : Den0 B W O H g) (e : Ext W H H') (hg : GOk W B.1 H' g') (hf : ∀ a ∈ fp, H a = none ∧ H' a ≠ none) : Den0 B W (fp ++ O) H' g' where
  base := D.base.trans e
  sub := fun a h => List.mem_append_right _ (D.sub a h)
  new := fun a h => by
    rcases List.mem_append.mp h with h | h
    · right
      cases q : B.2 a with
      | none => rfl
      | some o =>
        have h1 := (hf a h).1
        by_cases hw : a ∈ W.as
        · exact absurd h1 (D.dom a (D.was a hw))
        · rw [D.base a o hw q] at h1; cases h1
    · exact D.new a h
  dom := fun a h => by
    rcases List.mem_append.mp h with h | h
    · exact (hf a h).2
    · by_cases hw : a ∈ W.as
      · exact (hg.mem a hw).2
      · cases q : H a with
        | none => exact absurd q (D.dom a h)
        | some o => rw [e a o hw q]; simp
  gen := hg
  bdom := D.bdom
theorem Den.grow {fp : List Addr} (D : Den K B W O σ H ρ g) (e : Ext W H H') (hg : GOk W B.1 H' g') (hf : ∀ a ∈ fp, H a = none ∧ H' a ≠ none) : Den K B W (fp ++ O) σ H' ρ g' := by
  obtain ⟨fq, r, n, h⟩ := D.env
  exact { D.toDen0.grow e hg hf with env := ⟨fq, r.mono (D.keeps e fun a z => (hf a z).1) e (fun a m => List.mem_append_right _ (r.inO a m).1), n, h⟩ }
theorem Den.step (D : Den K B W O σ H ρ g) (e : Ext W H H') (hg : GOk W B.1 H' g') : Den K B W O σ H' ρ g' := D.grow (fp := []) e hg fun a h => by simp at h
end

/-! ### the judgements -/
abbrev EF := Env → GS → Option (SV × GS)
abbrev OF := Env → GS → Option (DV × GS)
abbrev TF := Env → GS → Option (Bool × GS)
abbrev AF := Env → GS → Option (List SV × GS)
/-- a shared value comes -/
def DEs (K : Fg) (t : TE) (f : EF) : Prop := ∀ B W O σ H ρ g s g', Den K B W O σ H ρ g → f ρ g = some (s, g') →
  ∀ Q : VK, (∀ v H', Ext W H H' → GOk W B.1 H' g' → RepS K W (msk O H') v s → Q v H') → t σ H Q
def DE (X : Cx) (e : Expr) (f : EF) : Prop := ∃ t, PE X e t ∧ DEs X.K t f
/-- a new value comes -/
def DOs (K : Fg) (t : TE) (f : OF) : Prop := ∀ B W O σ H ρ g d g', Den K B W O σ H ρ g → f ρ g = some (d, g') →
  ∀ Q : VK, (∀ v H' fp, Ext W H H' → GOk W B.1 H' g' → fp.Nodup → (∀ a ∈ fp, H a = none ∧ H' a ≠ none) → Rep K W (fp ++ O) H' v d fp → Q v H') → t σ H Q
def DO (X : Cx) (e : Expr) (f : OF) : Prop := ∃ t, PE X e t ∧ DOs X.K t f
/-- a value is looked at -/
def DPs (K : Fg) (t : TE) (f : OF) : Prop := ∀ B W O σ H ρ g d g', Den K B W O σ H ρ g → f ρ g = some (d, g') →
  ∀ Q : VK, (∀ v H' fp, Ext W H H' → GOk W B.1 H' g' → Rep K W O H' v d fp → Q v H') → t σ H Q
def DP (X : Cx) (e : Expr) (f : OF) : Prop := ∃ t, PE X e t ∧ DPs X.K t f
def DTs (K : Fg) (t : TT) (f : TF) : Prop := ∀ B W O σ H ρ g b g', Den K B W O σ H ρ g → f ρ g = some (b, g') →
  ∀ Q : Bool → Hp → Prop, (∀ H', Ext W H H' → GOk W B.1 H' g' → Q b H') → t σ H Q
def DT (X : Cx) (e : Expr) (f : TF) : Prop := ∃ t, PT X e t ∧ DTs X.K t f
def DW (X : Cx) (e : Expr) (f : TF) : Prop := ∃ t, PW X e t ∧ DTs X.K t f
def DAs (K : Fg) (t : TA) (f : AF) : Prop := ∀ B W O σ H ρ g s g', Den K B W O σ H ρ g → f ρ g = some (s, g') →
  ∀ Q : List V → Hp → Prop, (∀ v H', Ext W H H' → GOk W B.1 H' g' → RepSs K W (msk O H') v s → Q v H') → t σ H Q
def DA (X : Cx) (es : List Expr) (f : AF) : Prop := ∃ t, PA X es t ∧ DAs X.K t f
inductive Fl where
  | nx (ρ : Env) (g : GS) | rt (d : DV) (g : GS) | bk (ρ : Env) (g : GS) | ct (ρ : Env) (g : GS)
abbrev SF := Env → GS → Option Fl
/-- shared data stay -/
abbrev Keep (O : List Addr) (H : Hp) (O' : List Addr) (H' : Hp) : Prop := Same (msk O H) (msk O' H')
def FlOk (K : Fg) (B : Bs) (W : Wd) (O0 : List Addr) (H0 : Hp) (D : Ends) : Fl → Prop
  | .nx ρ g => ∀ σ O H, Keep O0 H0 O H → Den K B W O σ H ρ g → D.nx σ H
  | .bk ρ g => ∀ σ O H, Keep O0 H0 O H → Den K B W O σ H ρ g → D.bk σ H
  | .ct ρ g => ∀ σ O H, Keep O0 H0 O H → Den K B W O σ H ρ g → D.ct σ H
  | .rt d g => ∀ v O H fp, Den0 B W O H g → Rep K W O H v d fp → fp.Nodup → (∀ a ∈ fp, B.2 a = none) → D.rt v H
def DSt (K : Fg) (t : TS) (f : SF) : Prop := ∀ B W O σ H ρ g r, Den K B W O σ H ρ g → f ρ g = some r → ∀ D : Ends, FlOk K B W O H D r → t D σ H
def DS (X : Cx) (st : Stmt) (f : SF) : Prop := ∃ t, PS X st t ∧ DSt X.K t f
def DSs (X : Cx) (st : List Stmt) (f : SF) : Prop := ∃ t, PSs X st t ∧ DSt X.K t f
/-- what a for walks -/
abbrev IF := Env → GS → Option (List SV × GS)
def ItOk (K : Fg) (W : Wd) (O0 : List Addr) (H0 : Hp) (J : It) (xs : List SV) : Prop := ∀ O H, Keep O0 H0 O H → (∀ a ∈ O, H a ≠ none) →
  (∀ i x, xs[i]? = some x → J.go i H ∧ ∀ v H2, J.yld i H v H2 → Same H H2 ∧ RepS K W (msk O H2) v x) ∧ ∀ i, xs.length ≤ i → J.stop i H
def DIs (K : Fg) (wi : TI) (f : IF) : Prop := ∀ B W O σ H ρ g xs g', Den K B W O σ H ρ g → f ρ g = some (xs, g') →
  ∀ R : It → Hp → Prop, (∀ J H', Ext W H H' → GOk W B.1 H' g' → ItOk K W O H' J xs → R J H') → wi σ H R
def DI (X : Cx) (tg e : Expr) (f : IF) : Prop := ∃ wi, PI X tg e wi ∧ DIs X.K wi f
/-- a state with a value at hand that stands apart from the slots -/
structure DenV (K : Fg) (B : Bs) (W : Wd) (O : List Addr) (σ : St) (H : Hp) (ρ : Env) (g : GS) (v : V) (d : DV) : Prop extends Den0 B W O H g where
  env : ∃ fe fp, ERep K W O H σ ρ fe ∧ Rep K W O H v d fp ∧ (fe ++ fp).Nodup ∧ ∀ a ∈ fe ++ fp, B.2 a = none
/-- an assignment's target -/
abbrev GF := DV → Env → GS → Option (Env × GS)
def DGs (K : Fg) (t : TG) (f : GF) : Prop := ∀ B W O σ H ρ g d v ρ' g', DenV K B W O σ H ρ g v d → f d ρ g = some (ρ', g') →
  ∀ Q : St → Hp → Prop, (∀ σ' O' H', Keep O H O' H' → Den K B W O' σ' H' ρ' g' → Q σ' H') → t v σ H Q
def DG (X : Cx) (tg : Expr) (f : GF) : Prop := ∃ t, PG X tg t ∧ DGs X.K t f
end DL

/-! DL1: the rules for expressions. -/
namespace DL
open PySem PySem.Spec L2
section
variable {K : Fg} {B : Bs} {W : Wd} {H H' : Hp} {O O' : List Addr} {σ : St} {ρ : Env} {g g' : GS} {v : V} {d : DV} {fp : List Addr}
theorem Keep.refl : Keep O H O H := Same.refl _
theorem Den0.fresh (D : Den0 B W O H g) {a : Addr} (h : H a = none) : B.2 a = none := by
  cases q : B.2 a with
  | none => rfl
  | some o =>
    by_cases hw : a ∈ W.as
    · exact absurd h (D.dom a (D.was a hw))
    · rw [D.base a o hw q] at h; cases h
theorem Den0.notO (D : Den0 B W O H g) {a : Addr} (h : H a = none) : a ∉ O := fun z => D.dom a z h
/-- behind an expression that made something new -/
theorem Den.withV (D : Den K B W O σ H ρ g) (e : Ext W H H') (hg : GOk W B.1 H' g') (nd : fp.Nodup) (hf : ∀ a ∈ fp, H a = none ∧ H' a ≠ none) (r : Rep K W (fp ++ O) H' v d fp) : DenV K B W (fp ++ O) σ H' ρ g' v d := by
  obtain ⟨fe, re, n, h⟩ := D.env
  refine { D.toDen0.grow e hg hf with env := ⟨fe, fp, re.mono (D.keeps e fun a z => (hf a z).1) e (fun a m => List.mem_append_right _ (re.inO a m).1), r, ?_, fun a m => ?_⟩ }
  · rw [List.nodup_append]
    exact ⟨n, nd, fun a ha b hb z => (re.inO a ha).2.2 (by rw [z]; exact (hf b hb).1)⟩
  · rcases List.mem_append.mp m with m | m
    · exact h a m
    · exact D.toDen0.fresh (hf a m).1
theorem DenV.withS (D : Den K B W O σ H ρ g) {s : SV} (r : RepS K W (msk O H) v s) : DenV K B W O σ H ρ g v (.sh s) := by
  obtain ⟨fe, re, n, h⟩ := D.env
  exact { D.toDen0 with env := ⟨fe, [], re, .sh r, by simpa using n, by simpa using h⟩ }
theorem keep_new {p : Addr} {o : HO} (hp : H p = none) : Same H (upd H p o) := fun b x e => by
  rw [upd_ne (ne_of_none e hp)]
  exact e
theorem msk_same (e : Same H H') : Same (msk O H) (msk O H') := fun b o h => by
  obtain ⟨h1, h2⟩ := of_msk h
  exact msk_get h2 (e _ _ h1)
theorem rep_tup {vs : List V} {xs : List SV} {p : Addr} (hO : ∀ a ∈ O, H a ≠ none) (hp : H p = none) (r : RepSs K W (msk O H) vs xs) : RepS K W (msk O (upd H p (.tup vs))) (.ref p) (.tup xs) :=
  .tup (.inl (.inl (msk_get (fun z => hO p z hp) upd_same))) (r.mono (msk_same (keep_new hp)))
theorem rep_lst {vs : List V} {xs : List SV} {p : Addr} (hO : ∀ a ∈ O, H a ≠ none) (hp : H p = none) (r : RepSs K W (msk O H) vs xs) : RepS K W (msk O (upd H p (.lst vs))) (.ref p) (.lst xs) :=
  .lst (msk_get (fun z => hO p z hp) upd_same) (r.mono (msk_same (keep_new hp)))
/-- a new list of own items -/
theorem rep_own {vs : List V} {ds : List DV} {p : Addr} (hO : ∀ a ∈ O, H a ≠ none) (hw : ∀ a ∈ W.as, a ∈ O) (hp : H p = none) (r : Reps K W (fp ++ O) H vs ds fp) :
    Rep K W ((p :: fp) ++ O) (upd H p (.lst vs)) (.ref p) (.own ds) (p :: fp) := by
  refine .own (List.mem_cons_self) (fun z => hO p (hw p z) hp) upd_same ?_
  refine r.mono ?_ (Same.ext (keep_new hp)) fun a h => ?_
  · intro b o e
    obtain ⟨h1, h2⟩ := of_msk e
    refine msk_get (fun z => ?_) (keep_new hp b o h1)
    rcases List.mem_cons.mp z with z | z
    · subst z; rw [hp] at h1; cases h1
    · exact h2 z
  · exact List.mem_cons_of_mem _ (List.mem_append_left _ h)
end

/-! ### from one judgement to another -/
def oS (f : EF) : OF := fun ρ g => (f ρ g).map fun p => (.sh p.1, p.2)
def fz (f : OF) : EF := fun ρ g => (f ρ g).map fun p => (p.1.frz, p.2)
def DV.sh? : DV → Option SV
  | .sh s => some s
  | .own _ => none
def un (f : OF) : EF := fun ρ g => (f ρ g).bind fun p => p.1.sh?.map fun s => (s, p.2)
section
variable {X : Cx} {e a b c : Expr} {f fa fb fc : EF} {h : OF} {pos : Pos}
theorem DE.o (D : DE X e f) : DO X e (oS f) := by
  obtain ⟨t, pt, q⟩ := D
  refine ⟨t, pt, fun B W O σ H ρ g d g' D e Q k => ?_⟩
  obtain ⟨⟨s, g1⟩, e1, e2⟩ := Option.map_eq_some_iff.mp e
  cases e2
  exact q B W O σ H ρ g s g1 D e1 Q fun v H' x hg r => k v H' [] x hg List.nodup_nil (fun a z => by simp at z) (.sh r)
theorem DE.p (D : DE X e f) : DP X e (oS f) := by
  obtain ⟨t, pt, q⟩ := D
  refine ⟨t, pt, fun B W O σ H ρ g d g' D e Q k => ?_⟩
  obtain ⟨⟨s, g1⟩, e1, e2⟩ := Option.map_eq_some_iff.mp e
  cases e2
  exact q B W O σ H ρ g s g1 D e1 Q fun v H' x hg r => k v H' [] x hg (.sh r)
theorem DO.s (D : DO X e h) : DE X e (fz h) := by
  obtain ⟨t, pt, q⟩ := D
  refine ⟨t, pt, fun B W O σ H ρ g s g' D e Q k => ?_⟩
  obtain ⟨⟨d, g1⟩, e1, e2⟩ := Option.map_eq_some_iff.mp e
  cases e2
  exact q B W O σ H ρ g d g1 D e1 Q fun v H' fp x hg nd hf r => k v H' x hg (r.freeze (fun b z => List.mem_append_right _ z) fun a z => D.toDen0.notO (hf a z).1)
theorem DP.s (D : DP X e h) : DE X e (un h) := by
  obtain ⟨t, pt, q⟩ := D
  refine ⟨t, pt, fun B W O σ H ρ g s g' D e Q k => ?_⟩
  obtain ⟨⟨d, g1⟩, e1, e2⟩ := Option.bind_eq_some_iff.mp e
  obtain ⟨s1, e3, e4⟩ := Option.map_eq_some_iff.mp e2
  cases e4
  cases d with
  | own _ => cases e3
  | sh s2 =>
    cases e3
    exact q B W O σ H ρ g _ g1 D e1 Q fun v H' fp x hg r => by
      cases r with
      | sh r => exact k v H' x hg r

/-! ### names, constants -/
def vS (i : Nat) : EF := fun ρ g => match ρ[i]? with
  | some (some (.sh s)) => some (s, g)
  | _ => none
def vP (i : Nat) : OF := fun ρ g => match ρ[i]? with
  | some (some d) => some (d, g)
  | _ => none
def kS (s : SV) : EF := fun _ g => some (s, g)
theorem dp_var (i : Nat) {x : Str} (hN : X.N[i]? = some x := by rfl) (hv : Vis X.env.scope x := by first | exact Or.inl rfl | exact Or.inr (Or.inl rfl) | exact Or.inr (Or.inr rfl)) (hd : (x == ("__debug__" : Str)) = false := by decide)
    (hcd : (x == ("__classdict__" : Str)) = false := by decide) : DP X (.Name x pos) (vP i) := by
  refine ⟨tVar i, pe_var hN hv hd hcd, fun B W O σ H ρ g d g' D e Q k => ?_⟩
  unfold vP at e
  split at e
  · rename_i d1 h1
    cases e
    obtain ⟨fe, re, n, hh⟩ := D.env
    obtain ⟨v, fq, e1, r, _⟩ := re.at h1
    exact ⟨v, e1, k v H fq Ext.refl D.gen r⟩
  · cases e
theorem de_var (i : Nat) {x : Str} (hN : X.N[i]? = some x := by rfl) (hv : Vis X.env.scope x := by first | exact Or.inl rfl | exact Or.inr (Or.inl rfl) | exact Or.inr (Or.inr rfl)) (hd : (x == ("__debug__" : Str)) = false := by decide)
    (hcd : (x == ("__classdict__" : Str)) = false := by decide) : DE X (.Name x pos) (vS i) := by
  refine ⟨tVar i, pe_var hN hv hd hcd, fun B W O σ H ρ g s g' D e Q k => ?_⟩
  unfold vS at e
  split at e
  · rename_i d1 h1
    cases e
    obtain ⟨fe, re, n, hh⟩ := D.env
    obtain ⟨v, fq, e1, r, _⟩ := re.at h1
    cases r with
    | sh r => exact ⟨v, e1, k v H Ext.refl D.gen r⟩
  · cases e
theorem de_k {s : SV} {v : V} (p : PE X e (tC v)) (r : ∀ W H, RepS X.K W H v s) : DE X e (kS s) :=
  ⟨tC v, p, fun B W O σ H ρ g s g' D e Q k => by cases e; exact k v H Ext.refl D.gen (r _ _)⟩
theorem de_int {i : Int} {j} : DE X (.Constant (.int i) j pos) (kS (.int i)) := de_k pe_int fun _ _ => .int
theorem de_bl {i : Bool} {j} : DE X (.Constant (.bool i) j pos) (kS (.bl i)) := de_k pe_bl fun _ _ => .bl
theorem de_non {j} : DE X (.Constant .none j pos) (kS .non) := de_k pe_non fun _ _ => .non
theorem de_str {i : Str} {j} : DE X (.Constant (.str i) j pos) (kS (.str i)) := de_k pe_str fun _ _ => .str
/-- a constant of the module -/
theorem de_glob {x : Str} {v : V} {u : Value} {s : SV} (hg : Gl X x) (hm : X.mg x = some u) (r : RelV v u) (rs : ∀ W H, RepS X.K W H v s) (hd : (x == ("__debug__" : Str)) = false := by decide) : DE X (.Name x pos) (kS s) :=
  de_k (pe_glob hg hm r hd) rs

/-! ### operators -/
def b2 (k : SV → SV → Option SV) (fa fb : EF) : EF := fun ρ g => (fa ρ g).bind fun p => (fb ρ p.2).bind fun q => (k p.1 q.1).map fun s => (s, q.2)
def R2S (K : Fg) (r : R2) (k : SV → SV → Option SV) : Prop := ∀ W O H x y a b s, RepS K W (msk O H) x a → RepS K W (msk O H) y b → k a b = some s → (∀ a ∈ O, H a ≠ none) →
  ∀ Q : VK, (∀ v H', Same H H' → RepS K W (msk O H') v s → Q v H') → r x y H Q
theorem op2s {K : Fg} {r : R2} {k : SV → SV → Option SV} {ta tb : TE} (hr : R2S K r k) (ha : DEs K ta fa) (hb : DEs K tb fb) : DEs K (tOp r ta tb) (b2 k fa fb) := by
  intro B W O σ H ρ g s g' D e Q q
  obtain ⟨⟨a, g1⟩, e1, e⟩ := Option.bind_eq_some_iff.mp e
  obtain ⟨⟨b, g2⟩, e2, e⟩ := Option.bind_eq_some_iff.mp e
  obtain ⟨s1, e3, e4⟩ := Option.map_eq_some_iff.mp e
  cases e4
  refine ha B W O σ H ρ g a g1 D e1 _ fun x H1 x1 h1 r1 => ?_
  have D1 := D.step x1 h1
  refine hb B W O σ H1 ρ g1 b g2 D1 e2 _ fun y H2 x2 h2 r2 => ?_
  have D2 := D1.step x2 h2
  exact hr W O H2 x y a b _ (r1.mono (D1.toDen0.keep x2)) r2 e3 D2.dom _ fun v H3 sm r3 => q v H3 ((x1.trans x2).trans (Same.ext sm)) (D2.gen.same sm) r3
theorem de_op {op : Operator} {r : R2} {k : SV → SV → Option SV} (ho : OpR X (binaryOp op) r) (hr : R2S X.K r k) (ha : DE X a fa) (hb : DE X b fb) : DE X (.BinOp a op b pos) (b2 k fa fb) := by
  obtain ⟨ta, pa, qa⟩ := ha
  obtain ⟨tb, pb, qb⟩ := hb
  exact ⟨_, pe_op ho pa pb, op2s hr qa qb⟩
theorem de_cmp {op : CmpOp} {r : R2} {k : SV → SV → Option SV} (ho : OpR X (compareOp op) r) (hr : R2S X.K r k) (ha : DE X a fa) (hb : DE X b fb) (hm : behindInMarks op b = false) : DE X (.Compare a [op] [b] pos) (b2 k fa fb) := by
  obtain ⟨ta, pa, qa⟩ := ha
  obtain ⟨tb, pb, qb⟩ := hb
  exact ⟨_, pe_cmpR ho pa pb hm, op2s hr qa qb⟩
def hI (c : Int → Int → Bool) (k : Int → Int → SV) : SV → SV → Option SV
  | .int i, .int j => if c i j then some (k i j) else none
  | _, _ => none
def hI0 (k : Int → Int → SV) : SV → SV → Option SV
  | .int i, .int j => some (k i j)
  | _, _ => none
theorem r2_I {K : Fg} {C : Int → Int → Prop} {c : Int → Int → Bool} {kv : Int → Int → V} {k : Int → Int → SV} (hC : ∀ i j, c i j = true → C i j) (hk : ∀ W H i j, RepS K W H (kv i j) (k i j)) : R2S K (rI C kv) (hI c k) := by
  intro W O H x y a b s ra rb e hO Q q
  unfold hI at e
  split at e
  · split at e
    · rename_i hc
      cases e
      cases ra
      cases rb
      exact ⟨_, _, rfl, rfl, hC _ _ hc, q _ H (Same.refl H) (hk ..)⟩
    · cases e
  · cases e
theorem r2_I0 {K : Fg} {kv : Int → Int → V} {k : Int → Int → SV} (hk : ∀ W H i j, RepS K W H (kv i j) (k i j)) : R2S K (rI0 kv) (hI0 k) := by
  intro W O H x y a b s ra rb e hO Q q
  unfold hI0 at e
  split at e
  · cases e
    cases ra
    cases rb
    exact ⟨_, _, rfl, rfl, q _ H (Same.refl H) (hk ..)⟩
  · cases e
def hAdd := hI0 fun i j => .int (i + j)
def hSub := hI0 fun i j => .int (i - j)
def mulOk (i j : Int) : Bool := decide (i.natAbs.log2 < 60000000 ∧ j.natAbs.log2 < 60000000)
def hMul := hI mulOk fun i j => .int (i * j)
def divOk (_ j : Int) : Bool := decide (0 < j ∧ j.natAbs.log2 < 9000)
def hDiv := hI divOk fun i j => .int (i / j)
def modOk (_ j : Int) : Bool := decide (0 < j)
def hMod := hI modOk fun i j => .int (i % j)
def powOk (i j : Int) : Bool := decide (0 ≤ j ∧ j ≤ 1000000 ∧ i.natAbs < 18446744073709551616)
def hPow := hI powOk fun i j => .int (i ^ j.toNat)
def hLt := hI0 fun i j => .bl (decide (i < j))
def hLe := hI0 fun i j => .bl (decide (i ≤ j))
def hGt := hI0 fun i j => .bl (decide (j < i))
def hGe := hI0 fun i j => .bl (decide (j ≤ i))
def CMulX (i j : Int) : Prop := i.natAbs.log2 < 60000000 ∧ j.natAbs.log2 < 60000000
theorem CMulX.ok {i j : Int} (h : CMulX i j) : IntMulOk i j := by
  have b : ∀ x : Int, Builtin.Int.intBits x ≤ x.natAbs.log2 + 1 := fun x => by
    unfold Builtin.Int.intBits
    split <;> omega
  have h1 := b i
  have h2 := b j
  have h3 := h.1
  have h4 := h.2
  have e : bitsLine = 134217728 := by decide
  unfold IntMulOk
  intro z
  rw [Bool.and_eq_true] at z
  have z2 := z.2
  unfold Builtin.Int.intTooBig at z2
  have z3 := of_decide_eq_true z2
  rw [e] at z3
  omega
theorem op_mulX : OpR X (binaryOp .Mult) (rI CMulX fun i j => .int (i * j)) := opI fun _ _ _ _ _ _ _ hc q => PyProof.Rows.mul_int q hc.ok
theorem de_add (ha : DE X a fa) (hb : DE X b fb) : DE X (.BinOp a .Add b pos) (b2 hAdd fa fb) := de_op op_add (r2_I0 fun _ _ _ _ => .int) ha hb
theorem de_sub (ha : DE X a fa) (hb : DE X b fb) : DE X (.BinOp a .Sub b pos) (b2 hSub fa fb) := de_op op_sub (r2_I0 fun _ _ _ _ => .int) ha hb
theorem de_mul (ha : DE X a fa) (hb : DE X b fb) : DE X (.BinOp a .Mult b pos) (b2 hMul fa fb) := de_op op_mulX (r2_I (fun i j h => (show i.natAbs.log2 < 60000000 ∧ j.natAbs.log2 < 60000000 from of_decide_eq_true h)) fun _ _ _ _ => .int) ha hb
theorem de_div (ha : DE X a fa) (hb : DE X b fb) : DE X (.BinOp a .FloorDiv b pos) (b2 hDiv fa fb) := de_op op_fdivW (r2_I (fun i j h => (show 0 < j ∧ j.natAbs.log2 < 9000 from of_decide_eq_true h)) fun _ _ _ _ => .int) ha hb
theorem de_mod (ha : DE X a fa) (hb : DE X b fb) : DE X (.BinOp a .Mod b pos) (b2 hMod fa fb) := de_op op_mod (r2_I (fun i j h => (show 0 < j from of_decide_eq_true h)) fun _ _ _ _ => .int) ha hb
theorem de_pow (ha : DE X a fa) (hb : DE X b fb) : DE X (.BinOp a .Pow b pos) (b2 hPow fa fb) := de_op op_pow (r2_I (fun _ _ h => by
  have z := of_decide_eq_true h
  exact ⟨z.1, z.2.1, z.2.2⟩) fun _ _ _ _ => .int) ha hb
theorem de_lt (ha : DE X a fa) (hb : DE X b fb) : DE X (.Compare a [.Lt] [b] pos) (b2 hLt fa fb) := de_cmp op_lt (r2_I0 fun _ _ _ _ => .bl) ha hb (nomark _)
theorem de_le (ha : DE X a fa) (hb : DE X b fb) : DE X (.Compare a [.LtE] [b] pos) (b2 hLe fa fb) := de_cmp op_le (r2_I0 fun _ _ _ _ => .bl) ha hb (nomark _)
theorem de_gt (ha : DE X a fa) (hb : DE X b fb) : DE X (.Compare a [.Gt] [b] pos) (b2 hGt fa fb) := de_cmp op_gt (r2_I0 fun _ _ _ _ => .bl) ha hb (nomark _)
theorem de_ge (ha : DE X a fa) (hb : DE X b fb) : DE X (.Compare a [.GtE] [b] pos) (b2 hGe fa fb) := de_cmp op_ge (r2_I0 fun _ _ _ _ => .bl) ha hb (nomark _)
end
end DL

/-! DL2: more expressions, tests, arguments, calls. -/
namespace DL
open PySem PySem.Spec L2

/-! ### equality of data -/
mutual
def SV.pd : SV → Option PyData
  | .non => some .none
  | .bl b => some (.bool b)
  | .int i => some (.int i)
  | .str _ => none
  | .tup xs => (SV.pds xs).map .tuple
  | .lst xs => (SV.pds xs).map .list
  | .raw _ => none
  | .gen => none
def SV.pds : List SV → Option (List PyData)
  | [] => some []
  | x :: xs => (SV.pd x).bind fun d => (SV.pds xs).map fun ds => d :: ds
end
mutual
/-- Python's == on data -/
def SV.eq : SV → SV → Option Bool
  | .non, .non => some true
  | .non, .bl _ => some false
  | .non, .int _ => some false
  | .non, .tup _ => some false
  | .non, .lst _ => some false
  | .bl a, .bl b => some (a == b)
  | .bl a, .int j => some ((if a then 1 else 0) == j)
  | .bl _, .non => some false
  | .bl _, .tup _ => some false
  | .bl _, .lst _ => some false
  | .int i, .int j => some (i == j)
  | .int i, .bl b => some (i == (if b then 1 else 0))
  | .int _, .non => some false
  | .int _, .tup _ => some false
  | .int _, .lst _ => some false
  | .tup xs, .tup ys => SV.eqs xs ys
  | .tup _, .non => some false
  | .tup _, .bl _ => some false
  | .tup _, .int _ => some false
  | .tup _, .lst _ => some false
  | .lst xs, .lst ys => SV.eqs xs ys
  | .lst _, .non => some false
  | .lst _, .bl _ => some false
  | .lst _, .int _ => some false
  | .lst _, .tup _ => some false
  | _, _ => none
def SV.eqs : List SV → List SV → Option Bool
  | [], [] => some true
  | x :: xs, y :: ys => match SV.eq x y, SV.eqs xs ys with
    | some a, some b => some (a && b)
    | _, _ => none
  | [], _ :: _ => some false
  | _ :: _, [] => some false
end
mutual
def SV.dep : SV → Nat
  | .tup xs => SV.deps xs + 1
  | .lst xs => SV.deps xs + 1
  | _ => 0
def SV.deps : List SV → Nat
  | [] => 0
  | x :: xs => max (SV.dep x) (SV.deps xs)
end
mutual
theorem pd_eqv : ∀ (x y : SV) (d e : PyData) (b : Bool), x.pd = some d → y.pd = some e → SV.eq x y = some b → PyData.eqv d e = b := by
  intro x y d e b hx hy hb
  cases x <;> cases y <;> simp only [SV.pd, SV.eq, Option.some.injEq, reduceCtorEq, Option.map_eq_some_iff] at hx hy hb
  all_goals first
    | (obtain ⟨p, hp, rfl⟩ := hx; obtain ⟨q, hq, rfl⟩ := hy; first | (simp only [PyData.eqv]; exact pds_eqv _ _ _ _ _ hp hq hb) | (subst hb; simp only [PyData.eqv]))
    | (obtain ⟨p, hp, rfl⟩ := hx; subst hy; subst hb; simp only [PyData.eqv])
    | (obtain ⟨p, hp, rfl⟩ := hy; subst hx; subst hb; simp only [PyData.eqv])
    | (subst hx; subst hy; subst hb; simp only [PyData.eqv])
theorem pds_eqv : ∀ (xs ys : List SV) (ds es : List PyData) (b : Bool), SV.pds xs = some ds → SV.pds ys = some es → SV.eqs xs ys = some b → PyData.eqvAll ds es = b := by
  intro xs ys ds es b hx hy hb
  cases xs with
  | nil =>
    cases ys with
    | nil => simp [SV.pds] at hx hy; simp [SV.eqs] at hb; subst hx; subst hy; subst hb; rfl
    | cons y ys =>
      simp [SV.pds] at hx; simp [SV.eqs] at hb
      simp only [SV.pds, Option.bind_eq_some_iff, Option.map_eq_some_iff] at hy
      obtain ⟨p, _, q, _, rfl⟩ := hy
      subst hx; subst hb; rfl
  | cons x xs =>
    simp only [SV.pds, Option.bind_eq_some_iff, Option.map_eq_some_iff] at hx
    obtain ⟨p, hp, q, hq, rfl⟩ := hx
    cases ys with
    | nil => simp [SV.pds] at hy; simp [SV.eqs] at hb; subst hy; subst hb; rfl
    | cons y ys =>
      simp only [SV.pds, Option.bind_eq_some_iff, Option.map_eq_some_iff] at hy
      obtain ⟨p', hp', q', hq', rfl⟩ := hy
      simp only [SV.eqs] at hb
      split at hb
      · rename_i a b' h1 h2
        cases hb
        simp only [PyData.eqvAll]
        rw [pd_eqv x y p p' a hp hp' h1, pds_eqv xs ys q q' b' hq hq' h2]
      · cases hb
end
section
variable {K : Fg} {W : Wd} {H : Hp}
mutual
theorem RepS.dp : ∀ {v : V} {s : SV} {d : PyData}, RepS K W H v s → s.pd = some d → Dp K H v d
  | _, _, _, .non, h => by simp [SV.pd] at h; subst h; exact .non
  | _, _, _, .bl, h => by simp [SV.pd] at h; subst h; exact .bl _
  | _, _, _, .int, h => by simp [SV.pd] at h; subst h; exact .int _
  | _, _, _, .str, h => by simp [SV.pd] at h
  | _, _, _, .raw, h => by simp [SV.pd] at h
  | _, _, _, .gen _, h => by simp [SV.pd] at h
  | _, _, _, .tup hq r, h => by
    simp only [SV.pd, Option.map_eq_some_iff] at h
    obtain ⟨ds, h1, rfl⟩ := h
    exact .tup hq (RepSs.dp r h1)
  | _, _, _, .lst hq r, h => by
    simp only [SV.pd, Option.map_eq_some_iff] at h
    obtain ⟨ds, h1, rfl⟩ := h
    exact .lst (.inl (.inl hq)) (RepSs.dp r h1)
theorem RepSs.dp : ∀ {vs : List V} {xs : List SV} {ds : List PyData}, RepSs K W H vs xs → SV.pds xs = some ds → DpAll K H vs ds
  | _, _, _, .nil, h => by simp [SV.pds] at h; subst h; exact .nil
  | _, _, _, .cons r t, h => by
    simp only [SV.pds, Option.bind_eq_some_iff, Option.map_eq_some_iff] at h
    obtain ⟨p, hp, q, hq, rfl⟩ := h
    exact .cons (RepS.dp r hp) (RepSs.dp t hq)
end
end
mutual
theorem pd_shaped : ∀ (x : SV) (d : PyData), x.pd = some d → d.canLay0 = true ∧ d.depth = x.dep := by
  intro x d h
  cases x <;> simp only [SV.pd, Option.some.injEq, reduceCtorEq, Option.map_eq_some_iff] at h
  case tup xs =>
    obtain ⟨p, hp, rfl⟩ := h
    have z := pds_shaped xs p hp
    exact ⟨by simp only [PyData.canLay0]; exact z.1, by simp only [PyData.depth, SV.dep]; rw [z.2]⟩
  case lst xs =>
    obtain ⟨p, hp, rfl⟩ := h
    have z := pds_shaped xs p hp
    exact ⟨by simp only [PyData.canLay0]; exact z.1, by simp only [PyData.depth, SV.dep]; rw [z.2]⟩
  all_goals (subst h; exact ⟨by simp only [PyData.canLay0], by simp only [PyData.depth, SV.dep]⟩)
theorem pds_shaped : ∀ (xs : List SV) (ds : List PyData), SV.pds xs = some ds → PyData.canLayAll0 ds = true ∧ PyData.depthAll ds = SV.deps xs := by
  intro xs ds h
  cases xs with
  | nil => simp [SV.pds] at h; subst h; exact ⟨by simp only [PyData.canLayAll0], by simp only [PyData.depthAll, SV.deps]⟩
  | cons x xs =>
    simp only [SV.pds, Option.bind_eq_some_iff, Option.map_eq_some_iff] at h
    obtain ⟨p, hp, q, hq, rfl⟩ := h
    have z1 := pd_shaped x p hp
    have z2 := pds_shaped xs q hq
    exact ⟨by simp only [PyData.canLayAll0]; rw [z1.1, z2.1]; rfl, by simp only [PyData.depthAll, SV.deps]; rw [z1.2, z2.2]⟩
end

def hEqD (k : Bool → Bool) (a b : SV) : Option SV := match a.pd, b.pd, SV.eq a b with
  | some _, some _, some r => if a.dep ≤ 64 ∧ b.dep ≤ 64 then some (.bl (k r)) else none
  | _, _, _ => none
def hEq : SV → SV → Option SV
  | .int i, .int j => some (.bl (decide (i = j)))
  | .bl i, .bl j => some (.bl (decide (i = j)))
  | .str i, .str j => some (.bl (decide (i = j)))
  | a, b => hEqD (fun x => x) a b
def hNe : SV → SV → Option SV
  | .int i, .int j => some (.bl (!decide (i = j)))
  | .bl i, .bl j => some (.bl (!decide (i = j)))
  | .str i, .str j => some (.bl (!decide (i = j)))
  | a, b => hEqD (fun x => !x) a b
def rEqX (K : Fg) : R2 := fun x y H Q => rEq x y H Q ∨ rEqD K x y H Q
def rNeX (K : Fg) : R2 := fun x y H Q => rNe x y H Q ∨ rNeD K x y H Q
section
variable {X : Cx}
theorem op_eqX (hu : X.A.units + 64 < cLine) : OpR X (compareOp .Eq) (rEqX X.K) := by
  intro pins s σ H x y v u Q I rx ry h
  rcases h with h | h
  · exact op_eq pins s σ H x y v u Q I rx ry h
  · exact op_eqD hu pins s σ H x y v u Q I rx ry h
theorem op_neX (hu : X.A.units + 64 < cLine) : OpR X (compareOp .NotEq) (rNeX X.K) := by
  intro pins s σ H x y v u Q I rx ry h
  rcases h with h | h
  · exact op_ne pins s σ H x y v u Q I rx ry h
  · exact op_neD hu pins s σ H x y v u Q I rx ry h
end
theorem vint {i j : Int} : decide (V.int i = V.int j) = decide (i = j) := by
  rw [Bool.eq_iff_iff]; simp
theorem vbl {i j : Bool} : decide (V.bl i = V.bl j) = decide (i = j) := by
  rw [Bool.eq_iff_iff]; simp
theorem vstr {i j : Str} : decide (V.str i = V.str j) = decide (i = j) := by
  rw [Bool.eq_iff_iff]; simp
theorem eqD_core {K : Fg} {W : Wd} {M : Hp} {k : Bool → Bool} {x y : V} {a b s : SV} (ra : RepS K W M x a) (rb : RepS K W M y b) (e : hEqD k a b = some s) :
    ∃ d e' r, Dp K M x d ∧ Dp K M y e' ∧ SeqAt.shaped d = true ∧ SeqAt.shaped e' = true ∧ PyData.eqv d e' = r ∧ s = .bl (k r) := by
  unfold hEqD at e
  split at e
  · rename_i d1 d2 r h1 h2 h3
    split at e
    · rename_i hd
      cases e
      have z1 := pd_shaped a d1 h1
      have z2 := pd_shaped b d2 h2
      refine ⟨d1, d2, r, ra.dp h1, rb.dp h2, ?_, ?_, pd_eqv a b d1 d2 r h1 h2 h3, rfl⟩
      · unfold SeqAt.shaped; rw [z1.1, z1.2, decide_eq_true hd.1]; rfl
      · unfold SeqAt.shaped; rw [z2.1, z2.2, decide_eq_true hd.2]; rfl
    · cases e
  · cases e
section
variable {K : Fg} {H H' : Hp}
mutual
theorem Dp.mono (e : Same H H') : ∀ {v : V} {d : PyData}, Dp K H v d → Dp K H' v d
  | _, _, .non => .non
  | _, _, .bl b => .bl b
  | _, _, .int i => .int i
  | _, _, .str x => .str x
  | _, _, .lst h r => .lst (e.seq h) (DpAll.mono e r)
  | _, _, .tup h r => .tup (sqT_mono e h) (DpAll.mono e r)
theorem DpAll.mono (e : Same H H') : ∀ {vs : List V} {ds : List PyData}, DpAll K H vs ds → DpAll K H' vs ds
  | _, _, .nil => .nil
  | _, _, .cons h t => .cons (Dp.mono e h) (DpAll.mono e t)
end
end
theorem msk_sub {O : List Addr} {H : Hp} : Same (msk O H) H := fun _ _ e => (of_msk e).1
theorem r2_eq {K : Fg} : R2S K (rEqX K) hEq := by
  intro W O H x y a b s ra rb e hO Q q
  unfold hEq at e
  split at e
  · cases e; cases ra; cases rb
    exact .inl ⟨rfl, by rw [vint]; exact q _ H (Same.refl H) .bl⟩
  · cases e; cases ra; cases rb
    exact .inl ⟨rfl, by rw [vbl]; exact q _ H (Same.refl H) .bl⟩
  · cases e; cases ra; cases rb
    exact .inl ⟨rfl, by rw [vstr]; exact q _ H (Same.refl H) .bl⟩
  · obtain ⟨d, e', r, h1, h2, h3, h4, h5, rfl⟩ := eqD_core ra rb e
    exact .inr ⟨d, e', Dp.mono msk_sub h1, Dp.mono msk_sub h2, h3, h4, by rw [h5]; exact q _ H (Same.refl H) .bl⟩
theorem r2_ne {K : Fg} : R2S K (rNeX K) hNe := by
  intro W O H x y a b s ra rb e hO Q q
  unfold hNe at e
  split at e
  · cases e; cases ra; cases rb
    exact .inl ⟨rfl, by rw [vint]; exact q _ H (Same.refl H) .bl⟩
  · cases e; cases ra; cases rb
    exact .inl ⟨rfl, by rw [vbl]; exact q _ H (Same.refl H) .bl⟩
  · cases e; cases ra; cases rb
    exact .inl ⟨rfl, by rw [vstr]; exact q _ H (Same.refl H) .bl⟩
  · obtain ⟨d, e', r, h1, h2, h3, h4, h5, rfl⟩ := eqD_core ra rb e
    exact .inr ⟨d, e', Dp.mono msk_sub h1, Dp.mono msk_sub h2, h3, h4, by rw [h5]; exact q _ H (Same.refl H) .bl⟩
/-- x in a list of data -/
def hInD (k : Bool → Bool) (a b : SV) : Option SV := match b with
  | .lst xs => match a.pd, SV.pds xs, xs.mapM (fun z => SV.eq z a) with
    | some _, some _, some rs => if a.dep ≤ 64 ∧ (SV.lst xs).dep ≤ 64 then some (.bl (k (rs.any fun r => r))) else none
    | _, _, _ => none
  | _ => none
theorem any_eqv {a : SV} {d : PyData} (h : a.pd = some d) : ∀ (xs : List SV) (ds : List PyData) (rs : List Bool), SV.pds xs = some ds → xs.mapM (fun z => SV.eq z a) = some rs → (ds.any fun z => PyData.eqv z d) = rs.any fun r => r
  | [], ds, rs, h1, h2 => by
    simp [SV.pds] at h1; simp at h2; subst h1; subst h2; rfl
  | x :: xs, ds, rs, h1, h2 => by
    simp only [SV.pds, Option.bind_eq_some_iff, Option.map_eq_some_iff] at h1
    obtain ⟨p, hp, q, hq, rfl⟩ := h1
    simp only [List.mapM_cons, Option.bind_eq_bind, Option.bind_eq_some_iff, Option.pure_def, Option.some.injEq] at h2
    obtain ⟨r, hr, rs', hrs, rfl⟩ := h2
    rw [List.any_cons, List.any_cons, any_eqv h xs q rs' hq hrs, pd_eqv x a p d r hp h hr]
theorem inD_core {K : Fg} {W : Wd} {M : Hp} {k : Bool → Bool} {x y : V} {a b s : SV} (ra : RepS K W M x a) (rb : RepS K W M y b) (e : hInD k a b = some s) :
    ∃ d ds r, Dp K M x d ∧ Dp K M y (.list ds) ∧ SeqAt.shaped d = true ∧ SeqAt.shaped (.list ds) = true ∧ (ds.any fun z => PyData.eqv z d) = r ∧ s = .bl (k r) := by
  unfold hInD at e
  split at e
  · rename_i xs
    split at e
    · rename_i d1 d2 rs h1 h2 h3
      split at e
      · rename_i hd
        cases e
        have hl : (SV.lst xs).pd = some (.list d2) := by simp only [SV.pd]; rw [h2]; rfl
        have z1 := pd_shaped a d1 h1
        have z2 := pd_shaped (.lst xs) _ hl
        refine ⟨d1, d2, _, ra.dp h1, rb.dp hl, ?_, ?_, any_eqv h1 xs d2 rs h2 h3, rfl⟩
        · unfold SeqAt.shaped; rw [z1.1, z1.2, decide_eq_true hd.1]; rfl
        · unfold SeqAt.shaped; rw [z2.1, z2.2, decide_eq_true hd.2]; rfl
      · cases e
    · cases e
  · cases e
theorem r2_in {K : Fg} : R2S K (rInD K) (hInD fun x => x) := by
  intro W O H x y a b s ra rb e hO Q q
  obtain ⟨d, ds, r, h1, h2, h3, h4, h5, rfl⟩ := inD_core ra rb e
  exact ⟨d, ds, Dp.mono msk_sub h1, Dp.mono msk_sub h2, h3, h4, by rw [h5]; exact q _ H (Same.refl H) .bl⟩
theorem r2_notIn {K : Fg} : R2S K (rNotInD K) (hInD fun x => !x) := by
  intro W O H x y a b s ra rb e hO Q q
  obtain ⟨d, ds, r, h1, h2, h3, h4, h5, rfl⟩ := inD_core ra rb e
  exact ⟨d, ds, Dp.mono msk_sub h1, Dp.mono msk_sub h2, h3, h4, by rw [h5]; exact q _ H (Same.refl H) .bl⟩
section
variable {X : Cx} {e a b c : Expr} {f fa fb fc : EF} {h ha' : OF} {pos : Pos} {tt : TF}
theorem de_eq (hu : X.A.units + 64 < cLine) (ha : DE X a fa) (hb : DE X b fb) : DE X (.Compare a [.Eq] [b] pos) (b2 hEq fa fb) := de_cmp (op_eqX hu) r2_eq ha hb (nomark _)
theorem de_ne (hu : X.A.units + 64 < cLine) (ha : DE X a fa) (hb : DE X b fb) : DE X (.Compare a [.NotEq] [b] pos) (b2 hNe fa fb) := de_cmp (op_neX hu) r2_ne ha hb (nomark _)
theorem de_in (hu : X.A.units + 65 < cLine) (ha : DE X a fa) (hb : DE X b fb) (hm : behindInMarks .In b = false := by rfl) : DE X (.Compare a [.In] [b] pos) (b2 (hInD fun x => x) fa fb) := de_cmp (op_inD hu) r2_in ha hb hm
theorem de_notIn (hu : X.A.units + 65 < cLine) (ha : DE X a fa) (hb : DE X b fb) (hm : behindInMarks .NotIn b = false := by rfl) : DE X (.Compare a [.NotIn] [b] pos) (b2 (hInD fun x => !x) fa fb) := de_cmp (op_notInD hu) r2_notIn ha hb hm

/-! ### one-place operations -/
def u1 (k : SV → Option SV) (fa : EF) : EF := fun ρ g => (fa ρ g).bind fun p => (k p.1).map fun s => (s, p.2)
def hNeg : SV → Option SV
  | .int i => some (.int (-i))
  | _ => none
def hNot : SV → Option SV
  | .bl b => some (.bl (!b))
  | _ => none
theorem de_neg (ha : DE X a fa) : DE X (.UnaryOp .USub a pos) (u1 hNeg fa) := by
  obtain ⟨t, pt, qt⟩ := ha
  refine ⟨_, pe_un un_neg pt, fun B W O σ H ρ g s g' D e Q q => ?_⟩
  obtain ⟨⟨x, g1⟩, e1, e⟩ := Option.bind_eq_some_iff.mp e
  obtain ⟨s1, e3, e4⟩ := Option.map_eq_some_iff.mp e
  cases e4
  refine qt B W O σ H ρ g x g1 D e1 _ fun v H1 x1 h1 r1 => ?_
  cases x with
  | int i => cases e3; cases r1; exact ⟨i, rfl, q _ H1 x1 h1 .int⟩
  | _ => cases e3
theorem de_not (ha : DE X a fa) : DE X (.UnaryOp .Not a pos) (u1 hNot fa) := by
  obtain ⟨t, pt, qt⟩ := ha
  refine ⟨_, pe_not pt, fun B W O σ H ρ g s g' D e Q q => ?_⟩
  obtain ⟨⟨x, g1⟩, e1, e⟩ := Option.bind_eq_some_iff.mp e
  obtain ⟨s1, e3, e4⟩ := Option.map_eq_some_iff.mp e
  cases e4
  refine qt B W O σ H ρ g x g1 D e1 _ fun v H1 x1 h1 r1 => ?_
  cases x with
  | bl i => cases e3; cases r1; exact ⟨i, rfl, q _ H1 x1 h1 .bl⟩
  | _ => cases e3
/-- x is None, x is not None -/
def isN (k : Bool → Bool) : DV → Option SV
  | .sh .non => some (.bl (k true))
  | .sh (.raw _) => none
  | _ => some (.bl (k false))
def u1P (k : DV → Option SV) (fa : OF) : EF := fun ρ g => (fa ρ g).bind fun p => (k p.1).map fun s => (s, p.2)
theorem isN_ok {K : Fg} {W : Wd} {O : List Addr} {H : Hp} {k : Bool → Bool} {v : V} {d : DV} {fp : List Addr} {s : SV} (r : Rep K W O H v d fp) (e : isN k d = some s) : s = .bl (k (decide (v = .non))) := by
  unfold isN at e
  split at e
  · cases e; cases r with
    | sh r => cases r; rfl
  · cases e
  · rename_i h1 h2
    cases e
    have hv : v ≠ .non := by
      rintro rfl
      cases r with
      | sh r => cases r with
        | non => exact h1 rfl
        | raw => exact h2 _ rfl
    rw [decide_eq_false hv]
theorem de_isN (ha : DP X a ha') {k : Nat} {p2 : Pos} : DE X (.Compare a [.Is] [.Constant .none k p2] pos) (u1P (isN fun x => x) ha') := by
  obtain ⟨t, pt, qt⟩ := ha
  refine ⟨_, pe_cmpR op_isN pt pe_non (nomark _), fun B W O σ H ρ g s g' D e Q q => ?_⟩
  obtain ⟨⟨x, g1⟩, e1, e⟩ := Option.bind_eq_some_iff.mp e
  obtain ⟨s1, e3, e4⟩ := Option.map_eq_some_iff.mp e
  cases e4
  refine qt B W O σ H ρ g x g1 D e1 _ fun v H1 fp x1 h1 r1 => ?_
  have z := isN_ok r1 e3
  subst z
  exact ⟨rfl, q _ H1 x1 h1 .bl⟩
theorem de_notN (ha : DP X a ha') {k : Nat} {p2 : Pos} : DE X (.Compare a [.IsNot] [.Constant .none k p2] pos) (u1P (isN fun x => !x) ha') := by
  obtain ⟨t, pt, qt⟩ := ha
  refine ⟨_, pe_cmpR op_notN pt pe_non (nomark _), fun B W O σ H ρ g s g' D e Q q => ?_⟩
  obtain ⟨⟨x, g1⟩, e1, e⟩ := Option.bind_eq_some_iff.mp e
  obtain ⟨s1, e3, e4⟩ := Option.map_eq_some_iff.mp e
  cases e4
  refine qt B W O σ H ρ g x g1 D e1 _ fun v H1 fp x1 h1 r1 => ?_
  have z := isN_ok r1 e3
  subst z
  exact ⟨rfl, q _ H1 x1 h1 .bl⟩

/-! ### tests -/
def tB1 (f : EF) : TF := fun ρ g => (f ρ g).bind fun p => match p.1 with
  | .bl b => some (b, p.2)
  | _ => none
def tAnd1 (a b : TF) : TF := fun ρ g => (a ρ g).bind fun p => if p.1 = true then b ρ p.2 else some (false, p.2)
def tOr1 (a b : TF) : TF := fun ρ g => (a ρ g).bind fun p => if p.1 = true then some (true, p.2) else b ρ p.2
def tNot1 (a : TF) : TF := fun ρ g => (a ρ g).map fun p => (!p.1, p.2)
theorem tB1s {K : Fg} {t : TE} (h : DEs K t f) : DTs K (fun σ H Q => t σ H fun x H1 => ∃ c, x = .bl c ∧ Q c H1) (tB1 f) := by
  intro B W O σ H ρ g b g' D e Q q
  obtain ⟨⟨x, g1⟩, e1, e⟩ := Option.bind_eq_some_iff.mp e
  refine h B W O σ H ρ g x g1 D e1 _ fun v H1 x1 h1 r1 => ?_
  cases x with
  | bl i => cases e; cases r1; exact ⟨_, rfl, q H1 x1 h1⟩
  | _ => cases e
theorem dt_val (h : DE X e f) (he : ∀ whole, isTrue e X.env whole = (do let v ← whole; standAt e.pos; holding [v] (truthy v)) := by intro _; rfl) : DT X e (tB1 f) := by
  obtain ⟨t, pt, qt⟩ := h
  exact ⟨_, pt_val pt he, tB1s qt⟩
theorem dt_not (h : DT X a tt) : DT X (.UnaryOp .Not a pos) (tNot1 tt) := by
  obtain ⟨t, pt, qt⟩ := h
  refine ⟨_, pt_not pt, fun B W O σ H ρ g b g' D e Q q => ?_⟩
  obtain ⟨⟨x, g1⟩, e1, e2⟩ := Option.map_eq_some_iff.mp e
  cases e2
  exact qt B W O σ H ρ g x g1 D e1 _ fun H1 x1 h1 => q H1 x1 h1
variable {ta tb : TF} {rest : List Expr}
theorem dw_and1 (h : DT X a ta) : DW X (.BoolOp .And [a] pos) ta := by
  obtain ⟨t, pt, qt⟩ := h
  exact ⟨t, pw_and1 pt, qt⟩
theorem dw_or1 (h : DT X a ta) : DW X (.BoolOp .Or [a] pos) ta := by
  obtain ⟨t, pt, qt⟩ := h
  exact ⟨t, pw_or1 pt, qt⟩
theorem dw_and (h : DT X a ta) (h2 : DW X (.BoolOp .And (b :: rest) pos) tb) : DW X (.BoolOp .And (a :: b :: rest) pos) (tAnd1 ta tb) := by
  obtain ⟨t, pt, qt⟩ := h
  obtain ⟨u, pu, qu⟩ := h2
  refine ⟨_, pw_and pt pu, fun B W O σ H ρ g b g' D e Q q => ?_⟩
  obtain ⟨⟨x, g1⟩, e1, e⟩ := Option.bind_eq_some_iff.mp e
  refine qt B W O σ H ρ g x g1 D e1 _ fun H1 x1 h1 => ?_
  cases x with
  | true =>
    rw [if_pos rfl] at e ⊢
    exact qu B W O σ H1 ρ g1 b g' (D.step x1 h1) e Q fun H2 x2 h2 => q H2 (x1.trans x2) h2
  | false =>
    dsimp only at e
    rw [if_neg Bool.false_ne_true] at e ⊢
    cases e
    exact q H1 x1 h1
theorem dw_or (h : DT X a ta) (h2 : DW X (.BoolOp .Or (b :: rest) pos) tb) : DW X (.BoolOp .Or (a :: b :: rest) pos) (tOr1 ta tb) := by
  obtain ⟨t, pt, qt⟩ := h
  obtain ⟨u, pu, qu⟩ := h2
  refine ⟨_, pw_or pt pu, fun B W O σ H ρ g b g' D e Q q => ?_⟩
  obtain ⟨⟨x, g1⟩, e1, e⟩ := Option.bind_eq_some_iff.mp e
  refine qt B W O σ H ρ g x g1 D e1 _ fun H1 x1 h1 => ?_
  cases x with
  | false =>
    dsimp only at e
    rw [if_neg Bool.false_ne_true] at e ⊢
    exact qu B W O σ H1 ρ g1 b g' (D.step x1 h1) e Q fun H2 x2 h2 => q H2 (x1.trans x2) h2
  | true =>
    rw [if_pos rfl] at e ⊢
    cases e
    exact q H1 x1 h1
theorem DW.t (h : DW X e ta) : DT X e ta := by
  obtain ⟨t, pt, qt⟩ := h
  exact ⟨t, pt.pt, qt⟩
def ifV (c : TF) (fa fb : EF) : EF := fun ρ g => (c ρ g).bind fun p => if p.1 = true then fa ρ p.2 else fb ρ p.2
theorem de_ifExp (hc : DT X c tt) (ha : DE X a fa) (hb : DE X b fb) : DE X (.IfExp c a b pos) (ifV tt fa fb) := by
  obtain ⟨t, pt, qt⟩ := hc
  obtain ⟨u, pu, qu⟩ := ha
  obtain ⟨w, pw, qw⟩ := hb
  refine ⟨_, pe_ifExp pt pu pw, fun B W O σ H ρ g s g' D e Q q => ?_⟩
  obtain ⟨⟨x, g1⟩, e1, e⟩ := Option.bind_eq_some_iff.mp e
  refine qt B W O σ H ρ g x g1 D e1 _ fun H1 x1 h1 => ?_
  cases x with
  | true =>
    rw [if_pos rfl] at e ⊢
    exact qu B W O σ H1 ρ g1 s g' (D.step x1 h1) e Q fun v H2 x2 h2 => q v H2 (x1.trans x2) h2
  | false =>
    dsimp only at e
    rw [if_neg Bool.false_ne_true] at e ⊢
    exact qw B W O σ H1 ρ g1 s g' (D.step x1 h1) e Q fun v H2 x2 h2 => q v H2 (x1.trans x2) h2
/-- and, or as values: all but the last are truth values -/
def vAnd (a : EF) (b : EF) : EF := fun ρ g => (a ρ g).bind fun p => match p.1 with
  | .bl true => b ρ p.2
  | .bl false => some (.bl false, p.2)
  | _ => none
def vOr (a : EF) (b : EF) : EF := fun ρ g => (a ρ g).bind fun p => match p.1 with
  | .bl false => b ρ p.2
  | .bl true => some (.bl true, p.2)
  | _ => none
theorem de_one {op} (h : DE X a fa) : DE X (.BoolOp op [a] pos) fa := by
  obtain ⟨t, pt, qt⟩ := h
  exact ⟨t, pe_one pt, qt⟩
theorem de_and (h : DE X a fa) (h2 : DE X (.BoolOp .And (b :: rest) pos) fb) : DE X (.BoolOp .And (a :: b :: rest) pos) (vAnd fa fb) := by
  obtain ⟨t, pt, qt⟩ := h
  obtain ⟨u, pu, qu⟩ := h2
  refine ⟨_, pe_and pt pu, fun B W O σ H ρ g s g' D e Q q => ?_⟩
  obtain ⟨⟨x, g1⟩, e1, e⟩ := Option.bind_eq_some_iff.mp e
  refine qt B W O σ H ρ g x g1 D e1 _ fun v H1 x1 h1 r1 => ?_
  cases x with
  | bl i =>
    cases r1
    refine ⟨i, rfl, ?_⟩
    cases i with
    | true =>
      rw [if_pos rfl]
      exact qu B W O σ H1 ρ g1 s g' (D.step x1 h1) e Q fun v H2 x2 h2 => q v H2 (x1.trans x2) h2
    | false =>
      rw [if_neg (by decide)]
      cases e
      exact q _ H1 x1 h1 .bl
  | _ => cases e
theorem de_or (h : DE X a fa) (h2 : DE X (.BoolOp .Or (b :: rest) pos) fb) : DE X (.BoolOp .Or (a :: b :: rest) pos) (vOr fa fb) := by
  obtain ⟨t, pt, qt⟩ := h
  obtain ⟨u, pu, qu⟩ := h2
  refine ⟨_, pe_or pt pu, fun B W O σ H ρ g s g' D e Q q => ?_⟩
  obtain ⟨⟨x, g1⟩, e1, e⟩ := Option.bind_eq_some_iff.mp e
  refine qt B W O σ H ρ g x g1 D e1 _ fun v H1 x1 h1 r1 => ?_
  cases x with
  | bl i =>
    cases r1
    refine ⟨i, rfl, ?_⟩
    cases i with
    | false =>
      rw [if_neg (by decide)]
      exact qu B W O σ H1 ρ g1 s g' (D.step x1 h1) e Q fun v H2 x2 h2 => q v H2 (x1.trans x2) h2
    | true =>
      rw [if_pos rfl]
      cases e
      exact q _ H1 x1 h1 .bl
  | _ => cases e

/-! ### items -/
def SV.seq? : SV → Option (List SV)
  | .tup xs => some xs
  | .lst xs => some xs
  | _ => none
def hIx (a b : SV) : Option SV := match a.seq?, b with
  | some xs, .int i => atI xs i
  | _, _ => none
theorem atI_rep {K : Fg} {W : Wd} {M : Hp} {vs : List V} {xs : List SV} {i : Int} {s : SV} (r : RepSs K W M vs xs) (e : atI xs i = some s) : ∃ v, atI vs i = some v ∧ RepS K W M v s := by
  unfold atI at e ⊢
  rw [r.length]
  obtain ⟨j, e1, e2⟩ := Option.bind_eq_some_iff.mp e
  obtain ⟨v, e3, r3⟩ := r.get e2
  exact ⟨v, by rw [e1]; exact e3, r3⟩
theorem r2_ix {K : Fg} : R2S K (rIx K) hIx := by
  intro W O H x y a b s ra rb e hO Q q
  unfold hIx at e
  split at e
  · rename_i xs i h1
    cases rb
    cases ra with
    | tup hq r =>
      cases h1
      obtain ⟨v, e1, r1⟩ := atI_rep r e
      exact .inr (.inl ⟨_, _, i, v, rfl, rfl, sqT_mono msk_sub hq, e1, q v H (Same.refl H) r1⟩)
    | lst hq r =>
      cases h1
      obtain ⟨v, e1, r1⟩ := atI_rep r e
      exact .inl ⟨_, _, i, v, rfl, rfl, .inl (.inl (of_msk hq).1), e1, q v H (Same.refl H) r1⟩
    | _ => cases h1
  · cases e
theorem de_ix (ha : DE X a fa) (hb : DE X b fb) (hs : PlainIx b := by exact fun _ _ => rfl) : DE X (.Subscript a b pos) (b2 hIx fa fb) := by
  obtain ⟨t, pt, qt⟩ := ha
  obtain ⟨u, pu, qu⟩ := hb
  exact ⟨_, pe_ix ix_seq pt pu hs, op2s r2_ix qt qu⟩
/-- an item of a thing that is looked at -/
def DV.at (d : DV) (i : Int) : Option DV := match d with
  | .own ds => atI ds i
  | .sh s => s.seq?.bind fun xs => (atI xs i).map .sh
def ixP (fa : OF) (fb : EF) : OF := fun ρ g => (fa ρ g).bind fun p => (fb ρ p.2).bind fun q => match q.1 with
  | .int i => (p.1.at i).map fun d => (d, q.2)
  | _ => none
theorem atI_reps {K : Fg} {W : Wd} {O : List Addr} {M : Hp} {vs : List V} {ds : List DV} {fp : List Addr} {i : Int} {d : DV} (r : Reps K W O M vs ds fp) (e : atI ds i = some d) : ∃ v fq, atI vs i = some v ∧ Rep K W O M v d fq := by
  unfold atI at e ⊢
  rw [r.length]
  obtain ⟨j, e1, e2⟩ := Option.bind_eq_some_iff.mp e
  obtain ⟨v, fq, e3, r3⟩ := r.get e2
  exact ⟨v, fq, by rw [e1]; exact e3, r3⟩
theorem dp_ix {ga : OF} (ha : DP X a ga) (hb : DE X b fb) (hs : PlainIx b := by exact fun _ _ => rfl) : DP X (.Subscript a b pos) (ixP ga fb) := by
  obtain ⟨t, pt, qt⟩ := ha
  obtain ⟨u, pu, qu⟩ := hb
  refine ⟨_, pe_ix ix_seq pt pu hs, fun B W O σ H ρ g d g' D e Q q => ?_⟩
  obtain ⟨⟨x, g1⟩, e1, e⟩ := Option.bind_eq_some_iff.mp e
  obtain ⟨⟨y, g2⟩, e2, e⟩ := Option.bind_eq_some_iff.mp e
  refine qt B W O σ H ρ g x g1 D e1 _ fun v H1 fp x1 h1 r1 => ?_
  have D1 := D.step x1 h1
  refine qu B W O σ H1 ρ g1 y g2 D1 e2 _ fun w H2 x2 h2 r2 => ?_
  have r1' := r1.mono (D1.toDen0.keep x2) x2 (fun a m => (r1.inO a m).1)
  cases y with
  | int i =>
    obtain ⟨d1, e3, e4⟩ := Option.map_eq_some_iff.mp e
    cases e4
    cases r2
    cases r1' with
    | own ho hw hl rs =>
      obtain ⟨z, fq, e5, r5⟩ := atI_reps rs e3
      exact .inl ⟨_, _, i, z, rfl, rfl, .inl (.inl hl), e5, q z H2 fq (x1.trans x2) h2 r5⟩
    | sh r =>
      obtain ⟨xs, e5, e6⟩ := Option.bind_eq_some_iff.mp e3
      obtain ⟨s, e7, e8⟩ := Option.map_eq_some_iff.mp e6
      subst e8
      cases r with
      | tup hq r =>
        cases e5
        obtain ⟨v, e1, r1⟩ := atI_rep r e7
        exact .inr (.inl ⟨_, _, i, v, rfl, rfl, sqT_mono msk_sub hq, e1, q v H2 [] (x1.trans x2) h2 (.sh r1)⟩)
      | lst hq r =>
        cases e5
        obtain ⟨v, e1, r1⟩ := atI_rep r e7
        exact .inl ⟨_, _, i, v, rfl, rfl, .inl (.inl (of_msk hq).1), e1, q v H2 [] (x1.trans x2) h2 (.sh r1)⟩
      | _ => cases e5
  | _ => cases e
end
end DL

/-! DL3: arguments, displays, slices, calls. -/
namespace DL
open PySem PySem.Spec L2
theorem GOk.re {W : Wd} {O O2 : List Addr} {H : Hp} {g : GS} (h : GOk W O H g) (ho : ∀ a ∈ W.as, a ∈ O2) : GOk W O2 H g := by
  match W with
  | none => trivial
  | some (a, b, c) =>
    obtain ⟨h1, h2, h3, n1, n2, n3, h4, h5, h6⟩ := h
    exact ⟨ho a (by simp [Wd.as]), ho b (by simp [Wd.as]), ho c (by simp [Wd.as]), n1, n2, n3, h4, h5, h6⟩
def DV.items? : DV → Option (List SV)
  | .own ds => ds.mapM DV.sh?
  | .sh s => s.seq?
theorem mapM_sh : ∀ xs : List SV, (xs.map DV.sh).mapM DV.sh? = some xs
  | [] => rfl
  | x :: xs => by simp [List.mapM_cons, DV.sh?, mapM_sh xs]
theorem of_mapM_sh : ∀ {ds : List DV} {xs : List SV}, ds.mapM DV.sh? = some xs → ds = xs.map DV.sh
  | [], xs, h => by simp at h; subst h; rfl
  | d :: ds, xs, h => by
    simp only [List.mapM_cons, Option.bind_eq_bind, Option.bind_eq_some_iff, Option.pure_def, Option.some.injEq] at h
    obtain ⟨s, h1, ys, h2, rfl⟩ := h
    cases d with
    | own _ => cases h1
    | sh s' => cases h1; rw [of_mapM_sh h2]; rfl
section
variable {K : Fg} {W : Wd} {O : List Addr} {H : Hp} {v : V} {d : DV} {fp : List Addr} {xs : List SV}
theorem Rep.items (r : Rep K W O H v d fp) (e : d.items? = some xs) : ∃ a vs, v = .ref a ∧ (SqL K H a vs ∨ SqT K H a vs) ∧ RepSs K W (msk O H) vs xs := by
  cases r with
  | own ha hw h rs =>
    have e' := of_mapM_sh e
    subst e'
    exact ⟨_, _, rfl, .inl (.inl (.inl h)), (Reps.toS rs).1⟩
  | sh r =>
    cases r with
    | tup hq r => cases e; exact ⟨_, _, rfl, .inr (sqT_mono msk_sub hq), r⟩
    | lst hq r => cases e; exact ⟨_, _, rfl, .inl (.inl (.inl (of_msk hq).1)), r⟩
    | _ => cases e
/-- a list's items -/
def DV.lst? : DV → Option (List SV)
  | .own ds => ds.mapM DV.sh?
  | .sh (.lst xs) => some xs
  | _ => none
theorem Rep.list (r : Rep K W O H v d fp) (e : d.lst? = some xs) : ∃ a vs, v = .ref a ∧ H a = some (.lst vs) ∧ RepSs K W (msk O H) vs xs := by
  cases r with
  | own ha hw h rs =>
    have e' := of_mapM_sh e
    subst e'
    exact ⟨_, _, rfl, h, (Reps.toS rs).1⟩
  | sh r =>
    cases r with
    | lst hq r => cases e; exact ⟨_, _, rfl, (of_msk hq).1, r⟩
    | _ => cases e
/-- the length of a thing that is looked at -/
def DV.len? : DV → Option Nat
  | .own ds => some ds.length
  | .sh (.tup xs) => some xs.length
  | .sh (.lst xs) => some xs.length
  | _ => none
theorem Rep.len {n : Nat} (r : Rep K W O H v d fp) (e : d.len? = some n) : ∃ a vs, v = .ref a ∧ (SqL K H a vs ∨ SqT K H a vs) ∧ vs.length = n := by
  cases r with
  | own ha hw h rs => cases e; exact ⟨_, _, rfl, .inl (.inl (.inl h)), rs.length⟩
  | sh r =>
    cases r with
    | tup hq r => cases e; exact ⟨_, _, rfl, .inr (sqT_mono msk_sub hq), r.length⟩
    | lst hq r => cases e; exact ⟨_, _, rfl, .inl (.inl (.inl (of_msk hq).1)), r.length⟩
    | _ => cases e
end

theorem log2_lt_pow {n k : Nat} (h : n.log2 < k) : n < 2 ^ k := by
  by_cases h0 : n = 0
  · subst h0; exact Nat.two_pow_pos k
  · exact Nat.lt_of_lt_of_le (Nat.log2_lt h0 |>.mp (Nat.lt_succ_self _)) (Nat.pow_le_pow_right (by decide) h)
theorem log2_of_lt {n k : Nat} (hk : 0 < k) (h : n < 2 ^ k) : n.log2 < k := by
  by_cases h0 : n = 0
  · subst h0; simpa using hk
  · exact (Nat.log2_lt h0).mpr h
/-- not too long -/
def lenOk (n : Nat) : Bool := decide (n.log2 < 20)
theorem lenOk_of {n : Nat} (h : n ≤ 1000000) : lenOk n = true := decide_eq_true (log2_of_lt (by decide) (Nat.lt_of_le_of_lt h (by decide)))
theorem lenOk_lt {n : Nat} (h : lenOk n = true) : n < 1048576 := log2_lt_pow (k := 20) (of_decide_eq_true h)
def rngOk (n : Int) : Bool := decide (n.natAbs.log2 < 60)
theorem rngOk_lt {n : Int} (h : rngOk n = true) : n.natAbs < 1152921504606846976 := log2_lt_pow (k := 60) (of_decide_eq_true h)
theorem rngOk_of {n : Nat} (h : n ≤ 1000000) : rngOk (n : Int) = true := decide_eq_true (by rw [Int.natAbs_natCast]; exact log2_of_lt (by decide) (Nat.lt_of_le_of_lt h (by decide)))
/-! ### arguments, displays -/
def aN : AF := fun _ g => some ([], g)
def aC (f : EF) (fs : AF) : AF := fun ρ g => (f ρ g).bind fun p => (fs ρ p.2).map fun q => (p.1 :: q.1, q.2)
abbrev AOF := Env → GS → Option (List DV × GS)
def DAOs (K : Fg) (t : TA) (f : AOF) : Prop := ∀ B W O σ H ρ g s g', Den K B W O σ H ρ g → f ρ g = some (s, g') →
  ∀ Q : List V → Hp → Prop, (∀ v H' fp, Ext W H H' → GOk W B.1 H' g' → fp.Nodup → (∀ a ∈ fp, H a = none ∧ H' a ≠ none) → Reps K W (fp ++ O) H' v s fp → Q v H') → t σ H Q
def DAO (X : Cx) (es : List Expr) (f : AOF) : Prop := ∃ t, PA X es t ∧ DAOs X.K t f
def oN : AOF := fun _ g => some ([], g)
def oC (f : OF) (fs : AOF) : AOF := fun ρ g => (f ρ g).bind fun p => (fs ρ p.2).map fun q => (p.1 :: q.1, q.2)
def tupF (f : AF) : EF := fun ρ g => (f ρ g).bind fun p => if p.1.length ≤ 1000 then some (.tup p.1, p.2) else none
def lstF (f : AOF) : OF := fun ρ g => (f ρ g).bind fun p => if p.1.length ≤ 1000 then some (.own p.1, p.2) else none
theorem le1000 {n : Nat} (h : n ≤ 1000) : n ≤ sizeLine := Nat.le_of_lt (small1000 h)
section
variable {X : Cx} {e a b c : Expr} {es : List Expr} {f fa fb fc : EF} {h h' : OF} {fs : AF} {os : AOF} {pos : Pos}
theorem da_nil : DA X [] aN := ⟨_, pa_nil, fun B W O σ H ρ g s g' D e Q q => by cases e; exact q [] H Ext.refl D.gen .nil⟩
theorem da_cons (ha : DE X e f) (hr : DA X es fs) (hs : starEach (e :: es) X.env = (false, eval e X.env) :: starEach es X.env := by rfl) : DA X (e :: es) (aC f fs) := by
  obtain ⟨t, pt, qt⟩ := ha
  obtain ⟨u, pu, qu⟩ := hr
  refine ⟨_, pa_cons pt pu hs, fun B W O σ H ρ g s g' D e Q q => ?_⟩
  obtain ⟨⟨x, g1⟩, e1, e⟩ := Option.bind_eq_some_iff.mp e
  obtain ⟨⟨xs, g2⟩, e2, e3⟩ := Option.map_eq_some_iff.mp e
  cases e3
  refine qt B W O σ H ρ g x g1 D e1 _ fun v H1 x1 h1 r1 => ?_
  have D1 := D.step x1 h1
  refine qu B W O σ H1 ρ g1 xs g2 D1 e2 _ fun vs H2 x2 h2 r2 => ?_
  exact q _ H2 (x1.trans x2) h2 (.cons (r1.mono (D1.toDen0.keep x2)) r2)
theorem dao_nil : DAO X [] oN := ⟨_, pa_nil, fun B W O σ H ρ g s g' D e Q q => by cases e; exact q [] H [] Ext.refl D.gen List.nodup_nil (fun a z => by simp at z) .nil⟩
theorem dao_cons (ha : DO X e h) (hr : DAO X es os) (hs : starEach (e :: es) X.env = (false, eval e X.env) :: starEach es X.env := by rfl) : DAO X (e :: es) (oC h os) := by
  obtain ⟨t, pt, qt⟩ := ha
  obtain ⟨u, pu, qu⟩ := hr
  refine ⟨_, pa_cons pt pu hs, fun B W O σ H ρ g s g' D e Q q => ?_⟩
  obtain ⟨⟨x, g1⟩, e1, e⟩ := Option.bind_eq_some_iff.mp e
  obtain ⟨⟨xs, g2⟩, e2, e3⟩ := Option.map_eq_some_iff.mp e
  cases e3
  refine qt B W O σ H ρ g x g1 D e1 _ fun v H1 fp x1 h1 n1 f1 r1 => ?_
  have D1 := D.grow (fp := fp) x1 h1 f1
  refine qu B W _ σ H1 ρ g1 xs g2 D1 e2 _ fun vs H2 fq x2 h2 n2 f2 r2 => ?_
  refine q _ H2 (fp ++ fq) (x1.trans x2) h2 ?_ ?_ (.cons ?_ ?_)
  · rw [List.nodup_append]
    exact ⟨n1, n2, fun a ha b hb z => (f1 a ha).2 (by rw [z]; exact (f2 b hb).1)⟩
  · intro a ha
    rcases List.mem_append.mp ha with m | m
    · refine ⟨(f1 a m).1, ?_⟩
      have hw := (r1.inO a m).2.1
      cases q : H1 a with
      | none => exact absurd q (f1 a m).2
      | some o => rw [x2 a o hw q]; simp
    · refine ⟨?_, (f2 a m).2⟩
      cases q : H a with
      | none => rfl
      | some o =>
        by_cases hw : a ∈ W.as
        · exact absurd (f2 a m).1 (D1.dom a (D1.toDen0.was a hw))
        · have := (f2 a m).1
          rw [x1 a o hw q] at this; cases this
  · refine (r1.mono (D1.toDen0.keeps x2 fun a z => (f2 a z).1) x2 fun a m => List.mem_append_right _ (r1.inO a m).1).mono ?_ Ext.refl fun a m => List.mem_append_left _ (List.mem_append_left _ m)
    exact msk_le fun b z => by
      rcases List.mem_append.mp z with z | z
      · rcases List.mem_append.mp z with z | z
        · exact List.mem_append_right _ (List.mem_append_left _ z)
        · exact List.mem_append_left _ z
      · exact List.mem_append_right _ (List.mem_append_right _ z)
  · refine r2.mono ?_ Ext.refl fun a m => List.mem_append_left _ (List.mem_append_right _ m)
    exact msk_le fun b z => by
      rcases List.mem_append.mp z with z | z
      · rcases List.mem_append.mp z with z | z
        · exact List.mem_append_right _ (List.mem_append_left _ z)
        · exact List.mem_append_left _ z
      · exact List.mem_append_right _ (List.mem_append_right _ z)
theorem de_tup {k : Nat} (ha : DA X es fs) : DE X (.Tuple es k pos) (tupF fs) := by
  obtain ⟨t, pt, qt⟩ := ha
  refine ⟨_, pe_tup pt, fun B W O σ H ρ g s g' D e Q q => ?_⟩
  obtain ⟨⟨xs, g1⟩, e1, e⟩ := Option.bind_eq_some_iff.mp e
  split at e
  · rename_i hl
    cases e
    refine qt B W O σ H ρ g xs g1 D e1 _ fun vs H1 x1 h1 r1 => ⟨by rw [r1.length]; exact le1000 hl, fun p hp => ?_⟩
    have D1 := D.step x1 h1
    exact q _ _ (x1.trans (Same.ext (keep_new hp))) (h1.same (keep_new hp)) (rep_tup D1.dom hp r1)
  · cases e
theorem do_lst (ha : DAO X es os) : DO X (.List es pos) (lstF os) := by
  obtain ⟨t, pt, qt⟩ := ha
  refine ⟨_, pe_lst pt, fun B W O σ H ρ g s g' D e Q q => ?_⟩
  obtain ⟨⟨xs, g1⟩, e1, e⟩ := Option.bind_eq_some_iff.mp e
  split at e
  · rename_i hl
    cases e
    refine qt B W O σ H ρ g xs g1 D e1 _ fun vs H1 fp x1 h1 n1 f1 r1 => ⟨by rw [r1.length]; exact le1000 hl, fun p hp => ?_⟩
    have D1 := D.step x1 h1
    refine q _ _ (p :: fp) (x1.trans (Same.ext (keep_new hp))) (h1.same (keep_new hp)) ?_ ?_ (rep_own D1.dom D1.toDen0.was hp r1)
    · exact List.nodup_cons.mpr ⟨fun z => (f1 p z).2 hp, n1⟩
    · intro a ha
      rcases List.mem_cons.mp ha with m | m
      · subst m
        refine ⟨?_, by rw [upd_same]; simp⟩
        cases q : H a with
        | none => rfl
        | some o =>
          by_cases hw : a ∈ W.as
          · exact absurd hp (D1.dom a (D1.toDen0.was a hw))
          · rw [x1 a o hw q] at hp; cases hp
      · refine ⟨(f1 a m).1, ?_⟩
        rw [upd_ne (fun z => (f1 a m).2 (by rw [z]; exact hp))]
        exact (f1 a m).2
  · cases e
/-- something that lays a new list of shared items -/
theorem new_own {K : Fg} {B : Bs} {W : Wd} {O : List Addr} {σ : St} {H H1 : Hp} {ρ : Env} {g g1 : GS} {p : Addr} {vs : List V} {xs : List SV} {Q : VK} (D : Den K B W O σ H ρ g) (x1 : Ext W H H1) (h1 : GOk W B.1 H1 g1) (hp : H1 p = none) (r : RepSs K W (msk O H1) vs xs)
    (q : ∀ v H' fp, Ext W H H' → GOk W B.1 H' g1 → fp.Nodup → (∀ a ∈ fp, H a = none ∧ H' a ≠ none) → Rep K W (fp ++ O) H' v (.own (xs.map .sh)) fp → Q v H') : Q (.ref p) (upd H1 p (.lst vs)) := by
  have D1 := D.step x1 h1
  refine q _ _ [p] (x1.trans (Same.ext (keep_new hp))) (h1.same (keep_new hp)) (by simp) ?_ (rep_own (fp := []) D1.dom D1.toDen0.was hp (Reps.ofS r))
  intro a ha
  have m : a = p := by simpa using ha
  subst m
  refine ⟨?_, by rw [upd_same]; simp⟩
  cases q : H a with
  | none => rfl
  | some o =>
    by_cases hw : a ∈ W.as
    · exact absurd hp (D1.dom a (D1.toDen0.was a hw))
    · rw [x1 a o hw q] at hp; cases hp

/-! ### calls of one's own defs -/
abbrev FF := List SV → GS → Option (DV × GS)
def spD (K : Fg) (n : Nat) (F : FF) : Sp := fun vs H Q _ => ∃ W O ss g d g', vs.length = n ∧ RepSs K W (msk O H) vs ss ∧ (∀ a ∈ O, H a ≠ none) ∧ GOk W O H g ∧ F ss g = some (d, g') ∧
  ∀ v H' fp, Ext W H H' → GOk W O H' g' → fp.Nodup → (∀ a ∈ fp, H a = none ∧ H' a ≠ none) → Rep K W (fp ++ O) H' v d fp → Q v H'
def callF (F : FF) (fs : AF) : OF := fun ρ g => (fs ρ g).bind fun p => F p.1 p.2
theorem sp_of {K : Fg} {F : FF} {n : Nat} {B : Bs} {W : Wd} {O : List Addr} {σ : St} {H H1 : Hp} {ρ : Env} {g g1 g' : GS} {vs : List V} {ss : List SV} {d : DV} {Q : VK} {E : XK} (D : Den K B W O σ H ρ g) (x1 : Ext W H H1) (h1 : GOk W B.1 H1 g1) (r : RepSs K W (msk O H1) vs ss) (hn : ss.length = n) (e : F ss g1 = some (d, g'))
    (q : ∀ v H' fp, Ext W H H' → GOk W B.1 H' g' → fp.Nodup → (∀ a ∈ fp, H a = none ∧ H' a ≠ none) → Rep K W (fp ++ O) H' v d fp → Q v H') : spD K n F vs H1 Q E := by
  have D1 := D.step x1 h1
  refine ⟨W, O, ss, g1, d, g', by rw [r.length]; exact hn, r, D1.dom, h1.re D1.toDen0.was, e, fun v H' fp x2 h2 n2 f2 r2 => ?_⟩
  refine q v H' fp (x1.trans x2) (h2.re fun a ha => (D.gen.mem a ha).1) n2 (fun a m => ⟨?_, (f2 a m).2⟩) r2
  cases q : H a with
  | none => rfl
  | some o =>
    by_cases hw : a ∈ W.as
    · exact absurd (f2 a m).1 (D1.dom a (D1.toDen0.was a hw))
    · have := (f2 a m).1
      rw [x1 a o hw q] at this; cases this
def FF.ar (n : Nat) (F : FF) : Prop := ∀ ss g r, F ss g = some r → ss.length = n
theorem do_call {F : FF} {n k : Nat} {fd : FuncData} {fa : Addr} {ps : List Str} {x : Str} {p : Pos} (G : FnOk X.prog X.w X.K X.mg X.base CX0 k fa fd ps (spD X.K n F)) (ar : FF.ar n F) (hr : Room k X.A) (hg : Gl X x) (hm : X.mg x = some (.ref fa)) (hk : PySem.W.keepIn X.K (.ref fa) = true) (hb : Binds X.K fd ps [])
    (ha : DA X (e :: es) fs) (hdb : (x == ("__debug__" : Str)) = false := by decide) (he : starEach (e :: es) X.env = (false, eval e X.env) :: starEach es X.env := by rfl) (hpl : (backTo pos (starEach es X.env)).any (·.1) = false := by rfl) :
    DO X (.Call (.Name x p) (e :: es) [] pos) (callF F fs) := by
  obtain ⟨t, pt, qt⟩ := ha
  refine ⟨_, pe_call G hr hg hm hk hb .nil pass0 pt hdb he hpl, fun B W O σ H ρ g d g' D e Q q => ?_⟩
  obtain ⟨⟨ss, g1⟩, e1, e2⟩ := Option.bind_eq_some_iff.mp e
  refine qt B W O σ H ρ g ss g1 D e1 _ fun vs H1 x1 h1 r1 => ?_
  rw [List.append_nil]
  exact sp_of D x1 h1 r1 (ar _ _ _ e2) e2 q

/-! ### calls of built-ins -/
def RLS (K : Fg) (r : List V → Hp → VK → Prop) (k : List SV → Option SV) : Prop := ∀ W O H vs ss s, RepSs K W (msk O H) vs ss → k ss = some s → (∀ a ∈ O, H a ≠ none) → ∀ Q : VK, (∀ v H', Same H H' → RepS K W (msk O H') v s → Q v H') → r vs H Q
def c1 (k : List SV → Option SV) (fs : AF) : EF := fun ρ g => (fs ρ g).bind fun p => (k p.1).map fun s => (s, p.2)
theorem tCBs {K : Fg} {r : List V → Hp → VK → Prop} {k : List SV → Option SV} {t : TA} (hr : RLS K r k) (ha : DAs K t fs) : DEs K (tCB r t) (c1 k fs) := by
  intro B W O σ H ρ g s g' D e Q q
  obtain ⟨⟨ss, g1⟩, e1, e⟩ := Option.bind_eq_some_iff.mp e
  obtain ⟨s1, e3, e4⟩ := Option.map_eq_some_iff.mp e
  cases e4
  refine ha B W O σ H ρ g ss g1 D e1 _ fun vs H1 x1 h1 r1 => ?_
  have D1 := D.step x1 h1
  exact hr W O H1 vs ss _ r1 e3 D1.dom _ fun v H2 sm r2 => q v H2 (x1.trans (Same.ext sm)) (h1.same sm) r2
theorem de_callB {id : String} {x : Str} {p : Pos} {r : List V → Hp → VK → Prop} {k : List SV → Option SV} (hc : CallR X (.builtin id) r) (hr : RLS X.K r k) (hg : Gl X x) (hm : X.mg x = none) (hv : bootBuiltins x = some (.builtin id)) (ha : DA X (e :: es) fs) (hn : x ≠ "__name__" := by decide) (hdb : (x == ("__debug__" : Str)) = false := by decide)
    (he : starEach (e :: es) X.env = (false, eval e X.env) :: starEach es X.env := by rfl) (hpl : (backTo pos (starEach es X.env)).any (·.1) = false := by rfl) : DE X (.Call (.Name x p) (e :: es) [] pos) (c1 k fs) := by
  obtain ⟨t, pt, qt⟩ := ha
  exact ⟨_, pe_callB hc hg hm hv pt hn hdb he hpl, tCBs hr qt⟩
theorem de_callTy {T : String} {x : Str} {p : Pos} {r : List V → Hp → VK → Prop} {k : List SV → Option SV} (hc : CallR X (.type T) r) (hr : RLS X.K r k) (hg : Gl X x) (hm : X.mg x = none) (hv : bootBuiltins x = some (.type T)) (ha : DA X (e :: es) fs) (hn : x ≠ "__name__" := by decide) (hdb : (x == ("__debug__" : Str)) = false := by decide)
    (he : starEach (e :: es) X.env = (false, eval e X.env) :: starEach es X.env := by rfl) (hpl : (backTo pos (starEach es X.env)).any (·.1) = false := by rfl) : DE X (.Call (.Name x p) (e :: es) [] pos) (c1 k fs) := by
  obtain ⟨t, pt, qt⟩ := ha
  exact ⟨_, pe_callTy hc hg hm hv pt hn hdb he hpl, tCBs hr qt⟩
theorem de_callBfun {id : String} {x : Str} {p : Pos} {r : List V → Hp → VK → Prop} {k : List SV → Option SV} (hc : CallR X (.builtin id) r) (hr : RLS X.K r k) (hg : Gl X x) (hm : X.mg x = some (.builtin id)) (ha : DA X (e :: es) fs) (hdb : (x == ("__debug__" : Str)) = false := by decide)
    (he : starEach (e :: es) X.env = (false, eval e X.env) :: starEach es X.env := by rfl) (hpl : (backTo pos (starEach es X.env)).any (·.1) = false := by rfl) : DE X (.Call (.Name x p) (e :: es) [] pos) (c1 k fs) := by
  obtain ⟨t, pt, qt⟩ := ha
  exact ⟨_, pe_callBfun hc hg hm pt hdb he hpl, tCBs hr qt⟩
def hAbs : List SV → Option SV
  | [.int i] => some (.int (if i < 0 then -i else i))
  | _ => none
def hMax : List SV → Option SV
  | [.int i, .int j] => some (.int (if j > i then j else i))
  | _ => none
def hMin : List SV → Option SV
  | [.int i, .int j] => some (.int (if j < i then j else i))
  | _ => none
def hInt : List SV → Option SV
  | [.int i] => some (.int i)
  | [.bl k] => some (.int (if k then 1 else 0))
  | _ => none
def hGcd : List SV → Option SV
  | [.int i, .int j] => some (.int ((Nat.gcd i.natAbs j.natAbs : Nat) : Int))
  | _ => none
def hLcm : List SV → Option SV
  | [.int i, .int j] => if i.natAbs.log2 < 9000 ∧ j.natAbs.log2 < 9000 then some (.int ((Nat.lcm i.natAbs j.natAbs : Nat) : Int)) else none
  | _ => none
theorem reps1 {K : Fg} {W : Wd} {M : Hp} {vs : List V} {x : SV} (r : RepSs K W M vs [x]) : ∃ v, vs = [v] ∧ RepS K W M v x := by
  cases r with
  | cons h t => cases t; exact ⟨_, rfl, h⟩
theorem reps2 {K : Fg} {W : Wd} {M : Hp} {vs : List V} {x y : SV} (r : RepSs K W M vs [x, y]) : ∃ v w, vs = [v, w] ∧ RepS K W M v x ∧ RepS K W M w y := by
  cases r with
  | cons h t =>
    obtain ⟨w, rfl, r2⟩ := reps1 t
    exact ⟨_, _, rfl, h, r2⟩
theorem rl_abs {K : Fg} : RLS K (fun xs H Q => ∃ i, xs = [.int i] ∧ Q (.int (if i < 0 then -i else i)) H) hAbs := by
  intro W O H vs ss s r e hO Q q
  unfold hAbs at e
  split at e
  · cases e
    obtain ⟨v, rfl, r1⟩ := reps1 r
    cases r1
    exact ⟨_, rfl, q _ H (Same.refl H) .int⟩
  · cases e
theorem rl_max {K : Fg} : RLS K (fun xs H Q => ∃ i j, xs = [.int i, .int j] ∧ Q (.int (if j > i then j else i)) H) hMax := by
  intro W O H vs ss s r e hO Q q
  unfold hMax at e
  split at e
  · cases e
    obtain ⟨v, w, rfl, r1, r2⟩ := reps2 r
    cases r1; cases r2
    exact ⟨_, _, rfl, q _ H (Same.refl H) .int⟩
  · cases e
theorem rl_min {K : Fg} : RLS K (fun xs H Q => ∃ i j, xs = [.int i, .int j] ∧ Q (.int (if j < i then j else i)) H) hMin := by
  intro W O H vs ss s r e hO Q q
  unfold hMin at e
  split at e
  · cases e
    obtain ⟨v, w, rfl, r1, r2⟩ := reps2 r
    cases r1; cases r2
    exact ⟨_, _, rfl, q _ H (Same.refl H) .int⟩
  · cases e
theorem rl_int {K : Fg} : RLS K (fun xs H Q => (∃ i, xs = [.int i] ∧ Q (.int i) H) ∨ ∃ k, xs = [.bl k] ∧ Q (.int (if k then 1 else 0)) H) hInt := by
  intro W O H vs ss s r e hO Q q
  unfold hInt at e
  split at e
  · cases e
    obtain ⟨v, rfl, r1⟩ := reps1 r
    cases r1
    exact .inl ⟨_, rfl, q _ H (Same.refl H) .int⟩
  · cases e
    obtain ⟨v, rfl, r1⟩ := reps1 r
    cases r1
    exact .inr ⟨_, rfl, q _ H (Same.refl H) .int⟩
  · cases e
theorem rl_gcd {K : Fg} : RLS K rGcd hGcd := by
  intro W O H vs ss s r e hO Q q
  unfold hGcd at e
  split at e
  · cases e
    obtain ⟨v, w, rfl, r1, r2⟩ := reps2 r
    cases r1; cases r2
    exact ⟨_, _, rfl, q _ H (Same.refl H) .int⟩
  · cases e
def rLcm : List V → Hp → VK → Prop := fun vs H Q => ∃ a b : Int, vs = [.int a, .int b] ∧ a.natAbs.log2 < 9000 ∧ b.natAbs.log2 < 9000 ∧ Q (.int ((Nat.lcm a.natAbs b.natAbs : Nat) : Int)) H
theorem lcm_one (m : Nat) : Nat.lcm 1 m = m := by simp [Nat.lcm]
theorem cr_lcm : CallR X (.builtin "math.lcm") rLcm := by
  intro pins s σ H vs us Q I r h
  obtain ⟨a, b, rfl, ha, hb, q⟩ := h
  obtain ⟨t, u, rfl⟩ := Vals.int2 r
  have h1 := log2_lt_pow ha
  have h2 := log2_lt_pow hb
  have p9 : (2 : Nat) ^ 9000 ≥ 1 := Nat.two_pow_pos _
  have hm1 : (max 1 a.natAbs).log2 ≤ 9000 := by
    by_cases z : 1 ≤ a.natAbs
    · rw [Nat.max_eq_right z]; omega
    · rw [Nat.max_eq_left (by omega)]; decide
  have hm2 : (max a.natAbs b.natAbs).log2 ≤ 9000 := by
    by_cases z : a.natAbs ≤ b.natAbs
    · rw [Nat.max_eq_right z]; omega
    · rw [Nat.max_eq_left (by omega)]; omega
  have hl : a.natAbs.lcm b.natAbs ≤ a.natAbs * b.natAbs := by
    unfold Nat.lcm
    exact Nat.div_le_self _ _
  have hsz : (((((Nat.lcm 1 a.natAbs).lcm b.natAbs : Nat) : Int)).natAbs).log2 < bitsLine := by
    rw [lcm_one, Int.natAbs_natCast]
    have hb' : bitsLine = 134217728 := by decide
    rw [hb']
    refine Nat.lt_of_lt_of_le (log2_of_lt (k := 18000) (by decide) (Nat.lt_of_le_of_lt hl ?_)) (by decide)
    rw [show (18000 : Nat) = 9000 + 9000 from rfl, Nat.pow_add]
    exact Nat.mul_lt_mul'' h1 h2
  have key := PySem.W.mg_run_lcm a t b u (by omega) (by omega) hsz
  refine PySem.call_function_meets PySem.W.MGF.kind_lcm PySem.W.MGF.plain_lcm PySem.W.MGF.entry_lcm (PySem.W.MGF.args_lcm _ _) key.meets ?_
  rw [lcm_one]
  exact ⟨.int _, H, I.tok _, ⟨_, rfl⟩, q⟩
theorem rl_lcm {K : Fg} : RLS K rLcm hLcm := by
  intro W O H vs ss s r e hO Q q
  unfold hLcm at e
  split at e
  · split at e
    · rename_i hh
      cases e
      obtain ⟨v, w, rfl, r1, r2⟩ := reps2 r
      cases r1; cases r2
      exact ⟨_, _, rfl, hh.1, hh.2, q _ H (Same.refl H) .int⟩
    · cases e
  · cases e
end
end DL

/-! DL4: statements. -/
namespace DL
open PySem PySem.Spec L2
section
variable {K : Fg} {W : Wd} {H H' : Hp} {O O' : List Addr} {B : Bs} {σ : St} {ρ : Env} {g g' : GS} {v : V} {d d' : DV} {fp fq : List Addr}
theorem nodup_swap {a b : List Addr} (h : (a ++ b).Nodup) : (b ++ a).Nodup := by
  rw [List.nodup_append] at h ⊢
  exact ⟨h.2.1, h.1, fun x hx y hy e => h.2.2 y hy x hx e.symm⟩
/-- a slot taken out -/
theorem ERep.take : ∀ {σ : St} {ρ : Env} {fe : List Addr} {i : Nat} {d : DV}, ERep K W O H σ ρ fe → ρ[i]? = some (some d) → fe.Nodup →
    ∃ v fq fr, σ[i]? = some (some v) ∧ Rep K W O H v d fq ∧ ERep K W O H σ (ρ.set i none) fr ∧ (fq ++ fr).Nodup ∧ ∀ a, a ∈ fq ++ fr → a ∈ fe
  | _, _, _, _, _, .nil, h, _ => by simp at h
  | _, _, _, 0, _, .non t, h, _ => by cases (Option.some.inj h)
  | _, _, fe, i + 1, _, .non t, h, hn => by
    obtain ⟨v, fq, fr, e, r, t', n, hs⟩ := ERep.take (i := i) t (by simpa using h) hn
    exact ⟨v, fq, fr, by simpa using e, r, .non t', n, hs⟩
  | _, _, _, 0, _, .som r t, h, hn => by
    cases (Option.some.inj (Option.some.inj h))
    exact ⟨_, _, _, rfl, r, .non t, hn, fun a m => m⟩
  | _, _, _, i + 1, _, .som (fp := f1) (fq := f2) r t, h, hn => by
    have hn' := List.nodup_append.mp hn
    obtain ⟨v, fq, fr, e, r', t', n, hs⟩ := ERep.take (i := i) t (by simpa using h) hn'.2.1
    have n' := List.nodup_append.mp n
    refine ⟨v, fq, f1 ++ fr, by simpa using e, r', .som r t', ?_, fun a m => ?_⟩
    · rw [List.nodup_append]
      refine ⟨n'.1, ?_, fun a ha b hb z => ?_⟩
      · rw [List.nodup_append]
        exact ⟨hn'.1, n'.2.1, fun a ha b hb => hn'.2.2 a ha b (hs b (List.mem_append_right _ hb))⟩
      · rcases List.mem_append.mp hb with hb | hb
        · exact hn'.2.2 b hb a (hs a (List.mem_append_left _ ha)) z.symm
        · exact n'.2.2 a ha b hb z
    · rcases List.mem_append.mp m with m | m
      · exact List.mem_append_right _ (hs a (List.mem_append_left _ m))
      · rcases List.mem_append.mp m with m | m
        · exact List.mem_append_left _ m
        · exact List.mem_append_right _ (hs a (List.mem_append_right _ m))
/-- a slot put back -/
theorem ERep.put {v : V} {d : DV} {fq : List Addr} (r : Rep K W O H v d fq) : ∀ {σ : St} {ρ : Env} {fr : List Addr} {i : Nat}, ERep K W O H σ (ρ.set i none) fr → i < ρ.length → σ[i]? = some (some v) → (fq ++ fr).Nodup →
    ∃ fe, ERep K W O H σ (ρ.set i (some d)) fe ∧ fe.Nodup ∧ ∀ a ∈ fe, a ∈ fq ++ fr
  | σ, [], fr, i, t, h, _, _ => by simp at h
  | [], x :: ρ, fr, i, t, h, e, _ => by simp at e
  | y :: σ, x :: ρ, fr, 0, t, h, e, hn => by
    cases t with
    | non t =>
      cases (Option.some.inj e)
      exact ⟨_, .som r t, hn, fun a m => m⟩
  | y :: σ, none :: ρ, fr, i + 1, t, h, e, hn => by
    cases t with
    | non t =>
      obtain ⟨fe, h1, h2, h3⟩ := ERep.put r (i := i) t (by simpa using h) (by simpa using e) hn
      exact ⟨fe, .non h1, h2, h3⟩
  | y :: σ, some x :: ρ, fr, i + 1, t, h, e, hn => by
    cases t with
    | som r1 t =>
      rename_i v1 f1 f2
      have n1 := List.nodup_append.mp hn
      have n2 := List.nodup_append.mp n1.2.1
      obtain ⟨fe, h1, h2, h3⟩ := ERep.put r (i := i) t (by simpa using h) (by simpa using e) (by
        rw [List.nodup_append]
        exact ⟨n1.1, n2.2.1, fun a ha b hb => n1.2.2 a ha b (List.mem_append_right _ hb)⟩)
      refine ⟨f1 ++ fe, .som r1 h1, ?_, fun a m => ?_⟩
      · rw [List.nodup_append]
        refine ⟨n2.1, h2, fun a ha b hb z => ?_⟩
        rcases List.mem_append.mp (h3 b hb) with m | m
        · exact n1.2.2 b m a (List.mem_append_left _ ha) z.symm
        · exact n2.2.2 a ha b m z
      · rcases List.mem_append.mp m with m | m
        · exact List.mem_append_right _ (List.mem_append_left _ m)
        · rcases List.mem_append.mp (h3 a m) with m | m
          · exact List.mem_append_left _ m
          · exact List.mem_append_right _ (List.mem_append_right _ m)
theorem lt_of_slot {i : Nat} (h : ρ[i]? = some (some d)) : i < ρ.length := (List.getElem?_eq_some_iff.mp h).1
/-- an owned address changes: all that does not hold it stays -/
theorem msk_upd {a : Addr} {o : HO} (ha : a ∈ O) : msk O (upd H a o) = msk O H := by
  funext b
  unfold msk
  by_cases hb : b ∈ O
  · rw [if_pos hb, if_pos hb]
  · rw [if_neg hb, if_neg hb, upd_ne fun z => hb (by rw [z]; exact ha)]
mutual
theorem Rep.upd {a : Addr} {o : HO} (ha : a ∈ O) : ∀ {v : V} {d : DV} {fp : List Addr}, a ∉ fp → Rep K W O H v d fp → Rep K W O (upd H a o) v d fp
  | _, _, _, _, .sh h => .sh (by rw [msk_upd ha]; exact h)
  | _, _, _, hn, .own h1 h2 h3 r => .own h1 h2 (by rw [upd_ne fun z => hn (by rw [z]; exact List.mem_cons_self)]; exact h3) (Reps.upd ha (fun m => hn (List.mem_cons_of_mem _ m)) r)
theorem Reps.upd {a : Addr} {o : HO} (ha : a ∈ O) : ∀ {vs : List V} {ds : List DV} {fp : List Addr}, a ∉ fp → Reps K W O H vs ds fp → Reps K W O (upd H a o) vs ds fp
  | _, _, _, _, .nil => .nil
  | _, _, _, hn, .cons h t => .cons (Rep.upd ha (fun m => hn (List.mem_append_left _ m)) h) (Reps.upd ha (fun m => hn (List.mem_append_right _ m)) t)
end
theorem ERep.upd {a : Addr} {o : HO} (ha : a ∈ O) : ∀ {σ : St} {ρ : Env} {fp : List Addr}, a ∉ fp → ERep K W O H σ ρ fp → ERep K W O (upd H a o) σ ρ fp
  | _, _, _, _, .nil => .nil
  | _, _, _, hn, .non t => .non (ERep.upd ha hn t)
  | _, _, _, hn, .som h t => .som (Rep.upd ha (fun m => hn (List.mem_append_left _ m)) h) (ERep.upd ha (fun m => hn (List.mem_append_right _ m)) t)
theorem Den0.upd (D : Den0 B W O H g) {a : Addr} {o : HO} (hw : a ∉ W.as) (hb : B.2 a = none) : Den0 B W O (upd H a o) g where
  base := fun b x nb e => by
    rw [upd_ne fun z => by subst z; rw [hb] at e; cases e]
    exact D.base b x nb e
  sub := D.sub
  new := D.new
  dom := fun b m => by
    by_cases z : b = a
    · subst z; rw [upd_same]; simp
    · rw [upd_ne z]; exact D.dom b m
  gen := by
    have := D.gen
    match W, hw, this with
    | none, _, _ => trivial
    | some (x, y, z), hw, h =>
      obtain ⟨h1, h2, h3, n1, n2, n3, h4, h5, h6⟩ := h
      simp [Wd.as] at hw
      exact ⟨h1, h2, h3, n1, n2, n3, by rw [upd_ne fun q => hw.1 q.symm]; exact h4, by rw [upd_ne fun q => hw.2.1 q.symm]; exact h5, by rw [upd_ne fun q => hw.2.2 q.symm]; exact h6⟩
  bdom := D.bdom
/-- the state with a slot's own list at hand -/
theorem Den.own (D : Den K B W O σ H ρ g) {i : Nat} {ds : List DV} (h : ρ[i]? = some (some (.own ds))) :
    ∃ a vs fq fr, σ[i]? = some (some (.ref a)) ∧ a ∈ O ∧ a ∉ W.as ∧ H a = some (.lst vs) ∧ Reps K W O H vs ds fq ∧ ERep K W O H σ (ρ.set i none) fr ∧ ((a :: fq) ++ fr).Nodup ∧ ∀ b ∈ (a :: fq) ++ fr, B.2 b = none := by
  obtain ⟨fe, re, n, hh⟩ := D.env
  obtain ⟨v, fq, fr, e, r, t, n', hs⟩ := re.take h n
  cases r with
  | own ha hw hl rs => exact ⟨_, _, _, fr, e, ha, hw, hl, rs, t, n', fun b m => hh b (hs b m)⟩
/-- .. and the list stored anew: the new items stand apart -/
theorem Den.own_put (D : Den0 B W O H g) {a : Addr} {vs' : List V} {ds' : List DV} {fq' fr : List Addr} {i : Nat} (hi : i < ρ.length) (hσ : σ[i]? = some (some (.ref a))) (ha : a ∈ O) (hw : a ∉ W.as)
    (t : ERep K W O H σ (ρ.set i none) fr) (rs : Reps K W O H vs' ds' fq') (n : ((a :: fq') ++ fr).Nodup) (hb : ∀ b ∈ (a :: fq') ++ fr, B.2 b = none) :
    Den K B W O σ (upd H a (.lst vs')) (ρ.set i (some (.own ds'))) g := by
  have n1 := List.nodup_append.mp n
  have n2 := List.nodup_cons.mp n1.1
  have har : a ∉ fr := fun m => n1.2.2 a List.mem_cons_self a m rfl
  have hba : B.2 a = none := hb a (List.mem_append_left _ List.mem_cons_self)
  obtain ⟨fe, h1, h2, h3⟩ := ERep.put (.own ha hw upd_same (rs.upd ha n2.1)) (t.upd ha har) hi hσ n
  exact { D.upd hw hba with env := ⟨fe, h1, h2, fun b m => hb b (h3 b m)⟩ }
theorem keep_upd {a : Addr} {o : HO} (ha : a ∈ O) : Keep O H O (upd H a o) := by
  unfold Keep
  rw [msk_upd ha]
  exact Same.refl _
end

/-! ### names stored, returns, blocks -/
def setD (i : Nat) (f : OF) : SF := fun ρ g => (f ρ g).map fun p => .nx (ρ.set i (some p.1)) p.2
def retD (f : OF) : SF := fun ρ g => (f ρ g).map fun p => .rt p.1 p.2
def exprD (f : EF) : SF := fun ρ g => (f ρ g).map fun p => .nx ρ p.2
def skipD : SF := fun ρ g => some (.nx ρ g)
def brkD : SF := fun ρ g => some (.bk ρ g)
def cntD : SF := fun ρ g => some (.ct ρ g)
def noD : SF := fun _ _ => none
def seqD (a b : SF) : SF := fun ρ g => (a ρ g).bind fun r => match r with
  | .nx ρ' g' => b ρ' g'
  | .rt d g' => some (.rt d g')
  | .bk ρ' g' => some (.bk ρ' g')
  | .ct ρ' g' => some (.ct ρ' g')
def ifD (c : TF) (a b : SF) : SF := fun ρ g => (c ρ g).bind fun p => if p.1 = true then a ρ p.2 else b ρ p.2
theorem FlOk.keep {K : Fg} {B : Bs} {W : Wd} {O O1 : List Addr} {H H1 : Hp} {D : Ends} {r : Fl} (k : Keep O H O1 H1) (h : FlOk K B W O H D r) : FlOk K B W O1 H1 D r := by
  cases r with
  | nx ρ g => exact fun σ' O' H' k' => h σ' O' H' (k.trans k')
  | bk ρ g => exact fun σ' O' H' k' => h σ' O' H' (k.trans k')
  | ct ρ g => exact fun σ' O' H' k' => h σ' O' H' (k.trans k')
  | rt d g => exact h
section
variable {X : Cx} {e a b c : Expr} {s : Stmt} {ss : List Stmt} {f fa fb : EF} {h : OF} {c1 : TF} {s1 s2 : SF} {pos : Pos}
theorem DenV.set {K : Fg} {B : Bs} {W : Wd} {O : List Addr} {σ : St} {H : Hp} {ρ : Env} {g : GS} {v : V} {d : DV} (D : DenV K B W O σ H ρ g v d) (i : Nat) : Den K B W O (σ.set i (some v)) H (ρ.set i (some d)) g := by
  obtain ⟨fe, fp, re, r, n, hb⟩ := D.env
  obtain ⟨fq, h1, h2, h3⟩ := ERep.set r i re n
  exact { D.toDen0 with env := ⟨fq, h1, h2, fun a m => hb a (List.mem_append.mpr (h3 a m))⟩ }
theorem ds_set {i : Nat} {x : Str} {pos' : Pos} (hN : X.N.Nodup) (hi : X.N[i]? = some x) (hx : Loc X.env.scope x) (he : DO X e h) (hs : swapsWith e (some (.Name x pos')) pos.line X.env = pure false := by rfl) (hf : X.fn x = true ∨ X.env.scope.names.lookup x = some .local := by first | exact .inl rfl | exact .inr rfl | assumption) :
    DS X (.Assign [.Name x pos'] e pos) (setD i h) := by
  obtain ⟨t, pt, qt⟩ := he
  refine ⟨_, ps_set hN hi hx pt hs hf, fun B W O σ H ρ g r D e E q => ?_⟩
  obtain ⟨⟨d, g1⟩, e1, e2⟩ := Option.map_eq_some_iff.mp e
  cases e2
  refine qt B W O σ H ρ g d g1 D e1 _ fun v H1 fp x1 h1 n1 f1 r1 => ?_
  have D2 := D.withV x1 h1 n1 f1 r1
  exact q _ _ H1 (D.toDen0.keeps x1 fun a z => (f1 a z).1) (D2.set i)
theorem ds_ret (he : DO X e h) : DS X (.Return (some e) pos) (retD h) := by
  obtain ⟨t, pt, qt⟩ := he
  refine ⟨_, ps_ret pt, fun B W O σ H ρ g r D e E q => ?_⟩
  obtain ⟨⟨d, g1⟩, e1, e2⟩ := Option.map_eq_some_iff.mp e
  cases e2
  refine qt B W O σ H ρ g d g1 D e1 _ fun v H1 fp x1 h1 n1 f1 r1 => ?_
  exact q v _ H1 fp (D.toDen0.grow x1 h1 f1) r1 n1 fun a m => D.toDen0.fresh (f1 a m).1
/-- return of an own slot -/
def retV (i : Nat) : SF := fun ρ g => match ρ[i]? with
  | some (some d) => some (.rt d g)
  | _ => none
theorem ds_retv (i : Nat) {x : Str} {p' : Pos} (hN : X.N[i]? = some x := by rfl) (hv : Vis X.env.scope x := by first | exact Or.inl rfl | exact Or.inr (Or.inl rfl) | exact Or.inr (Or.inr rfl)) (hd : (x == ("__debug__" : Str)) = false := by decide)
    (hcd : (x == ("__classdict__" : Str)) = false := by decide) : DS X (.Return (some (.Name x p')) pos) (retV i) := by
  refine ⟨_, ps_ret (pe_var hN hv hd hcd), fun B W O σ H ρ g r D e E q => ?_⟩
  unfold retV at e
  split at e
  · rename_i d h1
    cases e
    obtain ⟨fe, re, n, hh⟩ := D.env
    obtain ⟨v, fq, fr, e1, r, t, n', hs⟩ := re.take h1 n
    exact ⟨v, e1, q v O H fq D.toDen0 r (List.nodup_append.mp n').1 fun a m => hh a (hs a (List.mem_append_left _ m))⟩
  · cases e
theorem ds_retN : DS X (.Return none pos) (retD (oS (kS .non))) :=
  ⟨_, ps_retN, fun B W O σ H ρ g r D e E q => by cases e; exact q .non O H [] D.toDen0 (.sh .non) List.nodup_nil fun a m => by simp at m⟩
theorem ds_expr (he : DE X e f) (hs : swapsWith e none pos.line X.env = pure false := by rfl) : DS X (.Expr e pos) (exprD f) := by
  obtain ⟨t, pt, qt⟩ := he
  refine ⟨_, ps_expr pt hs, fun B W O σ H ρ g r D e E q => ?_⟩
  obtain ⟨⟨d, g1⟩, e1, e2⟩ := Option.map_eq_some_iff.mp e
  cases e2
  refine qt B W O σ H ρ g d g1 D e1 _ fun v H1 x1 h1 r1 => ?_
  exact q σ O H1 (D.toDen0.keep x1) (D.step x1 h1)
theorem ds_pass : DS X (.Pass pos) skipD := ⟨_, ps_pass, fun B W O σ H ρ g r D e E q => by cases e; exact q σ O H Keep.refl D⟩
theorem ds_break : DS X (.Break pos) brkD := ⟨_, ps_break, fun B W O σ H ρ g r D e E q => by cases e; exact q σ O H Keep.refl D⟩
theorem ds_continue : DS X (.Continue pos) cntD := ⟨_, ps_continue, fun B W O σ H ρ g r D e E q => by cases e; exact q σ O H Keep.refl D⟩
theorem ds_never : DS X s noD := ⟨_, ps_never, fun B W O σ H ρ g r D e E q => by cases e⟩
theorem ds_doc {x j pos pos'} : DS X (.Expr (.Constant (.str x) j pos) pos') skipD := ⟨_, ps_doc, fun B W O σ H ρ g r D e E q => by cases e; exact q σ O H Keep.refl D⟩
theorem dss_nil : DSs X [] skipD := ⟨_, pss_nil, fun B W O σ H ρ g r D e E q => by cases e; exact q σ O H Keep.refl D⟩
theorem dss_one (hs : DS X s s1) : DSs X [s] s1 := by
  obtain ⟨t, pt, qt⟩ := hs
  exact ⟨t, pss_one pt, qt⟩
theorem dss_cons (hs : DS X s s1) (hr : DSs X ss s2) : DSs X (s :: ss) (seqD s1 s2) := by
  obtain ⟨t, pt, qt⟩ := hs
  obtain ⟨u, pu, qu⟩ := hr
  refine ⟨_, pss_cons pt pu, fun B W O σ H ρ g r D e E q => ?_⟩
  obtain ⟨r1, e1, e2⟩ := Option.bind_eq_some_iff.mp e
  refine qt B W O σ H ρ g r1 D e1 _ ?_
  cases r1 with
  | nx ρ' g' => exact fun σ' O' H' k D' => qu B W O' σ' H' ρ' g' r D' e2 E (q.keep k)
  | rt d g' => cases e2; exact q
  | bk ρ' g' => cases e2; exact q
  | ct ρ' g' => cases e2; exact q
theorem ds_if (hc : DT X c c1) (ha : DSs X ss s1) {sb : List Stmt} (hb : DSs X sb s2) : DS X (.If c ss sb pos) (ifD c1 s1 s2) := by
  obtain ⟨t, pt, qt⟩ := hc
  obtain ⟨u, pu, qu⟩ := ha
  obtain ⟨w, pw, qw⟩ := hb
  refine ⟨_, ps_if pt pu pw, fun B W O σ H ρ g r D e E q => ?_⟩
  obtain ⟨⟨x, g1⟩, e1, e⟩ := Option.bind_eq_some_iff.mp e
  refine qt B W O σ H ρ g x g1 D e1 _ fun H1 x1 h1 => ?_
  cases x with
  | true =>
    rw [if_pos rfl] at e ⊢
    exact qu B W O σ H1 ρ g1 r (D.step x1 h1) e E (q.keep (D.toDen0.keep x1))
  | false =>
    dsimp only at e
    rw [if_neg Bool.false_ne_true] at e ⊢
    exact qw B W O σ H1 ρ g1 r (D.step x1 h1) e E (q.keep (D.toDen0.keep x1))

/-! ### ghost: a slot is frozen -/
def frzEnv (i : Nat) (ρ : Env) : Env := match ρ[i]? with
  | some (some d) => ρ.set i (some (.sh d.frz))
  | _ => ρ
def frzD (i : Nat) (a : SF) : SF := fun ρ g => (a ρ g).map fun r => match r with
  | .nx ρ' g' => .nx (frzEnv i ρ') g'
  | r => r
theorem Den.frz {K : Fg} {B : Bs} {W : Wd} {O : List Addr} {σ : St} {H : Hp} {ρ : Env} {g : GS} (D : Den K B W O σ H ρ g) (i : Nat) : ∃ O', Keep O H O' H ∧ Den K B W O' σ H (frzEnv i ρ) g := by
  unfold frzEnv
  split
  · rename_i d h1
    obtain ⟨fe, re, n, hh⟩ := D.env
    obtain ⟨v, fq, fr, e1, r, t, n', hs⟩ := re.take h1 n
    have n1 := List.nodup_append.mp n'
    have sub : ∀ b, b ∈ O.filter (fun x => decide (x ∉ fq)) → b ∈ O := fun b m => (List.mem_filter.mp m).1
    have inO : ∀ b, b ∈ O → b ∉ fq → b ∈ O.filter (fun x => decide (x ∉ fq)) := fun b m n => List.mem_filter.mpr ⟨m, decide_eq_true n⟩
    have nq : ∀ b, b ∈ fq → b ∉ O.filter (fun x => decide (x ∉ fq)) := fun b m z => of_decide_eq_true (List.mem_filter.mp z).2 m
    have keep : Keep O H (O.filter (fun x => decide (x ∉ fq))) H := msk_le sub
    have r' : RepS K W (msk (O.filter (fun x => decide (x ∉ fq))) H) v d.frz := r.freeze sub nq
    have t' := t.mono (O' := O.filter (fun x => decide (x ∉ fq))) keep Ext.refl (fun a m => inO a (t.inO a m).1 fun z => n1.2.2 a z a m rfl)
    obtain ⟨fe', h2, h3, h4⟩ := ERep.put (fq := []) (Rep.sh r') t' (lt_of_slot h1) e1 (by simpa using n1.2.1)
    refine ⟨_, keep, ?_⟩
    exact { base := D.base, sub := fun a m => inO a (D.sub a m) fun z => D.bdom a m (hh a (hs a (List.mem_append_left _ z))), new := fun a m => D.new a (sub a m), dom := fun a m => D.dom a (sub a m), gen := D.gen, bdom := D.bdom
            env := ⟨fe', h2, h3, fun a m => hh a (hs a (List.mem_append_right _ (by simpa using h4 a m)))⟩ }
  · exact ⟨O, Keep.refl, D⟩
theorem ds_frz (i : Nat) (hs : DS X s s1) : DS X s (frzD i s1) := by
  obtain ⟨t, pt, qt⟩ := hs
  refine ⟨t, pt, fun B W O σ H ρ g r D e E q => ?_⟩
  obtain ⟨r1, e1, e2⟩ := Option.map_eq_some_iff.mp e
  subst e2
  refine qt B W O σ H ρ g r1 D e1 _ ?_
  cases r1 with
  | nx ρ' g' =>
    intro σ' O' H' k D'
    obtain ⟨O2, k2, D2⟩ := D'.frz i
    exact q σ' O2 H' (k.trans k2) D2
  | rt d g' => exact q
  | bk ρ' g' => exact q
  | ct ρ' g' => exact q

/-! ### methods of an own list in a slot -/
def appD (i : Nat) (f : OF) : SF := fun ρ g => match ρ[i]? with
  | some (some (.own ds)) => (f ρ g).bind fun p => if lenOk ds.length = true then some (.nx (ρ.set i (some (.own (ds ++ [p.1])))) p.2) else none
  | _ => none
theorem ds_append (i : Nat) {x : Str} {p1 p2 p3 : Pos} (he : DO X e h) (hN : X.N[i]? = some x := by rfl) (hv : Vis X.env.scope x := by first | exact Or.inl rfl | exact Or.inr (Or.inl rfl) | exact Or.inr (Or.inr rfl)) (hd : (x == ("__debug__" : Str)) = false := by decide)
    (hcd : (x == ("__classdict__" : Str)) = false := by decide)
    (hbase : attributeBase (.Name x p1) "append" X.env (eval (.Name x p1) X.env) = eval (.Name x p1) X.env := by rfl)
    (hfew : ((backTo p3 (starEach [e] X.env)).all (fun x => !x.1) && (backToKw p3 (keywordEach [] X.env)).all (fun x => x.1.isSome)
      && decide ([e].length + ([] : List Keyword).length + (if ([] : List Keyword).isEmpty then 0 else 1) < 30)) = true := by rfl)
    (hline : (p2.endLine == p3.line) = true := by rfl) (hs : starEach [e] X.env = (false, eval e X.env) :: starEach [] X.env := by rfl) (hplain : (backTo p3 (starEach [] X.env)).any (·.1) = false := by rfl)
    (hs2 : swapsWith (.Call (.Attribute (.Name x p1) "append" p2) [e] [] p3) none pos.line X.env = pure false := by rfl) :
    DS X (.Expr (.Call (.Attribute (.Name x p1) "append" p2) [e] [] p3) pos) (appD i h) := by
  obtain ⟨t, pt, qt⟩ := he
  refine ⟨_, ps_expr (pe_bm PySem.F.plainAttrs_list PySem.F.slot_list_append PySem.F.type_list_append mt_append (pe_var hN hv hd hcd) (pa_cons pt pa_nil hs) hbase hfew hline hs hplain) hs2, fun B W O σ H ρ g r D e E q => ?_⟩
  unfold appD at e
  split at e
  · rename_i ds h1
    obtain ⟨⟨d, g1⟩, e1, e⟩ := Option.bind_eq_some_iff.mp e
    split at e
    · rename_i hl
      cases e
      obtain ⟨a, vs, fq, fr, eσ, ha, hw, hv', rs, rt, n, hb⟩ := D.own h1
      refine ⟨.ref a, eσ, .inl ⟨rfl, vs, .inl (.inl hv')⟩, ?_⟩
      refine qt B W O σ H ρ g d g1 D e1 _ fun v H1 fp x1 hg1 n1 f1 r1 => ?_
      have D1 := D.toDen0.grow (fp := fp) x1 hg1 f1
      have kp := D.toDen0.keeps x1 fun a z => (f1 a z).1
      have hv1 : H1 a = some (.lst vs) := x1 a _ hw hv'
      refine ⟨a, vs, v, rfl, rfl, hv1, ?_, ?_⟩
      · rw [rs.length]
        have z : sizeLine = 16777216 := by decide
        have := lenOk_lt hl
        omega
      have nf : ∀ b ∈ fp, b ∉ (a :: fq) ++ fr := fun b m z => by
        have : H b ≠ none := by
          rcases List.mem_append.mp z with z | z
          · rcases List.mem_cons.mp z with z | z
            · subst z; rw [hv']; simp
            · exact (rs.inO b z).2.2
          · exact (rt.inO b z).2.2
        exact this (f1 b m).1
      have n' := List.nodup_append.mp n
      have nc := List.nodup_cons.mp n'.1
      refine q σ (fp ++ O) _ (kp.trans (keep_upd (List.mem_append_right _ ha))) ?_
      refine Den.own_put D1 (lt_of_slot h1) eσ (List.mem_append_right _ ha) hw (rt.mono kp x1 fun b m => List.mem_append_right _ (rt.inO b m).1) ((rs.mono kp x1 fun b m => List.mem_append_right _ (rs.inO b m).1).append (.cons r1 .nil)) ?_ fun b m => ?_
      · rw [List.append_nil, List.nodup_append]
        refine ⟨?_, n'.2.1, fun x hx y hy z => ?_⟩
        · rw [← List.cons_append, List.nodup_append]
          exact ⟨n'.1, n1, fun x hx y hy z => nf y hy (by rw [← z]; exact List.mem_append_left _ hx)⟩
        · rcases List.mem_cons.mp hx with m | m
          · exact n'.2.2 x (by rw [m]; exact List.mem_cons_self) y hy z
          · rcases List.mem_append.mp m with m | m
            · exact n'.2.2 x (List.mem_cons_of_mem _ m) y hy z
            · exact nf x m (by rw [z]; exact List.mem_append_right _ hy)
      · rw [List.append_nil] at m
        rcases List.mem_append.mp m with m | m
        · rcases List.mem_cons.mp m with m | m
          · subst m; exact hb _ (List.mem_append_left _ List.mem_cons_self)
          · rcases List.mem_append.mp m with m | m
            · exact hb b (List.mem_append_left _ (List.mem_cons_of_mem _ m))
            · exact D.toDen0.fresh (f1 b m).1
        · exact hb b (List.mem_append_right _ m)
    · cases e
  · cases e
end
end DL

/-! DL5: targets, loops, comprehensions, defs. -/
namespace DL
open PySem PySem.Spec L2

/-! ### targets -/
def gN (i : Nat) : GF := fun d ρ g => some (ρ.set i (some d), g)
abbrev GLF := List SV → Env → GS → Option (Env × GS)
def DGLs (K : Fg) (t : TGs) (f : GLF) : Prop := ∀ B W O σ H ρ g vs ss ρ' g', Den K B W O σ H ρ g → RepSs K W (msk O H) vs ss → f ss ρ g = some (ρ', g') →
  ∀ Q : St → Hp → Prop, (∀ σ' O' H', Keep O H O' H' → Den K B W O' σ' H' ρ' g' → Q σ' H') → t vs σ H Q
def DGL (X : Cx) (ts : List Expr) (f : GLF) : Prop := ∃ t, PGs X ts t ∧ DGLs X.K t f
def gLN : GLF := fun ss ρ g => match ss with
  | [] => some (ρ, g)
  | _ => none
def gLC (f : GF) (fs : GLF) : GLF := fun ss ρ g => match ss with
  | s :: ss => (f (.sh s) ρ g).bind fun p => fs ss p.1 p.2
  | [] => none
def gT (n : Nat) (fs : GLF) : GF := fun d ρ g => match d with
  | .sh (.tup xs) => if xs.length = n then fs xs ρ g else none
  | _ => none
section
variable {X : Cx} {e a b c tg : Expr} {es : List Expr} {s : Stmt} {ss : List Stmt} {f fa fb : EF} {h : OF} {c1 : TF} {s1 s2 sb : SF} {pos : Pos} {gf : GF} {gs : GLF}
theorem dg_name {i : Nat} {x : Str} (hN : X.N.Nodup) (hi : X.N[i]? = some x) (hx : Loc X.env.scope x) (hf : X.fn x = true ∨ X.env.scope.names.lookup x = some .local := by first | exact .inl rfl | exact .inr rfl | assumption) : DG X (.Name x pos) (gN i) :=
  ⟨_, pg_name hN hi hx hf, fun B W O σ H ρ g d v ρ' g' D e Q q => by
    cases e
    exact q _ O H Keep.refl (D.set i)⟩
theorem dgl_nil : DGL X [] gLN := by
  refine ⟨_, pgs_nil, fun B W O σ H ρ g vs ss ρ' g' D r e Q q => ?_⟩
  cases r with
  | nil => cases e; exact ⟨rfl, q σ O H Keep.refl D⟩
  | cons _ _ => cases e
theorem dgl_cons (h1 : DG X e gf) (h2 : DGL X es gs) (hs : (assignEach (e :: es) X.env).map (·.2) = assign e X.env :: (assignEach es X.env).map (·.2) := by rfl) : DGL X (e :: es) (gLC gf gs) := by
  obtain ⟨t, pt, qt⟩ := h1
  obtain ⟨u, pu, qu⟩ := h2
  refine ⟨_, pgs_cons pt pu hs, fun B W O σ H ρ g vs ss ρ' g' D r e Q q => ?_⟩
  cases r with
  | nil => cases e
  | cons r rr =>
    obtain ⟨⟨ρ1, g1⟩, e1, e2⟩ := Option.bind_eq_some_iff.mp e
    refine ⟨_, _, rfl, qt B W O σ H ρ g _ _ ρ1 g1 (DenV.withS D r) e1 _ fun σ1 O1 H1 k1 D1 => ?_⟩
    exact qu B W O1 σ1 H1 ρ1 g1 _ _ ρ' g' D1 (rr.mono k1) e2 _ fun σ2 O2 H2 k2 D2 => q σ2 O2 H2 (k1.trans k2) D2
theorem DenV.den {K : Fg} {B : Bs} {W : Wd} {O : List Addr} {σ : St} {H : Hp} {ρ : Env} {g : GS} {v : V} {d : DV} (D : DenV K B W O σ H ρ g v d) : Den K B W O σ H ρ g := by
  obtain ⟨fe, fp, re, r, n, hb⟩ := D.env
  exact { D.toDen0 with env := ⟨fe, re, (List.nodup_append.mp n).1, fun a m => hb a (List.mem_append_left _ m)⟩ }
theorem dg_tup {k n : Nat} (hc : X.calm = true) (h : DGL X es gs) (hn : (assignEach es X.env).length = n := by rfl) (hst : (assignEach es X.env).findIdx? (·.1) = none := by rfl) : DG X (.Tuple es k pos) (gT n gs) := by
  obtain ⟨t, pt, qt⟩ := h
  refine ⟨_, pg_tup hc pt hn hst, fun B W O σ H ρ g d v ρ' g' D e Q q => ?_⟩
  unfold gT at e
  split at e
  · rename_i xs
    split at e
    · rename_i hl
      have D' := D.den
      obtain ⟨fe, fp, re, r, nn, hb⟩ := D.env
      cases r with
      | sh r =>
        cases r with
        | tup hq rs => exact ⟨_, _, rfl, sqT_mono msk_sub hq, by rw [rs.length]; exact hl, qt B W O σ H ρ g _ xs ρ' g' D' rs e Q q⟩
    · cases e
  · cases e
/-- target = value -/
def asgD (h : OF) (gf : GF) : SF := fun ρ g => (h ρ g).bind fun p => (gf p.1 ρ p.2).map fun q => .nx q.1 q.2
theorem ds_asg (he : DO X e h) (hg : DG X tg gf) (hs : swapsWithSole [tg] e pos.line X.env = pure false := by rfl) (hw : swappedStores [tg] e X.env = pure none := by rfl)
    (h1 : (assignEach [tg] X.env).map (·.2) = [assign tg X.env] := by rfl) : DS X (.Assign [tg] e pos) (asgD h gf) := by
  obtain ⟨t, pt, qt⟩ := he
  obtain ⟨u, pu, qu⟩ := hg
  refine ⟨_, ps_asg pt pu hs hw h1, fun B W O σ H ρ g r D e E q => ?_⟩
  obtain ⟨⟨d, g1⟩, e1, e2⟩ := Option.bind_eq_some_iff.mp e
  obtain ⟨⟨ρ', g'⟩, e3, e4⟩ := Option.map_eq_some_iff.mp e2
  cases e4
  refine qt B W O σ H ρ g d g1 D e1 _ fun v H1 fp x1 h1 n1 f1 r1 => ?_
  have D2 := D.withV x1 h1 n1 f1 r1
  exact qu B W _ σ H1 ρ g1 d v ρ' g' D2 e3 _ fun σ2 O2 H2 k2 D3 => q σ2 O2 H2 ((D.toDen0.keeps x1 fun a z => (f1 a z).1).trans k2) D3
/-- a list's item is stored -/
theorem Reps.set {K : Fg} {W : Wd} {O : List Addr} {H : Hp} {v : V} {d : DV} {f1 : List Addr} (r1 : Rep K W O H v d f1) : ∀ {vs : List V} {ds : List DV} {fp : List Addr} (i : Nat), Reps K W O H vs ds fp → (fp ++ f1).Nodup →
    ∃ fq, Reps K W O H (vs.set i v) (ds.set i d) fq ∧ fq.Nodup ∧ ∀ a ∈ fq, a ∈ fp ∨ a ∈ f1
  | _, _, _, _, .nil, hn => ⟨[], .nil, List.nodup_nil, fun a h => by simp at h⟩
  | _, _, _, 0, .cons (fp := fp) (fq := fq) r t, hn => ⟨f1 ++ fq, .cons r1 t, by
      rw [List.nodup_append] at hn ⊢
      have h1 := (List.nodup_append.mp hn.1)
      exact ⟨hn.2.1, h1.2.1, fun a ha b hb e => hn.2.2 b (List.mem_append_right _ hb) a ha e.symm⟩, fun a h => by
      rcases List.mem_append.mp h with h | h
      · exact .inr h
      · exact .inl (List.mem_append_right _ h)⟩
  | _, _, _, i + 1, .cons (fp := fp) (fq := fr) r t, hn => by
    have hn' := List.nodup_append.mp hn
    have hn1 := List.nodup_append.mp hn'.1
    obtain ⟨fq, h1, h2, h3⟩ := Reps.set r1 i t (by
      rw [List.nodup_append]
      exact ⟨hn1.2.1, hn'.2.1, fun a ha b hb => hn'.2.2 a (List.mem_append_right _ ha) b hb⟩)
    refine ⟨fp ++ fq, .cons r h1, ?_, fun a h => ?_⟩
    · rw [List.nodup_append]
      refine ⟨hn1.1, h2, fun a ha b hb e => ?_⟩
      subst e
      rcases h3 a hb with z | z
      · exact hn1.2.2 a ha a z rfl
      · exact hn'.2.2 a (List.mem_append_left _ ha) a z rfl
    · rcases List.mem_append.mp h with h | h
      · exact .inl (List.mem_append_left _ h)
      · rcases h3 a h with z | z
        · exact .inl (List.mem_append_right _ z)
        · exact .inr z
/-- xs[i] = v, xs an own slot -/
def gIx (i : Nat) (fi : EF) : GF := fun d ρ g => match ρ[i]? with
  | some (some (.own ds)) => (fi ρ g).bind fun p => match p.1 with
    | .int k => (ixN ds.length k).map fun j => (ρ.set i (some (.own (ds.set j d))), p.2)
    | _ => none
  | _ => none
theorem dg_ix (i : Nat) {x : Str} {p1 : Pos} (hi : DE X a fa) (hN : X.N[i]? = some x := by rfl) (hv : Vis X.env.scope x := by first | exact Or.inl rfl | exact Or.inr (Or.inl rfl) | exact Or.inr (Or.inr rfl)) (hd : (x == ("__debug__" : Str)) = false := by decide)
    (hcd : (x == ("__classdict__" : Str)) = false := by decide)
    (ha : ∀ v, assign (.Subscript (.Name x p1) a pos) X.env v = (do
      let ov ← holding [v] (eval (.Name x p1) X.env)
      let iv ← holding [v, ov] (eval a X.env)
      standAt pos
      holding [v, ov, iv] (setItem ov iv v)
      release [v, ov, iv] []) := by intro _; rfl) : DG X (.Subscript (.Name x p1) a pos) (gIx i fa) := by
  obtain ⟨t, pt, qt⟩ := hi
  refine ⟨_, pg_sub (pe_var hN hv hd hcd) pt set_list ha, fun B W O σ H ρ g d v ρ' g' D e Q q => ?_⟩
  have D' := D.den
  unfold gIx at e
  split at e
  · rename_i ds h1
    obtain ⟨⟨y, g1⟩, e1, e⟩ := Option.bind_eq_some_iff.mp e
    cases y with
    | int k =>
      obtain ⟨j, ej, e2⟩ := Option.map_eq_some_iff.mp e
      cases e2
      obtain ⟨fe, fp, re, rv, nn, hb⟩ := D.env
      have n0 := List.nodup_append.mp nn
      obtain ⟨v0, fq0, fr, e0, r0, rt, n1, hs⟩ := re.take h1 n0.1
      cases r0 with
      | own ha hw hl rs =>
        rename_i a' vs fq
        refine ⟨.ref a', e0, ?_⟩
        refine qt B W O σ H ρ g _ g1 D' e1 _ fun w H1 x1 hg1 r1 => ?_
        have D1 := D'.step x1 hg1
        have kp := D'.toDen0.keep x1
        cases r1
        have hl1 := x1 a' _ hw hl
        refine ⟨a', vs, k, j, rfl, rfl, hl1, by rw [rs.length]; exact ej, ?_⟩
        have rs1 := rs.mono kp x1 fun b m => (rs.inO b m).1
        have rv1 := rv.mono kp x1 fun b m => (rv.inO b m).1
        have rt1 := rt.mono kp x1 fun b m => (rt.inO b m).1
        have n2 := List.nodup_append.mp n1
        have n3 := List.nodup_cons.mp n2.1
        have apart : ∀ b ∈ (a' :: fq) ++ fr, b ∉ fp := fun b m z => n0.2.2 b (hs b m) b z rfl
        obtain ⟨fq', k1, k2, k3⟩ := Reps.set rv1 j rs1 (by
          rw [List.nodup_append]
          exact ⟨n3.2, n0.2.1, fun b hb c hc z => apart b (List.mem_append_left _ (List.mem_cons_of_mem _ hb)) (by rw [z]; exact hc)⟩)
        refine q σ O _ (kp.trans (keep_upd ha)) ?_
        refine Den.own_put D1.toDen0 (lt_of_slot h1) e0 ha hw rt1 k1 ?_ fun b m => ?_
        · rw [List.nodup_append]
          refine ⟨List.nodup_cons.mpr ⟨fun z => ?_, k2⟩, n2.2.1, fun b hb c hc z => ?_⟩
          · rcases k3 _ z with z | z
            · exact n3.1 z
            · exact apart a' (List.mem_append_left _ List.mem_cons_self) z
          · rcases List.mem_cons.mp hb with m | m
            · exact n2.2.2 b (by rw [m]; exact List.mem_cons_self) c hc z
            · rcases k3 _ m with m | m
              · exact n2.2.2 b (List.mem_cons_of_mem _ m) c hc z
              · exact apart c (List.mem_append_right _ hc) (by rw [← z]; exact m)
        · rcases List.mem_append.mp m with m | m
          · rcases List.mem_cons.mp m with m | m
            · rw [m]; exact hb _ (List.mem_append_left _ (hs _ (List.mem_append_left _ List.mem_cons_self)))
            · rcases k3 _ m with m | m
              · exact hb _ (List.mem_append_left _ (hs _ (List.mem_append_left _ (List.mem_cons_of_mem _ m))))
              · exact hb _ (List.mem_append_right _ m)
          · exact hb _ (List.mem_append_left _ (hs _ (List.mem_append_right _ m)))
    | _ => cases e
  · cases e

/-! ### for -/
def loopD (gf : GF) (sb : SF) : List SV → SF
  | [], ρ, g => some (.nx ρ g)
  | x :: xs, ρ, g => (gf (.sh x) ρ g).bind fun p => (sb p.1 p.2).bind fun r => match r with
    | .nx ρ' g' => loopD gf sb xs ρ' g'
    | .ct ρ' g' => loopD gf sb xs ρ' g'
    | .bk ρ' g' => some (.nx ρ' g')
    | .rt d g' => some (.rt d g')
def forD (fi : IF) (gf : GF) (sb : SF) : SF := fun ρ g => (fi ρ g).bind fun p => loopD gf sb p.1 ρ p.2
theorem drop_cons {α : Type} {xs : List α} {i : Nat} {x : α} (h : xs[i]? = some x) : xs.drop i = x :: xs.drop (i + 1) := by
  obtain ⟨hi, e⟩ := List.getElem?_eq_some_iff.mp h
  rw [List.drop_eq_getElem_cons hi, e]
theorem ds_for {fi : IF} (hc : X.calm = true) (hp : PassesOwn (model X.prog X.w) X.A X.env X.xe) (hi : DI X tg e fi) (hg : DG X tg gf) (hb : DSs X ss sb) (hs : ∀ x, foldedSetIterable e X.env x = pure x := by intro _; rfl) : DS X (.For tg e ss [] pos) (forD fi gf sb) := by
  obtain ⟨wi, pi, qi⟩ := hi
  obtain ⟨tg', pg, qg⟩ := hg
  obtain ⟨tb, pb, qb⟩ := hb
  refine ⟨_, ps_for hp hc pi pg pb hs, fun B W O σ H ρ g r D e E q => ?_⟩
  obtain ⟨⟨xs, g1⟩, e1, e2⟩ := Option.bind_eq_some_iff.mp e
  refine qi B W O σ H ρ g xs g1 D e1 _ fun J H1 x1 hg1 ok => ?_
  have k1 := D.toDen0.keep x1
  refine ⟨fun i m σ' H' => i ≤ xs.length ∧ m = xs.length - i ∧ ∃ O' ρ' g', Keep O H1 O' H' ∧ Den X.K B W O' σ' H' ρ' g' ∧ loopD gf sb (xs.drop i) ρ' g' = some r, ⟨xs.length, Nat.zero_le _, by simp, O, ρ, g1, Keep.refl, D.step x1 hg1, e2⟩, ?_⟩
  rintro i m σ' H' ⟨hi, rfl, O', ρ', g', k', D', e'⟩
  obtain ⟨go, stop⟩ := ok O' H' k' D'.dom
  by_cases hlt : i < xs.length
  · obtain ⟨x, hx⟩ : ∃ x, xs[i]? = some x := ⟨xs[i], by simp [hlt]⟩
    rw [drop_cons hx] at e'
    unfold loopD at e'
    obtain ⟨⟨ρ2, g2⟩, e3, e4⟩ := Option.bind_eq_some_iff.mp e'
    obtain ⟨r1, e5, e6⟩ := Option.bind_eq_some_iff.mp e4
    obtain ⟨go1, yld⟩ := go i x hx
    refine .inr ⟨go1, fun σ'' H'' => ∃ O'' ρ'' g'', Keep O H1 O'' H'' ∧ Den X.K B W O'' σ'' H'' ρ'' g'' ∧ loopD gf sb (xs.drop (i + 1)) ρ'' g'' = some r, fun σ'' H'' hN => ⟨xs.length - (i + 1), by omega, hlt, rfl, hN⟩, fun v H2 hy => ?_⟩
    obtain ⟨sm, rv⟩ := yld v H2 hy
    have D2 := D'.step (Same.ext sm) (D'.gen.same sm)
    have k2 : Keep O H1 O' H2 := k'.trans (msk_same sm)
    refine qg B W O' σ' H2 ρ' g' _ v ρ2 g2 (DenV.withS D2 rv) e3 _ fun σ3 O3 H3 k3 D3 => ?_
    refine qb B W O3 σ3 H3 ρ2 g2 r1 D3 e5 _ ?_
    cases r1 with
    | nx ρ4 g4 => exact fun σ4 O4 H4 k4 D4 => ⟨O4, ρ4, g4, (k2.trans k3).trans k4, D4, e6⟩
    | ct ρ4 g4 => exact fun σ4 O4 H4 k4 D4 => ⟨O4, ρ4, g4, (k2.trans k3).trans k4, D4, e6⟩
    | bk ρ4 g4 =>
      cases e6
      exact fun σ4 O4 H4 k4 D4 => q σ4 O4 H4 (k1.trans ((k2.trans k3).trans k4)) D4
    | rt d g4 =>
      cases e6
      exact q
  · have he : i = xs.length := by omega
    subst he
    rw [List.drop_length] at e'
    unfold loopD at e'
    cases e'
    exact .inl ⟨stop _ (Nat.le_refl _), q σ' O' H' (k1.trans k') D'⟩

/-! ### while -/
def whileN (c : TF) (sb : SF) : Nat → SF
  | 0, _, _ => none
  | n + 1, ρ, g => (c ρ g).bind fun p => if p.1 = true then (sb ρ p.2).bind fun r => match r with
    | .nx ρ' g' => whileN c sb n ρ' g'
    | .ct ρ' g' => whileN c sb n ρ' g'
    | .bk ρ' g' => some (.nx ρ' g')
    | .rt d g' => some (.rt d g')
  else some (.nx ρ p.2)
def FUEL : Nat := 18446744073709551616
def whileD (c : TF) (sb : SF) : SF := whileN c sb FUEL
theorem ds_while (hp : PassesOwn (model X.prog X.w) X.A X.env X.xe) (hc : DT X c c1) (hb : DSs X ss sb) : DS X (.While c ss [] pos) (whileD c1 sb) := by
  obtain ⟨t, pt, qt⟩ := hc
  obtain ⟨u, pu, qu⟩ := hb
  refine ⟨_, ps_while hp pt pu, fun B W O σ H ρ g r D e E q => ?_⟩
  refine ⟨fun m σ' H' => ∃ O' ρ' g', Keep O H O' H' ∧ Den X.K B W O' σ' H' ρ' g' ∧ whileN c1 sb m ρ' g' = some r, ⟨FUEL, O, ρ, g, Keep.refl, D, e⟩, ?_⟩
  rintro m σ' H' ⟨O', ρ', g', k', D', e'⟩
  cases m with
  | zero => cases e'
  | succ m =>
    unfold whileN at e'
    obtain ⟨⟨b, g1⟩, e1, e2⟩ := Option.bind_eq_some_iff.mp e'
    refine qt B W O' σ' H' ρ' g' b g1 D' e1 _ fun H1 x1 hg1 => ?_
    have k1 := D'.toDen0.keep x1
    have D1 := D'.step x1 hg1
    cases b with
    | false =>
      rw [if_neg Bool.false_ne_true]
      dsimp only at e2
      rw [if_neg Bool.false_ne_true] at e2
      cases e2
      exact q σ' O' H1 (k'.trans k1) D1
    | true =>
      rw [if_pos rfl]
      rw [if_pos rfl] at e2
      obtain ⟨r1, e5, e6⟩ := Option.bind_eq_some_iff.mp e2
      refine ⟨fun σ'' H'' => ∃ O'' ρ'' g'', Keep O H O'' H'' ∧ Den X.K B W O'' σ'' H'' ρ'' g'' ∧ whileN c1 sb m ρ'' g'' = some r, fun σ'' H'' hN => ⟨m, Nat.lt_succ_self m, hN⟩, ?_⟩
      refine qu B W O' σ' H1 ρ' g1 r1 D1 e5 _ ?_
      cases r1 with
      | nx ρ4 g4 => exact fun σ4 O4 H4 k4 D4 => ⟨O4, ρ4, g4, (k'.trans k1).trans k4, D4, e6⟩
      | ct ρ4 g4 => exact fun σ4 O4 H4 k4 D4 => ⟨O4, ρ4, g4, (k'.trans k1).trans k4, D4, e6⟩
      | bk ρ4 g4 =>
        cases e6
        exact fun σ4 O4 H4 k4 D4 => q σ4 O4 H4 ((k'.trans k1).trans k4) D4
      | rt d g4 =>
        cases e6
        exact q

/-! ### what is walked -/
def iSeq (f : EF) : IF := fun ρ g => (f ρ g).bind fun p => p.1.seq?.map fun xs => (xs, p.2)
/-- a list or a tuple -/
def iLT (K : Fg) (tl : TE) : TI := fun σ H R => tl σ H fun x H1 => ∃ a, x = .ref a ∧ (((∃ xs, SqL K H1 a xs) ∧ R (Itl K a) H1) ∨ ((∃ xs, SqT K H1 a xs) ∧ R (Itt K a) H1))
theorem pi_lt {l : Expr} {tl : TE} (hl : PE X l tl) : PI X tg l (iLT X.K tl) := by
  refine ⟨fun pins s σ H R I h => ?_⟩
  refine thn (hl.run pins s σ H _ I h) fun v s1 ⟨x, H1, I1, r1, q1⟩ => ?_
  obtain ⟨a, e, q⟩ := q1
  subst e
  cases r1
  rcases q with ⟨⟨xs, hq⟩, q⟩ | ⟨⟨xs, hq⟩, q⟩
  · obtain ⟨its, rv, p, hz⟩ := I1.list hq
    refine wpAny_pyIter_list p.isList ?_
    refine ⟨s1.heap.objs.size, [s1.heap.objs.size], _, _, H1, rfl, I1.kept (t' := s1.toks) fun b o e => Heap.get?_push_of_some _ e, turn_list a _, ⟨_, Heap.get?_push_size _ rfl, rfl, rfl⟩, fun b hb => ?_, q⟩
    have e : b = s1.heap.objs.size := by simpa using hb
    subst e
    exact I1.fpOk (Nat.le_refl _) (I1.hok.fresh (Nat.le_refl _))
  · obtain ⟨its, rv, p, hz⟩ := I1.tuple hq
    refine wpAny_pyIter_tuple (show s1.heap.IsTuple a its.toArray from p) ?_
    refine ⟨s1.heap.objs.size, [s1.heap.objs.size], _, _, H1, rfl, I1.kept (t' := s1.toks) fun b o e => Heap.get?_push_of_some _ e, turn_tuple a _, ⟨_, Heap.get?_push_size _ rfl, rfl, rfl⟩, fun b hb => ?_, q⟩
    have e : b = s1.heap.objs.size := by simpa using hb
    subst e
    exact I1.fpOk (Nat.le_refl _) (I1.hok.fresh (Nat.le_refl _))
theorem itl_ok {K : Fg} {W : Wd} {O : List Addr} {H : Hp} {a : Addr} {vs : List V} {xs : List SV} (h : msk O H a = some (.lst vs)) (r : RepSs K W (msk O H) vs xs) : ItOk K W O H (Itl K a) xs := by
  intro O' H' k hO
  have h' : SqL K H' a vs := .inl (.inl (of_msk (k _ _ h)).1)
  have r' := r.mono k
  refine ⟨fun i x hx => ?_, fun i hi => ⟨vs, h', by rw [r.length]; exact hi⟩⟩
  obtain ⟨v, e1, r1⟩ := r'.get hx
  refine ⟨⟨vs, v, h', e1⟩, fun w H2 hy => ?_⟩
  obtain ⟨rfl, hy⟩ := hy
  have e2 := hy vs h'
  rw [e1] at e2
  cases e2
  exact ⟨Same.refl _, r1⟩
theorem itt_ok {K : Fg} {W : Wd} {O : List Addr} {H : Hp} {a : Addr} {vs : List V} {xs : List SV} (h : SqT K (msk O H) a vs) (r : RepSs K W (msk O H) vs xs) : ItOk K W O H (Itt K a) xs := by
  intro O' H' k hO
  have h' : SqT K H' a vs := sqT_mono msk_sub (sqT_mono k h)
  have r' := r.mono k
  refine ⟨fun i x hx => ?_, fun i hi => ⟨vs, h', by rw [r.length]; exact hi⟩⟩
  obtain ⟨v, e1, r1⟩ := r'.get hx
  refine ⟨⟨vs, v, h', e1⟩, fun w H2 hy => ?_⟩
  obtain ⟨rfl, hy⟩ := hy
  have e2 := hy vs h'
  rw [e1] at e2
  cases e2
  exact ⟨Same.refl _, r1⟩
theorem di_seq (ha : DE X e f) : DI X tg e (iSeq f) := by
  obtain ⟨t, pt, qt⟩ := ha
  refine ⟨_, pi_lt pt, fun B W O σ H ρ g xs g' D e R q => ?_⟩
  obtain ⟨⟨s, g1⟩, e1, e2⟩ := Option.bind_eq_some_iff.mp e
  obtain ⟨ys, e3, e4⟩ := Option.map_eq_some_iff.mp e2
  cases e4
  refine qt B W O σ H ρ g s g1 D e1 _ fun v H1 x1 h1 r1 => ?_
  cases r1 with
  | tup hq r => cases e3; exact ⟨_, rfl, .inr ⟨⟨_, sqT_mono msk_sub hq⟩, q _ H1 x1 h1 (itt_ok hq r)⟩⟩
  | lst hq r => cases e3; exact ⟨_, rfl, .inl ⟨⟨_, .inl (.inl (of_msk hq).1)⟩, q _ H1 x1 h1 (itl_ok hq r)⟩⟩
  | _ => cases e3
/-- range(n), range(a, b) -/
def rngL (lo : Int) (n : Nat) : List SV := (List.range n).map fun (i : Nat) => SV.int (lo + (i : Int))
theorem itr_ok {K : Fg} {W : Wd} {O : List Addr} {H : Hp} {lo : Int} {n : Nat} : ItOk K W O H (Itr lo n) (rngL lo n) := by
  intro O' H' k hO
  refine ⟨fun i x hx => ?_, fun i hi => ?_⟩
  · unfold rngL at hx
    rw [List.getElem?_map] at hx
    obtain ⟨j, e1, e2⟩ := Option.map_eq_some_iff.mp hx
    obtain ⟨hlt, e3⟩ := List.getElem?_eq_some_iff.mp e1
    rw [List.getElem_range] at e3
    subst e3
    subst e2
    rw [List.length_range] at hlt
    refine ⟨hlt, fun w H2 hy => ?_⟩
    obtain ⟨rfl, rfl⟩ := hy
    exact ⟨Same.refl _, .int⟩
  · unfold rngL at hi
    rw [List.length_map, List.length_range] at hi
    exact hi
def iR1 (f : EF) : IF := fun ρ g => (f ρ g).bind fun p => match p.1 with
  | .int n => if rngOk n = true then some (rngL 0 n.toNat, p.2) else none
  | _ => none
def iR2 (fa fb : EF) : IF := fun ρ g => (fa ρ g).bind fun p => (fb ρ p.2).bind fun q => match p.1, q.1 with
  | .int a, .int b => if rngOk a = true ∧ rngOk b = true then some (rngL a (b - a).toNat, q.2) else none
  | _, _ => none
theorem di_range1 {p : Pos} (hg : Gl X "range") (hm : X.mg "range" = none) (ha : DE X a fa) (hs : starEach [a] X.env = (false, eval a X.env) :: starEach [] X.env := by rfl) (hs2 : starEach [a] X.env = [(false, eval a X.env)] := by rfl) : DI X tg (.Call (.Name "range" p) [a] [] pos) (iR1 fa) := by
  obtain ⟨t, pt, qt⟩ := ha
  refine ⟨_, pi_range1 hg hm (pa_cons pt pa_nil hs) hs2, fun B W O σ H ρ g xs g' D e R q => ?_⟩
  obtain ⟨⟨s, g1⟩, e1, e2⟩ := Option.bind_eq_some_iff.mp e
  refine qt B W O σ H ρ g s g1 D e1 _ fun v H1 x1 h1 r1 => ?_
  cases s with
  | int n =>
    cases r1
    dsimp only at e2
    split at e2
    · rename_i hh
      cases e2
      have hz := rngOk_lt hh
      exact ⟨n, rfl, by omega, by omega, q _ H1 x1 h1 itr_ok⟩
    · cases e2
  | _ => cases e2
theorem di_range2 {p : Pos} (hg : Gl X "range") (hm : X.mg "range" = none) (ha : DE X a fa) (hb : DE X b fb) (hs : starEach [a, b] X.env = (false, eval a X.env) :: starEach [b] X.env := by rfl) (hs1 : starEach [b] X.env = (false, eval b X.env) :: starEach [] X.env := by rfl) (hs2 : starEach [a, b] X.env = [(false, eval a X.env), (false, eval b X.env)] := by rfl) (hs3 : starEach [b] X.env = [(false, eval b X.env)] := by rfl) :
    DI X tg (.Call (.Name "range" p) [a, b] [] pos) (iR2 fa fb) := by
  obtain ⟨t, pt, qt⟩ := ha
  obtain ⟨u, pu, qu⟩ := hb
  refine ⟨_, pi_range2 hg hm (pa_cons pt (pa_cons pu pa_nil hs1) hs) hs2 hs3, fun B W O σ H ρ g xs g' D e R q => ?_⟩
  obtain ⟨⟨s, g1⟩, e1, e2⟩ := Option.bind_eq_some_iff.mp e
  obtain ⟨⟨s2, g2⟩, e3, e4⟩ := Option.bind_eq_some_iff.mp e2
  refine qt B W O σ H ρ g s g1 D e1 _ fun v H1 x1 h1 r1 => ?_
  have D1 := D.step x1 h1
  refine qu B W O σ H1 ρ g1 s2 g2 D1 e3 _ fun w H2 x2 h2 r2 => ?_
  cases s with
  | int n =>
    cases s2 with
    | int n2 =>
      cases r1; cases r2
      dsimp only at e4
      split at e4
      · rename_i hh
        cases e4
        have hz1 := rngOk_lt hh.1
        have hz2 := rngOk_lt hh.2
        exact ⟨n, n2, rfl, ⟨by omega, by omega, by omega, by omega⟩, q _ H2 (x1.trans x2) h2 itr_ok⟩
      · cases e4
    | _ => cases e4
  | _ => cases e4
/-- enumerate(xs) of a list -/
def numL (xs : List SV) : List SV := xs.zipIdx.map fun p => SV.tup [.int (p.2 : Nat), p.1]
theorem numL_get {xs : List SV} {i : Nat} {x : SV} (h : (numL xs)[i]? = some x) : ∃ y, xs[i]? = some y ∧ x = .tup [.int (i : Nat), y] := by
  unfold numL at h
  rw [List.getElem?_map, List.getElem?_zipIdx] at h
  obtain ⟨p, e1, e2⟩ := Option.map_eq_some_iff.mp h
  obtain ⟨y, e3, e4⟩ := Option.map_eq_some_iff.mp e1
  subst e4
  subst e2
  exact ⟨y, e3, by simp⟩
theorem numL_len {xs : List SV} : (numL xs).length = xs.length := by unfold numL; rw [List.length_map, List.length_zipIdx]
theorem rep_pair {K : Fg} {W : Wd} {O : List Addr} {H : Hp} {T : Addr} {x y : V} {a b : SV} (hO : ∀ a ∈ O, H a ≠ none) (hT : H T = none) (ra : RepS K W (msk O H) x a) (rb : RepS K W (msk O H) y b) : RepS K W (msk O (upd H T (.tup [x, y]))) (.ref T) (.tup [a, b]) :=
  rep_tup hO hT (.cons ra (.cons rb .nil))
theorem ite_ok {K : Fg} {W : Wd} {O : List Addr} {H : Hp} {a : Addr} {vs : List V} {xs : List SV} (h : msk O H a = some (.lst vs)) (r : RepSs K W (msk O H) vs xs) : ItOk K W O H (Ite K a) (numL xs) := by
  intro O' H' k hO
  have h' : SqL K H' a vs := .inl (.inl (of_msk (k _ _ h)).1)
  have r' := r.mono k
  refine ⟨fun i x hx => ?_, fun i hi => ⟨vs, h', by rw [r.length]; rw [numL_len] at hi; exact hi⟩⟩
  obtain ⟨y, hy, rfl⟩ := numL_get hx
  obtain ⟨v, e1, r1⟩ := r'.get hy
  refine ⟨⟨vs, v, h', e1⟩, fun w H2 hw => ?_⟩
  obtain ⟨T, x, rfl, hT, rfl, hx⟩ := hw
  have e2 := hx vs h'
  rw [e1] at e2
  cases e2
  exact ⟨keep_new hT, rep_pair hO hT .int r1⟩
def SV.l? : SV → Option (List SV)
  | .lst xs => some xs
  | _ => none
def iNum (f : EF) : IF := fun ρ g => (f ρ g).bind fun p => p.1.l?.map fun xs => (numL xs, p.2)
theorem di_enum {p tpos : Pos} {elts : List Expr} {kk : Nat} (hg : Gl X "enumerate") (hm : X.mg "enumerate" = none) (ha : DE X a fa) (hs : starEach [a] X.env = (false, eval a X.env) :: starEach [] X.env := by rfl) (hs2 : starEach [a] X.env = [(false, eval a X.env)] := by rfl) :
    DI X (.Tuple elts kk tpos) (.Call (.Name "enumerate" p) [a] [] pos) (iNum fa) := by
  obtain ⟨t, pt, qt⟩ := ha
  refine ⟨_, pi_enum hg hm (pa_cons pt pa_nil hs) hs2, fun B W O σ H ρ g xs g' D e R q => ?_⟩
  obtain ⟨⟨s, g1⟩, e1, e2⟩ := Option.bind_eq_some_iff.mp e
  obtain ⟨ys, e3, e4⟩ := Option.map_eq_some_iff.mp e2
  cases e4
  refine qt B W O σ H ρ g s g1 D e1 _ fun v H1 x1 h1 r1 => ?_
  cases r1 with
  | lst hq r => cases e3; exact ⟨_, _, rfl, .inl (.inl (of_msk hq).1), q _ H1 x1 h1 (ite_ok hq r)⟩
  | _ => cases e3
/-- zip(xs, ys) of two lists or two tuples -/
def zipL (xs ys : List SV) : List SV := List.zipWith (fun a b => SV.tup [a, b]) xs ys
theorem zipL_get {xs ys : List SV} {i : Nat} {x : SV} (h : (zipL xs ys)[i]? = some x) : ∃ a b, xs[i]? = some a ∧ ys[i]? = some b ∧ x = .tup [a, b] := by
  unfold zipL at h
  rw [List.getElem?_zipWith] at h
  cases ha : xs[i]? with
  | none => rw [ha] at h; simp at h
  | some a =>
    cases hb : ys[i]? with
    | none => rw [ha, hb] at h; simp at h
    | some b => rw [ha, hb] at h; simp at h; exact ⟨a, b, rfl, rfl, h.symm⟩
theorem itz_ok {K : Fg} {W : Wd} {O : List Addr} {H : Hp} {a b : Addr} {vs ws : List V} {xs ys : List SV} (h : msk O H a = some (.lst vs)) (r : RepSs K W (msk O H) vs xs) (h2 : msk O H b = some (.lst ws)) (r2 : RepSs K W (msk O H) ws ys) : ItOk K W O H (Itz K a b) (zipL xs ys) := by
  intro O' H' k hO
  have h' : SqL K H' a vs := .inl (.inl (of_msk (k _ _ h)).1)
  have h2' : SqL K H' b ws := .inl (.inl (of_msk (k _ _ h2)).1)
  have r' := r.mono k
  have r2' := r2.mono k
  refine ⟨fun i x hx => ?_, fun i hi => ⟨vs, ws, h', h2', ?_⟩⟩
  · obtain ⟨c, d, hc, hd, rfl⟩ := zipL_get hx
    obtain ⟨v, e1, r1⟩ := r'.get hc
    obtain ⟨w, e3, r3⟩ := r2'.get hd
    refine ⟨⟨vs, ws, v, w, h', h2', e1, e3⟩, fun z H2 hw => ?_⟩
    obtain ⟨T, x, y, rfl, hT, rfl, hx, hy⟩ := hw
    have e2 := hx vs h'
    rw [e1] at e2
    cases e2
    have e4 := hy ws h2'
    rw [e3] at e4
    cases e4
    exact ⟨keep_new hT, rep_pair hO hT r1 r3⟩
  · unfold zipL at hi
    rw [List.length_zipWith] at hi
    rw [r.length, r2.length]
    omega
theorem itzT_ok {K : Fg} {W : Wd} {O : List Addr} {H : Hp} {a b : Addr} {vs ws : List V} {xs ys : List SV} (h : SqT K (msk O H) a vs) (r : RepSs K W (msk O H) vs xs) (h2 : SqT K (msk O H) b ws) (r2 : RepSs K W (msk O H) ws ys) : ItOk K W O H (RZ.ItzT K a b) (zipL xs ys) := by
  intro O' H' k hO
  have h' : SqT K H' a vs := sqT_mono msk_sub (sqT_mono k h)
  have h2' : SqT K H' b ws := sqT_mono msk_sub (sqT_mono k h2)
  have r' := r.mono k
  have r2' := r2.mono k
  refine ⟨fun i x hx => ?_, fun i hi => ⟨vs, ws, h', h2', ?_⟩⟩
  · obtain ⟨c, d, hc, hd, rfl⟩ := zipL_get hx
    obtain ⟨v, e1, r1⟩ := r'.get hc
    obtain ⟨w, e3, r3⟩ := r2'.get hd
    refine ⟨⟨vs, ws, v, w, h', h2', e1, e3⟩, fun z H2 hw => ?_⟩
    obtain ⟨T, x, y, rfl, hT, rfl, hx, hy⟩ := hw
    have e2 := hx vs h'
    rw [e1] at e2
    cases e2
    have e4 := hy ws h2'
    rw [e3] at e4
    cases e4
    exact ⟨keep_new hT, rep_pair hO hT r1 r3⟩
  · unfold zipL at hi
    rw [List.length_zipWith] at hi
    rw [r.length, r2.length]
    omega
def hZip : SV → SV → Option (List SV)
  | .lst xs, .lst ys => some (zipL xs ys)
  | .tup xs, .tup ys => some (zipL xs ys)
  | _, _ => none
def iZp (fa fb : EF) : IF := fun ρ g => (fa ρ g).bind fun p => (fb ρ p.2).bind fun q => (hZip p.1 q.1).map fun xs => (xs, q.2)
theorem di_zip {p tpos : Pos} {elts : List Expr} {kk : Nat} (hg : Gl X "zip") (hm : X.mg "zip" = none) (ha : DE X a fa) (hb : DE X b fb) (hs : starEach [a, b] X.env = (false, eval a X.env) :: starEach [b] X.env := by rfl) (hs1 : starEach [b] X.env = (false, eval b X.env) :: starEach [] X.env := by rfl)
    (hpl : (backTo pos (starEach [b] X.env)).any (·.1) = false := by rfl) :
    DI X (.Tuple elts kk tpos) (.Call (.Name "zip" p) [a, b] [] pos) (iZp fa fb) := by
  obtain ⟨t, pt, qt⟩ := ha
  obtain ⟨u, pu, qu⟩ := hb
  refine ⟨_, RZ.pi_zipA hg hm (pa_cons pt (pa_cons pu pa_nil hs1) hs) hs hpl, fun B W O σ H ρ g xs g' D e R q => ?_⟩
  obtain ⟨⟨s, g1⟩, e1, e2⟩ := Option.bind_eq_some_iff.mp e
  obtain ⟨⟨s2, g2⟩, e3, e4⟩ := Option.bind_eq_some_iff.mp e2
  obtain ⟨ys, e5, e6⟩ := Option.map_eq_some_iff.mp e4
  cases e6
  refine qt B W O σ H ρ g s g1 D e1 _ fun v H1 x1 h1 r1 => ?_
  have D1 := D.step x1 h1
  refine qu B W O σ H1 ρ g1 s2 g2 D1 e3 _ fun w H2 x2 h2 r2 => ?_
  have r1' := r1.mono (D1.toDen0.keep x2)
  cases r1' with
  | lst hq r =>
    cases r2 with
    | lst hq2 r2 => cases e5; exact ⟨_, _, _, _, rfl, .inl ⟨.inl (.inl (of_msk hq).1), .inl (.inl (of_msk hq2).1), q _ H2 (x1.trans x2) h2 (itz_ok hq r hq2 r2)⟩⟩
    | _ => cases e5
  | tup hq r =>
    cases r2 with
    | tup hq2 r2 => cases e5; exact ⟨_, _, _, _, rfl, .inr ⟨sqT_mono msk_sub hq, sqT_mono msk_sub hq2, q _ H2 (x1.trans x2) h2 (itzT_ok hq r hq2 r2)⟩⟩
    | _ => cases e5
  | _ => cases e5
end
end DL

/-! DL6: comprehensions, defs. -/
namespace DL
open PySem PySem.Spec L2

/-! ### the judgements by one reading each -/
def tEf (K : Fg) (f : EF) : TE := fun σ H Q => ∃ B W O ρ g s g', Den K B W O σ H ρ g ∧ f ρ g = some (s, g') ∧ ∀ v H', Ext W H H' → GOk W B.1 H' g' → RepS K W (msk O H') v s → Q v H'
def tOf (K : Fg) (f : OF) : TE := fun σ H Q => ∃ B W O ρ g d g', Den K B W O σ H ρ g ∧ f ρ g = some (d, g') ∧ ∀ v H' fp, Ext W H H' → GOk W B.1 H' g' → fp.Nodup → (∀ a ∈ fp, H a = none ∧ H' a ≠ none) → Rep K W (fp ++ O) H' v d fp → Q v H'
def tTf (K : Fg) (f : TF) : TT := fun σ H Q => ∃ B W O ρ g b g', Den K B W O σ H ρ g ∧ f ρ g = some (b, g') ∧ ∀ H', Ext W H H' → GOk W B.1 H' g' → Q b H'
section
variable {X : Cx} {e tg : Expr} {f : EF} {h : OF} {c : TF}
theorem DE.pe (D : DE X e f) : PE X e (tEf X.K f) := by
  obtain ⟨t, pt, qt⟩ := D
  refine ⟨fun pins s σ H Q I hq => ?_⟩
  obtain ⟨B, W, O, ρ, g, s', g', D, e, q⟩ := hq
  exact pt.run pins s σ H Q I (qt B W O σ H ρ g s' g' D e Q q)
theorem DO.pe (D : DO X e h) : PE X e (tOf X.K h) := by
  obtain ⟨t, pt, qt⟩ := D
  refine ⟨fun pins s σ H Q I hq => ?_⟩
  obtain ⟨B, W, O, ρ, g, s', g', D, e, q⟩ := hq
  exact pt.run pins s σ H Q I (qt B W O σ H ρ g s' g' D e Q q)
theorem DT.pt (D : DT X e c) : PT X e (tTf X.K c) := by
  obtain ⟨t, pt, qt⟩ := D
  refine ⟨fun pins s σ H Q I hq => ?_⟩
  obtain ⟨B, W, O, ρ, g, s', g', D, e, q⟩ := hq
  exact pt.run pins s σ H Q I (qt B W O σ H ρ g s' g' D e Q q)
end
/-- a comprehension's target: names of the block alone -/
abbrev WF := SV → Env → Option Env
def DGw (K : Fg) (t : TG) (vs : List Nat) (f : WF) : Prop := ∀ B W O σ H ρ g s v ρ', Den K B W O σ H ρ g → RepS K W (msk O H) v s → f s ρ = some ρ' →
  ∀ Q : St → Hp → Prop, (∀ σ', wipe σ' vs = wipe σ vs → Den K B W O σ' H ρ' g → Q σ' H) → t v σ H Q
def DGwl (K : Fg) (t : TGs) (vs : List Nat) (f : List SV → Env → Option Env) : Prop := ∀ B W O σ H ρ g s v ρ', Den K B W O σ H ρ g → RepSs K W (msk O H) v s → f s ρ = some ρ' →
  ∀ Q : St → Hp → Prop, (∀ σ', wipe σ' vs = wipe σ vs → Den K B W O σ' H ρ' g → Q σ' H) → t v σ H Q
def wN (i : Nat) : WF := fun s ρ => some (ρ.set i (some (.sh s)))
def wLN : List SV → Env → Option Env := fun ss ρ => match ss with
  | [] => some ρ
  | _ => none
def wLC (f : WF) (fs : List SV → Env → Option Env) : List SV → Env → Option Env := fun ss ρ => match ss with
  | s :: ss => (f s ρ).bind fun ρ' => fs ss ρ'
  | [] => none
def wT (n : Nat) (fs : List SV → Env → Option Env) : WF := fun s ρ => match s with
  | .tup xs => if xs.length = n then fs xs ρ else none
  | _ => none
theorem wipe_get (σ : St) (j : Nat) : ∀ vs : List Nat, (wipe σ vs)[j]? = if j ∈ vs ∧ j < σ.length then some none else σ[j]?
  | [] => by simp [wipe]
  | v :: vs => by
    unfold wipe
    rw [List.getElem?_set, wipe_length, wipe_get σ j vs]
    by_cases h : v = j
    · subst h
      by_cases h2 : v < σ.length
      · simp [h2]
      · simp [h2]
    · rw [if_neg h]
      have : (j ∈ v :: vs) ↔ j ∈ vs := by
        rw [List.mem_cons]
        exact ⟨fun z => z.resolve_left (fun q => h q.symm), Or.inr⟩
      simp only [this]
theorem wipe_set {σ : St} {i : Nat} {y : Option V} {vs : List Nat} (h : i ∈ vs) : wipe (σ.set i y) vs = wipe σ vs := by
  apply List.ext_getElem?
  intro j
  rw [wipe_get, wipe_get, List.length_set]
  by_cases hj : j ∈ vs ∧ j < σ.length
  · rw [if_pos hj, if_pos hj]
  · rw [if_neg hj, if_neg hj, List.getElem?_set]
    by_cases hij : i = j
    · subst hij
      rw [if_pos rfl]
      by_cases hl : i < σ.length
      · exact absurd ⟨h, hl⟩ hj
      · rw [if_neg hl, List.getElem?_eq_none (Nat.le_of_not_lt hl)]
    · rw [if_neg hij]
theorem wipe_wipe {σ : St} {vs : List Nat} : wipe (wipe σ vs) vs = wipe σ vs := by
  apply List.ext_getElem?
  intro j
  rw [wipe_get, wipe_length]
  by_cases hj : j ∈ vs ∧ j < σ.length
  · rw [if_pos hj, wipe_get, if_pos hj]
  · rw [if_neg hj]
theorem dgw_name {K : Fg} {i : Nat} {vs : List Nat} (h : i ∈ vs) : DGw K (gName i) vs (wN i) := by
  intro B W O σ H ρ g s v ρ' D r e Q q
  cases e
  exact q _ (wipe_set h) ((DenV.withS D r).set i)
theorem dgwl_nil {K : Fg} {vs : List Nat} : DGwl K gNil vs wLN := by
  intro B W O σ H ρ g s v ρ' D r e Q q
  cases r with
  | nil => cases e; exact ⟨rfl, q σ rfl D⟩
  | cons _ _ => cases e
theorem dgwl_cons {K : Fg} {vs : List Nat} {t : TG} {u : TGs} {f : WF} {fs : List SV → Env → Option Env} (h1 : DGw K t vs f) (h2 : DGwl K u vs fs) : DGwl K (gCons t u) vs (wLC f fs) := by
  intro B W O σ H ρ g s v ρ' D r e Q q
  cases r with
  | nil => cases e
  | cons r rr =>
    obtain ⟨ρ1, e1, e2⟩ := Option.bind_eq_some_iff.mp e
    refine ⟨_, _, rfl, h1 B W O σ H ρ g _ _ ρ1 D r e1 _ fun σ1 w1 D1 => ?_⟩
    exact h2 B W O σ1 H ρ1 g _ _ ρ' D1 rr e2 _ fun σ2 w2 D2 => q σ2 (w2.trans w1) D2
theorem dgw_tup {K : Fg} {vs : List Nat} {u : TGs} {n : Nat} {fs : List SV → Env → Option Env} (h : DGwl K u vs fs) : DGw K (gTup K n u) vs (wT n fs) := by
  intro B W O σ H ρ g s v ρ' D r e Q q
  unfold wT at e
  split at e
  · split at e
    · rename_i hl
      cases r with
      | tup hq rs => exact ⟨_, _, rfl, sqT_mono msk_sub hq, by rw [rs.length]; exact hl, h B W O σ H ρ g _ _ ρ' D rs e Q q⟩
    · cases e
  · cases e
def wipeE (ρ : Env) : List Nat → Env
  | [] => ρ
  | v :: vs => (wipeE ρ vs).set v none
theorem ERep.wipe1 {K : Fg} {W : Wd} {O : List Addr} {H : Hp} : ∀ {σ : St} {ρ : Env} {fe : List Addr} (i : Nat), ERep K W O H σ ρ fe → fe.Nodup → ∃ fq, ERep K W O H (σ.set i none) (ρ.set i none) fq ∧ fq.Nodup ∧ ∀ a ∈ fq, a ∈ fe
  | _, _, _, _, .nil, h => ⟨[], .nil, h, fun a m => m⟩
  | _, _, _, 0, .non t, h => ⟨_, .non t, h, fun a m => m⟩
  | _, _, _, i + 1, .non t, h => by
    obtain ⟨fq, h1, h2, h3⟩ := ERep.wipe1 i t h
    exact ⟨fq, .non h1, h2, h3⟩
  | _, _, _, 0, .som r t, h => ⟨_, .non t, (List.nodup_append.mp h).2.1, fun a m => List.mem_append_right _ m⟩
  | _, _, _, i + 1, .som (fp := fp) r t, h => by
    have hh := List.nodup_append.mp h
    obtain ⟨fq, h1, h2, h3⟩ := ERep.wipe1 i t hh.2.1
    refine ⟨fp ++ fq, .som r h1, ?_, fun a m => ?_⟩
    · rw [List.nodup_append]
      exact ⟨hh.1, h2, fun a ha b hb => hh.2.2 a ha b (h3 b hb)⟩
    · rcases List.mem_append.mp m with m | m
      · exact List.mem_append_left _ m
      · exact List.mem_append_right _ (h3 a m)
theorem Den.wipe {K : Fg} {B : Bs} {W : Wd} {O : List Addr} {σ : St} {H : Hp} {ρ : Env} {g : GS} (D : Den K B W O σ H ρ g) : ∀ vs : List Nat, Den K B W O (L2.wipe σ vs) H (wipeE ρ vs) g
  | [] => D
  | v :: vs => by
    have D' := D.wipe vs
    obtain ⟨fe, re, n, hb⟩ := D'.env
    obtain ⟨fq, h1, h2, h3⟩ := ERep.wipe1 v re n
    exact { D'.toDen0 with env := ⟨fq, h1, h2, fun a m => hb a (h3 a m)⟩ }

/-! ### comprehensions -/
def compL (wf : WF) (ct : TF) (f : OF) (ρ : Env) : List SV → GS → Option (List DV × GS)
  | [], g => some ([], g)
  | x :: xs, g => (wf x ρ).bind fun ρ' => (ct ρ' g).bind fun p => if p.1 = true then (f ρ' p.2).bind fun q => (compL wf ct f ρ xs q.2).map fun r => (q.1 :: r.1, r.2) else compL wf ct f ρ xs p.2
def compD (fi : IF) (wf : WF) (ct : TF) (f : OF) (vs : List Nat) : OF := fun ρ g => (fi ρ g).bind fun p => if lenOk p.1.length = true then (compL wf ct f (wipeE ρ vs) p.1 p.2).map fun q => (.own q.1, q.2) else none
theorem lc_s {K : Fg} {wi : TI} {tg : TG} {tt : TT} {te : TE} {vs : List Nat} {fi : IF} {wf : WF} {ct : TF} {f : OF} (hi : DIs K wi fi) (hg : DGw K tg vs wf) (ht : DTs K tt ct) (he : DOs K te f) : DOs K (tLc wi tg tt te vs) (compD fi wf ct f vs) := by
  intro B W O σ H ρ g d g' D e Q q
  obtain ⟨⟨xs, g1⟩, e1, e2⟩ := Option.bind_eq_some_iff.mp e
  split at e2
  case isFalse => cases e2
  rename_i hlen
  obtain ⟨⟨ds, g2⟩, e3, e4⟩ := Option.map_eq_some_iff.mp e2
  cases e4
  refine hi B W O σ H ρ g xs g1 D e1 _ fun J H1 x1 hg1 ok => fun Dd hD => ?_
  have D1 := D.step x1 hg1
  obtain ⟨fe, re, nfe, hfe⟩ := D1.env
  have dO : Dd ∉ O := D1.toDen0.notO hD
  have dW : Dd ∉ W.as := fun z => dO (D1.toDen0.was Dd z)
  have dB : B.2 Dd = none := D1.toDen0.fresh hD
  have dfe : Dd ∉ fe := fun z => dO (re.inO Dd z).1
  have xD : Ext W H1 (upd H1 Dd (.lst [])) := Same.ext (keep_new hD)
  have fD : ∀ a ∈ [Dd], H1 a = none ∧ upd H1 Dd (.lst []) a ≠ none := fun a m => by
    have m' : a = Dd := by simpa using m
    subst m'
    exact ⟨hD, by rw [upd_same]; simp⟩
  have line : sizeLine = 16777216 := by decide
  have D0 : Den0 B W (Dd :: O) (upd H1 Dd (.lst [])) g1 := D1.toDen0.grow (fp := [Dd]) xD (hg1.same (keep_new hD)) fD
  have re0 : ERep K W (Dd :: O) (upd H1 Dd (.lst [])) σ ρ fe := re.mono (D1.toDen0.keeps (fp := [Dd]) xD fun a m => (fD a m).1) xD fun a m => List.mem_cons_of_mem _ (re.inO a m).1
  have hlen := lenOk_lt hlen
  dsimp only at hlen
  refine ⟨fun i m H' => i ≤ xs.length ∧ m = xs.length - i ∧ ∃ gc ws acc M fl rest, Ext W H1 H' ∧ Den0 B W M H' gc ∧ ERep K W M H' σ ρ fe ∧ H' Dd = some (.lst ws) ∧ Reps K W M H' ws acc fl ∧ fl.Nodup ∧ (Dd ∈ M ∧ (∀ a ∈ O, a ∈ M) ∧ (∀ a ∈ M, a ∈ O ∨ H1 a = none) ∧ ∀ a ∈ fl, H1 a = none ∧ a ≠ Dd) ∧
    compL wf ct f (wipeE ρ vs) (xs.drop i) gc = some (rest, g2) ∧ acc ++ rest = ds ∧ acc.length ≤ i, ⟨xs.length, Nat.zero_le _, by simp, g1, [], [], Dd :: O, [], ds, xD, D0, re0, upd_same, .nil, List.nodup_nil, ⟨List.mem_cons_self, fun a m => List.mem_cons_of_mem _ m, fun a m => (List.mem_cons.mp m).elim (fun z => .inr (by rw [z]; exact hD)) .inl, fun a m => by simp at m⟩, e3, rfl, Nat.le_refl _⟩, ?_⟩
  rintro i m H' ⟨hi, rfl, gc, ws, acc, M, fl, rest, x2, D2, re2, hl, rs, nfl, ⟨hDM, hOM, hMn, hfl⟩, e', eq, hal⟩
  have k2 : Keep O H1 M H' := fun b o hb => by
    obtain ⟨hb1, hb2⟩ := of_msk hb
    refine msk_get (fun z => ?_) (x2 b o (fun z => hb2 (D1.toDen0.was b z)) hb1)
    rcases hMn b z with z | z
    · exact hb2 z
    · rw [z] at hb1; cases hb1
  obtain ⟨go, stop⟩ := ok M H' k2 D2.dom
  by_cases hlt : i < xs.length
  · obtain ⟨x, hx⟩ : ∃ x, xs[i]? = some x := ⟨xs[i], by simp [hlt]⟩
    rw [drop_cons hx] at e'
    unfold compL at e'
    obtain ⟨ρ', e5, e6⟩ := Option.bind_eq_some_iff.mp e'
    obtain ⟨⟨b, g3⟩, e7, e8⟩ := Option.bind_eq_some_iff.mp e6
    obtain ⟨go1, yld⟩ := go i x hx
    refine .inr ⟨go1, fun H'' => ∃ gc ws acc M fl rest, Ext W H1 H'' ∧ Den0 B W M H'' gc ∧ ERep K W M H'' σ ρ fe ∧ H'' Dd = some (.lst ws) ∧ Reps K W M H'' ws acc fl ∧ fl.Nodup ∧ (Dd ∈ M ∧ (∀ a ∈ O, a ∈ M) ∧ (∀ a ∈ M, a ∈ O ∨ H1 a = none) ∧ ∀ a ∈ fl, H1 a = none ∧ a ≠ Dd) ∧
      compL wf ct f (wipeE ρ vs) (xs.drop (i + 1)) gc = some (rest, g2) ∧ acc ++ rest = ds ∧ acc.length ≤ i + 1, fun H'' hN => ⟨xs.length - (i + 1), by omega, hlt, rfl, hN⟩, fun v H2 hy => ?_⟩
    obtain ⟨sm, rv⟩ := yld v H2 hy
    have D3 : Den K B W M σ H' ρ gc := { D2 with env := ⟨fe, re2, nfe, hfe⟩ }
    have D4 := D3.step (Same.ext sm) (D3.gen.same sm)
    refine hg B W M _ H2 (wipeE ρ vs) gc x v ρ' (D4.wipe vs) rv e5 _ fun σ3 hw D5 => ⟨hw.trans wipe_wipe, ?_⟩
    refine ht B W M σ3 H2 ρ' gc b g3 D5 e7 _ fun H3 x3 hg3 => ?_
    have D6 := D5.step x3 hg3
    have x13 : Ext W H1 H3 := (x2.trans (Same.ext sm)).trans x3
    have x23 : Ext W H' H3 := (Same.ext sm : Ext W H' H2).trans x3
    have k23 : Keep M H' M H3 := D3.toDen0.keep x23
    cases b with
    | false =>
      rw [if_neg Bool.false_ne_true]
      dsimp only at e8
      rw [if_neg Bool.false_ne_true] at e8
      exact ⟨g3, ws, acc, M, fl, rest, x13, D3.toDen0.grow (fp := []) x23 hg3 fun a m => by simp at m, re2.mono k23 x23 fun a m => (re2.inO a m).1, x23 _ _ dW hl, rs.mono k23 x23 fun a m => (rs.inO a m).1, nfl, ⟨hDM, hOM, hMn, hfl⟩, e8, eq, by omega⟩
    | true =>
      rw [if_pos rfl]
      rw [if_pos rfl] at e8
      obtain ⟨⟨d1, g4⟩, e9, e10⟩ := Option.bind_eq_some_iff.mp e8
      obtain ⟨⟨rest', g5⟩, e11, e12⟩ := Option.map_eq_some_iff.mp e10
      cases e12
      refine he B W M σ3 H3 ρ' g3 d1 g4 D6 e9 _ fun y H4 fp x4 hg4 n4 f4 r4 => ?_
      have x24 : Ext W H' H4 := x23.trans x4
      have x14 : Ext W H1 H4 := x13.trans x4
      have hl4 : H4 Dd = some (.lst ws) := x24 _ _ dW hl
      refine ⟨ws, hl4, by rw [rs.length]; omega, ?_⟩
      have fpn : ∀ a ∈ fp, H1 a = none ∧ a ≠ Dd ∧ H' a = none := fun a m => by
        have h3 := (f4 a m).1
        have aM : a ∉ M := fun z => D6.dom a z h3
        have aW : a ∉ W.as := fun z => aM (D6.toDen0.was a z)
        have h' : H' a = none := by
          cases q : H' a with
          | none => rfl
          | some o => rw [x23 a o aW q] at h3; cases h3
        refine ⟨?_, fun z => aM (by rw [z]; exact hDM), h'⟩
        cases q : H1 a with
        | none => rfl
        | some o => rw [x2 a o aW q] at h'; cases h'
      have D7 : Den0 B W (fp ++ M) H4 g4 := D3.toDen0.grow x24 hg4 fun a m => ⟨(fpn a m).2.2, (f4 a m).2⟩
      have k24 : Keep M H' (fp ++ M) H4 := D3.toDen0.keeps x24 fun a m => (fpn a m).2.2
      have fdis : ∀ a ∈ fl, ∀ b ∈ fp, a ≠ b := fun a ha b hb z => by
        subst z
        exact (rs.inO a ha).2.2 (fpn a hb).2.2
      have xD4 : Ext W H1 (upd H4 Dd (.lst (ws ++ [y]))) := fun b o nb hb => by
        rw [upd_ne fun z => by subst z; rw [hD] at hb; cases hb]
        exact x14 b o nb hb
      have dm : Dd ∈ fp ++ M := List.mem_append_right _ hDM
      refine ⟨g4, ws ++ [y], acc ++ [d1], fp ++ M, fl ++ fp, rest', xD4, D7.upd dW dB, (re2.mono k24 x24 fun a m => List.mem_append_right _ (re2.inO a m).1).upd dm dfe, upd_same, ?_, ?_, ⟨dm, fun a m => List.mem_append_right _ (hOM a m), fun a m => (List.mem_append.mp m).elim (fun z => .inr (fpn a z).1) (hMn a), ?_⟩, e11, by rw [List.append_assoc]; exact eq, by rw [List.length_append, List.length_singleton]; omega⟩
      · have r3 : Reps K W (fp ++ M) H4 [y] [d1] fp := by
          have := Reps.cons r4 (Reps.nil (K := K) (W := W) (O := fp ++ M) (H := H4))
          rw [List.append_nil] at this
          exact this
        refine ((rs.mono k24 x24 fun a m => List.mem_append_right _ (rs.inO a m).1).append r3).upd dm fun z => ?_
        rcases List.mem_append.mp z with z | z
        · exact (hfl Dd z).2 rfl
        · exact (fpn Dd z).2.1 rfl
      · rw [List.nodup_append]
        exact ⟨nfl, n4, fdis⟩
      · intro a m
        rcases List.mem_append.mp m with m | m
        · exact hfl a m
        · exact ⟨(fpn a m).1, (fpn a m).2.1⟩
  · have he : i = xs.length := by omega
    subst he
    rw [List.drop_length] at e'
    unfold compL at e'
    cases e'
    rw [List.append_nil] at eq
    subst eq
    refine .inl ⟨stop _ (Nat.le_refl _), q _ H' (Dd :: fl) (x1.trans x2) D2.gen ?_ ?_ ?_⟩
    · exact List.nodup_cons.mpr ⟨fun z => (hfl Dd z).2 rfl, nfl⟩
    · intro a m
      have h1 : H1 a = none ∧ H' a ≠ none := by
        rcases List.mem_cons.mp m with m | m
        · subst m; exact ⟨hD, by rw [hl]; simp⟩
        · exact ⟨(hfl a m).1, (rs.inO a m).2.2⟩
      refine ⟨?_, h1.2⟩
      cases q : H a with
      | none => rfl
      | some o =>
        by_cases hw : a ∈ W.as
        · exact absurd h1.1 (D1.dom a (D1.toDen0.was a hw))
        · have := h1.1
          rw [x1 a o hw q] at this; cases this
    · refine .own List.mem_cons_self dW hl (rs.mono ?_ Ext.refl fun a m => List.mem_cons_of_mem _ (List.mem_append_left _ m))
      exact msk_le fun b z => by
        rcases List.mem_cons.mp z with z | z
        · rw [z]; exact hDM
        · rcases List.mem_append.mp z with z | z
          · exact (rs.inO b z).1
          · exact hOM b z

section
variable {X : Cx} {tg iter elt : Expr} {ifs : List Expr} {scope : Scope} {own : List (Str × Nat)} {pos spos py : Pos} {fi : IF} {wf : WF} {ct : TF} {f : OF} {g : TG}
abbrev Blk (X : Cx) (scope : Scope) (J : Cx → Prop) : Prop := ∀ (s : Shared) (H : Hp) (C : Addr) (cl : List (Str × Addr)) (fp : List Addr), J (X.blk s H scope (compEnvC scope cl C X.env) fp)
def yesT : TF := fun _ g => some (true, g)
/-- the conditions of a comprehension -/
def DTs1 (X : Cx) (ifs : List Expr) (ct : TF) : Prop := PTs X ifs (tTf X.K ct)
theorem dts_nil : DTs1 X [] yesT := by
  refine ⟨fun pins s σ H Q I hq => ?_⟩
  obtain ⟨B, W, O, ρ, g, b, g', D, e, q⟩ := hq
  cases e
  exact wpAny_tests_nil ⟨H, I, q H Ext.refl D.gen⟩
theorem dts_one {c : Expr} (h : DT X c ct) : DTs1 X [c] ct := pts_one h.pt
theorem tTf_s {K : Fg} {c : TF} : DTs K (tTf K c) c := fun B W O σ H ρ g b g' D e Q q => ⟨B, W, O, ρ, g, b, g', D, e, q⟩
theorem tOf_s {K : Fg} {c : OF} : DOs K (tOf K c) c := fun B W O σ H ρ g b g' D e Q q => ⟨B, W, O, ρ, g, b, g', D, e, q⟩
theorem do_lc (hc : X.calm = true) (hN : X.N.Nodup) (hi : DI X tg iter fi) (ok : BlkOk X.N X.env.scope scope own) (hg : Blk X scope fun Y => PG Y tg g) (hw : DGw X.K g (own.map (·.2)) wf) (ht : Blk X scope fun Y => DTs1 Y ifs ct) (he : Blk X scope fun Y => DO Y elt f)
    (hs : ∀ x, foldedSetIterable iter X.env x = pure x := by intro _; rfl) : DO X (.ListComp elt [⟨tg, iter, ifs, 0⟩] scope pos) (compD fi wf ct f (own.map (·.2))) := by
  obtain ⟨wi, pi, qi⟩ := hi
  exact ⟨_, pe_lc (tt := tTf X.K ct) (te := tOf X.K f) hc hN pi ok hg ht (fun s H C cl fp => (he s H C cl fp).pe) hs, lc_s qi hw tTf_s tOf_s⟩
theorem ds_setLc {i : Nat} {y : Str} (hc : X.calm = true) (hN : X.N.Nodup) (hy : X.N[i]? = some y) (hyl : X.env.scope.names.lookup y = some .local)
    (hsw : swapsWith (.ListComp elt [⟨tg, iter, ifs, 0⟩] scope pos) (some (.Name y py)) spos.line X.env = pure true) (hi : DI X tg iter fi) (ok : BlkOk X.N X.env.scope scope own) (hg : Blk X scope fun Y => PG Y tg g) (hw : DGw X.K g (own.map (·.2)) wf) (ht : Blk X scope fun Y => DTs1 Y ifs ct) (he : Blk X scope fun Y => DO Y elt f)
    (hs : ∀ x, foldedSetIterable iter X.env x = pure x := by intro _; rfl) : DS X (.Assign [.Name y py] (.ListComp elt [⟨tg, iter, ifs, 0⟩] scope pos) spos) (setD i (compD fi wf ct f (own.map (·.2)))) := by
  obtain ⟨wi, pi, qi⟩ := hi
  refine ⟨_, ps_setLc (tt := tTf X.K ct) (te := tOf X.K f) hc hN hy hyl hsw pi ok hg ht (fun s H C cl fp => (he s H C cl fp).pe) hs, fun B W O σ H ρ g r D e E q => ?_⟩
  obtain ⟨⟨d, g1⟩, e1, e2⟩ := Option.map_eq_some_iff.mp e
  cases e2
  refine lc_s qi hw tTf_s tOf_s B W O σ H ρ g d g1 D e1 _ fun v H1 fp x1 h1 n1 f1 r1 => ?_
  have D2 := D.withV x1 h1 n1 f1 r1
  exact q _ _ H1 (D.toDen0.keeps x1 fun a z => (f1 a z).1) (D2.set i)
end

/-! ### a def -/
def env0 (N : Nat) (ss : List SV) : Env := ss.map (fun s => some (.sh s)) ++ List.replicate (N - ss.length) none
def fnF (n N : Nat) (body : SF) : FF := fun ss g => if ss.length = n then (body (env0 N ss) g).bind fun r => match r with
  | .rt d g' => some (d, g')
  | .nx _ g' => some (.sh .non, g')
  | _ => none
else none
theorem fnF_ar {n N : Nat} {body : SF} : FF.ar n (fnF n N body) := fun ss g r h => by
  unfold fnF at h
  split at h
  · assumption
  · cases h
theorem erep0 {K : Fg} {W : Wd} {O : List Addr} {H : Hp} : ∀ {vs : List V} {ss : List SV} (k : Nat), RepSs K W (msk O H) vs ss → ERep K W O H (vs.map some ++ List.replicate k none) (ss.map (fun s => some (.sh s)) ++ List.replicate k none) []
  | _, _, k, .nil => by
    induction k with
    | zero => exact .nil
    | succ k ih => rw [List.replicate_succ, List.replicate_succ]; exact .non ih
  | _, _, k, .cons r t => .som (fp := []) (.sh r) (erep0 k t)
theorem den_start {K : Fg} {W : Wd} {O : List Addr} {H : Hp} {g : GS} {N : List Str} {vs : List V} {ss : List SV} (r : RepSs K W (msk O H) vs ss) (hO : ∀ a ∈ O, H a ≠ none) (hg : GOk W O H g) : Den K (O, H) W O (L2.start N vs) H (env0 N.length ss) g where
  base := Ext.refl
  sub := fun a m => m
  new := fun a m => .inl m
  dom := hO
  gen := hg
  bdom := hO
  env := ⟨[], by unfold L2.start env0; rw [r.length]; exact erep0 _ r, List.nodup_nil, fun a m => by simp at m⟩
theorem fn_ok {P : Program} {w : World} {K : Fg} {mg : Str → Option Value} {base : Heap} {x qual : Str} {st : Stmt} {f : Addr} {fd : FuncData} {N ps : List Str} {k : Nat} {body : SF} (F : Fun K x qual st f fd) (S : FnScope N ps (defScope st))
    (hb : ∀ (cdv : Value) (A : Around) (outer : List PySem.Env) (s : Shared) (H : Hp) (E : XK), Room k (A.deeper (PyProof.Rows.envOfC qual (defScope st) s.heap.objs.size f cdv)) → DSs (cxOf CX0 P w K mg base N qual (defScope st) f cdv A outer s H E).nox (defBody st) body) :
    FnOk P w K mg base CX0 (k + 1) f fd ps (spD K ps.length (fnF ps.length N.length body)) := by
  refine F.ok S (fun vs H Q E h => ?_) (fun cdv A outer s H vs Q E hr h => ?_)
  · obtain ⟨W, O, ss, g, d, g', hl, _⟩ := h
    exact hl
  · obtain ⟨W, O, ss, g, d, g', hl, rs, hO, hg, e, q⟩ := h
    obtain ⟨t, pt, qt⟩ := hb cdv A outer s H E hr
    refine ⟨t, pt, ?_⟩
    unfold fnF at e
    split at e
    · obtain ⟨r, e1, e2⟩ := Option.bind_eq_some_iff.mp e
      refine qt (O, H) W O _ H _ g r (den_start (N := N) rs hO hg) e1 _ ?_
      cases r with
      | nx ρ1 g1 =>
        cases e2
        exact fun σ' O' H' _ D' => q .non H' [] D'.base D'.gen List.nodup_nil (fun a m => by simp at m) (.sh .non)
      | rt d1 g1 =>
        cases e2
        intro v O' H' fp D' r' nd hf
        refine q v H' fp D'.base D'.gen nd (fun a m => ⟨hf a m, (r'.inO a m).2.2⟩) (r'.mono ?_ Ext.refl fun a m => List.mem_append_left _ m)
        exact msk_le fun b z => by
          rcases List.mem_append.mp z with z | z
          · exact (r'.inO b z).1
          · exact D'.sub b z
      | bk _ _ => cases e2
      | ct _ _ => cases e2
    · cases e
end DL

/-! DL7: built-ins that look at things, draws. -/
namespace DL
open PySem PySem.Spec L2
section
variable {X : Cx} {e a b c : Expr} {f fa fb fc : EF} {h ha' : OF} {fs : AF} {pos p : Pos} {x : Str}

/-! ### one thing looked at, handed to a built-in -/
theorem tCons1 {t : TE} {r : List V → Hp → VK → Prop} {σ : St} {H : Hp} {Q : VK} (h : t σ H fun x H1 => r [x] H1 Q) : tCB r (tCons t tNil) σ H Q := h
def lenP (f : OF) : EF := fun ρ g => (f ρ g).bind fun p => p.1.len?.map fun n => (.int (n : Nat), p.2)
theorem de_len (hg : Gl X "len") (hm : X.mg "len" = none) (ha : DP X a h) (he : starEach [a] X.env = (false, eval a X.env) :: starEach [] X.env := by rfl) (hpl : (backTo pos (starEach [] X.env)).any (·.1) = false := by rfl) :
    DE X (.Call (.Name "len" p) [a] [] pos) (lenP h) := by
  obtain ⟨t, pt, qt⟩ := ha
  refine ⟨_, pe_callB call_len_seq hg hm PySem.boot_len (pa_cons pt pa_nil he) (by decide) (by decide) he hpl, fun B W O σ H ρ g s g' D e Q q => ?_⟩
  obtain ⟨⟨d, g1⟩, e1, e2⟩ := Option.bind_eq_some_iff.mp e
  obtain ⟨n, e3, e4⟩ := Option.map_eq_some_iff.mp e2
  cases e4
  refine tCons1 (qt B W O σ H ρ g d g1 D e1 _ fun v H1 fp x1 h1 r1 => ?_)
  obtain ⟨pp, vs, rfl, hs, rfl⟩ := r1.len e3
  exact ⟨pp, vs, rfl, hs, q _ H1 x1 h1 .int⟩
def listP (f : OF) : OF := fun ρ g => (f ρ g).bind fun p => p.1.items?.map fun xs => (.own (xs.map .sh), p.2)
theorem do_list (hg : Gl X "list") (hm : X.mg "list" = none) (ha : DP X a h) (he : starEach [a] X.env = (false, eval a X.env) :: starEach [] X.env := by rfl) (hpl : (backTo pos (starEach [] X.env)).any (·.1) = false := by rfl) :
    DO X (.Call (.Name "list" p) [a] [] pos) (listP h) := by
  obtain ⟨t, pt, qt⟩ := ha
  refine ⟨_, pe_callTy call_list_of hg hm PyProof.Rows.boot_list (pa_cons pt pa_nil he) (by decide) (by decide) he hpl, fun B W O σ H ρ g s g' D e Q q => ?_⟩
  obtain ⟨⟨d, g1⟩, e1, e2⟩ := Option.bind_eq_some_iff.mp e
  obtain ⟨xs, e3, e4⟩ := Option.map_eq_some_iff.mp e2
  cases e4
  refine tCons1 (qt B W O σ H ρ g d g1 D e1 _ fun v H1 fp x1 h1 r1 => ?_)
  obtain ⟨pp, vs, rfl, hs, rs⟩ := r1.items e3
  exact ⟨pp, vs, rfl, hs, fun l hl => new_own D x1 h1 hl rs q⟩
def tupleP (f : OF) : EF := fun ρ g => (f ρ g).bind fun p => p.1.items?.map fun xs => (.tup xs, p.2)
theorem Rep.items2 {K : Fg} {W : Wd} {O : List Addr} {H : Hp} {v : V} {d : DV} {fp : List Addr} {xs : List SV} (r : Rep K W O H v d fp) (e : d.items? = some xs) : ∃ a vs, v = .ref a ∧ (SqL K H a vs ∨ SqT K (msk O H) a vs) ∧ RepSs K W (msk O H) vs xs := by
  cases r with
  | own ha hw h rs =>
    have e' := of_mapM_sh e
    subst e'
    exact ⟨_, _, rfl, .inl (.inl (.inl h)), (Reps.toS rs).1⟩
  | sh r =>
    cases r with
    | tup hq r => cases e; exact ⟨_, _, rfl, .inr hq, r⟩
    | lst hq r => cases e; exact ⟨_, _, rfl, .inl (.inl (.inl (of_msk hq).1)), r⟩
    | _ => cases e
theorem de_tuple (hg : Gl X "tuple") (hm : X.mg "tuple" = none) (ha : DP X a h) (he : starEach [a] X.env = (false, eval a X.env) :: starEach [] X.env := by rfl) (hpl : (backTo pos (starEach [] X.env)).any (·.1) = false := by rfl) :
    DE X (.Call (.Name "tuple" p) [a] [] pos) (tupleP h) := by
  obtain ⟨t, pt, qt⟩ := ha
  refine ⟨_, pe_callTy call_tuple_of hg hm PyProof.Rows.boot_tuple (pa_cons pt pa_nil he) (by decide) (by decide) he hpl, fun B W O σ H ρ g s g' D e Q q => ?_⟩
  obtain ⟨⟨d, g1⟩, e1, e2⟩ := Option.bind_eq_some_iff.mp e
  obtain ⟨xs, e3, e4⟩ := Option.map_eq_some_iff.mp e2
  cases e4
  refine tCons1 (qt B W O σ H ρ g d g1 D e1 _ fun v H1 fp x1 h1 r1 => ?_)
  obtain ⟨pp, vs, rfl, hs, rs⟩ := r1.items2 e3
  have D1 := D.step x1 h1
  refine ⟨pp, vs, rfl, ?_⟩
  rcases hs with hs | hs
  · exact .inl ⟨hs, fun l hl => q _ _ (x1.trans (Same.ext (keep_new hl))) (h1.same (keep_new hl)) (rep_tup D1.dom hl rs)⟩
  · exact .inr ⟨sqT_mono msk_sub hs, q _ H1 x1 h1 (.tup hs rs)⟩
/-- what isinstance sees -/
def DV.ty? : DV → Option String
  | .own _ => some "list"
  | .sh .non => some "NoneType"
  | .sh (.bl _) => some "bool"
  | .sh (.int _) => some "int"
  | .sh (.str _) => some "str"
  | .sh (.tup _) => some "tuple"
  | .sh (.lst _) => some "list"
  | .sh (.raw _) => none
  | .sh .gen => none
theorem Rep.ty {K : Fg} {W : Wd} {O : List Addr} {H : Hp} {v : V} {d : DV} {fp : List Addr} {T : String} (r : Rep K W O H v d fp) (e : d.ty? = some T) : TyX K H v (.type T) := by
  cases r with
  | own ha hw h rs => cases e; exact .base (.lst h)
  | sh r =>
    cases r with
    | non => cases e; exact .base .non
    | bl => cases e; exact .base (.bl _)
    | int => cases e; exact .base (.int _)
    | str => cases e; exact .base (.str _)
    | raw => cases e
    | gen => cases e
    | lst hq r => cases e; exact .base (.lst (of_msk hq).1)
    | tup hq r =>
      cases e
      rcases sqT_mono msk_sub hq with (hq | ⟨o, hq⟩) | ⟨o, its, n, hk, hc, _⟩
      · exact .base (.tup hq)
      · exact .fTuple hq
      · exact .kTuple hk hc
def isiP (T : String) (f : OF) : EF := fun ρ g => (f ρ g).bind fun p => p.1.ty?.bind fun t => (kitB t T).map fun b => (.bl b, p.2)
theorem de_isi {T : String} {xt : Str} {p2 : Pos} (hg : Gl X "isinstance") (hm : X.mg "isinstance" = none) (ha : DP X a h) (hgT : Gl X xt) (hmT : X.mg xt = none) (hvT : bootBuiltins xt = some (.type T)) (hnT : xt ≠ "__name__" := by decide) (hdT : (xt == ("__debug__" : Str)) = false := by decide)
    (he : starEach [a, .Name xt p2] X.env = (false, eval a X.env) :: starEach [.Name xt p2] X.env := by rfl) (he2 : starEach [.Name xt p2] X.env = (false, eval (.Name xt p2) X.env) :: starEach [] X.env := by rfl) (hpl : (backTo pos (starEach [.Name xt p2] X.env)).any (·.1) = false := by rfl) :
    DE X (.Call (.Name "isinstance" p) [a, .Name xt p2] [] pos) (isiP T h) := by
  obtain ⟨t, pt, qt⟩ := ha
  refine ⟨_, pe_callB call_isi hg hm PyProof.Rows.boot_isinstance (pa_cons pt (pa_cons (pe_bltn (v := .ty T) hgT hmT hvT rfl hnT hdT) pa_nil he2) he) (by decide) (by decide) he hpl, fun B W O σ H ρ g s g' D e Q q => ?_⟩
  obtain ⟨⟨d, g1⟩, e1, e2⟩ := Option.bind_eq_some_iff.mp e
  obtain ⟨tt, e3, e4⟩ := Option.bind_eq_some_iff.mp e2
  obtain ⟨b, e5, e6⟩ := Option.map_eq_some_iff.mp e4
  cases e6
  refine qt B W O σ H ρ g d g1 D e1 _ fun v H1 fp x1 h1 r1 => ?_
  exact ⟨v, .ty T, _, _, b, rfl, .ty T, r1.ty e3, kit_ty e5, q _ H1 x1 h1 .bl⟩

/-! ### the draws -/
def GS.at (g : GS) : Nat := (g.turn % (g.cells.length : Int)).toNat
def GS.draw (g : GS) (b : Int) : Int × GS :=
  if 1000000000000000000 ≤ g.cells.getD g.at 0 ∧ 0 < g.rests.getD g.at 0 then (g.rests.getD g.at 0 % b, ⟨g.cells, g.rests.set g.at (g.rests.getD g.at 0 / b), g.turn + 1, by rw [List.length_set]; exact g.ok⟩)
  else
    let n := (g.cells.getD g.at 0 * 48271 + g.turn * 69621 + 11) % 2147483647
    (((n * n + g.turn * 7919 + 3) % 2147483629) % b, ⟨g.cells, g.rests, g.turn + 1, g.ok⟩)
def drawF : FF := fun ss g => match ss with
  | [.gen, .int b] => if 0 < b ∧ b.natAbs.log2 < 9000 then some (.sh (.int (g.draw b).1), (g.draw b).2) else none
  | _ => none
theorem drawF_ar : FF.ar 2 drawF := fun ss g r h => by
  unfold drawF at h
  split at h
  · rfl
  · cases h
theorem GS.draw_lt (g : GS) {b : Int} (hb : 0 < b) : 0 ≤ (g.draw b).1 ∧ (g.draw b).1 < b := by
  unfold GS.draw
  split
  · exact ⟨Int.emod_nonneg _ (by omega), Int.emod_lt_of_pos _ hb⟩
  · exact ⟨Int.emod_nonneg _ (by omega), Int.emod_lt_of_pos _ hb⟩
def spStart (K : Fg) : Sp := fun vs H Q _ => ∃ (a : Addr) (ns : List Int), vs = [.ref a] ∧ SqL K H a (ns.map V.int) ∧ ns.length ≤ 63 ∧
  ∀ (g : GS) (s c r : Addr) (H' : Hp), Same H H' → H s = none → H c = none → H r = none → GOk (some (s, c, r)) [s, c, r] H' g → Q (.ref s) H'
def spLaw (K : Fg) : Sp := fun vs H Q _ => ∃ (a : Addr) (ns : List Int), vs = [.ref a] ∧ SqL K H a (ns.map V.int) ∧ ns.length ≤ 63 ∧ ∀ H', Q (.bl true) H'
/-- behind the law's first statement -/
theorem law_body {K : Fg} {N : Nat} {g : GS} {s c r : Addr} {H : Hp} {body : SF} {i : Nat} {σ : St} {D : Ends} {t : TS} (qt : DSt K t body) (hσ : σ.length = N) (hi : σ[i]? = some (some (.ref s))) (hg : GOk (some (s, c, r)) [s, c, r] H g)
    (hl : ∃ g', body ((List.replicate N none).set i (some (.sh .gen))) g = some (.rt (.sh (.bl true)) g')) (q : ∀ H', D.rt (.bl true) H') : t D σ H := by
  obtain ⟨g', e⟩ := hl
  have hm := hg.mem
  have er : ∀ (σ : St), ERep K (some (s, c, r)) [s, c, r] H σ (List.replicate σ.length none) [] := fun σ => by
    induction σ with
    | nil => exact .nil
    | cons x σ ih => rw [List.length_cons, List.replicate_succ]; exact .non ih
  have hin : i < σ.length := (List.getElem?_eq_some_iff.mp hi).1
  have en : ERep K (some (s, c, r)) [s, c, r] H σ (((List.replicate N none : Env)).set i none) [] := by
    have : ((List.replicate N none : Env)).set i none = List.replicate σ.length none := by
      rw [hσ]
      apply List.ext_getElem?
      intro j
      rw [List.getElem?_set]
      by_cases hij : i = j
      · subst hij
        by_cases hl : i < N
        · simp [hl]
        · simp [hl]
      · simp [hij]
    rw [this]
    exact er σ
  obtain ⟨fe, h1, h2, h3⟩ := ERep.put (fq := []) (Rep.sh (.gen rfl)) en (by rw [List.length_replicate, ← hσ]; exact hin) hi (by simp)
  have hmem : ∀ a ∈ [s, c, r], H a ≠ none := fun a m => (hm a (by simpa [Wd.as] using m)).2
  refine qt ([s, c, r], H) (some (s, c, r)) [s, c, r] σ H _ g _ { base := Ext.refl, sub := fun a m => m, new := fun a m => .inl m, dom := hmem, gen := hg, bdom := hmem, env := ⟨fe, h1, h2, fun a m => by have := h3 a m; simp at this⟩ } e D ?_
  intro v O' H' fp _ r' _ _
  cases r' with
  | sh r' => cases r'; exact q H'
end
end DL

/-! DL8: comparisons as tests; more. -/
namespace DL
open PySem PySem.Spec L2
theorem room65 {k : Nat} {A : Around} (r : Room k A) : A.units + 65 < cLine := by have := r.un; omega
section
variable {X : Cx} {e a b c : Expr} {f fa fb fc : EF} {h ha' : OF} {fs : AF} {pos p : Pos} {x : Str}
theorem dt_cmp {op : CmpOp} {r : R2} {k : SV → SV → Option SV} (ho : OpR X (compareOp op) r) (hr : R2S X.K r k) (ha : DE X a fa) (hb : DE X b fb) (hm : behindInMarks op b = false) : DT X (.Compare a [op] [b] pos) (tB1 (b2 k fa fb)) := by
  obtain ⟨ta, pa, qa⟩ := ha
  obtain ⟨tb, pb, qb⟩ := hb
  exact ⟨_, pt_cmpR ho pa pb hm, tB1s (op2s hr qa qb)⟩
theorem dt_lt (ha : DE X a fa) (hb : DE X b fb) : DT X (.Compare a [.Lt] [b] pos) (tB1 (b2 hLt fa fb)) := dt_cmp op_lt (r2_I0 fun _ _ _ _ => .bl) ha hb (nomark _)
theorem dt_le (ha : DE X a fa) (hb : DE X b fb) : DT X (.Compare a [.LtE] [b] pos) (tB1 (b2 hLe fa fb)) := dt_cmp op_le (r2_I0 fun _ _ _ _ => .bl) ha hb (nomark _)
theorem dt_gt (ha : DE X a fa) (hb : DE X b fb) : DT X (.Compare a [.Gt] [b] pos) (tB1 (b2 hGt fa fb)) := dt_cmp op_gt (r2_I0 fun _ _ _ _ => .bl) ha hb (nomark _)
theorem dt_ge (ha : DE X a fa) (hb : DE X b fb) : DT X (.Compare a [.GtE] [b] pos) (tB1 (b2 hGe fa fb)) := dt_cmp op_ge (r2_I0 fun _ _ _ _ => .bl) ha hb (nomark _)
theorem dt_eq (hu : X.A.units + 64 < cLine) (ha : DE X a fa) (hb : DE X b fb) : DT X (.Compare a [.Eq] [b] pos) (tB1 (b2 hEq fa fb)) := dt_cmp (op_eqX hu) r2_eq ha hb (nomark _)
theorem dt_ne (hu : X.A.units + 64 < cLine) (ha : DE X a fa) (hb : DE X b fb) : DT X (.Compare a [.NotEq] [b] pos) (tB1 (b2 hNe fa fb)) := dt_cmp (op_neX hu) r2_ne ha hb (nomark _)
theorem dt_in (hu : X.A.units + 65 < cLine) (ha : DE X a fa) (hb : DE X b fb) (hm : behindInMarks .In b = false := by rfl) : DT X (.Compare a [.In] [b] pos) (tB1 (b2 (hInD fun x => x) fa fb)) := dt_cmp (op_inD hu) r2_in ha hb hm
theorem dt_notIn (hu : X.A.units + 65 < cLine) (ha : DE X a fa) (hb : DE X b fb) (hm : behindInMarks .NotIn b = false := by rfl) : DT X (.Compare a [.NotIn] [b] pos) (tB1 (b2 (hInD fun x => !x) fa fb)) := dt_cmp (op_notInD hu) r2_notIn ha hb hm
theorem dt_isN (ha : DP X a ha') {k : Nat} {p2 : Pos} : DT X (.Compare a [.Is] [.Constant .none k p2] pos) (tB1 (u1P (isN fun x => x) ha')) := by
  obtain ⟨t, pt, qt⟩ := ha
  refine ⟨_, pt_cmpR op_isN pt pe_non (nomark _), tB1s fun B W O σ H ρ g s g' D e Q q => ?_⟩
  obtain ⟨⟨x, g1⟩, e1, e⟩ := Option.bind_eq_some_iff.mp e
  obtain ⟨s1, e3, e4⟩ := Option.map_eq_some_iff.mp e
  cases e4
  refine qt B W O σ H ρ g x g1 D e1 _ fun v H1 fp x1 h1 r1 => ?_
  have z := isN_ok r1 e3
  subst z
  exact ⟨rfl, q _ H1 x1 h1 .bl⟩
theorem dt_notN (ha : DP X a ha') {k : Nat} {p2 : Pos} : DT X (.Compare a [.IsNot] [.Constant .none k p2] pos) (tB1 (u1P (isN fun x => !x) ha')) := by
  obtain ⟨t, pt, qt⟩ := ha
  refine ⟨_, pt_cmpR op_notN pt pe_non (nomark _), tB1s fun B W O σ H ρ g s g' D e Q q => ?_⟩
  obtain ⟨⟨x, g1⟩, e1, e⟩ := Option.bind_eq_some_iff.mp e
  obtain ⟨s1, e3, e4⟩ := Option.map_eq_some_iff.mp e
  cases e4
  refine qt B W O σ H ρ g x g1 D e1 _ fun v H1 fp x1 h1 r1 => ?_
  have z := isN_ok r1 e3
  subst z
  exact ⟨rfl, q _ H1 x1 h1 .bl⟩
end
end DL

namespace DL
open L2
def c_ONE : SV := .tup [.int 1, .int 1]
def c_ZERO : SV := .tup [.int 0, .int 1]
def B_law_gcd : SF := seqD (setD 0 (oS (c1 hAbs (aC (vS 0) (aN)))))
  (seqD (setD 1 (oS (c1 hAbs (aC (vS 1) (aN)))))
  (seqD (forD (iR1 (kS (.int 4000))) (gN 2)
  (seqD (ifD (tB1 (b2 hEq (vS 1) (kS (.int 0)))) (brkD) (skipD))
  (seqD (setD 3 (oS (b2 hMod (c1 hInt (aC (vS 0) (aN))) (vS 1))))
  (seqD (setD 0 (oS (vS 1)))
  (setD 1 (oS (vS 3)))))))
  (retD (oS (vS 0)))))
def F_law_gcd : FF := fnF 2 4 B_law_gcd
def B_law_is_integer : SF := retD (oS (vAnd (isiP "int" (vP 0)) (u1 hNot (isiP "bool" (vP 0)))))
def F_law_is_integer : FF := fnF 1 1 B_law_is_integer
def B_law_same : SF := seqD (ifD (tOr1 (tNot1 (tB1 (isiP "tuple" (vP 0)))) (tB1 (b2 hNe (lenP (vP 0)) (kS (.int 2))))) (retD (oS (kS (.bl false)))) (skipD))
  (seqD (ifD (tOr1 (tNot1 (tB1 (fz (callF F_law_is_integer (aC (b2 hIx (vS 0) (kS (.int 0))) (aN)))))) (tNot1 (tB1 (fz (callF F_law_is_integer (aC (b2 hIx (vS 0) (kS (.int 1))) (aN))))))) (retD (oS (kS (.bl false)))) (skipD))
  (seqD (ifD (tOr1 (tB1 (b2 hLt (b2 hIx (vS 0) (kS (.int 1))) (kS (.int 1)))) (tB1 (b2 hNe (fz (callF F_law_gcd (aC (b2 hIx (vS 0) (kS (.int 0))) (aC (b2 hIx (vS 0) (kS (.int 1))) (aN))))) (kS (.int 1))))) (retD (oS (kS (.bl false)))) (skipD))
  (retD (oS (b2 hEq (b2 hMul (b2 hIx (vS 0) (kS (.int 0))) (vS 2)) (b2 hMul (vS 1) (b2 hIx (vS 0) (kS (.int 1)))))))))
def F_law_same : FF := fnF 3 3 B_law_same
def B_compare : SF := seqD (setD 2 (oS (b2 hMul (b2 hIx (vS 0) (kS (.int 0))) (b2 hIx (vS 1) (kS (.int 1))))))
  (seqD (setD 3 (oS (b2 hMul (b2 hIx (vS 1) (kS (.int 0))) (b2 hIx (vS 0) (kS (.int 1))))))
  (seqD (ifD (tB1 (b2 hLt (vS 2) (vS 3))) (retD (oS (u1 hNeg (kS (.int 1))))) (skipD))
  (seqD (ifD (tB1 (b2 hGt (vS 2) (vS 3))) (retD (oS (kS (.int 1)))) (skipD))
  (retD (oS (kS (.int 0)))))))
def F_compare : FF := fnF 2 4 B_compare
def B_greatest : SF := seqD (setD 1 (oS (b2 hIx (vS 0) (kS (.int 0)))))
  (seqD (forD (iSeq (vS 0)) (gN 2)
  (ifD (tB1 (b2 hGt (fz (callF F_compare (aC (vS 2) (aC (vS 1) (aN))))) (kS (.int 0)))) (setD 1 (oS (vS 2))) (skipD)))
  (retD (oS (vS 1))))
def F_greatest : FF := fnF 1 3 B_greatest
def B_least : SF := seqD (setD 1 (oS (b2 hIx (vS 0) (kS (.int 0)))))
  (seqD (forD (iSeq (vS 0)) (gN 2)
  (ifD (tB1 (b2 hLt (fz (callF F_compare (aC (vS 2) (aC (vS 1) (aN))))) (kS (.int 0)))) (setD 1 (oS (vS 2))) (skipD)))
  (retD (oS (vS 1))))
def F_least : FF := fnF 1 3 B_least
def B_law_ends : SF := seqD (setD 1 (oS (fz (callF F_greatest (aC (fz (listP (vP 0))) (aN))))))
  (seqD (setD 2 (oS (fz (callF F_least (aC (fz (listP (vP 0))) (aN))))))
  (seqD (ifD (tOr1 (tB1 (b2 (hInD fun x => !x) (vS 1) (vS 0))) (tB1 (b2 (hInD fun x => !x) (vS 2) (vS 0)))) (retD (oS (kS (.bl false)))) (skipD))
  (seqD (forD (iSeq (vS 0)) (gN 3)
  (ifD (tOr1 (tB1 (b2 hGt (b2 hMul (b2 hIx (vS 3) (kS (.int 0))) (b2 hIx (vS 1) (kS (.int 1)))) (b2 hMul (b2 hIx (vS 1) (kS (.int 0))) (b2 hIx (vS 3) (kS (.int 1)))))) (tB1 (b2 hLt (b2 hMul (b2 hIx (vS 3) (kS (.int 0))) (b2 hIx (vS 2) (kS (.int 1)))) (b2 hMul (b2 hIx (vS 2) (kS (.int 0))) (b2 hIx (vS 3) (kS (.int 1))))))) (retD (oS (kS (.bl false)))) (skipD)))
  (retD (oS (vAnd (fz (callF F_law_same (aC (vS 1) (aC (b2 hIx (vS 1) (kS (.int 0))) (aC (b2 hIx (vS 1) (kS (.int 1))) (aN)))))) (fz (callF F_law_same (aC (vS 2) (aC (b2 hIx (vS 2) (kS (.int 0))) (aC (b2 hIx (vS 2) (kS (.int 1))) (aN))))))))))))
def F_law_ends : FF := fnF 1 4 B_law_ends
def B_law_great : SF := seqD (ifD (tNot1 (tB1 (vS 1))) (retD (callF drawF (aC (vS 0) (aC (kS (.int 1000)) (aN))))) (skipD))
  (seqD (setD 2 (oS (kS (.int 0))))
  (seqD (forD (iR1 (kS (.int 5))) (gN 3)
  (setD 2 (oS (b2 hAdd (b2 hMul (vS 2) (b2 hPow (kS (.int 10)) (kS (.int 8)))) (fz (callF drawF (aC (vS 0) (aC (b2 hPow (kS (.int 10)) (kS (.int 8))) (aN)))))))))
  (retD (oS (vS 2)))))
def F_law_great : FF := fnF 2 4 B_law_great
def B_law_fraction : SF := seqD (setD 2 (oS (fz (callF drawF (aC (vS 0) (aC (kS (.int 5)) (aN)))))))
  (seqD (setD 3 (oS (fz (callF F_law_great (aC (vS 0) (aC (vS 1) (aN)))))))
  (seqD (setD 4 (oS (b2 hAdd (kS (.int 1)) (fz (callF F_law_great (aC (vS 0) (aC (vS 1) (aN))))))))
  (seqD (ifD (tB1 (b2 hEq (vS 2) (kS (.int 0)))) (setD 3 (oS (kS (.int 0)))) (skipD))
  (seqD (ifD (tOr1 (tB1 (b2 hEq (vS 2) (kS (.int 1)))) (tB1 (b2 hEq (vS 2) (kS (.int 2))))) (setD 3 (oS (u1 hNeg (vS 3)))) (skipD))
  (seqD (setD 5 (oS (fz (callF F_law_gcd (aC (vS 3) (aC (vS 4) (aN)))))))
  (retD (oS (tupF (aC (b2 hDiv (vS 3) (vS 5)) (aC (b2 hDiv (vS 4) (vS 5)) (aN)))))))))))
def F_law_fraction : FF := fnF 2 6 B_law_fraction
def B_ratio : SF := seqD (ifD (tB1 (b2 hLt (vS 1) (kS (.int 0)))) (seqD (setD 0 (oS (u1 hNeg (vS 0))))
  (setD 1 (oS (u1 hNeg (vS 1))))) (skipD))
  (seqD (setD 2 (oS (c1 hGcd (aC (vS 0) (aC (vS 1) (aN))))))
  (retD (oS (tupF (aC (b2 hDiv (vS 0) (vS 2)) (aC (b2 hDiv (vS 1) (vS 2)) (aN)))))))
def F_ratio : FF := fnF 2 3 B_ratio
def B_add : SF := retD (callF F_ratio (aC (b2 hAdd (b2 hMul (b2 hIx (vS 0) (kS (.int 0))) (b2 hIx (vS 1) (kS (.int 1)))) (b2 hMul (b2 hIx (vS 1) (kS (.int 0))) (b2 hIx (vS 0) (kS (.int 1))))) (aC (b2 hMul (b2 hIx (vS 0) (kS (.int 1))) (b2 hIx (vS 1) (kS (.int 1)))) (aN))))
def F_add : FF := fnF 2 2 B_add
def B_div : SF := retD (callF F_ratio (aC (b2 hMul (b2 hIx (vS 0) (kS (.int 0))) (b2 hIx (vS 1) (kS (.int 1)))) (aC (b2 hMul (b2 hIx (vS 0) (kS (.int 1))) (b2 hIx (vS 1) (kS (.int 0)))) (aN))))
def F_div : FF := fnF 2 2 B_div
def B_mul : SF := retD (callF F_ratio (aC (b2 hMul (b2 hIx (vS 0) (kS (.int 0))) (b2 hIx (vS 1) (kS (.int 0)))) (aC (b2 hMul (b2 hIx (vS 0) (kS (.int 1))) (b2 hIx (vS 1) (kS (.int 1)))) (aN))))
def F_mul : FF := fnF 2 2 B_mul
def B_sub : SF := retD (callF F_ratio (aC (b2 hSub (b2 hMul (b2 hIx (vS 0) (kS (.int 0))) (b2 hIx (vS 1) (kS (.int 1)))) (b2 hMul (b2 hIx (vS 1) (kS (.int 0))) (b2 hIx (vS 0) (kS (.int 1))))) (aC (b2 hMul (b2 hIx (vS 0) (kS (.int 1))) (b2 hIx (vS 1) (kS (.int 1)))) (aN))))
def F_sub : FF := fnF 2 2 B_sub
def B_law_pair : SF := seqD (ifD (tNot1 (tB1 (fz (callF F_law_same (aC (fz (callF F_add (aC (vS 0) (aC (vS 1) (aN))))) (aC (b2 hAdd (b2 hMul (b2 hIx (vS 0) (kS (.int 0))) (b2 hIx (vS 1) (kS (.int 1)))) (b2 hMul (b2 hIx (vS 1) (kS (.int 0))) (b2 hIx (vS 0) (kS (.int 1))))) (aC (b2 hMul (b2 hIx (vS 0) (kS (.int 1))) (b2 hIx (vS 1) (kS (.int 1)))) (aN)))))))) (retD (oS (kS (.bl false)))) (skipD))
  (seqD (ifD (tNot1 (tB1 (fz (callF F_law_same (aC (fz (callF F_sub (aC (vS 0) (aC (vS 1) (aN))))) (aC (b2 hSub (b2 hMul (b2 hIx (vS 0) (kS (.int 0))) (b2 hIx (vS 1) (kS (.int 1)))) (b2 hMul (b2 hIx (vS 1) (kS (.int 0))) (b2 hIx (vS 0) (kS (.int 1))))) (aC (b2 hMul (b2 hIx (vS 0) (kS (.int 1))) (b2 hIx (vS 1) (kS (.int 1)))) (aN)))))))) (retD (oS (kS (.bl false)))) (skipD))
  (seqD (ifD (tNot1 (tB1 (fz (callF F_law_same (aC (fz (callF F_mul (aC (vS 0) (aC (vS 1) (aN))))) (aC (b2 hMul (b2 hIx (vS 0) (kS (.int 0))) (b2 hIx (vS 1) (kS (.int 0)))) (aC (b2 hMul (b2 hIx (vS 0) (kS (.int 1))) (b2 hIx (vS 1) (kS (.int 1)))) (aN)))))))) (retD (oS (kS (.bl false)))) (skipD))
  (seqD (ifD (tAnd1 (tB1 (b2 hNe (b2 hIx (vS 1) (kS (.int 0))) (kS (.int 0)))) (tNot1 (tB1 (fz (callF F_law_same (aC (fz (callF F_div (aC (vS 0) (aC (vS 1) (aN))))) (aC (b2 hMul (b2 hIx (vS 0) (kS (.int 0))) (b2 hIx (vS 1) (kS (.int 1)))) (aC (b2 hMul (b2 hIx (vS 0) (kS (.int 1))) (b2 hIx (vS 1) (kS (.int 0)))) (aN))))))))) (retD (oS (kS (.bl false)))) (skipD))
  (seqD (setD 2 (oS (fz (callF F_compare (aC (vS 0) (aC (vS 1) (aN)))))))
  (seqD (ifD (tNot1 (tB1 (fz (callF F_law_is_integer (aC (vS 2) (aN)))))) (retD (oS (kS (.bl false)))) (skipD))
  (seqD (setD 3 (oS (b2 hMul (b2 hIx (vS 0) (kS (.int 0))) (b2 hIx (vS 1) (kS (.int 1))))))
  (seqD (setD 4 (oS (b2 hMul (b2 hIx (vS 1) (kS (.int 0))) (b2 hIx (vS 0) (kS (.int 1))))))
  (retD (oS (b2 hEq (vS 2) (b2 hSub (c1 hInt (aC (b2 hGt (vS 3) (vS 4)) (aN))) (c1 hInt (aC (b2 hLt (vS 3) (vS 4)) (aN))))))))))))))
def F_law_pair : FF := fnF 2 5 B_law_pair
def B_scaled : SF := seqD (setD 1 (oS (kS (.int 1))))
  (seqD (forD (iSeq (vS 0)) (gN 2)
  (setD 1 (oS (c1 hLcm (aC (vS 1) (aC (b2 hIx (vS 2) (kS (.int 1))) (aN)))))))
  (retD (oS (tupF (aC (fz (compD (iSeq (vS 0)) (wN 2) (yesT) (oS (b2 hMul (b2 hIx (vS 2) (kS (.int 0))) (b2 hDiv (vS 1) (b2 hIx (vS 2) (kS (.int 1)))))) [2])) (aC (vS 1) (aN)))))))
def F_scaled : FF := fnF 1 3 B_scaled
def B_law_scaled : SF := seqD (setD 1 (oS (fz (callF F_scaled (aC (vS 0) (aN))))))
  (seqD (ifD (tOr1 (tNot1 (tB1 (isiP "tuple" (vP 1)))) (tB1 (b2 hNe (lenP (vP 1)) (kS (.int 2))))) (retD (oS (kS (.bl false)))) (skipD))
  (seqD (ifD (tOr1 (tNot1 (tB1 (isiP "list" (oS (b2 hIx (vS 1) (kS (.int 0))))))) (tOr1 (tB1 (b2 hNe (lenP (oS (b2 hIx (vS 1) (kS (.int 0))))) (lenP (vP 0)))) (tNot1 (tB1 (fz (callF F_law_is_integer (aC (b2 hIx (vS 1) (kS (.int 1))) (aN)))))))) (retD (oS (kS (.bl false)))) (skipD))
  (seqD (setD 2 (oS (kS (.int 1))))
  (seqD (forD (iSeq (vS 0)) (gN 3)
  (setD 2 (oS (b2 hMul (b2 hDiv (vS 2) (fz (callF F_law_gcd (aC (vS 2) (aC (b2 hIx (vS 3) (kS (.int 1))) (aN)))))) (b2 hIx (vS 3) (kS (.int 1)))))))
  (seqD (ifD (tB1 (b2 hNe (b2 hIx (vS 1) (kS (.int 1))) (vS 2))) (retD (oS (kS (.bl false)))) (skipD))
  (seqD (forD (iR1 (lenP (vP 0))) (gN 4)
  (ifD (tOr1 (tNot1 (tB1 (fz (callF F_law_is_integer (aC (b2 hIx (b2 hIx (vS 1) (kS (.int 0))) (vS 4)) (aN)))))) (tB1 (b2 hNe (b2 hMul (b2 hIx (b2 hIx (vS 1) (kS (.int 0))) (vS 4)) (b2 hIx (b2 hIx (vS 0) (vS 4)) (kS (.int 1)))) (b2 hMul (b2 hIx (b2 hIx (vS 0) (vS 4)) (kS (.int 0))) (vS 2))))) (retD (oS (kS (.bl false)))) (skipD)))
  (retD (oS (kS (.bl true))))))))))
def F_law_scaled : FF := fnF 1 5 B_law_scaled
def B_dot : SF := seqD (setD 2 (oS (kS c_ZERO)))
  (seqD (forD (iZp (vS 0) (vS 1)) (gT 2 (gLC (gN 3) (gLC (gN 4) (gLN))))
  (setD 2 (oS (fz (callF F_add (aC (vS 2) (aC (fz (callF F_mul (aC (vS 3) (aC (vS 4) (aN))))) (aN))))))))
  (retD (oS (vS 2))))
def F_dot : FF := fnF 2 5 B_dot
def B_total : SF := seqD (setD 1 (oS (kS c_ZERO)))
  (seqD (forD (iSeq (vS 0)) (gN 2)
  (setD 1 (oS (fz (callF F_add (aC (vS 1) (aC (vS 2) (aN))))))))
  (retD (oS (vS 1))))
def F_total : FF := fnF 1 3 B_total
def B_law_sums : SF := seqD (setD 2 (oS (kS (.int 0))))
  (seqD (setD 3 (oS (kS (.int 1))))
  (seqD (forD (iSeq (vS 0)) (gN 4)
  (seqD (setD 2 (oS (b2 hAdd (b2 hMul (vS 2) (b2 hIx (vS 4) (kS (.int 1)))) (b2 hMul (b2 hIx (vS 4) (kS (.int 0))) (vS 3)))))
  (setD 3 (oS (b2 hMul (vS 3) (b2 hIx (vS 4) (kS (.int 1))))))))
  (seqD (ifD (tNot1 (tB1 (fz (callF F_law_same (aC (fz (callF F_total (aC (vS 0) (aN)))) (aC (vS 2) (aC (vS 3) (aN)))))))) (retD (oS (kS (.bl false)))) (skipD))
  (seqD (setD 2 (oS (kS (.int 0))))
  (seqD (setD 3 (oS (kS (.int 1))))
  (seqD (forD (iR1 (lenP (vP 0))) (gN 5)
  (seqD (setD 2 (oS (b2 hAdd (b2 hMul (b2 hMul (vS 2) (b2 hIx (b2 hIx (vS 0) (vS 5)) (kS (.int 1)))) (b2 hIx (b2 hIx (vS 1) (vS 5)) (kS (.int 1)))) (b2 hMul (b2 hMul (b2 hIx (b2 hIx (vS 0) (vS 5)) (kS (.int 0))) (b2 hIx (b2 hIx (vS 1) (vS 5)) (kS (.int 0)))) (vS 3)))))
  (setD 3 (oS (b2 hMul (b2 hMul (vS 3) (b2 hIx (b2 hIx (vS 0) (vS 5)) (kS (.int 1)))) (b2 hIx (b2 hIx (vS 1) (vS 5)) (kS (.int 1))))))))
  (retD (callF F_law_same (aC (fz (callF F_dot (aC (vS 0) (aC (vS 1) (aN))))) (aC (vS 2) (aC (vS 3) (aN))))))))))))
def F_law_sums : FF := fnF 2 6 B_law_sums
def B_law : SF := seqD (setD 2 (oS (b2 hAdd (kS (.int 1)) (fz (callF drawF (aC (vS 1) (aC (kS (.int 8)) (aN))))))))
  (seqD (setD 3 (oS (b2 hEq (fz (callF drawF (aC (vS 1) (aC (kS (.int 4)) (aN))))) (kS (.int 0)))))
  (seqD (setD 5 (compD (iR1 (vS 2)) (wN 4) (yesT) (callF F_law_fraction (aC (vS 1) (aC (vS 3) (aN)))) [4]))
  (seqD (frzD 6 (setD 6 (compD (iR1 (vS 2)) (wN 4) (yesT) (callF F_law_fraction (aC (vS 1) (aC (vS 3) (aN)))) [4])))
  (seqD (frzD 5 (ifD (tB1 (b2 hEq (fz (callF drawF (aC (vS 1) (aC (kS (.int 3)) (aN))))) (kS (.int 0)))) (asgD (oS (un (ixP (vP 5) (fz (callF drawF (aC (vS 1) (aC (vS 2) (aN)))))))) (gIx 5 (fz (callF drawF (aC (vS 1) (aC (vS 2) (aN))))))) (skipD)))
  (seqD (ifD (tOr1 (tNot1 (tB1 (fz (callF F_law_same (aC (kS c_ZERO) (aC (kS (.int 0)) (aC (kS (.int 1)) (aN)))))))) (tNot1 (tB1 (fz (callF F_law_same (aC (kS c_ONE) (aC (kS (.int 1)) (aC (kS (.int 1)) (aN))))))))) (retD (oS (kS (.bl false)))) (skipD))
  (seqD (setD 7 (oS (b2 hSub (fz (callF F_law_great (aC (vS 1) (aC (vS 3) (aN))))) (fz (callF F_law_great (aC (vS 1) (aC (vS 3) (aN))))))))
  (seqD (setD 8 (oS (b2 hAdd (kS (.int 1)) (fz (callF F_law_great (aC (vS 1) (aC (vS 3) (aN))))))))
  (seqD (setD 9 (oS (b2 hAdd (kS (.int 1)) (fz (callF drawF (aC (vS 1) (aC (kS (.int 30)) (aN))))))))
  (seqD (ifD (tB1 (b2 hEq (fz (callF drawF (aC (vS 1) (aC (kS (.int 2)) (aN))))) (kS (.int 1)))) (setD 9 (oS (u1 hNeg (vS 9)))) (skipD))
  (seqD (ifD (tNot1 (tB1 (fz (callF F_law_same (aC (fz (callF F_ratio (aC (b2 hMul (vS 7) (vS 9)) (aC (b2 hMul (vS 8) (vS 9)) (aN))))) (aC (vS 7) (aC (vS 8) (aN)))))))) (retD (oS (kS (.bl false)))) (skipD))
  (seqD (setD 10 (oS (tupF (aC (fz (listP (vP 5))) (aC (fz (listP (vP 6))) (aN))))))
  (seqD (forD (iR1 (vS 2)) (gN 4)
  (ifD (tOr1 (tNot1 (tB1 (fz (callF F_law_pair (aC (b2 hIx (vS 5) (vS 4)) (aC (b2 hIx (vS 6) (vS 4)) (aN))))))) (tNot1 (tB1 (fz (callF F_law_pair (aC (b2 hIx (vS 5) (vS 4)) (aC (b2 hIx (vS 5) (kS (.int 0))) (aN)))))))) (retD (oS (kS (.bl false)))) (skipD)))
  (seqD (ifD (tOr1 (tNot1 (tB1 (fz (callF F_law_ends (aC (vS 5) (aN)))))) (tOr1 (tNot1 (tB1 (fz (callF F_law_scaled (aC (vS 5) (aN)))))) (tNot1 (tB1 (fz (callF F_law_scaled (aC (fz (lstF (oN))) (aN)))))))) (retD (oS (kS (.bl false)))) (skipD))
  (seqD (ifD (tOr1 (tNot1 (tB1 (fz (callF F_law_sums (aC (vS 5) (aC (vS 6) (aN))))))) (tNot1 (tB1 (fz (callF F_law_sums (aC (fz (lstF (oN))) (aC (fz (lstF (oN))) (aN)))))))) (retD (oS (kS (.bl false)))) (skipD))
  (retD (oS (b2 hEq (vS 10) (tupF (aC (vS 5) (aC (vS 6) (aN)))))))))))))))))))))
end DL

namespace DL
open PySem PySem.Spec L2
def topS (i : Nat) : Stmt := PySem.Challenge.pw_soldtoworths_k86_exact_fractions.main.body.getD i (.Pass ⟨0, 0, 0, 0⟩)
abbrev s_law_draw : Stmt := topS 17
theorem sc_law_draw : FnScope ["state", "base", "cells", "rests", "turn", "at", "number"] ["state", "base"] (defScope s_law_draw) := ⟨rfl, rfl, rfl, by decide +kernel, rfl, by decide +kernel, by decide +kernel⟩
abbrev s_law_gcd : Stmt := topS 19
theorem sc_law_gcd : FnScope ["a", "b", "k", "rest"] ["a", "b"] (defScope s_law_gcd) := ⟨rfl, rfl, rfl, by decide +kernel, rfl, by decide +kernel, by decide +kernel⟩
abbrev s_law_is_integer : Stmt := topS 20
theorem sc_law_is_integer : FnScope ["actual"] ["actual"] (defScope s_law_is_integer) := ⟨rfl, rfl, rfl, by decide +kernel, rfl, by decide +kernel, by decide +kernel⟩
abbrev s_law_same : Stmt := topS 21
theorem sc_law_same : FnScope ["actual", "n", "d"] ["actual", "n", "d"] (defScope s_law_same) := ⟨rfl, rfl, rfl, by decide +kernel, rfl, by decide +kernel, by decide +kernel⟩
abbrev s_compare : Stmt := topS 9
theorem sc_compare : FnScope ["a", "b", "left", "right"] ["a", "b"] (defScope s_compare) := ⟨rfl, rfl, rfl, by decide +kernel, rfl, by decide +kernel, by decide +kernel⟩
abbrev s_greatest : Stmt := topS 12
theorem sc_greatest : FnScope ["fractions", "best", "fraction"] ["fractions"] (defScope s_greatest) := ⟨rfl, rfl, rfl, by decide +kernel, rfl, by decide +kernel, by decide +kernel⟩
abbrev s_least : Stmt := topS 13
theorem sc_least : FnScope ["fractions", "best", "fraction"] ["fractions"] (defScope s_least) := ⟨rfl, rfl, rfl, by decide +kernel, rfl, by decide +kernel, by decide +kernel⟩
abbrev s_law_ends : Stmt := topS 24
theorem sc_law_ends : FnScope ["rows", "high", "low", "row"] ["rows"] (defScope s_law_ends) := ⟨rfl, rfl, rfl, by decide +kernel, rfl, by decide +kernel, by decide +kernel⟩
abbrev s_law_great : Stmt := topS 18
theorem sc_law_great : FnScope ["state", "big", "number", "k"] ["state", "big"] (defScope s_law_great) := ⟨rfl, rfl, rfl, by decide +kernel, rfl, by decide +kernel, by decide +kernel⟩
abbrev s_law_fraction : Stmt := topS 22
theorem sc_law_fraction : FnScope ["state", "big", "kind", "n", "d", "common"] ["state", "big"] (defScope s_law_fraction) := ⟨rfl, rfl, rfl, by decide +kernel, rfl, by decide +kernel, by decide +kernel⟩
abbrev s_ratio : Stmt := topS 4
theorem sc_ratio : FnScope ["n", "d", "common"] ["n", "d"] (defScope s_ratio) := ⟨rfl, rfl, rfl, by decide +kernel, rfl, by decide +kernel, by decide +kernel⟩
abbrev s_add : Stmt := topS 5
theorem sc_add : FnScope ["a", "b"] ["a", "b"] (defScope s_add) := ⟨rfl, rfl, rfl, by decide +kernel, rfl, by decide +kernel, by decide +kernel⟩
abbrev s_div : Stmt := topS 8
theorem sc_div : FnScope ["a", "b"] ["a", "b"] (defScope s_div) := ⟨rfl, rfl, rfl, by decide +kernel, rfl, by decide +kernel, by decide +kernel⟩
abbrev s_mul : Stmt := topS 7
theorem sc_mul : FnScope ["a", "b"] ["a", "b"] (defScope s_mul) := ⟨rfl, rfl, rfl, by decide +kernel, rfl, by decide +kernel, by decide +kernel⟩
abbrev s_sub : Stmt := topS 6
theorem sc_sub : FnScope ["a", "b"] ["a", "b"] (defScope s_sub) := ⟨rfl, rfl, rfl, by decide +kernel, rfl, by decide +kernel, by decide +kernel⟩
abbrev s_law_pair : Stmt := topS 23
theorem sc_law_pair : FnScope ["a", "b", "order", "left", "right"] ["a", "b"] (defScope s_law_pair) := ⟨rfl, rfl, rfl, by decide +kernel, rfl, by decide +kernel, by decide +kernel⟩
abbrev s_scaled : Stmt := topS 14
theorem sc_scaled : FnScope ["fractions", "common", "fraction"] ["fractions"] (defScope s_scaled) := ⟨rfl, rfl, rfl, by decide +kernel, rfl, by decide +kernel, by decide +kernel⟩
abbrev s_law_scaled : Stmt := topS 25
theorem sc_law_scaled : FnScope ["rows", "actual", "common", "row", "k"] ["rows"] (defScope s_law_scaled) := ⟨rfl, rfl, rfl, by decide +kernel, rfl, by decide +kernel, by decide +kernel⟩
abbrev s_law_start : Stmt := topS 16
theorem sc_law_start : FnScope ["script", "cells", "cell"] ["script"] (defScope s_law_start) := ⟨rfl, rfl, rfl, by decide +kernel, rfl, by decide +kernel, by decide +kernel⟩
abbrev s_dot : Stmt := topS 11
theorem sc_dot : FnScope ["first", "second", "amount", "a", "b"] ["first", "second"] (defScope s_dot) := ⟨rfl, rfl, rfl, by decide +kernel, rfl, by decide +kernel, by decide +kernel⟩
abbrev s_total : Stmt := topS 10
theorem sc_total : FnScope ["fractions", "amount", "fraction"] ["fractions"] (defScope s_total) := ⟨rfl, rfl, rfl, by decide +kernel, rfl, by decide +kernel, by decide +kernel⟩
abbrev s_law_sums : Stmt := topS 26
theorem sc_law_sums : FnScope ["rows", "others", "n", "d", "row", "k"] ["rows", "others"] (defScope s_law_sums) := ⟨rfl, rfl, rfl, by decide +kernel, rfl, by decide +kernel, by decide +kernel⟩
abbrev s_law : Stmt := topS 27
theorem sc_law : FnScope ["script", "state", "size", "big", "k", "rows", "others", "n", "d", "times", "kept"] ["script"] (defScope s_law) := ⟨rfl, rfl, rfl, by decide +kernel, rfl, by decide +kernel, by decide +kernel⟩
structure Txt (K : Fg) (mg : Str → Option Value) where
  z_abs : mg "abs" = none
  z_bool : mg "bool" = none
  z_gcd : mg "gcd" = some (.builtin "math.gcd")
  z_int : mg "int" = none
  z_isinstance : mg "isinstance" = none
  z_lcm : mg "lcm" = some (.builtin "math.lcm")
  z_len : mg "len" = none
  z_list : mg "list" = none
  z_range : mg "range" = none
  z_tuple : mg "tuple" = none
  z_zip : mg "zip" = none
  a_ONE : Addr
  g_ONE : mg "ONE" = some (.ref a_ONE)
  r_ONE : ∀ W H, RepS K W H (.ref a_ONE) c_ONE
  a_ZERO : Addr
  g_ZERO : mg "ZERO" = some (.ref a_ZERO)
  r_ZERO : ∀ W H, RepS K W H (.ref a_ZERO) c_ZERO
  a_law_draw : Addr
  d_law_draw : FuncData
  F_law_draw : Fun K "_law_draw" "_law_draw" s_law_draw a_law_draw d_law_draw
  g_law_draw : mg "_law_draw" = some (.ref a_law_draw)
  b_law_draw : Binds K d_law_draw ["state", "base"] []
  a_law_gcd : Addr
  d_law_gcd : FuncData
  F_law_gcd : Fun K "_law_gcd" "_law_gcd" s_law_gcd a_law_gcd d_law_gcd
  g_law_gcd : mg "_law_gcd" = some (.ref a_law_gcd)
  b_law_gcd : Binds K d_law_gcd ["a", "b"] []
  a_law_is_integer : Addr
  d_law_is_integer : FuncData
  F_law_is_integer : Fun K "_law_is_integer" "_law_is_integer" s_law_is_integer a_law_is_integer d_law_is_integer
  g_law_is_integer : mg "_law_is_integer" = some (.ref a_law_is_integer)
  b_law_is_integer : Binds K d_law_is_integer ["actual"] []
  a_law_same : Addr
  d_law_same : FuncData
  F_law_same : Fun K "_law_same" "_law_same" s_law_same a_law_same d_law_same
  g_law_same : mg "_law_same" = some (.ref a_law_same)
  b_law_same : Binds K d_law_same ["actual", "n", "d"] []
  a_compare : Addr
  d_compare : FuncData
  F_compare : Fun K "compare" "compare" s_compare a_compare d_compare
  g_compare : mg "compare" = some (.ref a_compare)
  b_compare : Binds K d_compare ["a", "b"] []
  a_greatest : Addr
  d_greatest : FuncData
  F_greatest : Fun K "greatest" "greatest" s_greatest a_greatest d_greatest
  g_greatest : mg "greatest" = some (.ref a_greatest)
  b_greatest : Binds K d_greatest ["fractions"] []
  a_least : Addr
  d_least : FuncData
  F_least : Fun K "least" "least" s_least a_least d_least
  g_least : mg "least" = some (.ref a_least)
  b_least : Binds K d_least ["fractions"] []
  a_law_ends : Addr
  d_law_ends : FuncData
  F_law_ends : Fun K "_law_ends" "_law_ends" s_law_ends a_law_ends d_law_ends
  g_law_ends : mg "_law_ends" = some (.ref a_law_ends)
  b_law_ends : Binds K d_law_ends ["rows"] []
  a_law_great : Addr
  d_law_great : FuncData
  F_law_great : Fun K "_law_great" "_law_great" s_law_great a_law_great d_law_great
  g_law_great : mg "_law_great" = some (.ref a_law_great)
  b_law_great : Binds K d_law_great ["state", "big"] []
  a_law_fraction : Addr
  d_law_fraction : FuncData
  F_law_fraction : Fun K "_law_fraction" "_law_fraction" s_law_fraction a_law_fraction d_law_fraction
  g_law_fraction : mg "_law_fraction" = some (.ref a_law_fraction)
  b_law_fraction : Binds K d_law_fraction ["state", "big"] []
  a_ratio : Addr
  d_ratio : FuncData
  F_ratio : Fun K "ratio" "ratio" s_ratio a_ratio d_ratio
  g_ratio : mg "ratio" = some (.ref a_ratio)
  b_ratio : Binds K d_ratio ["n", "d"] []
  a_add : Addr
  d_add : FuncData
  F_add : Fun K "add" "add" s_add a_add d_add
  g_add : mg "add" = some (.ref a_add)
  b_add : Binds K d_add ["a", "b"] []
  a_div : Addr
  d_div : FuncData
  F_div : Fun K "div" "div" s_div a_div d_div
  g_div : mg "div" = some (.ref a_div)
  b_div : Binds K d_div ["a", "b"] []
  a_mul : Addr
  d_mul : FuncData
  F_mul : Fun K "mul" "mul" s_mul a_mul d_mul
  g_mul : mg "mul" = some (.ref a_mul)
  b_mul : Binds K d_mul ["a", "b"] []
  a_sub : Addr
  d_sub : FuncData
  F_sub : Fun K "sub" "sub" s_sub a_sub d_sub
  g_sub : mg "sub" = some (.ref a_sub)
  b_sub : Binds K d_sub ["a", "b"] []
  a_law_pair : Addr
  d_law_pair : FuncData
  F_law_pair : Fun K "_law_pair" "_law_pair" s_law_pair a_law_pair d_law_pair
  g_law_pair : mg "_law_pair" = some (.ref a_law_pair)
  b_law_pair : Binds K d_law_pair ["a", "b"] []
  a_scaled : Addr
  d_scaled : FuncData
  F_scaled : Fun K "scaled" "scaled" s_scaled a_scaled d_scaled
  g_scaled : mg "scaled" = some (.ref a_scaled)
  b_scaled : Binds K d_scaled ["fractions"] []
  a_law_scaled : Addr
  d_law_scaled : FuncData
  F_law_scaled : Fun K "_law_scaled" "_law_scaled" s_law_scaled a_law_scaled d_law_scaled
  g_law_scaled : mg "_law_scaled" = some (.ref a_law_scaled)
  b_law_scaled : Binds K d_law_scaled ["rows"] []
  a_law_start : Addr
  d_law_start : FuncData
  F_law_start : Fun K "_law_start" "_law_start" s_law_start a_law_start d_law_start
  g_law_start : mg "_law_start" = some (.ref a_law_start)
  b_law_start : Binds K d_law_start ["script"] []
  a_dot : Addr
  d_dot : FuncData
  F_dot : Fun K "dot" "dot" s_dot a_dot d_dot
  g_dot : mg "dot" = some (.ref a_dot)
  b_dot : Binds K d_dot ["first", "second"] []
  a_total : Addr
  d_total : FuncData
  F_total : Fun K "total" "total" s_total a_total d_total
  g_total : mg "total" = some (.ref a_total)
  b_total : Binds K d_total ["fractions"] []
  a_law_sums : Addr
  d_law_sums : FuncData
  F_law_sums : Fun K "_law_sums" "_law_sums" s_law_sums a_law_sums d_law_sums
  g_law_sums : mg "_law_sums" = some (.ref a_law_sums)
  b_law_sums : Binds K d_law_sums ["rows", "others"] []
  a_law : Addr
  d_law : FuncData
  F_law : Fun K "law" "law" s_law a_law d_law
  g_law : mg "law" = some (.ref a_law)
  b_law : Binds K d_law ["script"] []
end DL
namespace DL
open PySem PySem.Spec L2
theorem ok_law_draw {P : Program} {w : World} {K : Fg} {mg : Str → Option Value} {base : Heap} (T : Txt K mg) : FnOk P w K mg base CX0 1 T.a_law_draw T.d_law_draw ["state", "base"] (spD K 2 drawF) := by
  refine T.F_law_draw.ok sc_law_draw (fun vs H Q E h => ?_) (fun cdv A outer s H vs Q E hr h => ?_)
  · obtain ⟨W, O, ss, g, d, g', hl, _⟩ := h
    exact hl
  · obtain ⟨W, O, ss, g, d, g', hl, rs, hO, hg, e, q⟩ := h
    have nd := sc_law_draw.nd
    refine ⟨_, pss_cons (ps_set (i := 2) nd rfl (.inl rfl) (pe_ix ix_list (pv 0) pe_int (fun _ _ => rfl)))
      (pss_cons (ps_set (i := 3) nd rfl (.inl rfl) (pe_ix ix_list (pv 0) pe_int (fun _ _ => rfl)))
      (pss_cons (ps_set (i := 4) nd rfl (.inl rfl) (pe_ix ix_list (pv 0) pe_int (fun _ _ => rfl)))
      (pss_cons (ps_set (i := 5) nd rfl (.inl rfl) (pe_op op_mod (pe_callTy call_int1 (by rfl) T.z_int PyProof.Rows.boot_int (pa_cons (pv 4) pa_nil)) (pe_callB call_len_seq (by rfl) T.z_len PySem.boot_len (pa_cons (pv 2) pa_nil))))
      (pss_cons (ps_asg (pe_op op_add (pv 4) pe_int) (pg_sub (pv 0) pe_int set_list))
      (pss_cons (ps_if (PW.pt (pw_and (pt_cmpR op_ge (pe_ix ix_list (pv 2) (pv 5) (fun _ _ => rfl)) (pe_op op_pow pe_int pe_int) (nomark _)) (pw_and1 (pt_cmpR op_gt (pe_ix ix_list (pv 3) (pv 5) (fun _ _ => rfl)) pe_int (nomark _)))))
        (pss_cons (ps_set (i := 6) nd rfl (.inl rfl) (pe_op op_mod (pe_callTy call_int1 (by rfl) T.z_int PyProof.Rows.boot_int (pa_cons (pe_ix ix_list (pv 3) (pv 5) (fun _ _ => rfl)) pa_nil)) (pv 1)))
          (pss_cons (ps_asg (pe_op op_fdivW (pe_ix ix_list (pv 3) (pv 5) (fun _ _ => rfl)) (pv 1)) (pg_sub (pv 3) (pv 5) set_list))
          (pss_one (ps_ret (pv 6))))) pss_nil)
      (pss_cons (ps_set (i := 6) nd rfl (.inl rfl) (pe_op op_mod (pe_callTy call_int1 (by rfl) T.z_int PyProof.Rows.boot_int (pa_cons (pe_op op_add (pe_op op_add (pe_op op_mul (pe_ix ix_list (pv 2) (pv 5) (fun _ _ => rfl)) pe_int) (pe_op op_mul (pv 4) pe_int)) pe_int) pa_nil)) pe_int))
      (pss_cons (ps_set (i := 6) nd rfl (.inl rfl) (pe_op op_mod (pe_callTy call_int1 (by rfl) T.z_int PyProof.Rows.boot_int (pa_cons (pe_op op_add (pe_op op_add (pe_op op_mul (pv 6) (pv 6)) (pe_op op_mul (pv 4) pe_int)) pe_int) pa_nil)) pe_int))
      (pss_one (ps_ret (pe_op op_mod (pe_callTy call_int1 (by rfl) T.z_int PyProof.Rows.boot_int (pa_cons (pv 6) pa_nil)) (pv 1))))))))))), ?_⟩
    unfold drawF at e
    split at e
    case h_2 => cases e
    rename_i b
    split at e
    case isFalse => cases e
    rename_i hb
    cases e
    obtain ⟨v0, v1, rfl, r0, r1⟩ := reps2 rs
    cases r1
    cases r0 with
    | gen hW =>
      rename_i a c r
      subst hW
      obtain ⟨h1, h2, h3, n1, n2, n3, h4, h5, h6⟩ := hg
      have pc : 0 < g.cells.length := g.ok.1
      have pr : g.rests.length = g.cells.length := g.ok.2
      have pi : (0 : Int) < (g.cells.length : Int) := by omega
      have a0 : 0 ≤ g.turn % (g.cells.length : Int) := Int.emod_nonneg _ (by omega)
      have a1 : g.turn % (g.cells.length : Int) < (g.cells.length : Int) := Int.emod_lt_of_pos _ pi
      have at1 : ((g.at : Nat) : Int) = g.turn % (g.cells.length : Int) := by unfold GS.at; omega
      have at2 : g.at < g.cells.length := by omega
      have gc : (g.cells.map V.int)[g.at]? = some (.int (g.cells.getD g.at 0)) := by
        rw [List.getElem?_map, List.getElem?_eq_getElem at2, List.getD_eq_getElem?_getD, List.getElem?_eq_getElem at2]
        rfl
      have at3 : g.at < g.rests.length := by omega
      have gr : (g.rests.map V.int)[g.at]? = some (.int (g.rests.getD g.at 0)) := by
        rw [List.getElem?_map, List.getElem?_eq_getElem at3, List.getD_eq_getElem?_getD, List.getElem?_eq_getElem at3]
        rfl
      have e0 : atI [V.ref c, V.ref r, V.int g.turn] 0 = some (.ref c) := rfl
      have e1 : atI [V.ref c, V.ref r, V.int g.turn] 1 = some (.ref r) := rfl
      have e2 : atI [V.ref c, V.ref r, V.int g.turn] 2 = some (.int g.turn) := rfl
      refine ⟨.ref a, rfl, a, _, 0, .ref c, rfl, rfl, SqL.of h4, e0, ?_⟩
      refine ⟨.ref a, rfl, a, _, 1, .ref r, rfl, rfl, SqL.of h4, e1, ?_⟩
      refine ⟨.ref a, rfl, a, _, 2, .int g.turn, rfl, rfl, SqL.of h4, e2, ?_⟩
      refine ⟨.int g.turn, rfl, .inl ⟨g.turn, rfl, ?_⟩⟩
      refine ⟨.ref c, rfl, c, _, rfl, .inl (SqL.of h5), g.turn, _, rfl, rfl, ?_, ?_⟩
      · rw [List.length_map]; exact pi
      dsimp only
      rw [show (((g.cells.map V.int).length : Nat) : Int) = (g.cells.length : Int) from by rw [List.length_map], ← at1]
      refine ⟨.int g.turn, rfl, g.turn, 1, rfl, rfl, .ref a, rfl, a, _, 2, 2, rfl, rfl, h4, rfl, ?_⟩
      let H1 := upd H a (.lst [V.ref c, V.ref r, V.int (g.turn + 1)])
      have k5 : H1 c = some (.lst (g.cells.map V.int)) := by show upd H a _ c = _; rw [upd_ne n1.symm]; exact h5
      have k6 : H1 r = some (.lst (g.rests.map V.int)) := by show upd H a _ r = _; rw [upd_ne n2.symm]; exact h6
      have k4 : H1 a = some (.lst [V.ref c, V.ref r, V.int (g.turn + 1)]) := upd_same
      have x1 : Ext (some (a, c, r)) H H1 := fun z o nz hz => by
        show upd H a _ z = _
        rw [upd_ne fun q => nz (by rw [q]; simp [Wd.as])]
        exact hz
      have hb9 : b.natAbs.log2 < 9000 := hb.2
      have fin : ∀ H' g', Ext (some (a, c, r)) H H' → GOk (some (a, c, r)) O H' g' → (g.draw b).2 = g' → Q (.int (g.draw b).1) H' := fun H' g' x hg' eg => by
        subst eg
        exact q _ H' [] x hg' List.nodup_nil (fun z m => by simp at m) (.sh .int)
      have last : ∀ H', H' = H1 → ¬ (1000000000000000000 ≤ g.cells.getD g.at 0 ∧ 0 < g.rests.getD g.at 0) → Q (.int (g.draw b).1) H' := fun H' eh hn => by
        subst eh
        refine fin _ ⟨g.cells, g.rests, g.turn + 1, g.ok⟩ x1 ⟨h1, h2, h3, n1, n2, n3, k4, k5, k6⟩ ?_
        unfold GS.draw
        rw [if_neg hn]
      refine ⟨.ref c, rfl, .int (g.at : Nat), rfl, c, _, (g.at : Nat), .int (g.cells.getD g.at 0), rfl, rfl, SqL.of k5, atI_nat gc, 10, 18, rfl, rfl, ⟨by decide, by decide, by decide⟩, ?_⟩
      have p18 : (10 : Int) ^ (18 : Int).toNat = 1000000000000000000 := by decide
      have rest : ¬ (1000000000000000000 ≤ g.cells.getD g.at 0 ∧ 0 < g.rests.getD g.at 0) → (g.draw b).1 = (((g.cells.getD g.at 0 * 48271 + g.turn * 69621 + 11) % 2147483647 * ((g.cells.getD g.at 0 * 48271 + g.turn * 69621 + 11) % 2147483647) + g.turn * 7919 + 3) % 2147483629) % b := fun hn => by
        unfold GS.draw
        rw [if_neg hn]
      by_cases t1 : 1000000000000000000 ≤ g.cells.getD g.at 0
      · refine ⟨_, _, rfl, rfl, true, congrArg V.bl (decide_eq_true (by rw [p18]; exact t1)), iteT ?_⟩
        by_cases t2 : 0 < g.rests.getD g.at 0
        · refine ⟨.ref r, rfl, .int (g.at : Nat), rfl, r, _, (g.at : Nat), .int (g.rests.getD g.at 0), rfl, rfl, SqL.of k6, atI_nat gr, _, _, rfl, rfl, true, congrArg V.bl (decide_eq_true t2), iteT ?_⟩
          refine ⟨.ref r, rfl, .int (g.at : Nat), rfl, r, _, (g.at : Nat), .int (g.rests.getD g.at 0), rfl, rfl, SqL.of k6, atI_nat gr, .inl ⟨_, rfl, .int b, rfl, _, b, rfl, rfl, hb.1, ?_⟩⟩
          refine ⟨.ref r, rfl, .int (g.at : Nat), rfl, r, _, (g.at : Nat), .int (g.rests.getD g.at 0), rfl, rfl, SqL.of k6, atI_nat gr, .int b, rfl, _, b, rfl, rfl, ⟨hb.1, hb9⟩, .ref r, rfl, .int (g.at : Nat), rfl, r, _, (g.at : Nat), g.at, rfl, rfl, k6, ?_, ?_⟩
          · unfold ixN
            rw [List.length_map, if_pos (by omega), if_pos (by omega)]
            simp
          refine ⟨_, rfl, ?_⟩
          have ed : (g.draw b).1 = g.rests.getD g.at 0 % b := by
            unfold GS.draw
            rw [if_pos ⟨t1, t2⟩]
          have ed2 : (g.draw b).2 = ⟨g.cells, g.rests.set g.at (g.rests.getD g.at 0 / b), g.turn + 1, by rw [List.length_set]; exact g.ok⟩ := by
            unfold GS.draw
            rw [if_pos ⟨t1, t2⟩]
          have z := fin (upd H1 r (.lst ((g.rests.map V.int).set g.at (.int (g.rests.getD g.at 0 / b))))) _ ?_ ?_ ed2
          · rw [ed] at z
            exact z
          · intro y o ny hy
            rw [upd_ne fun q => ny (by rw [q]; simp [Wd.as])]
            exact x1 y o ny hy
          · refine ⟨h1, h2, h3, n1, n2, n3, ?_, ?_, ?_⟩
            · rw [upd_ne n2]; exact k4
            · rw [upd_ne n3]; exact k5
            · rw [upd_same, List.map_set]
        · refine ⟨.ref r, rfl, .int (g.at : Nat), rfl, r, _, (g.at : Nat), .int (g.rests.getD g.at 0), rfl, rfl, SqL.of k6, atI_nat gr, _, _, rfl, rfl, false, congrArg V.bl (decide_eq_false t2), iteF ?_⟩
          have hn := fun (z : 1000000000000000000 ≤ g.cells.getD g.at 0 ∧ 0 < g.rests.getD g.at 0) => t2 z.2
          refine ⟨.ref c, rfl, .int (g.at : Nat), rfl, c, _, (g.at : Nat), .int (g.cells.getD g.at 0), rfl, rfl, SqL.of k5, atI_nat gc, g.cells.getD g.at 0, 48271, rfl, rfl, .inr ⟨by decide, by decide⟩, .int g.turn, rfl, g.turn, 69621, rfl, rfl, .inr ⟨by decide, by decide⟩, _, _, rfl, rfl, _, 11, rfl, rfl, .inl ⟨_, rfl, _, 2147483647, rfl, rfl, by show (0 : Int) < 2147483647; decide, ?_⟩⟩
          have m0 : 0 ≤ (g.cells.getD g.at 0 * 48271 + g.turn * 69621 + 11) % 2147483647 := Int.emod_nonneg _ (by decide)
          have m1 : (g.cells.getD g.at 0 * 48271 + g.turn * 69621 + 11) % 2147483647 < 2147483647 := Int.emod_lt_of_pos _ (by decide)
          refine ⟨_, rfl, _, rfl, _, _, rfl, rfl, .inl ⟨Int.lt_of_lt_of_le (by decide) m0, Int.lt_trans m1 (by decide)⟩, .int g.turn, rfl, g.turn, 7919, rfl, rfl, .inr ⟨by decide, by decide⟩, _, _, rfl, rfl, _, 3, rfl, rfl, .inl ⟨_, rfl, _, 2147483629, rfl, rfl, by show (0 : Int) < 2147483629; decide, ?_⟩⟩
          refine ⟨_, rfl, .inl ⟨_, rfl, .int b, rfl, _, b, rfl, rfl, hb.1, ?_⟩⟩
          have := last H1 rfl hn
          rw [rest hn] at this
          exact this
      · refine ⟨_, _, rfl, rfl, false, congrArg V.bl (decide_eq_false (by rw [p18]; exact t1)), iteF (iteF ?_)⟩
        have hn := fun (z : 1000000000000000000 ≤ g.cells.getD g.at 0 ∧ 0 < g.rests.getD g.at 0) => t1 z.1
        refine ⟨.ref c, rfl, .int (g.at : Nat), rfl, c, _, (g.at : Nat), .int (g.cells.getD g.at 0), rfl, rfl, SqL.of k5, atI_nat gc, g.cells.getD g.at 0, 48271, rfl, rfl, .inr ⟨by decide, by decide⟩, .int g.turn, rfl, g.turn, 69621, rfl, rfl, .inr ⟨by decide, by decide⟩, _, _, rfl, rfl, _, 11, rfl, rfl, .inl ⟨_, rfl, _, 2147483647, rfl, rfl, by show (0 : Int) < 2147483647; decide, ?_⟩⟩
        have m0 : 0 ≤ (g.cells.getD g.at 0 * 48271 + g.turn * 69621 + 11) % 2147483647 := Int.emod_nonneg _ (by decide)
        have m1 : (g.cells.getD g.at 0 * 48271 + g.turn * 69621 + 11) % 2147483647 < 2147483647 := Int.emod_lt_of_pos _ (by decide)
        refine ⟨_, rfl, _, rfl, _, _, rfl, rfl, .inl ⟨Int.lt_of_lt_of_le (by decide) m0, Int.lt_trans m1 (by decide)⟩, .int g.turn, rfl, g.turn, 7919, rfl, rfl, .inr ⟨by decide, by decide⟩, _, _, rfl, rfl, _, 3, rfl, rfl, .inl ⟨_, rfl, _, 2147483629, rfl, rfl, by show (0 : Int) < 2147483629; decide, ?_⟩⟩
        refine ⟨_, rfl, .inl ⟨_, rfl, .int b, rfl, _, b, rfl, rfl, hb.1, ?_⟩⟩
        have := last H1 rfl hn
        rw [rest hn] at this
        exact this
theorem ok_law_start {P : Program} {w : World} {K : Fg} {mg : Str → Option Value} {base : Heap} (T : Txt K mg) : FnOk P w K mg base CX0 1 T.a_law_start T.d_law_start ["script"] (spStart K) := by
  refine T.F_law_start.ok sc_law_start (fun vs H Q E h => ?_) (fun cdv A outer s H vs Q E hr h => ?_)
  · obtain ⟨a, ns, rfl, _⟩ := h
    rfl
  · obtain ⟨a, ns, rfl, hS, hlen, q⟩ := h
    have nd := sc_law_start.nd
    refine ⟨_, pss_cons (ps_setLc (i := 1) (own := [("cell", 2)]) rfl nd rfl rfl (sw_true rfl rfl rfl (by decide +kernel)) (pi_list (pe_slice sl_list (pv 0) po_none (po_some pe_int))) (blkOk_by (N := ["script", "cells", "cell"]) (sc := defScope s_law_start) (by decide +kernel)) (fun _ _ _ _ _ => pg_name (i := 2) nd rfl (Or.inl rfl)) (fun _ _ _ _ _ => pts_nil)
        (fun _ _ _ _ _ => pe_callB call_abs (by rfl) T.z_abs PyProof.Rows.boot_abs (pa_cons (pe_callTy call_int1 (by rfl) T.z_int PyProof.Rows.boot_int (pa_cons (pv 2) pa_nil)) pa_nil)))
      (pss_cons (ps_if (pt_cmpR (op_eqD hr.units) (pv 1) (pe_lst pa_nil) (nomark _)) (pss_one (ps_set (i := 1) nd rfl (.inl rfl) (pe_lst (pa_cons pe_int pa_nil)))) pss_nil)
      (pss_one (ps_ret (pe_lst (pa_cons (pv 1) (pa_cons (pe_callTy call_list_of (by rfl) T.z_list PyProof.Rows.boot_list (pa_cons (pv 1) pa_nil)) (pa_cons pe_int pa_nil))))))), ?_⟩
    refine ⟨.ref a, rfl, 63, rfl, a, _, rfl, hS, fun p hp => ?_⟩
    let cut := ns.take (HT.sIx ns.length ns.length (some 63))
    have ecut : cutV (ns.map V.int) none (some 63) = cut.map V.int := by
      unfold cutV
      rw [HT.sIx_none, List.length_map, List.drop_zero, Nat.sub_zero, ← List.map_take]
    rw [ecut]
    have hp1 : upd H p (.lst (cut.map V.int)) p = some (.lst (cut.map V.int)) := upd_same
    have lcut : cut.length ≤ 63 := by
      show (ns.take _).length ≤ 63
      rw [List.length_take]
      omega
    refine ⟨p, rfl, ⟨_, .inl (.inl hp1)⟩, fun D hD => ?_⟩
    have Dp' : D ≠ p := fun z => by rw [z, upd_same] at hD; cases hD
    have HD : H D = none := by rw [upd_ne Dp'] at hD; exact hD
    let ab := fun i : Int => if i < 0 then -i else i
    refine lc_list (K := K) (a := p) (xs := cut.map V.int) (fun i H' => H' = upd (upd H p (.lst (cut.map V.int))) D (.lst ((cut.take i).map fun i => V.int (ab i)))) ?_ ?_ ?_ ?_
    · rfl
    · rintro i H' hi rfl
      refine .inl (.inl ?_)
      rw [upd_ne Dp'.symm]
      exact hp1
    · rintro i x H' hx rfl
      rw [List.getElem?_map] at hx
      obtain ⟨y, hy, rfl⟩ := Option.map_eq_some_iff.mp hx
      refine ⟨rfl, ?_⟩
      refine ⟨.int y, rfl, .inl ⟨y, rfl, y, rfl, _, upd_same, ?_, ?_⟩⟩
      · rw [List.length_map, List.length_take]
        exact Nat.lt_of_le_of_lt (Nat.min_le_left _ _) (small1000 (by have := (List.getElem?_eq_some_iff.mp hy).1; omega))
      · rw [upd_upd, List.take_add_one, hy, List.map_append]
        rfl
    · rintro H' rfl
      rw [List.length_map, List.take_length]
      refine ⟨.ref D, rfl, Nat.zero_le _, fun E0' hE => ?_⟩
      let H2 := upd (upd H p (.lst (cut.map V.int))) D (.lst (cut.map fun i => V.int (ab i)))
      have dD : Dp K (upd H2 E0' (.lst [])) (.ref D) (.list ((cut.map ab).map PyData.int)) := by
        refine .lst (xs := cut.map fun i => V.int (ab i)) (.inl (.inl ?_)) ?_
        · rw [upd_ne (ne_of_none upd_same hE)]
          exact upd_same
        · have : ∀ l : List Int, DpAll K (upd H2 E0' (.lst [])) (l.map fun i => V.int (ab i)) ((l.map ab).map PyData.int) := fun l => by
            induction l with
            | nil => exact .nil
            | cons x l ih => exact .cons (.int _) ih
          exact this cut
      have dE : Dp K (upd H2 E0' (.lst [])) (.ref E0') (.list []) := .lst (xs := []) (.inl (.inl upd_same)) .nil
      have sh : SeqAt.shaped (.list ((cut.map ab).map PyData.int)) = true := by
        have h1 : ∀ l : List Int, PyData.canLayAll0 (l.map PyData.int) = true ∧ PyData.depthAll (l.map PyData.int) = 0 := fun l => by
          induction l with
          | nil => exact ⟨by simp only [List.map_nil, PyData.canLayAll0], by simp only [List.map_nil, PyData.depthAll]⟩
          | cons x l ih => exact ⟨by simp only [List.map_cons, PyData.canLayAll0, PyData.canLay0, ih.1]; rfl, by simp only [List.map_cons, PyData.depthAll, PyData.depth, ih.2]; rfl⟩
        unfold SeqAt.shaped
        simp only [PyData.canLay0, PyData.depth, (h1 _).1, (h1 _).2]
        rfl
      have shE : SeqAt.shaped (.list []) = true := by unfold SeqAt.shaped; simp only [PyData.canLay0, PyData.canLayAll0, PyData.depth, PyData.depthAll]; rfl
      have ED : E0' ≠ D := fun z => by rw [z, upd_same] at hE; cases hE
      have Ep : E0' ≠ p := fun z => by rw [z, upd_ne Dp'.symm, upd_same] at hE; cases hE
      have HE : H E0' = none := by rw [upd_ne ED, upd_ne Ep] at hE; exact hE
      have finish : ∀ (cs : List Int) (hc : 0 < cs.length) (c : Addr) (H3 : Hp), Same H H3 → H c = none → H3 c = some (.lst (cs.map V.int)) → cs.length ≤ 63 →
          (tRet (tLst (tCons (tVar 1) (tCons (tCB (fun xs H Q => ∃ p ys, xs = [V.ref p] ∧ (SqL K H p ys ∨ SqT K H p ys) ∧ ∀ l, H l = none → Q (.ref l) (upd H l (.lst ys))) (tCons (tVar 1) tNil)) (tCons (tC (.int 0)) tNil))))) { nx := fun _ H' => Q .non H', rt := Q } [some (.ref a), some (.ref c), none] H3 := fun cs hc c H3 sm hcn hcl hlen => by
        refine ⟨V.ref c, rfl, V.ref c, rfl, c, cs.map V.int, rfl, Or.inl (.inl (.inl hcl)), fun r hr => ?_⟩
        refine ⟨show 3 ≤ sizeLine by decide, fun s' hs => ?_⟩
        have rc : c ≠ r := ne_of_none hcl hr
        have sr : r ≠ s' := fun z => by rw [← z, upd_same] at hs; cases hs
        have sc : c ≠ s' := fun z => by rw [← z, upd_ne rc, hcl] at hs; cases hs
        have hs3 : H3 s' = none := by rw [upd_ne sr.symm] at hs; exact hs
        have bk : ∀ x, H3 x = none → H x = none := fun x hx => by
          cases q : H x with
          | none => rfl
          | some o => rw [sm x o q] at hx; cases hx
        refine q ⟨cs, cs, 0, hc, rfl⟩ s' c r _ ?_ (bk _ hs3) hcn (bk _ hr) ?_
        · intro x o hx
          have := sm x o hx
          rw [upd_ne (ne_of_none this hs3), upd_ne (ne_of_none this hr)]
          exact this
        · refine ⟨by simp, by simp, by simp, sc.symm, sr.symm, rc, upd_same, ?_, ?_⟩
          · rw [upd_ne sc, upd_ne rc]; exact hcl
          · rw [upd_ne sr, upd_same]
      by_cases hne : cut = []
      · have e0 : PyData.eqv (.list ((cut.map ab).map PyData.int)) (.list []) = true := by rw [hne]; simp only [List.map_nil, PyData.eqv, PyData.eqvAll]
        refine ⟨_, _, dD, dE, sh, shE, true, congrArg V.bl e0, iteT ?_⟩
        refine ⟨by show 1 ≤ sizeLine; decide, fun c hc => ?_⟩
        have cE : c ≠ E0' := fun z => by rw [z, upd_same] at hc; cases hc
        have cD : c ≠ D := fun z => by rw [z, upd_ne ED.symm, upd_same] at hc; cases hc
        have cp : c ≠ p := fun z => by rw [z, upd_ne Ep.symm, upd_ne Dp'.symm, upd_same] at hc; cases hc
        have Hc : H c = none := by rw [upd_ne cE, upd_ne cD, upd_ne cp] at hc; exact hc
        refine finish [0] (by decide) c _ ?_ Hc upd_same (by decide)
        intro x o hx
        rw [upd_ne (ne_of_none hx Hc), upd_ne (ne_of_none hx HE), upd_ne (ne_of_none hx HD), upd_ne (ne_of_none hx hp)]
        exact hx
      · have e0 : PyData.eqv (.list ((cut.map ab).map PyData.int)) (.list []) = false := by
          cases hcut : cut with
          | nil => exact absurd hcut hne
          | cons x l => simp only [List.map_cons, PyData.eqv, PyData.eqvAll]
        refine ⟨_, _, dD, dE, sh, shE, false, congrArg V.bl e0, iteF ?_⟩
        refine finish (cut.map ab) (by rw [List.length_map]; exact List.length_pos_iff.mpr hne) D _ ?_ HD ?_ (by rw [List.length_map]; exact lcut)
        · intro x o hx
          rw [upd_ne (ne_of_none hx HE), upd_ne (ne_of_none hx HD), upd_ne (ne_of_none hx hp)]
          exact hx
        · rw [upd_ne ED.symm, upd_same, List.map_map]
          rfl

theorem ok_law_gcd {P : Program} {w : World} {K : Fg} {mg : Str → Option Value} {base : Heap} (T : Txt K mg) : FnOk P w K mg base CX0 1 T.a_law_gcd T.d_law_gcd ["a", "b"] (spD K 2 F_law_gcd) :=
  fn_ok T.F_law_gcd sc_law_gcd fun cdv A outer s H E hr =>
  (dss_cons (ds_set (i := 0) sc_law_gcd.nd rfl (.inl rfl) (de_callB call_abs rl_abs (by rfl) T.z_abs PyProof.Rows.boot_abs (da_cons (de_var 0) da_nil)).o)
  (dss_cons (ds_set (i := 1) sc_law_gcd.nd rfl (.inl rfl) (de_callB call_abs rl_abs (by rfl) T.z_abs PyProof.Rows.boot_abs (da_cons (de_var 1) da_nil)).o)
  (dss_cons (ds_for rfl PassesOwn.never (di_range1 (by rfl) T.z_range de_int) (dg_name (i := 2) sc_law_gcd.nd rfl (.inl rfl))
  (dss_cons (ds_if (dt_eq hr.units (de_var 1) de_int) (dss_one ds_break) dss_nil)
  (dss_cons (ds_set (i := 3) sc_law_gcd.nd rfl (.inl rfl) (de_mod (de_callTy call_int1 rl_int (by rfl) T.z_int PyProof.Rows.boot_int (da_cons (de_var 0) da_nil)) (de_var 1)).o)
  (dss_cons (ds_set (i := 0) sc_law_gcd.nd rfl (.inl rfl) (de_var 1).o)
  (dss_one (ds_set (i := 1) sc_law_gcd.nd rfl (.inl rfl) (de_var 3).o))))))
  (dss_one (ds_ret (de_var 0).o)))))
theorem ok_law_is_integer {P : Program} {w : World} {K : Fg} {mg : Str → Option Value} {base : Heap} (T : Txt K mg) : FnOk P w K mg base CX0 1 T.a_law_is_integer T.d_law_is_integer ["actual"] (spD K 1 F_law_is_integer) :=
  fn_ok T.F_law_is_integer sc_law_is_integer fun cdv A outer s H E hr =>
  (dss_one (ds_ret (de_and (de_isi (by rfl) T.z_isinstance (dp_var 0) (by rfl) T.z_int PyProof.Rows.boot_int) (de_one (de_not (de_isi (by rfl) T.z_isinstance (dp_var 0) (by rfl) T.z_bool PyProof.Rows.boot_bool)))).o))
theorem ok_law_same {P : Program} {w : World} {K : Fg} {mg : Str → Option Value} {base : Heap} (T : Txt K mg) : FnOk P w K mg base CX0 2 T.a_law_same T.d_law_same ["actual", "n", "d"] (spD K 3 F_law_same) :=
  fn_ok T.F_law_same sc_law_same fun cdv A outer s H E hr =>
  (dss_cons (ds_if (dw_or (dt_not (dt_val (de_isi (by rfl) T.z_isinstance (dp_var 0) (by rfl) T.z_tuple PyProof.Rows.boot_tuple))) (dw_or1 (dt_ne hr.units (de_len (by rfl) T.z_len (dp_var 0)) de_int))).t (dss_one (ds_ret de_bl.o)) dss_nil)
  (dss_cons (ds_if (dw_or (dt_not (dt_val (do_call (ok_law_is_integer T) fnF_ar (hr.mono (by decide)) (by rfl) T.g_law_is_integer T.F_law_is_integer.kp T.b_law_is_integer (da_cons (de_ix (de_var 0) de_int) da_nil)).s)) (dw_or1 (dt_not (dt_val (do_call (ok_law_is_integer T) fnF_ar (hr.mono (by decide)) (by rfl) T.g_law_is_integer T.F_law_is_integer.kp T.b_law_is_integer (da_cons (de_ix (de_var 0) de_int) da_nil)).s)))).t (dss_one (ds_ret de_bl.o)) dss_nil)
  (dss_cons (ds_if (dw_or (dt_lt (de_ix (de_var 0) de_int) de_int) (dw_or1 (dt_ne hr.units (do_call (ok_law_gcd T) fnF_ar (hr.mono (by decide)) (by rfl) T.g_law_gcd T.F_law_gcd.kp T.b_law_gcd (da_cons (de_ix (de_var 0) de_int) (da_cons (de_ix (de_var 0) de_int) da_nil))).s de_int))).t (dss_one (ds_ret de_bl.o)) dss_nil)
  (dss_one (ds_ret (de_eq hr.units (de_mul (de_ix (de_var 0) de_int) (de_var 2)) (de_mul (de_var 1) (de_ix (de_var 0) de_int))).o)))))
theorem ok_compare {P : Program} {w : World} {K : Fg} {mg : Str → Option Value} {base : Heap} (T : Txt K mg) : FnOk P w K mg base CX0 1 T.a_compare T.d_compare ["a", "b"] (spD K 2 F_compare) :=
  fn_ok T.F_compare sc_compare fun cdv A outer s H E hr =>
  (dss_cons (ds_set (i := 2) sc_compare.nd rfl (.inl rfl) (de_mul (de_ix (de_var 0) de_int) (de_ix (de_var 1) de_int)).o)
  (dss_cons (ds_set (i := 3) sc_compare.nd rfl (.inl rfl) (de_mul (de_ix (de_var 1) de_int) (de_ix (de_var 0) de_int)).o)
  (dss_cons (ds_if (dt_lt (de_var 2) (de_var 3)) (dss_one (ds_ret (de_neg de_int).o)) dss_nil)
  (dss_cons (ds_if (dt_gt (de_var 2) (de_var 3)) (dss_one (ds_ret de_int.o)) dss_nil)
  (dss_one (ds_ret de_int.o))))))
theorem ok_greatest {P : Program} {w : World} {K : Fg} {mg : Str → Option Value} {base : Heap} (T : Txt K mg) : FnOk P w K mg base CX0 2 T.a_greatest T.d_greatest ["fractions"] (spD K 1 F_greatest) :=
  fn_ok T.F_greatest sc_greatest fun cdv A outer s H E hr =>
  (dss_cons (ds_set (i := 1) sc_greatest.nd rfl (.inl rfl) (de_ix (de_var 0) de_int).o)
  (dss_cons (ds_for rfl PassesOwn.never (di_seq (de_var 0)) (dg_name (i := 2) sc_greatest.nd rfl (.inl rfl))
  (dss_one (ds_if (dt_gt (do_call (ok_compare T) fnF_ar (hr.mono (by decide)) (by rfl) T.g_compare T.F_compare.kp T.b_compare (da_cons (de_var 2) (da_cons (de_var 1) da_nil))).s de_int) (dss_one (ds_set (i := 1) sc_greatest.nd rfl (.inl rfl) (de_var 2).o)) dss_nil)))
  (dss_one (ds_ret (de_var 1).o))))
theorem ok_least {P : Program} {w : World} {K : Fg} {mg : Str → Option Value} {base : Heap} (T : Txt K mg) : FnOk P w K mg base CX0 2 T.a_least T.d_least ["fractions"] (spD K 1 F_least) :=
  fn_ok T.F_least sc_least fun cdv A outer s H E hr =>
  (dss_cons (ds_set (i := 1) sc_least.nd rfl (.inl rfl) (de_ix (de_var 0) de_int).o)
  (dss_cons (ds_for rfl PassesOwn.never (di_seq (de_var 0)) (dg_name (i := 2) sc_least.nd rfl (.inl rfl))
  (dss_one (ds_if (dt_lt (do_call (ok_compare T) fnF_ar (hr.mono (by decide)) (by rfl) T.g_compare T.F_compare.kp T.b_compare (da_cons (de_var 2) (da_cons (de_var 1) da_nil))).s de_int) (dss_one (ds_set (i := 1) sc_least.nd rfl (.inl rfl) (de_var 2).o)) dss_nil)))
  (dss_one (ds_ret (de_var 1).o))))
theorem ok_law_ends {P : Program} {w : World} {K : Fg} {mg : Str → Option Value} {base : Heap} (T : Txt K mg) : FnOk P w K mg base CX0 3 T.a_law_ends T.d_law_ends ["rows"] (spD K 1 F_law_ends) :=
  fn_ok T.F_law_ends sc_law_ends fun cdv A outer s H E hr =>
  (dss_cons (ds_set (i := 1) sc_law_ends.nd rfl (.inl rfl) (do_call (ok_greatest T) fnF_ar (hr.mono (by decide)) (by rfl) T.g_greatest T.F_greatest.kp T.b_greatest (da_cons (do_list (by rfl) T.z_list (dp_var 0)).s da_nil)).s.o)
  (dss_cons (ds_set (i := 2) sc_law_ends.nd rfl (.inl rfl) (do_call (ok_least T) fnF_ar (hr.mono (by decide)) (by rfl) T.g_least T.F_least.kp T.b_least (da_cons (do_list (by rfl) T.z_list (dp_var 0)).s da_nil)).s.o)
  (dss_cons (ds_if (dw_or (dt_notIn (room65 hr) (de_var 1) (de_var 0)) (dw_or1 (dt_notIn (room65 hr) (de_var 2) (de_var 0)))).t (dss_one (ds_ret de_bl.o)) dss_nil)
  (dss_cons (ds_for rfl PassesOwn.never (di_seq (de_var 0)) (dg_name (i := 3) sc_law_ends.nd rfl (.inl rfl))
  (dss_one (ds_if (dw_or (dt_gt (de_mul (de_ix (de_var 3) de_int) (de_ix (de_var 1) de_int)) (de_mul (de_ix (de_var 1) de_int) (de_ix (de_var 3) de_int))) (dw_or1 (dt_lt (de_mul (de_ix (de_var 3) de_int) (de_ix (de_var 2) de_int)) (de_mul (de_ix (de_var 2) de_int) (de_ix (de_var 3) de_int))))).t (dss_one (ds_ret de_bl.o)) dss_nil)))
  (dss_one (ds_ret (de_and (do_call (ok_law_same T) fnF_ar (hr.mono (by decide)) (by rfl) T.g_law_same T.F_law_same.kp T.b_law_same (da_cons (de_var 1) (da_cons (de_ix (de_var 1) de_int) (da_cons (de_ix (de_var 1) de_int) da_nil)))).s (de_one (do_call (ok_law_same T) fnF_ar (hr.mono (by decide)) (by rfl) T.g_law_same T.F_law_same.kp T.b_law_same (da_cons (de_var 2) (da_cons (de_ix (de_var 2) de_int) (da_cons (de_ix (de_var 2) de_int) da_nil)))).s)).o))))))
theorem ok_law_great {P : Program} {w : World} {K : Fg} {mg : Str → Option Value} {base : Heap} (T : Txt K mg) : FnOk P w K mg base CX0 2 T.a_law_great T.d_law_great ["state", "big"] (spD K 2 F_law_great) :=
  fn_ok T.F_law_great sc_law_great fun cdv A outer s H E hr =>
  (dss_cons (ds_if (dt_not (dt_val (de_var 1))) (dss_one (ds_ret (do_call (ok_law_draw T) drawF_ar (hr.mono (by decide)) (by rfl) T.g_law_draw T.F_law_draw.kp T.b_law_draw (da_cons (de_var 0) (da_cons de_int da_nil))))) dss_nil)
  (dss_cons (ds_set (i := 2) sc_law_great.nd rfl (.inl rfl) de_int.o)
  (dss_cons (ds_for rfl PassesOwn.never (di_range1 (by rfl) T.z_range de_int) (dg_name (i := 3) sc_law_great.nd rfl (.inl rfl))
  (dss_one (ds_set (i := 2) sc_law_great.nd rfl (.inl rfl) (de_add (de_mul (de_var 2) (de_pow de_int de_int)) (do_call (ok_law_draw T) drawF_ar (hr.mono (by decide)) (by rfl) T.g_law_draw T.F_law_draw.kp T.b_law_draw (da_cons (de_var 0) (da_cons (de_pow de_int de_int) da_nil))).s).o)))
  (dss_one (ds_ret (de_var 2).o)))))
theorem ok_law_fraction {P : Program} {w : World} {K : Fg} {mg : Str → Option Value} {base : Heap} (T : Txt K mg) : FnOk P w K mg base CX0 3 T.a_law_fraction T.d_law_fraction ["state", "big"] (spD K 2 F_law_fraction) :=
  fn_ok T.F_law_fraction sc_law_fraction fun cdv A outer s H E hr =>
  (dss_cons (ds_set (i := 2) sc_law_fraction.nd rfl (.inl rfl) (do_call (ok_law_draw T) drawF_ar (hr.mono (by decide)) (by rfl) T.g_law_draw T.F_law_draw.kp T.b_law_draw (da_cons (de_var 0) (da_cons de_int da_nil))).s.o)
  (dss_cons (ds_set (i := 3) sc_law_fraction.nd rfl (.inl rfl) (do_call (ok_law_great T) fnF_ar (hr.mono (by decide)) (by rfl) T.g_law_great T.F_law_great.kp T.b_law_great (da_cons (de_var 0) (da_cons (de_var 1) da_nil))).s.o)
  (dss_cons (ds_set (i := 4) sc_law_fraction.nd rfl (.inl rfl) (de_add de_int (do_call (ok_law_great T) fnF_ar (hr.mono (by decide)) (by rfl) T.g_law_great T.F_law_great.kp T.b_law_great (da_cons (de_var 0) (da_cons (de_var 1) da_nil))).s).o)
  (dss_cons (ds_if (dt_eq hr.units (de_var 2) de_int) (dss_one (ds_set (i := 3) sc_law_fraction.nd rfl (.inl rfl) de_int.o)) dss_nil)
  (dss_cons (ds_if (dw_or (dt_eq hr.units (de_var 2) de_int) (dw_or1 (dt_eq hr.units (de_var 2) de_int))).t (dss_one (ds_set (i := 3) sc_law_fraction.nd rfl (.inl rfl) (de_neg (de_var 3)).o)) dss_nil)
  (dss_cons (ds_set (i := 5) sc_law_fraction.nd rfl (.inl rfl) (do_call (ok_law_gcd T) fnF_ar (hr.mono (by decide)) (by rfl) T.g_law_gcd T.F_law_gcd.kp T.b_law_gcd (da_cons (de_var 3) (da_cons (de_var 4) da_nil))).s.o)
  (dss_one (ds_ret (de_tup (da_cons (de_div (de_var 3) (de_var 5)) (da_cons (de_div (de_var 4) (de_var 5)) da_nil))).o))))))))
theorem ok_ratio {P : Program} {w : World} {K : Fg} {mg : Str → Option Value} {base : Heap} (T : Txt K mg) : FnOk P w K mg base CX0 1 T.a_ratio T.d_ratio ["n", "d"] (spD K 2 F_ratio) :=
  fn_ok T.F_ratio sc_ratio fun cdv A outer s H E hr =>
  (dss_cons (ds_if (dt_lt (de_var 1) de_int) (dss_cons (ds_set (i := 0) sc_ratio.nd rfl (.inl rfl) (de_neg (de_var 0)).o)
  (dss_one (ds_set (i := 1) sc_ratio.nd rfl (.inl rfl) (de_neg (de_var 1)).o))) dss_nil)
  (dss_cons (ds_set (i := 2) sc_ratio.nd rfl (.inl rfl) (de_callBfun cr_gcd rl_gcd (by rfl) T.z_gcd (da_cons (de_var 0) (da_cons (de_var 1) da_nil))).o)
  (dss_one (ds_ret (de_tup (da_cons (de_div (de_var 0) (de_var 2)) (da_cons (de_div (de_var 1) (de_var 2)) da_nil))).o))))
theorem ok_add {P : Program} {w : World} {K : Fg} {mg : Str → Option Value} {base : Heap} (T : Txt K mg) : FnOk P w K mg base CX0 2 T.a_add T.d_add ["a", "b"] (spD K 2 F_add) :=
  fn_ok T.F_add sc_add fun cdv A outer s H E hr =>
  (dss_one (ds_ret (do_call (ok_ratio T) fnF_ar (hr.mono (by decide)) (by rfl) T.g_ratio T.F_ratio.kp T.b_ratio (da_cons (de_add (de_mul (de_ix (de_var 0) de_int) (de_ix (de_var 1) de_int)) (de_mul (de_ix (de_var 1) de_int) (de_ix (de_var 0) de_int))) (da_cons (de_mul (de_ix (de_var 0) de_int) (de_ix (de_var 1) de_int)) da_nil)))))
theorem ok_div {P : Program} {w : World} {K : Fg} {mg : Str → Option Value} {base : Heap} (T : Txt K mg) : FnOk P w K mg base CX0 2 T.a_div T.d_div ["a", "b"] (spD K 2 F_div) :=
  fn_ok T.F_div sc_div fun cdv A outer s H E hr =>
  (dss_one (ds_ret (do_call (ok_ratio T) fnF_ar (hr.mono (by decide)) (by rfl) T.g_ratio T.F_ratio.kp T.b_ratio (da_cons (de_mul (de_ix (de_var 0) de_int) (de_ix (de_var 1) de_int)) (da_cons (de_mul (de_ix (de_var 0) de_int) (de_ix (de_var 1) de_int)) da_nil)))))
theorem ok_mul {P : Program} {w : World} {K : Fg} {mg : Str → Option Value} {base : Heap} (T : Txt K mg) : FnOk P w K mg base CX0 2 T.a_mul T.d_mul ["a", "b"] (spD K 2 F_mul) :=
  fn_ok T.F_mul sc_mul fun cdv A outer s H E hr =>
  (dss_one (ds_ret (do_call (ok_ratio T) fnF_ar (hr.mono (by decide)) (by rfl) T.g_ratio T.F_ratio.kp T.b_ratio (da_cons (de_mul (de_ix (de_var 0) de_int) (de_ix (de_var 1) de_int)) (da_cons (de_mul (de_ix (de_var 0) de_int) (de_ix (de_var 1) de_int)) da_nil)))))
theorem ok_sub {P : Program} {w : World} {K : Fg} {mg : Str → Option Value} {base : Heap} (T : Txt K mg) : FnOk P w K mg base CX0 2 T.a_sub T.d_sub ["a", "b"] (spD K 2 F_sub) :=
  fn_ok T.F_sub sc_sub fun cdv A outer s H E hr =>
  (dss_one (ds_ret (do_call (ok_ratio T) fnF_ar (hr.mono (by decide)) (by rfl) T.g_ratio T.F_ratio.kp T.b_ratio (da_cons (de_sub (de_mul (de_ix (de_var 0) de_int) (de_ix (de_var 1) de_int)) (de_mul (de_ix (de_var 1) de_int) (de_ix (de_var 0) de_int))) (da_cons (de_mul (de_ix (de_var 0) de_int) (de_ix (de_var 1) de_int)) da_nil)))))
theorem ok_law_pair {P : Program} {w : World} {K : Fg} {mg : Str → Option Value} {base : Heap} (T : Txt K mg) : FnOk P w K mg base CX0 3 T.a_law_pair T.d_law_pair ["a", "b"] (spD K 2 F_law_pair) :=
  fn_ok T.F_law_pair sc_law_pair fun cdv A outer s H E hr =>
  (dss_cons (ds_if (dt_not (dt_val (do_call (ok_law_same T) fnF_ar (hr.mono (by decide)) (by rfl) T.g_law_same T.F_law_same.kp T.b_law_same (da_cons (do_call (ok_add T) fnF_ar (hr.mono (by decide)) (by rfl) T.g_add T.F_add.kp T.b_add (da_cons (de_var 0) (da_cons (de_var 1) da_nil))).s (da_cons (de_add (de_mul (de_ix (de_var 0) de_int) (de_ix (de_var 1) de_int)) (de_mul (de_ix (de_var 1) de_int) (de_ix (de_var 0) de_int))) (da_cons (de_mul (de_ix (de_var 0) de_int) (de_ix (de_var 1) de_int)) da_nil)))).s)) (dss_one (ds_ret de_bl.o)) dss_nil)
  (dss_cons (ds_if (dt_not (dt_val (do_call (ok_law_same T) fnF_ar (hr.mono (by decide)) (by rfl) T.g_law_same T.F_law_same.kp T.b_law_same (da_cons (do_call (ok_sub T) fnF_ar (hr.mono (by decide)) (by rfl) T.g_sub T.F_sub.kp T.b_sub (da_cons (de_var 0) (da_cons (de_var 1) da_nil))).s (da_cons (de_sub (de_mul (de_ix (de_var 0) de_int) (de_ix (de_var 1) de_int)) (de_mul (de_ix (de_var 1) de_int) (de_ix (de_var 0) de_int))) (da_cons (de_mul (de_ix (de_var 0) de_int) (de_ix (de_var 1) de_int)) da_nil)))).s)) (dss_one (ds_ret de_bl.o)) dss_nil)
  (dss_cons (ds_if (dt_not (dt_val (do_call (ok_law_same T) fnF_ar (hr.mono (by decide)) (by rfl) T.g_law_same T.F_law_same.kp T.b_law_same (da_cons (do_call (ok_mul T) fnF_ar (hr.mono (by decide)) (by rfl) T.g_mul T.F_mul.kp T.b_mul (da_cons (de_var 0) (da_cons (de_var 1) da_nil))).s (da_cons (de_mul (de_ix (de_var 0) de_int) (de_ix (de_var 1) de_int)) (da_cons (de_mul (de_ix (de_var 0) de_int) (de_ix (de_var 1) de_int)) da_nil)))).s)) (dss_one (ds_ret de_bl.o)) dss_nil)
  (dss_cons (ds_if (dw_and (dt_ne hr.units (de_ix (de_var 1) de_int) de_int) (dw_and1 (dt_not (dt_val (do_call (ok_law_same T) fnF_ar (hr.mono (by decide)) (by rfl) T.g_law_same T.F_law_same.kp T.b_law_same (da_cons (do_call (ok_div T) fnF_ar (hr.mono (by decide)) (by rfl) T.g_div T.F_div.kp T.b_div (da_cons (de_var 0) (da_cons (de_var 1) da_nil))).s (da_cons (de_mul (de_ix (de_var 0) de_int) (de_ix (de_var 1) de_int)) (da_cons (de_mul (de_ix (de_var 0) de_int) (de_ix (de_var 1) de_int)) da_nil)))).s)))).t (dss_one (ds_ret de_bl.o)) dss_nil)
  (dss_cons (ds_set (i := 2) sc_law_pair.nd rfl (.inl rfl) (do_call (ok_compare T) fnF_ar (hr.mono (by decide)) (by rfl) T.g_compare T.F_compare.kp T.b_compare (da_cons (de_var 0) (da_cons (de_var 1) da_nil))).s.o)
  (dss_cons (ds_if (dt_not (dt_val (do_call (ok_law_is_integer T) fnF_ar (hr.mono (by decide)) (by rfl) T.g_law_is_integer T.F_law_is_integer.kp T.b_law_is_integer (da_cons (de_var 2) da_nil)).s)) (dss_one (ds_ret de_bl.o)) dss_nil)
  (dss_cons (ds_set (i := 3) sc_law_pair.nd rfl (.inl rfl) (de_mul (de_ix (de_var 0) de_int) (de_ix (de_var 1) de_int)).o)
  (dss_cons (ds_set (i := 4) sc_law_pair.nd rfl (.inl rfl) (de_mul (de_ix (de_var 1) de_int) (de_ix (de_var 0) de_int)).o)
  (dss_one (ds_ret (de_eq hr.units (de_var 2) (de_sub (de_callTy call_int1 rl_int (by rfl) T.z_int PyProof.Rows.boot_int (da_cons (de_gt (de_var 3) (de_var 4)) da_nil)) (de_callTy call_int1 rl_int (by rfl) T.z_int PyProof.Rows.boot_int (da_cons (de_lt (de_var 3) (de_var 4)) da_nil)))).o))))))))))
theorem ok_scaled {P : Program} {w : World} {K : Fg} {mg : Str → Option Value} {base : Heap} (T : Txt K mg) : FnOk P w K mg base CX0 1 T.a_scaled T.d_scaled ["fractions"] (spD K 1 F_scaled) :=
  fn_ok T.F_scaled sc_scaled fun cdv A outer s H E hr =>
  (dss_cons (ds_set (i := 1) sc_scaled.nd rfl (.inr rfl) de_int.o)
  (dss_cons (ds_for rfl PassesOwn.never (di_seq (de_var 0)) (dg_name (i := 2) sc_scaled.nd rfl (.inl rfl))
  (dss_one (ds_set (i := 1) sc_scaled.nd rfl (.inr rfl) (de_callBfun cr_lcm rl_lcm (by rfl) T.z_lcm (da_cons (de_var 1) (da_cons (de_ix (de_var 2) de_int) da_nil))).o)))
  (dss_one (ds_ret (de_tup (da_cons (do_lc (own := [("fraction", 2)]) rfl sc_scaled.nd (di_seq (de_var 0)) (blkOk_by (N := ["fractions", "common", "fraction"]) (sc := defScope s_scaled) (by decide +kernel)) (fun _ _ _ _ _ => (pg_name (i := 2) sc_scaled.nd rfl (by first | exact Or.inl rfl | exact Or.inr rfl))) (dgw_name (by decide)) (fun _ _ _ _ _ => dts_nil) (fun _ _ _ _ _ => (de_mul (de_ix (de_var 2) de_int) (de_div (de_var 1) (de_ix (de_var 2) de_int))).o)).s (da_cons (de_var 1) da_nil))).o))))
theorem ok_law_scaled {P : Program} {w : World} {K : Fg} {mg : Str → Option Value} {base : Heap} (T : Txt K mg) : FnOk P w K mg base CX0 2 T.a_law_scaled T.d_law_scaled ["rows"] (spD K 1 F_law_scaled) :=
  fn_ok T.F_law_scaled sc_law_scaled fun cdv A outer s H E hr =>
  (dss_cons (ds_set (i := 1) sc_law_scaled.nd rfl (.inl rfl) (do_call (ok_scaled T) fnF_ar (hr.mono (by decide)) (by rfl) T.g_scaled T.F_scaled.kp T.b_scaled (da_cons (de_var 0) da_nil)).s.o)
  (dss_cons (ds_if (dw_or (dt_not (dt_val (de_isi (by rfl) T.z_isinstance (dp_var 1) (by rfl) T.z_tuple PyProof.Rows.boot_tuple))) (dw_or1 (dt_ne hr.units (de_len (by rfl) T.z_len (dp_var 1)) de_int))).t (dss_one (ds_ret de_bl.o)) dss_nil)
  (dss_cons (ds_if (dw_or (dt_not (dt_val (de_isi (by rfl) T.z_isinstance (de_ix (de_var 1) de_int).p (by rfl) T.z_list PyProof.Rows.boot_list))) (dw_or (dt_ne hr.units (de_len (by rfl) T.z_len (de_ix (de_var 1) de_int).p) (de_len (by rfl) T.z_len (dp_var 0))) (dw_or1 (dt_not (dt_val (do_call (ok_law_is_integer T) fnF_ar (hr.mono (by decide)) (by rfl) T.g_law_is_integer T.F_law_is_integer.kp T.b_law_is_integer (da_cons (de_ix (de_var 1) de_int) da_nil)).s))))).t (dss_one (ds_ret de_bl.o)) dss_nil)
  (dss_cons (ds_set (i := 2) sc_law_scaled.nd rfl (.inl rfl) de_int.o)
  (dss_cons (ds_for rfl PassesOwn.never (di_seq (de_var 0)) (dg_name (i := 3) sc_law_scaled.nd rfl (.inl rfl))
  (dss_one (ds_set (i := 2) sc_law_scaled.nd rfl (.inl rfl) (de_mul (de_div (de_var 2) (do_call (ok_law_gcd T) fnF_ar (hr.mono (by decide)) (by rfl) T.g_law_gcd T.F_law_gcd.kp T.b_law_gcd (da_cons (de_var 2) (da_cons (de_ix (de_var 3) de_int) da_nil))).s) (de_ix (de_var 3) de_int)).o)))
  (dss_cons (ds_if (dt_ne hr.units (de_ix (de_var 1) de_int) (de_var 2)) (dss_one (ds_ret de_bl.o)) dss_nil)
  (dss_cons (ds_for rfl PassesOwn.never (di_range1 (by rfl) T.z_range (de_len (by rfl) T.z_len (dp_var 0))) (dg_name (i := 4) sc_law_scaled.nd rfl (.inl rfl))
  (dss_one (ds_if (dw_or (dt_not (dt_val (do_call (ok_law_is_integer T) fnF_ar (hr.mono (by decide)) (by rfl) T.g_law_is_integer T.F_law_is_integer.kp T.b_law_is_integer (da_cons (de_ix (de_ix (de_var 1) de_int) (de_var 4)) da_nil)).s)) (dw_or1 (dt_ne hr.units (de_mul (de_ix (de_ix (de_var 1) de_int) (de_var 4)) (de_ix (de_ix (de_var 0) (de_var 4)) de_int)) (de_mul (de_ix (de_ix (de_var 0) (de_var 4)) de_int) (de_var 2))))).t (dss_one (ds_ret de_bl.o)) dss_nil)))
  (dss_one (ds_ret de_bl.o)))))))))
theorem ok_dot {P : Program} {w : World} {K : Fg} {mg : Str → Option Value} {base : Heap} (T : Txt K mg) : FnOk P w K mg base CX0 3 T.a_dot T.d_dot ["first", "second"] (spD K 2 F_dot) :=
  fn_ok T.F_dot sc_dot fun cdv A outer s H E hr =>
  (dss_cons (ds_set (i := 2) sc_dot.nd rfl (.inl rfl) (de_glob (by rfl) T.g_ZERO (by exact rfl) T.r_ZERO).o)
  (dss_cons (ds_for rfl PassesOwn.never (di_zip (by rfl) T.z_zip (de_var 0) (de_var 1)) (dg_tup rfl (dgl_cons (dg_name (i := 3) sc_dot.nd rfl (.inl rfl)) (dgl_cons (dg_name (i := 4) sc_dot.nd rfl (.inl rfl)) dgl_nil)))
  (dss_one (ds_set (i := 2) sc_dot.nd rfl (.inl rfl) (do_call (ok_add T) fnF_ar (hr.mono (by decide)) (by rfl) T.g_add T.F_add.kp T.b_add (da_cons (de_var 2) (da_cons (do_call (ok_mul T) fnF_ar (hr.mono (by decide)) (by rfl) T.g_mul T.F_mul.kp T.b_mul (da_cons (de_var 3) (da_cons (de_var 4) da_nil))).s da_nil))).s.o)))
  (dss_one (ds_ret (de_var 2).o))))
theorem ok_total {P : Program} {w : World} {K : Fg} {mg : Str → Option Value} {base : Heap} (T : Txt K mg) : FnOk P w K mg base CX0 3 T.a_total T.d_total ["fractions"] (spD K 1 F_total) :=
  fn_ok T.F_total sc_total fun cdv A outer s H E hr =>
  (dss_cons (ds_set (i := 1) sc_total.nd rfl (.inl rfl) (de_glob (by rfl) T.g_ZERO (by exact rfl) T.r_ZERO).o)
  (dss_cons (ds_for rfl PassesOwn.never (di_seq (de_var 0)) (dg_name (i := 2) sc_total.nd rfl (.inl rfl))
  (dss_one (ds_set (i := 1) sc_total.nd rfl (.inl rfl) (do_call (ok_add T) fnF_ar (hr.mono (by decide)) (by rfl) T.g_add T.F_add.kp T.b_add (da_cons (de_var 1) (da_cons (de_var 2) da_nil))).s.o)))
  (dss_one (ds_ret (de_var 1).o))))
theorem ok_law_sums {P : Program} {w : World} {K : Fg} {mg : Str → Option Value} {base : Heap} (T : Txt K mg) : FnOk P w K mg base CX0 4 T.a_law_sums T.d_law_sums ["rows", "others"] (spD K 2 F_law_sums) :=
  fn_ok T.F_law_sums sc_law_sums fun cdv A outer s H E hr =>
  (dss_cons (ds_set (i := 2) sc_law_sums.nd rfl (.inl rfl) de_int.o)
  (dss_cons (ds_set (i := 3) sc_law_sums.nd rfl (.inl rfl) de_int.o)
  (dss_cons (ds_for rfl PassesOwn.never (di_seq (de_var 0)) (dg_name (i := 4) sc_law_sums.nd rfl (.inl rfl))
  (dss_cons (ds_set (i := 2) sc_law_sums.nd rfl (.inl rfl) (de_add (de_mul (de_var 2) (de_ix (de_var 4) de_int)) (de_mul (de_ix (de_var 4) de_int) (de_var 3))).o)
  (dss_one (ds_set (i := 3) sc_law_sums.nd rfl (.inl rfl) (de_mul (de_var 3) (de_ix (de_var 4) de_int)).o))))
  (dss_cons (ds_if (dt_not (dt_val (do_call (ok_law_same T) fnF_ar (hr.mono (by decide)) (by rfl) T.g_law_same T.F_law_same.kp T.b_law_same (da_cons (do_call (ok_total T) fnF_ar (hr.mono (by decide)) (by rfl) T.g_total T.F_total.kp T.b_total (da_cons (de_var 0) da_nil)).s (da_cons (de_var 2) (da_cons (de_var 3) da_nil)))).s)) (dss_one (ds_ret de_bl.o)) dss_nil)
  (dss_cons (ds_set (i := 2) sc_law_sums.nd rfl (.inl rfl) de_int.o)
  (dss_cons (ds_set (i := 3) sc_law_sums.nd rfl (.inl rfl) de_int.o)
  (dss_cons (ds_for rfl PassesOwn.never (di_range1 (by rfl) T.z_range (de_len (by rfl) T.z_len (dp_var 0))) (dg_name (i := 5) sc_law_sums.nd rfl (.inl rfl))
  (dss_cons (ds_set (i := 2) sc_law_sums.nd rfl (.inl rfl) (de_add (de_mul (de_mul (de_var 2) (de_ix (de_ix (de_var 0) (de_var 5)) de_int)) (de_ix (de_ix (de_var 1) (de_var 5)) de_int)) (de_mul (de_mul (de_ix (de_ix (de_var 0) (de_var 5)) de_int) (de_ix (de_ix (de_var 1) (de_var 5)) de_int)) (de_var 3))).o)
  (dss_one (ds_set (i := 3) sc_law_sums.nd rfl (.inl rfl) (de_mul (de_mul (de_var 3) (de_ix (de_ix (de_var 0) (de_var 5)) de_int)) (de_ix (de_ix (de_var 1) (de_var 5)) de_int)).o))))
  (dss_one (ds_ret (do_call (ok_law_same T) fnF_ar (hr.mono (by decide)) (by rfl) T.g_law_same T.F_law_same.kp T.b_law_same (da_cons (do_call (ok_dot T) fnF_ar (hr.mono (by decide)) (by rfl) T.g_dot T.F_dot.kp T.b_dot (da_cons (de_var 0) (da_cons (de_var 1) da_nil))).s (da_cons (de_var 2) (da_cons (de_var 3) da_nil)))))))))))))
theorem ok_law {P : Program} {w : World} {K : Fg} {mg : Str → Option Value} {base : Heap} (T : Txt K mg) (main : ∀ g : GS, ∃ g', B_law ((List.replicate 11 none).set 1 (some (.sh .gen))) g = some (.rt (.sh (.bl true)) g')) :
    FnOk P w K mg base CX0 5 T.a_law T.d_law ["script"] (spLaw K) := by
  refine T.F_law.ok sc_law (fun vs H Q E h => ?_) (fun cdv A outer s H vs Q E hr h => ?_)
  · obtain ⟨a, ns, rfl, _⟩ := h
    rfl
  · obtain ⟨a, ns, rfl, hS, hlen, q⟩ := h
    have body : DSs (cxOf CX0 P w K mg base ["script", "state", "size", "big", "k", "rows", "others", "n", "d", "times", "kept"] "law" (defScope s_law) T.a_law cdv A outer s H E).nox ((defBody s_law).drop 1) B_law :=
  (dss_cons (ds_set (i := 2) sc_law.nd rfl (.inl rfl) (de_add de_int (do_call (ok_law_draw T) drawF_ar (hr.mono (by decide)) (by rfl) T.g_law_draw T.F_law_draw.kp T.b_law_draw (da_cons (de_var 1) (da_cons de_int da_nil))).s).o)
  (dss_cons (ds_set (i := 3) sc_law.nd rfl (.inr rfl) (de_eq hr.units (do_call (ok_law_draw T) drawF_ar (hr.mono (by decide)) (by rfl) T.g_law_draw T.F_law_draw.kp T.b_law_draw (da_cons (de_var 1) (da_cons de_int da_nil))).s de_int).o)
  (dss_cons (ds_setLc (i := 5) (own := [("k", 4)]) rfl sc_law.nd rfl rfl (sw_true rfl rfl rfl (by decide +kernel)) (di_range1 (by rfl) T.z_range (de_var 2)) (blkOk_by (N := ["script", "state", "size", "big", "k", "rows", "others", "n", "d", "times", "kept"]) (sc := defScope s_law) (by decide +kernel)) (fun _ _ _ _ _ => (pg_name (i := 4) sc_law.nd rfl (by first | exact Or.inl rfl | exact Or.inr rfl))) (dgw_name (by decide)) (fun _ _ _ _ _ => dts_nil) (fun _ _ _ _ _ => (do_call (ok_law_fraction T) fnF_ar (hr.mono (by decide)) (by rfl) T.g_law_fraction T.F_law_fraction.kp T.b_law_fraction (da_cons (de_var 1) (da_cons (de_var 3) da_nil)))))
  (dss_cons (ds_frz 6 (ds_setLc (i := 6) (own := [("k", 4)]) rfl sc_law.nd rfl rfl (sw_true rfl rfl rfl (by decide +kernel)) (di_range1 (by rfl) T.z_range (de_var 2)) (blkOk_by (N := ["script", "state", "size", "big", "k", "rows", "others", "n", "d", "times", "kept"]) (sc := defScope s_law) (by decide +kernel)) (fun _ _ _ _ _ => (pg_name (i := 4) sc_law.nd rfl (by first | exact Or.inl rfl | exact Or.inr rfl))) (dgw_name (by decide)) (fun _ _ _ _ _ => dts_nil) (fun _ _ _ _ _ => (do_call (ok_law_fraction T) fnF_ar (hr.mono (by decide)) (by rfl) T.g_law_fraction T.F_law_fraction.kp T.b_law_fraction (da_cons (de_var 1) (da_cons (de_var 3) da_nil))))))
  (dss_cons (ds_frz 5 (ds_if (dt_eq hr.units (do_call (ok_law_draw T) drawF_ar (hr.mono (by decide)) (by rfl) T.g_law_draw T.F_law_draw.kp T.b_law_draw (da_cons (de_var 1) (da_cons de_int da_nil))).s de_int) (dss_one (ds_asg (dp_ix (dp_var 5) (do_call (ok_law_draw T) drawF_ar (hr.mono (by decide)) (by rfl) T.g_law_draw T.F_law_draw.kp T.b_law_draw (da_cons (de_var 1) (da_cons (de_var 2) da_nil))).s).s.o (dg_ix 5 (do_call (ok_law_draw T) drawF_ar (hr.mono (by decide)) (by rfl) T.g_law_draw T.F_law_draw.kp T.b_law_draw (da_cons (de_var 1) (da_cons (de_var 2) da_nil))).s))) dss_nil))
  (dss_cons (ds_if (dw_or (dt_not (dt_val (do_call (ok_law_same T) fnF_ar (hr.mono (by decide)) (by rfl) T.g_law_same T.F_law_same.kp T.b_law_same (da_cons (de_glob (by rfl) T.g_ZERO (by exact rfl) T.r_ZERO) (da_cons de_int (da_cons de_int da_nil)))).s)) (dw_or1 (dt_not (dt_val (do_call (ok_law_same T) fnF_ar (hr.mono (by decide)) (by rfl) T.g_law_same T.F_law_same.kp T.b_law_same (da_cons (de_glob (by rfl) T.g_ONE (by exact rfl) T.r_ONE) (da_cons de_int (da_cons de_int da_nil)))).s)))).t (dss_one (ds_ret de_bl.o)) dss_nil)
  (dss_cons (ds_set (i := 7) sc_law.nd rfl (.inl rfl) (de_sub (do_call (ok_law_great T) fnF_ar (hr.mono (by decide)) (by rfl) T.g_law_great T.F_law_great.kp T.b_law_great (da_cons (de_var 1) (da_cons (de_var 3) da_nil))).s (do_call (ok_law_great T) fnF_ar (hr.mono (by decide)) (by rfl) T.g_law_great T.F_law_great.kp T.b_law_great (da_cons (de_var 1) (da_cons (de_var 3) da_nil))).s).o)
  (dss_cons (ds_set (i := 8) sc_law.nd rfl (.inl rfl) (de_add de_int (do_call (ok_law_great T) fnF_ar (hr.mono (by decide)) (by rfl) T.g_law_great T.F_law_great.kp T.b_law_great (da_cons (de_var 1) (da_cons (de_var 3) da_nil))).s).o)
  (dss_cons (ds_set (i := 9) sc_law.nd rfl (.inl rfl) (de_add de_int (do_call (ok_law_draw T) drawF_ar (hr.mono (by decide)) (by rfl) T.g_law_draw T.F_law_draw.kp T.b_law_draw (da_cons (de_var 1) (da_cons de_int da_nil))).s).o)
  (dss_cons (ds_if (dt_eq hr.units (do_call (ok_law_draw T) drawF_ar (hr.mono (by decide)) (by rfl) T.g_law_draw T.F_law_draw.kp T.b_law_draw (da_cons (de_var 1) (da_cons de_int da_nil))).s de_int) (dss_one (ds_set (i := 9) sc_law.nd rfl (.inl rfl) (de_neg (de_var 9)).o)) dss_nil)
  (dss_cons (ds_if (dt_not (dt_val (do_call (ok_law_same T) fnF_ar (hr.mono (by decide)) (by rfl) T.g_law_same T.F_law_same.kp T.b_law_same (da_cons (do_call (ok_ratio T) fnF_ar (hr.mono (by decide)) (by rfl) T.g_ratio T.F_ratio.kp T.b_ratio (da_cons (de_mul (de_var 7) (de_var 9)) (da_cons (de_mul (de_var 8) (de_var 9)) da_nil))).s (da_cons (de_var 7) (da_cons (de_var 8) da_nil)))).s)) (dss_one (ds_ret de_bl.o)) dss_nil)
  (dss_cons (ds_set (i := 10) sc_law.nd rfl (.inl rfl) (de_tup (da_cons (do_list (by rfl) T.z_list (dp_var 5)).s (da_cons (do_list (by rfl) T.z_list (dp_var 6)).s da_nil))).o)
  (dss_cons (ds_for rfl PassesOwn.never (di_range1 (by rfl) T.z_range (de_var 2)) (dg_name (i := 4) sc_law.nd rfl (.inl rfl))
  (dss_one (ds_if (dw_or (dt_not (dt_val (do_call (ok_law_pair T) fnF_ar (hr.mono (by decide)) (by rfl) T.g_law_pair T.F_law_pair.kp T.b_law_pair (da_cons (de_ix (de_var 5) (de_var 4)) (da_cons (de_ix (de_var 6) (de_var 4)) da_nil))).s)) (dw_or1 (dt_not (dt_val (do_call (ok_law_pair T) fnF_ar (hr.mono (by decide)) (by rfl) T.g_law_pair T.F_law_pair.kp T.b_law_pair (da_cons (de_ix (de_var 5) (de_var 4)) (da_cons (de_ix (de_var 5) de_int) da_nil))).s)))).t (dss_one (ds_ret de_bl.o)) dss_nil)))
  (dss_cons (ds_if (dw_or (dt_not (dt_val (do_call (ok_law_ends T) fnF_ar (hr.mono (by decide)) (by rfl) T.g_law_ends T.F_law_ends.kp T.b_law_ends (da_cons (de_var 5) da_nil)).s)) (dw_or (dt_not (dt_val (do_call (ok_law_scaled T) fnF_ar (hr.mono (by decide)) (by rfl) T.g_law_scaled T.F_law_scaled.kp T.b_law_scaled (da_cons (de_var 5) da_nil)).s)) (dw_or1 (dt_not (dt_val (do_call (ok_law_scaled T) fnF_ar (hr.mono (by decide)) (by rfl) T.g_law_scaled T.F_law_scaled.kp T.b_law_scaled (da_cons (do_lst dao_nil).s da_nil)).s))))).t (dss_one (ds_ret de_bl.o)) dss_nil)
  (dss_cons (ds_if (dw_or (dt_not (dt_val (do_call (ok_law_sums T) fnF_ar (hr.mono (by decide)) (by rfl) T.g_law_sums T.F_law_sums.kp T.b_law_sums (da_cons (de_var 5) (da_cons (de_var 6) da_nil))).s)) (dw_or1 (dt_not (dt_val (do_call (ok_law_sums T) fnF_ar (hr.mono (by decide)) (by rfl) T.g_law_sums T.F_law_sums.kp T.b_law_sums (da_cons (do_lst dao_nil).s (da_cons (do_lst dao_nil).s da_nil))).s)))).t (dss_one (ds_ret de_bl.o)) dss_nil)
  (dss_one (ds_ret (de_eq hr.units (de_var 10) (de_tup (da_cons (de_var 5) (da_cons (de_var 6) da_nil)))).o)))))))))))))))))
    obtain ⟨t, pt, qt⟩ := body
    refine ⟨_, pss_cons (ps_set (i := 1) sc_law.nd rfl (.inr rfl) (pe_call (ok_law_start T) (hr.mono (by decide)) (by rfl) T.g_law_start T.F_law_start.kp T.b_law_start .nil pass0 (pa_cons (pv 0) pa_nil))) pt, ?_⟩
    refine ⟨.ref a, rfl, a, ns, rfl, hS, hlen, fun g s' c r H' sm n1 n2 n3 hg => ?_⟩
    exact law_body (K := K) (t := t) (i := 1) qt rfl rfl hg (main g) q
end DL

/-! DLE: how the functions are reckoned (plain Lean). -/
namespace DL
section
variable {ρ : Env} {g : GS} {i j n : Nat} {f fa fb : EF} {h : OF} {fs : AF} {os : AOF} {c c2 : TF} {s t : SF} {F : FF} {k : SV → SV → Option SV}
@[simp] theorem ev_oS : oS f ρ g = (f ρ g).map fun p => (.sh p.1, p.2) := rfl
@[simp] theorem ev_fz : fz h ρ g = (h ρ g).map fun p => (p.1.frz, p.2) := rfl
@[simp] theorem ev_un : un h ρ g = (h ρ g).bind fun p => p.1.sh?.map fun s => (s, p.2) := rfl
@[simp] theorem ev_shq (s : SV) : (DV.sh s).sh? = some s := rfl
@[simp] theorem ev_kS (s : SV) : kS s ρ g = some (s, g) := rfl
@[simp] theorem ev_vS0 (s : SV) : vS 0 (some (.sh s) :: ρ) g = some (s, g) := rfl
@[simp] theorem ev_vSs (x : Option DV) : vS (i + 1) (x :: ρ) g = vS i ρ g := rfl
@[simp] theorem ev_vP0 (s : DV) : vP 0 (some s :: ρ) g = some (s, g) := rfl
@[simp] theorem ev_vPs (x : Option DV) : vP (i + 1) (x :: ρ) g = vP i ρ g := rfl
@[simp] theorem ev_b2 : b2 k fa fb ρ g = (fa ρ g).bind fun p => (fb ρ p.2).bind fun q => (k p.1 q.1).map fun s => (s, q.2) := rfl
@[simp] theorem ev_u1 (k : SV → Option SV) : u1 k fa ρ g = (fa ρ g).bind fun p => (k p.1).map fun s => (s, p.2) := rfl
@[simp] theorem ev_u1P (k : DV → Option SV) : u1P k h ρ g = (h ρ g).bind fun p => (k p.1).map fun s => (s, p.2) := rfl
@[simp] theorem ev_add (a b : Int) : hAdd (.int a) (.int b) = some (.int (a + b)) := rfl
@[simp] theorem ev_sub (a b : Int) : hSub (.int a) (.int b) = some (.int (a - b)) := rfl
@[simp] theorem ev_mul (a b : Int) : hMul (.int a) (.int b) = if mulOk a b then some (.int (a * b)) else none := rfl
@[simp] theorem ev_div (a b : Int) : hDiv (.int a) (.int b) = if divOk a b then some (.int (a / b)) else none := rfl
@[simp] theorem ev_mod (a b : Int) : hMod (.int a) (.int b) = if modOk a b then some (.int (a % b)) else none := rfl
@[simp] theorem ev_pow (a b : Int) : hPow (.int a) (.int b) = if powOk a b then some (.int (a ^ b.toNat)) else none := rfl
@[simp] theorem ev_lt (a b : Int) : hLt (.int a) (.int b) = some (.bl (decide (a < b))) := rfl
@[simp] theorem ev_le (a b : Int) : hLe (.int a) (.int b) = some (.bl (decide (a ≤ b))) := rfl
@[simp] theorem ev_gt (a b : Int) : hGt (.int a) (.int b) = some (.bl (decide (b < a))) := rfl
@[simp] theorem ev_ge (a b : Int) : hGe (.int a) (.int b) = some (.bl (decide (b ≤ a))) := rfl
@[simp] theorem ev_eqi (a b : Int) : hEq (.int a) (.int b) = some (.bl (decide (a = b))) := rfl
@[simp] theorem ev_nei (a b : Int) : hNe (.int a) (.int b) = some (.bl (!decide (a = b))) := rfl
@[simp] theorem ev_eqb (a b : Bool) : hEq (.bl a) (.bl b) = some (.bl (decide (a = b))) := rfl
@[simp] theorem ev_neg (a : Int) : hNeg (.int a) = some (.int (-a)) := rfl
@[simp] theorem ev_not (a : Bool) : hNot (.bl a) = some (.bl (!a)) := rfl
@[simp] theorem ev_tB1 : tB1 f ρ g = (f ρ g).bind fun p => match p.1 with | .bl b => some (b, p.2) | _ => none := rfl
@[simp] theorem ev_tAnd : tAnd1 c c2 ρ g = (c ρ g).bind fun p => if p.1 = true then c2 ρ p.2 else some (false, p.2) := rfl
@[simp] theorem ev_tOr : tOr1 c c2 ρ g = (c ρ g).bind fun p => if p.1 = true then some (true, p.2) else c2 ρ p.2 := rfl
@[simp] theorem ev_tNot : tNot1 c ρ g = (c ρ g).map fun p => (!p.1, p.2) := rfl
@[simp] theorem ev_ifV : ifV c fa fb ρ g = (c ρ g).bind fun p => if p.1 = true then fa ρ p.2 else fb ρ p.2 := rfl
@[simp] theorem ev_vAnd : vAnd fa fb ρ g = (fa ρ g).bind fun p => match p.1 with | .bl true => fb ρ p.2 | .bl false => some (.bl false, p.2) | _ => none := rfl
@[simp] theorem ev_vOr : vOr fa fb ρ g = (fa ρ g).bind fun p => match p.1 with | .bl false => fb ρ p.2 | .bl true => some (.bl true, p.2) | _ => none := rfl
@[simp] theorem ev_ixt (xs : List SV) (a : Int) : hIx (.tup xs) (.int a) = L2.atI xs a := rfl
@[simp] theorem ev_ixl (xs : List SV) (a : Int) : hIx (.lst xs) (.int a) = L2.atI xs a := rfl
@[simp] theorem ev_ixP : ixP h fb ρ g = (h ρ g).bind fun p => (fb ρ p.2).bind fun q => match q.1 with | .int i => (p.1.at i).map fun d => (d, q.2) | _ => none := rfl
@[simp] theorem ev_at (ds : List DV) (i : Int) : (DV.own ds).at i = L2.atI ds i := rfl
@[simp] theorem at0 {α : Type} (x : α) (xs : List α) : L2.atI (x :: xs) 0 = some x := L2.atI_nat (j := 0) rfl
@[simp] theorem at1 {α : Type} (x y : α) (xs : List α) : L2.atI (x :: y :: xs) 1 = some y := L2.atI_nat (j := 1) rfl
@[simp] theorem at2 {α : Type} (x y z : α) (xs : List α) : L2.atI (x :: y :: z :: xs) 2 = some z := L2.atI_nat (j := 2) rfl
@[simp] theorem at3 {α : Type} (x y z w : α) (xs : List α) : L2.atI (x :: y :: z :: w :: xs) 3 = some w := L2.atI_nat (j := 3) rfl
@[simp] theorem ev_aN : aN ρ g = some ([], g) := rfl
@[simp] theorem ev_aC : aC f fs ρ g = (f ρ g).bind fun p => (fs ρ p.2).map fun q => (p.1 :: q.1, q.2) := rfl
@[simp] theorem ev_oN : oN ρ g = some ([], g) := rfl
@[simp] theorem ev_oC : oC h os ρ g = (h ρ g).bind fun p => (os ρ p.2).map fun q => (p.1 :: q.1, q.2) := rfl
@[simp] theorem ev_tupF : tupF fs ρ g = (fs ρ g).bind fun p => if p.1.length ≤ 1000 then some (.tup p.1, p.2) else none := rfl
@[simp] theorem ev_lstF : lstF os ρ g = (os ρ g).bind fun p => if p.1.length ≤ 1000 then some (.own p.1, p.2) else none := rfl
@[simp] theorem ev_callF : callF F fs ρ g = (fs ρ g).bind fun p => F p.1 p.2 := rfl
@[simp] theorem ev_c1 (k : List SV → Option SV) : c1 k fs ρ g = (fs ρ g).bind fun p => (k p.1).map fun s => (s, p.2) := rfl
@[simp] theorem ev_abs (a : Int) : hAbs [.int a] = some (.int (if a < 0 then -a else a)) := rfl
@[simp] theorem ev_int (a : Int) : hInt [.int a] = some (.int a) := rfl
@[simp] theorem ev_intb (a : Bool) : hInt [.bl a] = some (.int (if a then 1 else 0)) := rfl
@[simp] theorem ev_gcd (a b : Int) : hGcd [.int a, .int b] = some (.int ((Nat.gcd a.natAbs b.natAbs : Nat) : Int)) := rfl
@[simp] theorem ev_lcm (a b : Int) : hLcm [.int a, .int b] = if a.natAbs.log2 < 9000 ∧ b.natAbs.log2 < 9000 then some (.int ((Nat.lcm a.natAbs b.natAbs : Nat) : Int)) else none := rfl
@[simp] theorem ev_max (a b : Int) : hMax [.int a, .int b] = some (.int (if b > a then b else a)) := rfl
@[simp] theorem ev_min (a b : Int) : hMin [.int a, .int b] = some (.int (if b < a then b else a)) := rfl
@[simp] theorem ev_setD : setD i h ρ g = (h ρ g).map fun p => .nx (ρ.set i (some p.1)) p.2 := rfl
@[simp] theorem ev_retD : retD h ρ g = (h ρ g).map fun p => .rt p.1 p.2 := rfl
@[simp] theorem ev_exprD : exprD f ρ g = (f ρ g).map fun p => .nx ρ p.2 := rfl
@[simp] theorem ev_skip : skipD ρ g = some (.nx ρ g) := rfl
@[simp] theorem ev_brk : brkD ρ g = some (.bk ρ g) := rfl
@[simp] theorem ev_cnt : cntD ρ g = some (.ct ρ g) := rfl
@[simp] theorem ev_seq : seqD s t ρ g = (s ρ g).bind fun r => match r with
  | .nx ρ' g' => t ρ' g'
  | .rt d g' => some (.rt d g')
  | .bk ρ' g' => some (.bk ρ' g')
  | .ct ρ' g' => some (.ct ρ' g') := rfl
@[simp] theorem ev_if : ifD c s t ρ g = (c ρ g).bind fun p => if p.1 = true then s ρ p.2 else t ρ p.2 := rfl
@[simp] theorem ev_asg {gf : GF} : asgD h gf ρ g = (h ρ g).bind fun p => (gf p.1 ρ p.2).map fun q => .nx q.1 q.2 := rfl
@[simp] theorem ev_gN (d : DV) : gN i d ρ g = some (ρ.set i (some d), g) := rfl
@[simp] theorem ev_gT {fs : GLF} (xs : List SV) : gT n fs (.sh (.tup xs)) ρ g = if xs.length = n then fs xs ρ g else none := rfl
@[simp] theorem ev_gLN : gLN [] ρ g = some (ρ, g) := rfl
@[simp] theorem ev_gLC {gf : GF} {fs : GLF} (x : SV) (xs : List SV) : gLC gf fs (x :: xs) ρ g = (gf (.sh x) ρ g).bind fun p => fs xs p.1 p.2 := rfl
@[simp] theorem ev_for {fi : IF} {gf : GF} : forD fi gf s ρ g = (fi ρ g).bind fun p => loopD gf s p.1 ρ p.2 := rfl
@[simp] theorem ev_iSeq : iSeq f ρ g = (f ρ g).bind fun p => p.1.seq?.map fun xs => (xs, p.2) := rfl
@[simp] theorem ev_seqt (xs : List SV) : (SV.tup xs).seq? = some xs := rfl
@[simp] theorem ev_seql (xs : List SV) : (SV.lst xs).seq? = some xs := rfl
@[simp] theorem ev_iR1 : iR1 f ρ g = (f ρ g).bind fun p => match p.1 with
  | .int n => if rngOk n = true then some (rngL 0 n.toNat, p.2) else none
  | _ => none := rfl
@[simp] theorem ev_iR2 : iR2 fa fb ρ g = (fa ρ g).bind fun p => (fb ρ p.2).bind fun q => match p.1, q.1 with
  | .int a, .int b => if rngOk a = true ∧ rngOk b = true then some (rngL a (b - a).toNat, q.2) else none
  | _, _ => none := rfl
@[simp] theorem ev_iNum : iNum f ρ g = (f ρ g).bind fun p => p.1.l?.map fun xs => (numL xs, p.2) := rfl
@[simp] theorem ev_lq (xs : List SV) : (SV.lst xs).l? = some xs := rfl
@[simp] theorem ev_iZp : iZp fa fb ρ g = (fa ρ g).bind fun p => (fb ρ p.2).bind fun q => (hZip p.1 q.1).map fun xs => (xs, q.2) := rfl
@[simp] theorem ev_zl (xs ys : List SV) : hZip (.lst xs) (.lst ys) = some (zipL xs ys) := rfl
@[simp] theorem ev_zt (xs ys : List SV) : hZip (.tup xs) (.tup ys) = some (zipL xs ys) := rfl
@[simp] theorem ev_lenP : lenP h ρ g = (h ρ g).bind fun p => p.1.len?.map fun n => (.int (n : Nat), p.2) := rfl
@[simp] theorem ev_lno (ds : List DV) : (DV.own ds).len? = some ds.length := rfl
@[simp] theorem ev_lnt (xs : List SV) : (DV.sh (.tup xs)).len? = some xs.length := rfl
@[simp] theorem ev_lnl (xs : List SV) : (DV.sh (.lst xs)).len? = some xs.length := rfl
@[simp] theorem ev_listP : listP h ρ g = (h ρ g).bind fun p => p.1.items?.map fun xs => (.own (xs.map .sh), p.2) := rfl
@[simp] theorem ev_tupleP : tupleP h ρ g = (h ρ g).bind fun p => p.1.items?.map fun xs => (.tup xs, p.2) := rfl
@[simp] theorem ev_ito (xs : List SV) : (DV.own (xs.map .sh)).items? = some xs := mapM_sh xs
@[simp] theorem ev_itt (xs : List SV) : (DV.sh (.tup xs)).items? = some xs := rfl
@[simp] theorem ev_itl (xs : List SV) : (DV.sh (.lst xs)).items? = some xs := rfl
@[simp] theorem ev_isi (T : String) : isiP T h ρ g = (h ρ g).bind fun p => p.1.ty?.bind fun t => (L2.kitB t T).map fun b => (.bl b, p.2) := rfl
@[simp] theorem ev_tyo (ds : List DV) : (DV.own ds).ty? = some "list" := rfl
@[simp] theorem ev_tyi (i : Int) : (DV.sh (.int i)).ty? = some "int" := rfl
@[simp] theorem ev_tyb (b : Bool) : (DV.sh (.bl b)).ty? = some "bool" := rfl
@[simp] theorem ev_tyt (xs : List SV) : (DV.sh (.tup xs)).ty? = some "tuple" := rfl
@[simp] theorem ev_tyl (xs : List SV) : (DV.sh (.lst xs)).ty? = some "list" := rfl
@[simp] theorem ev_tyn : (DV.sh .non).ty? = some "NoneType" := rfl
@[simp] theorem kit_ii : L2.kitB "int" "int" = some true := by decide +kernel
@[simp] theorem kit_ib : L2.kitB "int" "bool" = some false := by decide +kernel
@[simp] theorem kit_it : L2.kitB "int" "tuple" = some false := by decide +kernel
@[simp] theorem kit_il : L2.kitB "int" "list" = some false := by decide +kernel
@[simp] theorem kit_bi : L2.kitB "bool" "int" = some true := by decide +kernel
@[simp] theorem kit_bb : L2.kitB "bool" "bool" = some true := by decide +kernel
@[simp] theorem kit_tt : L2.kitB "tuple" "tuple" = some true := by decide +kernel
@[simp] theorem kit_tl : L2.kitB "tuple" "list" = some false := by decide +kernel
@[simp] theorem kit_ll : L2.kitB "list" "list" = some true := by decide +kernel
@[simp] theorem kit_lt : L2.kitB "list" "tuple" = some false := by decide +kernel
@[simp] theorem kit_nt : L2.kitB "NoneType" "tuple" = some false := by decide +kernel
@[simp] theorem ev_frzs (s : SV) : (DV.sh s).frz = s := by unfold DV.frz; rfl
@[simp] theorem ev_frzo (xs : List SV) : (DV.own (xs.map .sh)).frz = .lst xs := by unfold DV.frz; rw [frzs_sh]
@[simp] theorem ev_frz0 : (DV.own []).frz = .lst [] := by unfold DV.frz DV.frzs; rfl
@[simp] theorem ev_comp {fi : IF} {wf : WF} {vs : List Nat} : compD fi wf c h vs ρ g = (fi ρ g).bind fun p => if lenOk p.1.length = true then (compL wf c h (wipeE ρ vs) p.1 p.2).map fun q => (.own q.1, q.2) else none := rfl
@[simp] theorem ev_yes : yesT ρ g = some (true, g) := rfl
@[simp] theorem ev_wN (s : SV) : wN i s ρ = some (ρ.set i (some (.sh s))) := rfl
@[simp] theorem ev_wipe0 : wipeE ρ [] = ρ := rfl
@[simp] theorem ev_wipe1 (v : Nat) (vs : List Nat) : wipeE ρ (v :: vs) = (wipeE ρ vs).set v none := rfl
@[simp] theorem ev_frzD : frzD i s ρ g = (s ρ g).map fun r => match r with
  | .nx ρ' g' => .nx (frzEnv i ρ') g'
  | r => r := rfl
theorem frz_get {d : DV} (h : ρ[i]? = some (some d)) : frzEnv i ρ = ρ.set i (some (.sh d.frz)) := by unfold frzEnv; rw [h]
theorem frz_none (h : ρ[i]? = some none) : frzEnv i ρ = ρ := by unfold frzEnv; rw [h]
@[simp] theorem ev_retV : retV i ρ g = match ρ[i]? with
  | some (some d) => some (.rt d g)
  | _ => none := rfl
@[simp] theorem ev_app : appD i h ρ g = match ρ[i]? with
  | some (some (.own ds)) => (h ρ g).bind fun p => if lenOk ds.length = true then some (.nx (ρ.set i (some (.own (ds ++ [p.1])))) p.2) else none
  | _ => none := rfl
@[simp] theorem ev_gIx (d : DV) : gIx i f d ρ g = match ρ[i]? with
  | some (some (.own ds)) => (f ρ g).bind fun p => match p.1 with
    | .int k => (L2.ixN ds.length k).map fun j => (ρ.set i (some (.own (ds.set j d))), p.2)
    | _ => none
  | _ => none := rfl
end
@[simp] theorem ev_fn {n N : Nat} {b : SF} {ss : List SV} {g : GS} : fnF n N b ss g = if ss.length = n then (b (env0 N ss) g).bind fun r => match r with
  | .rt d g' => some (d, g')
  | .nx _ g' => some (.sh .non, g')
  | _ => none
else none := rfl
@[simp] theorem ev_env0 {N : Nat} {ss : List SV} : env0 N ss = ss.map (fun s => some (.sh s)) ++ List.replicate (N - ss.length) none := rfl
/-- a loop by an invariant -/
theorem loop_inv {α : Type} {gf : GF} {sb : SF} (enc : α → SV) (I : Nat → Env → GS → Prop) : ∀ (xs : List α) (ρ : Env) (g : GS) (k : Nat), I k ρ g →
    (∀ i x ρ g, xs[i]? = some x → I (k + i) ρ g → ∃ ρ' g', ((gf (.sh (enc x)) ρ g).bind fun p => sb p.1 p.2) = some (.nx ρ' g') ∧ I (k + i + 1) ρ' g') →
    ∃ ρ' g', loopD gf sb (xs.map enc) ρ g = some (.nx ρ' g') ∧ I (k + xs.length) ρ' g'
  | [], ρ, g, k, h0, _ => ⟨ρ, g, rfl, h0⟩
  | x :: xs, ρ, g, k, h0, hs => by
    obtain ⟨ρ1, g1, e, h1⟩ := hs 0 x ρ g rfl h0
    obtain ⟨ρ2, g2, e2, h2⟩ := loop_inv enc I xs ρ1 g1 (k + 1) h1 (fun i y ρ g hy hI => by
      obtain ⟨a, b, c, d⟩ := hs (i + 1) y ρ g (by simpa using hy) (by rw [show k + (i + 1) = k + 1 + i by omega]; exact hI)
      exact ⟨a, b, c, by rw [show k + 1 + i + 1 = k + (i + 1) + 1 by omega]; exact d⟩)
    refine ⟨ρ2, g2, ?_, by rw [List.length_cons, show k + (xs.length + 1) = k + 1 + xs.length by omega]; exact h2⟩
    rw [List.map_cons]
    unfold loopD
    obtain ⟨p, e3, e4⟩ := Option.bind_eq_some_iff.mp e
    rw [e3, Option.bind_some, e4, Option.bind_some]
    exact e2
theorem range_map (lo : Int) (n : Nat) : rngL lo n = (List.range n).map fun (i : Nat) => SV.int (lo + (i : Int)) := rfl
/-- a loop over range -/
theorem loop_rng {gf : GF} {sb : SF} {lo : Int} {n : Nat} (I : Nat → Env → GS → Prop) {ρ : Env} {g : GS} (h0 : I 0 ρ g) (hs : ∀ i ρ g, i < n → I i ρ g → ∃ ρ' g', ((gf (.sh (.int (lo + (i : Nat)))) ρ g).bind fun p => sb p.1 p.2) = some (.nx ρ' g') ∧ I (i + 1) ρ' g') :
    ∃ ρ' g', loopD gf sb (rngL lo n) ρ g = some (.nx ρ' g') ∧ I n ρ' g' := by
  have := loop_inv (gf := gf) (sb := sb) (fun (i : Nat) => SV.int (lo + (i : Int))) I (List.range n) ρ g 0 h0 (fun i x ρ g hx hI => by
    obtain ⟨h1, h2⟩ := List.getElem?_eq_some_iff.mp hx
    rw [List.getElem_range] at h2
    subst h2
    rw [List.length_range] at h1
    rw [Nat.zero_add] at hI ⊢
    exact hs i ρ g h1 hI)
  rw [List.length_range, Nat.zero_add] at this
  exact this
/-- a loop over a list -/
theorem loop_lst {α : Type} {gf : GF} {sb : SF} (enc : α → SV) {xs : List α} (I : Nat → Env → GS → Prop) {ρ : Env} {g : GS} (h0 : I 0 ρ g)
    (hs : ∀ i x ρ g, xs[i]? = some x → I i ρ g → ∃ ρ' g', ((gf (.sh (enc x)) ρ g).bind fun p => sb p.1 p.2) = some (.nx ρ' g') ∧ I (i + 1) ρ' g') :
    ∃ ρ' g', loopD gf sb (xs.map enc) ρ g = some (.nx ρ' g') ∧ I xs.length ρ' g' := by
  have := loop_inv (gf := gf) (sb := sb) enc I xs ρ g 0 h0 (fun i x ρ g hx hI => by
    rw [Nat.zero_add] at hI ⊢
    exact hs i x ρ g hx hI)
  rw [Nat.zero_add] at this
  exact this
/-- a comprehension without condition -/
theorem comp_map {α β : Type} {wf : WF} {f : OF} {ρ : Env} (enc : α → SV) (res : α → DV) : ∀ (xs : List α) (g : GS), (∀ x ∈ xs, ∀ g, ((wf (enc x) ρ).bind fun ρ' => f ρ' g) = some (res x, g)) → compL wf yesT f ρ (xs.map enc) g = some (xs.map res, g)
  | [], g, _ => rfl
  | x :: xs, g, h => by
    have h1 := h x List.mem_cons_self g
    obtain ⟨ρ', e1, e2⟩ := Option.bind_eq_some_iff.mp h1
    rw [List.map_cons, List.map_cons]
    unfold compL
    rw [e1, Option.bind_some, ev_yes, Option.bind_some, if_pos rfl, e2, Option.bind_some, comp_map (β := β) enc res xs g fun y hy g => h y (List.mem_cons_of_mem _ hy) g]
    rfl
theorem loop_nx {gf : GF} {sb : SF} {x : SV} {xs : List SV} {ρ ρ' : Env} {g g' : GS} (h : ((gf (.sh x) ρ g).bind fun p => sb p.1 p.2) = some (.nx ρ' g')) : loopD gf sb (x :: xs) ρ g = loopD gf sb xs ρ' g' := by
  obtain ⟨p, e1, e2⟩ := Option.bind_eq_some_iff.mp h
  conv => lhs; unfold loopD
  rw [e1, Option.bind_some, e2, Option.bind_some]
theorem loop_bk {gf : GF} {sb : SF} {x : SV} {xs : List SV} {ρ ρ' : Env} {g g' : GS} (h : ((gf (.sh x) ρ g).bind fun p => sb p.1 p.2) = some (.bk ρ' g')) : loopD gf sb (x :: xs) ρ g = some (.nx ρ' g') := by
  obtain ⟨p, e1, e2⟩ := Option.bind_eq_some_iff.mp h
  conv => lhs; unfold loopD
  rw [e1, Option.bind_some, e2, Option.bind_some]
@[simp] theorem loop_nil {gf : GF} {sb : SF} {ρ : Env} {g : GS} : loopD gf sb [] ρ g = some (.nx ρ g) := rfl

@[simp] theorem toNat_c (n : Nat) : ((n : Nat) : Int).toNat = n := rfl
end DL

namespace DL
/-! ratios -/
def fr (q : Int × Int) : SV := .tup [.int q.1, .int q.2]
def Sz (k : Nat) (x : Int) : Prop := x.natAbs < 2 ^ k
theorem Sz.mono {k l : Nat} {x : Int} (h : Sz k x) (hl : k ≤ l) : Sz l x := Nat.lt_of_lt_of_le h (Nat.pow_le_pow_right (by decide) hl)
theorem Sz.log {k l : Nat} {x : Int} (h : Sz k x) (hl : k ≤ l) (h0 : 0 < l) : x.natAbs.log2 < l := log2_of_lt h0 (h.mono hl)
theorem Sz.mul {k l : Nat} {x y : Int} (h : Sz k x) (h' : Sz l y) : Sz (k + l) (x * y) := by
  unfold Sz at *
  rw [Int.natAbs_mul, Nat.pow_add]
  exact Nat.mul_lt_mul'' h h'
theorem Sz.add {k l : Nat} {x y : Int} (h : Sz k x) (h' : Sz l y) : Sz (max k l + 1) (x + y) := by
  have h1 := h.mono (Nat.le_max_left k l)
  have h2 := h'.mono (Nat.le_max_right k l)
  unfold Sz at *
  rw [Nat.pow_succ]
  omega
theorem Sz.neg {k : Nat} {x : Int} (h : Sz k x) : Sz k (-x) := by unfold Sz at *; omega
theorem Sz.sub {k l : Nat} {x y : Int} (h : Sz k x) (h' : Sz l y) : Sz (max k l + 1) (x - y) := by rw [Int.sub_eq_add_neg]; exact h.add h'.neg
theorem mulOk_of {k l : Nat} {x y : Int} (h : Sz k x) (h' : Sz l y) (hk : k ≤ 60000000) (hl : l ≤ 60000000) : mulOk x y = true := by
  unfold mulOk
  exact decide_eq_true ⟨h.log hk (by decide), h'.log hl (by decide)⟩
theorem divOk_of {k : Nat} {x y : Int} (h0 : 0 < y) (h : Sz k y) (hk : k ≤ 9000) : divOk x y = true := by
  unfold divOk
  exact decide_eq_true ⟨h0, h.log hk (by decide)⟩
/-- n / d in lowest terms -/
def rat (n d : Int) : Int × Int :=
  if d < 0 then (-n / (Nat.gcd n.natAbs d.natAbs : Int), -d / (Nat.gcd n.natAbs d.natAbs : Int)) else (n / (Nat.gcd n.natAbs d.natAbs : Int), d / (Nat.gcd n.natAbs d.natAbs : Int))

/-- a fraction -/
def Fr (q : Int × Int) : Prop := 0 < q.2 ∧ Nat.gcd q.1.natAbs q.2.natAbs = 1
structure FrS (k : Nat) (q : Int × Int) : Prop where
  fr : Fr q
  n : Sz k q.1
  d : Sz k q.2
theorem FrS.mono {k l : Nat} {q : Int × Int} (h : FrS k q) (hl : k ≤ l) : FrS l q := ⟨h.fr, h.n.mono hl, h.d.mono hl⟩
theorem gcdI_dvd_left (n d : Int) : ((Nat.gcd n.natAbs d.natAbs : Nat) : Int) ∣ n := Int.ofNat_dvd_left.mpr (Nat.gcd_dvd_left _ _)
theorem gcdI_dvd_right (n d : Int) : ((Nat.gcd n.natAbs d.natAbs : Nat) : Int) ∣ d := Int.ofNat_dvd_left.mpr (Nat.gcd_dvd_right _ _)
theorem natAbs_ediv_dvd {n c : Int} (h : c ∣ n) : (n / c).natAbs = n.natAbs / c.natAbs := Int.natAbs_ediv_of_dvd h
theorem gcd_div_self {a b : Nat} (h : 0 < Nat.gcd a b) : Nat.gcd (a / Nat.gcd a b) (b / Nat.gcd a b) = 1 := by
  rw [Nat.gcd_div (Nat.gcd_dvd_left a b) (Nat.gcd_dvd_right a b), Nat.div_self h]
/-- the quotients by the gcd -/
theorem quo_facts {n d : Int} (hd : 0 < d) : Fr (n / (Nat.gcd n.natAbs d.natAbs : Int), d / (Nat.gcd n.natAbs d.natAbs : Int)) ∧ (n / (Nat.gcd n.natAbs d.natAbs : Int)) * d = n * (d / (Nat.gcd n.natAbs d.natAbs : Int)) ∧
    (n / (Nat.gcd n.natAbs d.natAbs : Int)).natAbs ≤ n.natAbs ∧ (d / (Nat.gcd n.natAbs d.natAbs : Int)).natAbs ≤ d.natAbs := by
  have hg : 0 < Nat.gcd n.natAbs d.natAbs := Nat.gcd_pos_of_pos_right _ (by omega)
  obtain ⟨x, hx⟩ := gcdI_dvd_left n d
  obtain ⟨y, hy⟩ := gcdI_dvd_right n d
  have hgi : (Nat.gcd n.natAbs d.natAbs : Int) ≠ 0 := by omega
  have ex : n / (Nat.gcd n.natAbs d.natAbs : Int) = x := Int.ediv_eq_of_eq_mul_right hgi hx
  have ey : d / (Nat.gcd n.natAbs d.natAbs : Int) = y := Int.ediv_eq_of_eq_mul_right hgi hy
  refine ⟨⟨?_, ?_⟩, ?_, ?_, ?_⟩
  · show 0 < d / (Nat.gcd n.natAbs d.natAbs : Int)
    exact Int.ediv_pos_of_pos_of_dvd hd (by omega) (gcdI_dvd_right n d)
  · show Nat.gcd (n / (Nat.gcd n.natAbs d.natAbs : Int)).natAbs (d / (Nat.gcd n.natAbs d.natAbs : Int)).natAbs = 1
    rw [natAbs_ediv_dvd (gcdI_dvd_left n d), natAbs_ediv_dvd (gcdI_dvd_right n d), Int.natAbs_natCast]
    exact gcd_div_self hg
  · rw [ex, ey]
    conv => lhs; rw [hy]
    conv => rhs; rw [hx]
    rw [← Int.mul_assoc, Int.mul_comm x]
  · rw [natAbs_ediv_dvd (gcdI_dvd_left n d)]; exact Nat.div_le_self _ _
  · rw [natAbs_ediv_dvd (gcdI_dvd_right n d)]; exact Nat.div_le_self _ _
theorem rat_pos {n d : Int} (hd : 0 < d) : rat n d = (n / (Nat.gcd n.natAbs d.natAbs : Int), d / (Nat.gcd n.natAbs d.natAbs : Int)) := by
  unfold rat; rw [if_neg (by omega)]
theorem rat_neg {n d : Int} (hd : d < 0) : rat n d = rat (-n) (-d) := by
  rw [rat_pos (by omega : 0 < -d), Int.natAbs_neg, Int.natAbs_neg]
  unfold rat; rw [if_pos hd]
theorem rat_facts {n d : Int} (hd : d ≠ 0) : Fr (rat n d) ∧ (rat n d).1 * d = n * (rat n d).2 ∧ (rat n d).1.natAbs ≤ n.natAbs ∧ (rat n d).2.natAbs ≤ d.natAbs := by
  by_cases h : 0 < d
  · rw [rat_pos h]; exact quo_facts h
  · have h' : d < 0 := by omega
    rw [rat_neg h']
    have z := quo_facts (n := -n) (d := -d) (by omega)
    rw [rat_pos (by omega)]
    refine ⟨z.1, ?_, by have := z.2.2.1; omega, by have := z.2.2.2; omega⟩
    have z2 := z.2.1
    rw [Int.mul_neg, Int.neg_mul] at z2
    exact Int.neg_inj.mp z2
theorem rat_fr {n d : Int} (hd : d ≠ 0) : Fr (rat n d) := (rat_facts hd).1
theorem rat_eq {n d : Int} (hd : d ≠ 0) : (rat n d).1 * d = n * (rat n d).2 := (rat_facts hd).2.1
theorem rat_szs {n d : Int} {k : Nat} (hd : d ≠ 0) (h1 : Sz k n) (h2 : Sz k d) : FrS k (rat n d) :=
  ⟨rat_fr hd, Nat.lt_of_le_of_lt (rat_facts hd).2.2.1 h1, Nat.lt_of_le_of_lt (rat_facts hd).2.2.2 h2⟩
theorem ratio_eq {n d : Int} {k : Nat} {g : GS} (hd : d ≠ 0) (hs : Sz k d) (hk : k ≤ 9000) : F_ratio [.int n, .int d] g = some (.sh (fr (rat n d)), g) := by
  have hg0 : 0 < (Nat.gcd n.natAbs d.natAbs : Int) := by
    have := Nat.gcd_pos_of_pos_right n.natAbs (Int.natAbs_pos.mpr hd)
    omega
  have hgs : Sz k (Nat.gcd n.natAbs d.natAbs : Int) := by
    have h1 := Nat.le_of_dvd (Int.natAbs_pos.mpr hd) (Nat.gcd_dvd_right n.natAbs d.natAbs)
    unfold Sz at *
    omega
  have e1 : ∀ x, divOk x (Nat.gcd n.natAbs d.natAbs : Int) = true := fun x => divOk_of hg0 hgs hk
  unfold F_ratio rat fr
  by_cases h : d < 0
  · simp [B_ratio, h, e1, Int.natAbs_neg]
  · simp [B_ratio, h, e1]

def qadd (a b : Int × Int) : Int × Int := rat (a.1 * b.2 + b.1 * a.2) (a.2 * b.2)
theorem den_ne {a b : Int × Int} (ha : Fr a) (hb : Fr b) : a.2 * b.2 ≠ 0 := Int.ne_of_gt (Int.mul_pos ha.1 hb.1)
theorem add_eq {a b : Int × Int} {k l : Nat} {g : GS} (ha : FrS k a) (hb : FrS l b) (hk : k + l ≤ 9000) : F_add [fr a, fr b] g = some (.sh (fr (qadd a b)), g) := by
  have m1 : mulOk a.1 b.2 = true := mulOk_of ha.n hb.d (by omega) (by omega)
  have m2 : mulOk b.1 a.2 = true := mulOk_of hb.n ha.d (by omega) (by omega)
  have m3 : mulOk a.2 b.2 = true := mulOk_of ha.d hb.d (by omega) (by omega)
  simp [F_add, B_add, fr, m1, m2, m3, ratio_eq (den_ne ha.fr hb.fr) (ha.d.mul hb.d) hk, qadd]
theorem qadd_szs {a b : Int × Int} {k l : Nat} (ha : FrS k a) (hb : FrS l b) : FrS (k + l + 1) (qadd a b) := by
  refine rat_szs (den_ne ha.fr hb.fr) ?_ ((ha.d.mul hb.d).mono (by omega))
  exact ((ha.n.mul hb.d).add (hb.n.mul ha.d)).mono (by omega)
theorem qadd_eq {a b : Int × Int} (ha : Fr a) (hb : Fr b) : (qadd a b).1 * (a.2 * b.2) = (a.1 * b.2 + b.1 * a.2) * (qadd a b).2 := rat_eq (den_ne ha hb)

def qsub (a b : Int × Int) : Int × Int := rat (a.1 * b.2 - b.1 * a.2) (a.2 * b.2)
theorem sub_eq {a b : Int × Int} {k l : Nat} {g : GS} (ha : FrS k a) (hb : FrS l b) (hk : k + l ≤ 9000) : F_sub [fr a, fr b] g = some (.sh (fr (qsub a b)), g) := by
  have m1 : mulOk a.1 b.2 = true := mulOk_of ha.n hb.d (by omega) (by omega)
  have m2 : mulOk b.1 a.2 = true := mulOk_of hb.n ha.d (by omega) (by omega)
  have m3 : mulOk a.2 b.2 = true := mulOk_of ha.d hb.d (by omega) (by omega)
  simp [F_sub, B_sub, fr, m1, m2, m3, ratio_eq (Int.ne_of_gt (Int.mul_pos ha.fr.1 hb.fr.1)) (ha.d.mul hb.d) hk, qsub]
theorem qsub_szs {a b : Int × Int} {k l : Nat} (ha : FrS k a) (hb : FrS l b) : FrS (k + l + 1) (qsub a b) := by
  refine rat_szs (Int.ne_of_gt (Int.mul_pos ha.fr.1 hb.fr.1)) ?_ ((ha.d.mul hb.d).mono (by omega))
  exact ((ha.n.mul hb.d).sub (hb.n.mul ha.d)).mono (by omega)
theorem qsub_eq {a b : Int × Int} (ha : Fr a) (hb : Fr b) : (qsub a b).1 * (a.2 * b.2) = (a.1 * b.2 - b.1 * a.2) * (qsub a b).2 := rat_eq (Int.ne_of_gt (Int.mul_pos ha.1 hb.1))

def qmul (a b : Int × Int) : Int × Int := rat (a.1 * b.1) (a.2 * b.2)
theorem mul_eq {a b : Int × Int} {k l : Nat} {g : GS} (ha : FrS k a) (hb : FrS l b) (hk : k + l ≤ 9000) : F_mul [fr a, fr b] g = some (.sh (fr (qmul a b)), g) := by
  have m1 : mulOk a.1 b.1 = true := mulOk_of ha.n hb.n (by omega) (by omega)
  have m3 : mulOk a.2 b.2 = true := mulOk_of ha.d hb.d (by omega) (by omega)
  simp [F_mul, B_mul, fr, m1, m3, ratio_eq (Int.ne_of_gt (Int.mul_pos ha.fr.1 hb.fr.1)) (ha.d.mul hb.d) hk, qmul]
theorem qmul_szs {a b : Int × Int} {k l : Nat} (ha : FrS k a) (hb : FrS l b) : FrS (k + l) (qmul a b) :=
  rat_szs (Int.ne_of_gt (Int.mul_pos ha.fr.1 hb.fr.1)) (ha.n.mul hb.n) (ha.d.mul hb.d)
theorem qmul_eq {a b : Int × Int} (ha : Fr a) (hb : Fr b) : (qmul a b).1 * (a.2 * b.2) = (a.1 * b.1) * (qmul a b).2 := rat_eq (Int.ne_of_gt (Int.mul_pos ha.1 hb.1))

def qdiv (a b : Int × Int) : Int × Int := rat (a.1 * b.2) (a.2 * b.1)
theorem div_ne {a b : Int × Int} (ha : Fr a) (hb : b.1 ≠ 0) : a.2 * b.1 ≠ 0 := Int.mul_ne_zero (Int.ne_of_gt ha.1) hb
theorem div_eq {a b : Int × Int} {k l : Nat} {g : GS} (ha : FrS k a) (hb : FrS l b) (h0 : b.1 ≠ 0) (hk : k + l ≤ 9000) : F_div [fr a, fr b] g = some (.sh (fr (qdiv a b)), g) := by
  have m1 : mulOk a.1 b.2 = true := mulOk_of ha.n hb.d (by omega) (by omega)
  have m3 : mulOk a.2 b.1 = true := mulOk_of ha.d hb.n (by omega) (by omega)
  simp [F_div, B_div, fr, m1, m3, ratio_eq (div_ne ha.fr h0) (ha.d.mul hb.n) hk, qdiv]
theorem qdiv_szs {a b : Int × Int} {k l : Nat} (ha : FrS k a) (hb : FrS l b) (h0 : b.1 ≠ 0) : FrS (k + l) (qdiv a b) :=
  rat_szs (div_ne ha.fr h0) (ha.n.mul hb.d) (ha.d.mul hb.n)
theorem qdiv_eq {a b : Int × Int} (ha : Fr a) (h0 : b.1 ≠ 0) : (qdiv a b).1 * (a.2 * b.1) = (a.1 * b.2) * (qdiv a b).2 := rat_eq (div_ne ha h0)

def qcmp (a b : Int × Int) : Int := if a.1 * b.2 < b.1 * a.2 then -1 else if b.1 * a.2 < a.1 * b.2 then 1 else 0
theorem compare_eq {a b : Int × Int} {k l : Nat} {g : GS} (ha : FrS k a) (hb : FrS l b) (hk : k + l ≤ 9000) : F_compare [fr a, fr b] g = some (.sh (.int (qcmp a b)), g) := by
  have m1 : mulOk a.1 b.2 = true := mulOk_of ha.n hb.d (by omega) (by omega)
  have m2 : mulOk b.1 a.2 = true := mulOk_of hb.n ha.d (by omega) (by omega)
  unfold qcmp
  by_cases h1 : a.1 * b.2 < b.1 * a.2
  · simp [F_compare, B_compare, fr, m1, m2, h1]
  · by_cases h2 : b.1 * a.2 < a.1 * b.2
    · simp [F_compare, B_compare, fr, m1, m2, h1, h2]
    · simp [F_compare, B_compare, fr, m1, m2, h1, h2]

/-! Euclid in 4000 turns -/
def fib2 : Nat → Nat × Nat
  | 0 => (0, 1)
  | n + 1 => ((fib2 n).2, (fib2 n).1 + (fib2 n).2)
def fib (n : Nat) : Nat := (fib2 n).1
theorem fib_ss (n : Nat) : fib (n + 2) = fib n + fib (n + 1) := rfl
theorem fib_mono (n : Nat) : fib (n + 1) ≤ fib (n + 2) := by rw [fib_ss]; omega
theorem fib_mono' : ∀ n : Nat, fib n ≤ fib (n + 1)
  | 0 => by decide
  | n + 1 => fib_mono n
def gcdBody : SF := seqD (ifD (tB1 (b2 hEq (vS 1) (kS (.int 0)))) (brkD) (skipD))
  (seqD (setD 3 (oS (b2 hMod (c1 hInt (aC (vS 0) (aN))) (vS 1))))
  (seqD (setD 0 (oS (vS 1)))
  (setD 1 (oS (vS 3)))))
theorem gcd_loop : ∀ (n : Nat) (xs : List SV), xs.length = n → ∀ (a b : Nat), b < fib (n + 2) → ∀ (x y : Option DV) (g : GS), ∃ x' y',
    loopD (gN 2) gcdBody xs [some (.sh (.int a)), some (.sh (.int b)), x, y] g = some (.nx [some (.sh (.int (Nat.gcd a b : Nat))), some (.sh (.int 0)), x', y'] g) := by
  intro n
  induction n using Nat.strongRecOn with
  | ind n ih =>
    intro xs hl a b hb x y g
    by_cases h0 : b = 0
    · subst h0
      cases xs with
      | nil => exact ⟨x, y, by simp [loopD]⟩
      | cons z zs => exact ⟨some (.sh z), y, by simp [loopD, gcdBody]⟩
    · cases xs with
      | nil =>
        subst hl
        have : fib (0 + 2) = 1 := rfl
        simp only [List.length_nil] at hb
        omega
      | cons z zs =>
        have step : ∀ (a b : Nat) (z : SV) (zs : List SV) (x y : Option DV), b ≠ 0 → loopD (gN 2) gcdBody (z :: zs) [some (.sh (.int a)), some (.sh (.int b)), x, y] g = loopD (gN 2) gcdBody zs [some (.sh (.int b)), some (.sh (.int ((a % b : Nat) : Int))), some (.sh z), some (.sh (.int ((a % b : Nat) : Int)))] g := fun a b z zs x y h0 => by
          have hm : modOk (a : Int) (b : Int) = true := by unfold modOk; exact decide_eq_true (by omega)
          exact loop_nx (by simp [gcdBody, h0, hm])
        have gs : ∀ a b : Nat, Nat.gcd b (a % b) = Nat.gcd a b := fun a b => by rw [Nat.gcd_comm b, ← Nat.gcd_rec, Nat.gcd_comm]
        rw [step a b z zs x y h0]
        have hg := gs a b
        have hlt : a % b < b := Nat.mod_lt _ (by omega)
        generalize a % b = r at *
        simp only [List.length_cons] at hl
        subst hl
        by_cases h1 : r < fib (zs.length + 2)
        · obtain ⟨x', y', e⟩ := ih zs.length (by omega) zs rfl b r h1 (some (.sh z)) (some (.sh (.int (r : Int)))) g
          rw [hg] at e
          exact ⟨x', y', e⟩
        · cases zs with
          | nil =>
            exfalso
            simp only [List.length_nil] at hb h1
            have e2 : fib (0 + 1 + 2) = 2 := rfl
            have e3 : fib (0 + 2) = 1 := rfl
            omega
          | cons z2 zs =>
            simp only [List.length_cons] at hb h1 ⊢
            have f1 : fib (zs.length + 1 + 1 + 2) = fib (zs.length + 2) + fib (zs.length + 1 + 2) := fib_ss _
            have f2 : fib (zs.length + 2) ≤ fib (zs.length + 1 + 2) := fib_mono' (zs.length + 2)
            have hr0 : r ≠ 0 := by
              have h3 : 0 < fib (zs.length + 1 + 2) := by
                have : ∀ n, 0 < fib (n + 1) := fun n => by
                  induction n with
                  | zero => decide
                  | succ n ih => exact Nat.lt_of_lt_of_le ih (fib_mono' (n + 1))
                exact this _
              omega
            rw [step b r z2 zs _ _ hr0]
            have hg2 := gs b r
            have hlt2 : b % r < fib (zs.length + 2) := by
              rw [Nat.mod_eq_sub_mod (Nat.le_of_lt hlt), Nat.mod_eq_of_lt (by omega)]
              omega
            obtain ⟨x', y', e⟩ := ih zs.length (by simp only [List.length_cons]; omega) zs rfl r (b % r) hlt2 (some (.sh z2)) (some (.sh (.int ((b % r : Nat) : Int)))) g
            rw [hg2, hg] at e
            exact ⟨x', y', e⟩
theorem fib_big : 2 ^ 2700 ≤ fib 4002 := by decide +kernel
theorem law_gcd_eq {a b : Int} {g : GS} (hb : Sz 2700 b) : F_law_gcd [.int a, .int b] g = some (.sh (.int (Nat.gcd a.natAbs b.natAbs : Nat)), g) := by
  have ea : ∀ x : Int, (if x < 0 then -x else x) = (x.natAbs : Int) := fun x => by split <;> omega
  obtain ⟨x', y', e⟩ := gcd_loop 4000 (rngL 0 4000) (by unfold rngL; simp) a.natAbs b.natAbs (Nat.lt_of_lt_of_le hb fib_big) none none g
  unfold gcdBody at e
  simp [F_law_gcd, B_law_gcd, ea, e, show rngOk 4000 = true by decide]
theorem isint_eq (a : Int) (g : GS) : F_law_is_integer [.int a] g = some (.sh (.bl true), g) := by simp [F_law_is_integer, B_law_is_integer]
theorem same_eq {q : Int × Int} {n d : Int} {k l : Nat} {g : GS} (hq : FrS k q) (hk : k ≤ 2700) (hn : Sz l n) (hd : Sz l d) (hl : l ≤ 60000000) (e : q.1 * d = n * q.2) : F_law_same [fr q, .int n, .int d] g = some (.sh (.bl true), g) := by
  have h1 : ¬ q.2 < 1 := by have := hq.fr.1; omega
  have hg : F_law_gcd [.int q.1, .int q.2] g = some (.sh (.int 1), g) := by rw [law_gcd_eq (hq.d.mono hk), hq.fr.2]; rfl
  have m1 : mulOk q.1 d = true := mulOk_of hq.n hd (by omega) hl
  have m2 : mulOk n q.2 = true := mulOk_of hn hq.d hl (by omega)
  simp [F_law_same, B_law_same, fr, isint_eq, h1, hg, m1, m2, e]
theorem draw_eq {b : Int} (g : GS) (h0 : 0 < b) (h1 : b < 1000000000000) : ∃ r g', drawF [.gen, .int b] g = some (.sh (.int r), g') ∧ 0 ≤ r ∧ r < b := by
  have hl : b.natAbs.log2 < 9000 := log2_of_lt (by decide) (Nat.lt_of_lt_of_le (show b.natAbs < 2 ^ 40 by omega) (Nat.pow_le_pow_right (by decide) (by decide)))
  exact ⟨(g.draw b).1, (g.draw b).2, by unfold drawF; simp [h0, hl], g.draw_lt h0⟩
theorem law_great_eq (big : Bool) (g : GS) : ∃ v g', F_law_great [.gen, .bl big] g = some (.sh (.int v), g') ∧ 0 ≤ v ∧ v < 10 ^ 40 := by
  cases big with
  | false =>
    obtain ⟨r, g', e, h0, h1⟩ := draw_eq g (b := 1000) (by decide) (by decide)
    exact ⟨r, g', by simp [F_law_great, B_law_great, e], h0, Int.lt_trans h1 (by decide)⟩
  | true =>
    have p8 : powOk 10 8 = true := by decide
    obtain ⟨ρ', g', e, n, x, e2, n0, n1⟩ := loop_rng (gf := gN 3) (lo := 0) (n := 5) (g := g) (ρ := [some (.sh .gen), some (.sh (.bl true)), some (.sh (.int 0)), none])
      (sb := setD 2 (oS (b2 hAdd (b2 hMul (vS 2) (b2 hPow (kS (.int 10)) (kS (.int 8)))) (fz (callF drawF (aC (vS 0) (aC (b2 hPow (kS (.int 10)) (kS (.int 8))) (aN))))))))
      (fun i ρ g => ∃ (n : Int) (x : Option DV), ρ = [some (.sh .gen), some (.sh (.bl true)), some (.sh (.int n)), x] ∧ 0 ≤ n ∧ n < 10 ^ (8 * i)) ⟨0, none, rfl, by decide, by decide⟩ (by
      rintro i ρ g hi ⟨n, x, rfl, h0, h1⟩
      obtain ⟨r, g', e, r0, r1⟩ := draw_eq g (b := 100000000) (by decide) (by decide)
      have hm : mulOk n 100000000 = true := by
        have hs : Sz 140 n := by
          unfold Sz
          have : (10 : Int) ^ (8 * i) ≤ 10 ^ 40 := by
            have h : (10 : Nat) ^ (8 * i) ≤ 10 ^ 40 := Nat.pow_le_pow_right (by decide) (by omega)
            exact_mod_cast h
          have h2 : (10 : Int) ^ 40 < 2 ^ 140 := by decide
          omega
        exact mulOk_of hs (show Sz 40 100000000 by unfold Sz; decide) (by omega) (by omega)
      refine ⟨[some (.sh .gen), some (.sh (.bl true)), some (.sh (.int (n * 100000000 + r))), some (.sh (.int (i : Nat)))], g', by simp [p8, hm, e], n * 100000000 + r, _, rfl, by omega, ?_⟩
      rw [show 8 * (i + 1) = 8 * i + 8 by omega, Int.pow_add]
      have : (10 : Int) ^ 8 = 100000000 := by decide
      rw [this]
      omega)
    refine ⟨n, g', ?_, n0, n1⟩
    subst e2
    simp [F_law_great, B_law_great, e, show rngOk 5 = true by decide]
theorem sz_10_40 {v : Int} (h0 : 0 ≤ v) (h1 : v ≤ 10 ^ 40) : Sz 133 v := by
  unfold Sz
  have h2 : (10 : Int) ^ 40 < 2 ^ 133 := by decide
  omega
theorem law_fraction_eq (big : Bool) (g : GS) : ∃ q g', F_law_fraction [.gen, .bl big] g = some (.sh (fr q), g') ∧ FrS 133 q := by
  obtain ⟨k, g1, e1, k0, k1⟩ := draw_eq g (b := 5) (by decide) (by decide)
  obtain ⟨n, g2, e2, n0, n1⟩ := law_great_eq big g1
  obtain ⟨d, g3, e3, d0, d1⟩ := law_great_eq big g2
  have hd : Sz 133 (1 + d) := sz_10_40 (by omega) (by omega)
  have hn : Sz 133 n := sz_10_40 n0 (by omega)
  have key : ∀ m : Int, Sz 133 m → ∃ c : Int, FrS 133 (m / c, (1 + d) / c) ∧ F_law_gcd [.int m, .int (1 + d)] g3 = some (.sh (.int c), g3) ∧ (∀ x, divOk x c = true) := fun m hm => by
    have z := quo_facts (n := m) (d := 1 + d) (by omega)
    refine ⟨(Nat.gcd m.natAbs (1 + d).natAbs : Int), ⟨z.1, Nat.lt_of_le_of_lt z.2.2.1 hm, Nat.lt_of_le_of_lt z.2.2.2 hd⟩, law_gcd_eq (hd.mono (by decide)), fun x => divOk_of (k := 133) ?_ ?_ (by decide)⟩
    · have := Nat.gcd_pos_of_pos_right m.natAbs (show 0 < (1 + d).natAbs by omega)
      omega
    · have h1 := Nat.le_of_dvd (show 0 < (1 + d).natAbs by omega) (Nat.gcd_dvd_right m.natAbs (1 + d).natAbs)
      unfold Sz at *
      omega
  have z0 : Sz 133 0 := by unfold Sz; decide
  by_cases h0 : k = 0
  · subst h0
    obtain ⟨c, f, e4, e5⟩ := key 0 z0
    exact ⟨(0 / c, (1 + d) / c), g3, by simp [F_law_fraction, B_law_fraction, e1, e2, e3, e4, e5, fr], f⟩
  · by_cases h12 : k = 1 ∨ k = 2
    · obtain ⟨c, f, e4, e5⟩ := key (-n) hn.neg
      have h1 : (if k = 1 then some (true, g3) else some (decide (k = 2), g3)) = some (true, g3) := by
        rcases h12 with h | h <;> subst h <;> rfl
      refine ⟨(-n / c, (1 + d) / c), g3, ?_, f⟩
      rcases h12 with h | h
      · subst h
        simp [F_law_fraction, B_law_fraction, e1, e2, e3, e4, e5, fr]
      · subst h
        simp [F_law_fraction, B_law_fraction, e1, e2, e3, e4, e5, fr]
    · obtain ⟨c, f, e4, e5⟩ := key n hn
      have h1 : ¬ k = 1 := fun z => h12 (.inl z)
      have h2 : ¬ k = 2 := fun z => h12 (.inr z)
      exact ⟨(n / c, (1 + d) / c), g3, by simp [F_law_fraction, B_law_fraction, e1, e2, e3, e4, e5, h0, h1, h2, fr], f⟩
theorem lint (a b : Int) : ∀ {k : Int}, k = (if a < b then -1 else if b < a then 1 else 0) → k = (if b < a then 1 else 0) - (if a < b then 1 else 0) := by
  intro k h
  subst h
  by_cases h1 : a < b
  · rw [if_pos h1, if_pos h1, if_neg (by omega)]; rfl
  · rw [if_neg h1, if_neg h1]
    by_cases h2 : b < a
    · rw [if_pos h2]; rfl
    · rw [if_neg h2]; rfl
theorem law_pair_eq {a b : Int × Int} {k : Nat} {g : GS} (ha : FrS k a) (hb : FrS k b) (hk : k ≤ 1000) : F_law_pair [fr a, fr b] g = some (.sh (.bl true), g) := by
  have s1 := same_eq (g := g) (n := a.1 * b.2 + b.1 * a.2) (d := a.2 * b.2) (qadd_szs ha hb) (by omega) (((ha.n.mul hb.d).add (hb.n.mul ha.d)).mono (l := 3000) (by omega)) ((ha.d.mul hb.d).mono (l := 3000) (by omega)) (by decide) (qadd_eq ha.fr hb.fr)
  have s2 := same_eq (g := g) (n := a.1 * b.2 - b.1 * a.2) (d := a.2 * b.2) (qsub_szs ha hb) (by omega) (((ha.n.mul hb.d).sub (hb.n.mul ha.d)).mono (l := 3000) (by omega)) ((ha.d.mul hb.d).mono (l := 3000) (by omega)) (by decide) (qsub_eq ha.fr hb.fr)
  have s3 := same_eq (g := g) (n := a.1 * b.1) (d := a.2 * b.2) (qmul_szs ha hb) (by omega) ((ha.n.mul hb.n).mono (l := 3000) (by omega)) ((ha.d.mul hb.d).mono (l := 3000) (by omega)) (by decide) (qmul_eq ha.fr hb.fr)
  have f1 := add_eq (g := g) ha hb (by omega)
  have f2 := sub_eq (g := g) ha hb (by omega)
  have f3 := mul_eq (g := g) ha hb (by omega)
  have f5 := compare_eq (g := g) ha hb (by omega)
  have m1 : mulOk a.1 b.2 = true := mulOk_of ha.n hb.d (by omega) (by omega)
  have m2 : mulOk b.1 a.2 = true := mulOk_of hb.n ha.d (by omega) (by omega)
  have m3 : mulOk a.2 b.2 = true := mulOk_of ha.d hb.d (by omega) (by omega)
  have m4 : mulOk a.1 b.1 = true := mulOk_of ha.n hb.n (by omega) (by omega)
  have m5 : mulOk a.2 b.1 = true := mulOk_of ha.d hb.n (by omega) (by omega)
  have li := lint (a.1 * b.2) (b.1 * a.2) (k := qcmp a b) rfl
  have fa : fr a = .tup [.int a.1, .int a.2] := rfl
  have fb : fr b = .tup [.int b.1, .int b.2] := rfl
  rw [fa, fb] at f1 f2 f3 f5
  by_cases h0 : b.1 = 0
  · simp [F_law_pair, B_law_pair, fa, fb, f1, f2, f3, f5, m1, m2, m3, m4, m5, s1, s2, s3, eq_true h0, isint_eq]
    exact li
  · have s4 := same_eq (g := g) (n := a.1 * b.2) (d := a.2 * b.1) (qdiv_szs ha hb h0) (by omega) ((ha.n.mul hb.d).mono (l := 3000) (by omega)) ((ha.d.mul hb.n).mono (l := 3000) (by omega)) (by decide) (qdiv_eq ha.fr h0)
    have f4 := div_eq (g := g) ha hb h0 (by omega)
    rw [fa, fb] at f4
    simp [F_law_pair, B_law_pair, fa, fb, f1, f2, f3, f4, f5, m1, m2, m3, m4, m5, s1, s2, s3, s4, h0, isint_eq]
    exact li
def qle (a b : Int × Int) : Prop := a.1 * b.2 ≤ b.1 * a.2
theorem qle_trans {a b c : Int × Int} (ha : Fr a) (hb : Fr b) (hc : Fr c) (h1 : qle a b) (h2 : qle b c) : qle a c := by
  unfold qle at *
  have e1 := Int.mul_le_mul_of_nonneg_right h1 (Int.le_of_lt hc.1)
  have e2 := Int.mul_le_mul_of_nonneg_right h2 (Int.le_of_lt ha.1)
  have : (a.1 * c.2) * b.2 ≤ (c.1 * a.2) * b.2 := by
    calc (a.1 * c.2) * b.2 = a.1 * b.2 * c.2 := by rw [Int.mul_assoc, Int.mul_comm c.2, ← Int.mul_assoc]
      _ ≤ b.1 * a.2 * c.2 := e1
      _ = b.1 * c.2 * a.2 := by rw [Int.mul_assoc, Int.mul_comm a.2, ← Int.mul_assoc]
      _ ≤ c.1 * b.2 * a.2 := e2
      _ = (c.1 * a.2) * b.2 := by rw [Int.mul_assoc, Int.mul_comm b.2, ← Int.mul_assoc]
  exact Int.le_of_mul_le_mul_right this hb.1
theorem qle_refl (a : Int × Int) : qle a a := Int.le_refl _
theorem greatest_eq {q : Int × Int} {qs : List (Int × Int)} {k : Nat} {g : GS} (h : ∀ x ∈ q :: qs, FrS k x) (hk : k ≤ 4000) :
    ∃ b, F_greatest [.lst ((q :: qs).map fr)] g = some (.sh (fr b), g) ∧ b ∈ q :: qs ∧ ∀ x ∈ q :: qs, qle x b := by
  obtain ⟨ρ', g', e, b, x, e1, e2, hb, hm⟩ := loop_lst (gf := gN 2) (sb := ifD (tB1 (b2 hGt (fz (callF F_compare (aC (vS 2) (aC (vS 1) (aN))))) (kS (.int 0)))) (setD 1 (oS (vS 2))) (skipD)) (g := g)
    (ρ := [some (.sh (.lst ((q :: qs).map fr))), some (.sh (fr q)), none]) fr (xs := q :: qs)
    (fun i ρ g' => ∃ b x, ρ = [some (.sh (.lst ((q :: qs).map fr))), some (.sh (fr b)), x] ∧ g' = g ∧ b ∈ q :: qs ∧ ∀ j y, j < i → (q :: qs)[j]? = some y → qle y b) ⟨q, none, rfl, rfl, List.mem_cons_self, fun j y h => absurd h (Nat.not_lt_zero j)⟩ (by
    rintro i x ρ g' hx ⟨b, z, rfl, rfl, hb, hm⟩
    have hxm : x ∈ q :: qs := List.mem_of_getElem? hx
    have hc := compare_eq (g := g') (h x hxm) (h b hb) (by omega)
    by_cases hgt : b.1 * x.2 < x.1 * b.2
    · have e0 : qcmp x b = 1 := by unfold qcmp; rw [if_neg (by omega), if_pos hgt]
      rw [e0] at hc
      refine ⟨[some (.sh (.lst ((q :: qs).map fr))), some (.sh (fr x)), some (.sh (fr x))], g', by simp [hc], x, _, rfl, rfl, hxm, fun j y hj hy => ?_⟩
      have hxb : qle b x := by unfold qle; omega
      by_cases hji : j < i
      · exact qle_trans (h y (List.mem_of_getElem? hy)).fr (h b hb).fr (h x hxm).fr (hm j y hji hy) hxb
      · have : j = i := by omega
        subst this
        rw [hx] at hy
        cases hy
        exact qle_refl x
    · have e0 : ¬ 0 < qcmp x b := by
        unfold qcmp
        rw [if_neg (c := b.1 * x.2 < x.1 * b.2) hgt]
        split <;> decide
      refine ⟨[some (.sh (.lst ((q :: qs).map fr))), some (.sh (fr b)), some (.sh (fr x))], g', by simp [hc, e0], b, _, rfl, rfl, hb, fun j y hj hy => ?_⟩
      by_cases hji : j < i
      · exact hm j y hji hy
      · have : j = i := by omega
        subst this
        rw [hx] at hy
        cases hy
        unfold qle; omega)
  subst e1 e2
  refine ⟨b, ?_, hb, fun y hy => ?_⟩
  · simp only [List.map_cons] at e
    simp [F_greatest, B_greatest, e]
  · obtain ⟨j, hj, hjy⟩ := List.mem_iff_getElem.mp hy
    exact hm j y hj (by rw [List.getElem?_eq_getElem hj, hjy])
theorem least_eq {q : Int × Int} {qs : List (Int × Int)} {k : Nat} {g : GS} (h : ∀ x ∈ q :: qs, FrS k x) (hk : k ≤ 4000) :
    ∃ b, F_least [.lst ((q :: qs).map fr)] g = some (.sh (fr b), g) ∧ b ∈ q :: qs ∧ ∀ x ∈ q :: qs, qle b x := by
  obtain ⟨ρ', g', e, b, x, e1, e2, hb, hm⟩ := loop_lst (gf := gN 2) (sb := ifD (tB1 (b2 hLt (fz (callF F_compare (aC (vS 2) (aC (vS 1) (aN))))) (kS (.int 0)))) (setD 1 (oS (vS 2))) (skipD)) (g := g)
    (ρ := [some (.sh (.lst ((q :: qs).map fr))), some (.sh (fr q)), none]) fr (xs := q :: qs)
    (fun i ρ g' => ∃ b x, ρ = [some (.sh (.lst ((q :: qs).map fr))), some (.sh (fr b)), x] ∧ g' = g ∧ b ∈ q :: qs ∧ ∀ j y, j < i → (q :: qs)[j]? = some y → qle b y) ⟨q, none, rfl, rfl, List.mem_cons_self, fun j y h => absurd h (Nat.not_lt_zero j)⟩ (by
    rintro i x ρ g' hx ⟨b, z, rfl, rfl, hb, hm⟩
    have hxm : x ∈ q :: qs := List.mem_of_getElem? hx
    have hc := compare_eq (g := g') (h x hxm) (h b hb) (by omega)
    by_cases hgt : x.1 * b.2 < b.1 * x.2
    · have e0 : qcmp x b = -1 := by unfold qcmp; rw [if_pos hgt]
      rw [e0] at hc
      refine ⟨[some (.sh (.lst ((q :: qs).map fr))), some (.sh (fr x)), some (.sh (fr x))], g', by simp [hc], x, _, rfl, rfl, hxm, fun j y hj hy => ?_⟩
      have hxb : qle x b := by unfold qle; omega
      by_cases hji : j < i
      · exact qle_trans (h x hxm).fr (h b hb).fr (h y (List.mem_of_getElem? hy)).fr hxb (hm j y hji hy)
      · have : j = i := by omega
        subst this
        rw [hx] at hy
        cases hy
        exact qle_refl x
    · have e0 : ¬ qcmp x b < 0 := by
        unfold qcmp
        rw [if_neg hgt]
        split <;> decide
      refine ⟨[some (.sh (.lst ((q :: qs).map fr))), some (.sh (fr b)), some (.sh (fr x))], g', by simp [hc, e0], b, _, rfl, rfl, hb, fun j y hj hy => ?_⟩
      by_cases hji : j < i
      · exact hm j y hji hy
      · have : j = i := by omega
        subst this
        rw [hx] at hy
        cases hy
        unfold qle; omega)
  subst e1 e2
  refine ⟨b, ?_, hb, fun y hy => ?_⟩
  · simp only [List.map_cons] at e
    simp [F_least, B_least, e]
  · obtain ⟨j, hj, hjy⟩ := List.mem_iff_getElem.mp hy
    exact hm j y hj (by rw [List.getElem?_eq_getElem hj, hjy])

/-! data: equality, membership -/
mutual
theorem pd_refl : ∀ (s : SV) (d : PySem.PyData), s.pd = some d → SV.eq s s = some true := by
  intro s d h
  cases s <;> simp only [SV.pd, reduceCtorEq, Option.map_eq_some_iff] at h
  case tup xs => obtain ⟨p, hp, _⟩ := h; simp only [SV.eq]; exact pds_refl xs p hp
  case lst xs => obtain ⟨p, hp, _⟩ := h; simp only [SV.eq]; exact pds_refl xs p hp
  all_goals simp [SV.eq]
theorem pds_refl : ∀ (xs : List SV) (ds : List PySem.PyData), SV.pds xs = some ds → SV.eqs xs xs = some true := by
  intro xs ds h
  cases xs with
  | nil => simp [SV.eqs]
  | cons x xs =>
    simp only [SV.pds, Option.bind_eq_some_iff, Option.map_eq_some_iff] at h
    obtain ⟨p, hp, q, hq, _⟩ := h
    simp only [SV.eqs]
    rw [pd_refl x p hp, pds_refl xs q hq]
    rfl
end
theorem hEqD_refl {s : SV} {d : PySem.PyData} {k : Bool → Bool} (h : s.pd = some d) (hd : s.dep ≤ 64) : hEqD k s s = some (.bl (k true)) := by
  unfold hEqD
  rw [h, pd_refl s d h]
  simp [hd]
theorem hEq_tup {xs : List SV} {d : PySem.PyData} (h : (SV.tup xs).pd = some d) (hd : (SV.tup xs).dep ≤ 64) : hEq (.tup xs) (.tup xs) = some (.bl true) := by
  have := hEqD_refl (k := fun x => x) h hd
  unfold hEq
  exact this
theorem hNe_tup {xs : List SV} {d : PySem.PyData} (h : (SV.tup xs).pd = some d) (hd : (SV.tup xs).dep ≤ 64) : hNe (.tup xs) (.tup xs) = some (.bl false) := by
  have := hEqD_refl (k := fun x => !x) h hd
  unfold hNe
  exact this
theorem pds_map {α : Type} {f : α → SV} {p : α → PySem.PyData} : ∀ (xs : List α), (∀ x ∈ xs, (f x).pd = some (p x)) → SV.pds (xs.map f) = some (xs.map p)
  | [], _ => by simp [SV.pds]
  | x :: xs, h => by
    rw [List.map_cons, List.map_cons, SV.pds, h x List.mem_cons_self, Option.bind_some, pds_map xs fun y hy => h y (List.mem_cons_of_mem _ hy)]
    rfl
theorem deps_map {α : Type} {f : α → SV} {n : Nat} : ∀ (xs : List α), (∀ x ∈ xs, (f x).dep ≤ n) → SV.deps (xs.map f) ≤ n
  | [], _ => by simp [SV.deps]
  | x :: xs, h => by
    rw [List.map_cons, SV.deps]
    exact Nat.max_le.mpr ⟨h x List.mem_cons_self, deps_map xs fun y hy => h y (List.mem_cons_of_mem _ hy)⟩
theorem fr_pd (q : Int × Int) : (fr q).pd = some (.tuple [.int q.1, .int q.2]) := by simp [fr, SV.pd, SV.pds]
theorem fr_dep (q : Int × Int) : (fr q).dep ≤ 1 := by simp [fr, SV.dep, SV.deps]
theorem frs_pd (qs : List (Int × Int)) : (SV.lst (qs.map fr)).pd = some (.list (qs.map fun q => .tuple [.int q.1, .int q.2])) := by
  rw [SV.pd, pds_map (p := fun q => .tuple [.int q.1, .int q.2]) qs fun q _ => fr_pd q]; rfl
theorem frs_dep (qs : List (Int × Int)) : (SV.lst (qs.map fr)).dep ≤ 2 := by
  rw [SV.dep]
  have := deps_map (f := fr) (n := 1) qs fun q _ => fr_dep q
  omega
theorem fr_eq (a b : Int × Int) : SV.eq (fr a) (fr b) = some (decide (a = b)) := by
  simp only [fr, SV.eq, SV.eqs, Bool.and_true]
  congr 1
  rw [Bool.eq_iff_iff]
  simp [Prod.ext_iff]
theorem mapM_some {α β : Type} {f : α → Option β} {r : α → β} : ∀ (xs : List α), (∀ x ∈ xs, f x = some (r x)) → xs.mapM f = some (xs.map r)
  | [], _ => rfl
  | x :: xs, h => by
    rw [List.mapM_cons, h x List.mem_cons_self, mapM_some xs fun y hy => h y (List.mem_cons_of_mem _ hy)]
    rfl
theorem notIn_mem {q : Int × Int} {qs : List (Int × Int)} (h : q ∈ qs) : hInD (fun x => !x) (fr q) (.lst (qs.map fr)) = some (.bl false) := by
  have hp : SV.pds (qs.map fr) = some (qs.map fun q => .tuple [.int q.1, .int q.2]) := pds_map (p := fun q => .tuple [.int q.1, .int q.2]) qs fun q _ => fr_pd q
  have hm : (qs.map fr).mapM (fun z => SV.eq z (fr q)) = some ((qs.map fr).map fun z => (SV.eq z (fr q)).getD false) := mapM_some _ fun z hz => by
    obtain ⟨y, _, rfl⟩ := List.mem_map.mp hz
    rw [fr_eq]; rfl
  have h1 := fr_dep q
  have h2 := frs_dep qs
  have ha : (((qs.map fr).map fun z => (SV.eq z (fr q)).getD false).any fun r => r) = true := by
    rw [List.any_map, List.any_map, List.any_eq_true]
    exact ⟨q, h, by simp [fr_eq]⟩
  unfold hInD
  simp only [fr_pd, hp, hm]
  rw [if_pos ⟨by omega, by omega⟩, ha]
  rfl
theorem law_ends_eq {q : Int × Int} {qs : List (Int × Int)} {k : Nat} {g : GS} (h : ∀ x ∈ q :: qs, FrS k x) (hk : k ≤ 1000) : F_law_ends [.lst ((q :: qs).map fr)] g = some (.sh (.bl true), g) := by
  obtain ⟨hi, e1, m1, b1⟩ := greatest_eq (g := g) h (by omega)
  obtain ⟨lo, e2, m2, b2⟩ := least_eq (g := g) h (by omega)
  have n1 := notIn_mem m1
  have n2 := notIn_mem m2
  have s1 := same_eq (g := g) (h hi m1) (by omega) (h hi m1).n (h hi m1).d (by omega) rfl
  have s2 := same_eq (g := g) (h lo m2) (by omega) (h lo m2).n (h lo m2).d (by omega) rfl
  obtain ⟨ρ', g', e, x, e3, e4⟩ := loop_lst (gf := gN 3) (g := g) (xs := q :: qs)
    (sb := ifD (tOr1 (tB1 (DL.b2 hGt (DL.b2 hMul (DL.b2 hIx (vS 3) (kS (.int 0))) (DL.b2 hIx (vS 1) (kS (.int 1)))) (DL.b2 hMul (DL.b2 hIx (vS 1) (kS (.int 0))) (DL.b2 hIx (vS 3) (kS (.int 1)))))) (tB1 (DL.b2 hLt (DL.b2 hMul (DL.b2 hIx (vS 3) (kS (.int 0))) (DL.b2 hIx (vS 2) (kS (.int 1)))) (DL.b2 hMul (DL.b2 hIx (vS 2) (kS (.int 0))) (DL.b2 hIx (vS 3) (kS (.int 1))))))) (retD (oS (kS (.bl false)))) (skipD))
    (ρ := [some (.sh (.lst ((q :: qs).map fr))), some (.sh (fr hi)), some (.sh (fr lo)), none]) fr
    (fun i ρ g' => ∃ x, ρ = [some (.sh (.lst ((q :: qs).map fr))), some (.sh (fr hi)), some (.sh (fr lo)), x] ∧ g' = g) ⟨none, rfl, rfl⟩ (by
    rintro i x ρ g' hx ⟨z, rfl, rfl⟩
    have hxm : x ∈ q :: qs := List.mem_of_getElem? hx
    have hX := h x hxm
    have hH := h hi m1
    have hL := h lo m2
    have t1 : mulOk x.1 hi.2 = true := mulOk_of hX.n hH.d (by omega) (by omega)
    have t2 : mulOk hi.1 x.2 = true := mulOk_of hH.n hX.d (by omega) (by omega)
    have t3 : mulOk x.1 lo.2 = true := mulOk_of hX.n hL.d (by omega) (by omega)
    have t4 : mulOk lo.1 x.2 = true := mulOk_of hL.n hX.d (by omega) (by omega)
    have c1 : ¬ hi.1 * x.2 < x.1 * hi.2 := by have := b1 x hxm; unfold qle at this; omega
    have c2 : ¬ x.1 * lo.2 < lo.1 * x.2 := by have := b2 x hxm; unfold qle at this; omega
    exact ⟨[some (.sh (.lst ((q :: qs).map fr))), some (.sh (fr hi)), some (.sh (fr lo)), some (.sh (fr x))], g', by simp [fr, t1, t2, t3, t4, c1, c2], _, rfl, rfl⟩)
  subst e3 e4
  generalize (q :: qs).map fr = R at *
  have f1 : ∀ q : Int × Int, hIx (fr q) (.int 0) = some (.int q.1) := fun q => by simp [fr]
  have f2 : ∀ q : Int × Int, hIx (fr q) (.int 1) = some (.int q.2) := fun q => by simp [fr]
  simp [F_law_ends, B_law_ends, e1, e2, n1, n2, e, s1, s2, f1, f2]

def lcmL : List (Int × Int) → Nat → Nat
  | [], c => c
  | q :: qs, c => lcmL qs (Nat.lcm c q.2.natAbs)
theorem lcmL_pos : ∀ (qs : List (Int × Int)) (c : Nat), 0 < c → (∀ q ∈ qs, Fr q) → 0 < lcmL qs c
  | [], c, h, _ => h
  | q :: qs, c, h, hq => lcmL_pos qs _ (Nat.lcm_pos h (by have := (hq q List.mem_cons_self).1; omega)) fun x hx => hq x (List.mem_cons_of_mem _ hx)
theorem lcmL_dvd0 : ∀ (qs : List (Int × Int)) (c : Nat), c ∣ lcmL qs c
  | [], c => Nat.dvd_refl c
  | q :: qs, c => Nat.dvd_trans (Nat.dvd_lcm_left _ _) (lcmL_dvd0 qs _)
theorem lcmL_dvd : ∀ (qs : List (Int × Int)) (c : Nat), ∀ q ∈ qs, q.2.natAbs ∣ lcmL qs c
  | q :: qs, c, x, hx => by
    rcases List.mem_cons.mp hx with e | e
    · subst e; exact Nat.dvd_trans (Nat.dvd_lcm_right c _) (lcmL_dvd0 qs _)
    · exact lcmL_dvd qs _ x e
theorem lcm_le (a b : Nat) : Nat.lcm a b ≤ a * b := by unfold Nat.lcm; exact Nat.div_le_self _ _
theorem scaled_loop {k : Nat} {g : GS} {y0 : DV} : ∀ (qs : List (Int × Int)) (c l : Nat), (∀ q ∈ qs, FrS k q) → 0 < c → c < 2 ^ l → l + qs.length * k ≤ 9000 → ∀ x : Option DV, ∃ x',
    loopD (gN 2) (setD 1 (oS (c1 hLcm (aC (vS 1) (aC (b2 hIx (vS 2) (kS (.int 1))) (aN)))))) (qs.map fr) [some y0, some (.sh (.int (c : Nat))), x] g = some (.nx [some y0, some (.sh (.int (lcmL qs c : Nat))), x'] g) ∧ lcmL qs c < 2 ^ (l + qs.length * k)
  | [], c, l, _, _, hc, hl, x => ⟨x, rfl, by simpa [lcmL] using hc⟩
  | q :: qs, c, l, hq, h0, hc, hl, x => by
    have hq1 := hq q List.mem_cons_self
    have hd : q.2.natAbs < 2 ^ k := hq1.d
    have d0 : 0 < q.2.natAbs := by have := hq1.fr.1; omega
    rw [List.length_cons, Nat.succ_mul] at hl
    have e1 : (c : Int).natAbs.log2 < 9000 := by rw [Int.natAbs_natCast]; exact log2_of_lt (by decide) (Nat.lt_of_lt_of_le hc (Nat.pow_le_pow_right (by decide) (by omega)))
    have e2 : q.2.natAbs.log2 < 9000 := log2_of_lt (by decide) (Nat.lt_of_lt_of_le hd (Nat.pow_le_pow_right (by decide) (by omega)))
    rw [Int.natAbs_natCast] at e1
    have hn : Nat.lcm c q.2.natAbs < 2 ^ (l + k) := Nat.lt_of_le_of_lt (lcm_le _ _) (by rw [Nat.pow_add]; exact Nat.mul_lt_mul'' hc hd)
    obtain ⟨x', e, hb⟩ := scaled_loop (k := k) (g := g) (y0 := y0) qs (Nat.lcm c q.2.natAbs) (l + k) (fun y hy => hq y (List.mem_cons_of_mem _ hy)) (Nat.lcm_pos h0 d0) hn (by omega) (some (.sh (fr q)))
    refine ⟨x', ?_, by rw [List.length_cons, Nat.succ_mul]; rw [show l + (qs.length * k + k) = l + k + qs.length * k by omega]; exact hb⟩
    rw [List.map_cons, loop_nx (ρ' := [some y0, some (.sh (.int (Nat.lcm c q.2.natAbs : Nat))), some (.sh (fr q))]) (g' := g)]
    · exact e
    · simp [fr, e1, e2]
theorem ediv_sz {L k : Nat} {d : Int} (hd : 0 < d) (h : L < 2 ^ k) : Sz k ((L : Int) / d) := by
  have e : (L : Int) / d = ((L / d.natAbs : Nat) : Int) := by
    rw [Int.natCast_ediv]
    congr 1
    omega
  unfold Sz
  rw [e, Int.natAbs_natCast]
  exact Nat.lt_of_le_of_lt (Nat.div_le_self _ _) h
/-- the numbers over the common denominator -/
def nums (qs : List (Int × Int)) : List Int := qs.map fun q => q.1 * ((lcmL qs 1 : Nat) / q.2)
theorem scaled_eq {qs : List (Int × Int)} {k : Nat} {g : GS} (hq : ∀ q ∈ qs, FrS k q) (hk : 1 + qs.length * k ≤ 9000) (hk2 : k ≤ 9000) (hlen : qs.length ≤ 1000) :
    F_scaled [.lst (qs.map fr)] g = some (.sh (.tup [.lst ((nums qs).map .int), .int (lcmL qs 1 : Nat)]), g) := by
  obtain ⟨x', e, hb⟩ := scaled_loop (g := g) (y0 := .sh (.lst (qs.map fr))) qs 1 1 hq (by decide) (by decide) hk none
  have ec := comp_map (β := Int) (wf := wN 2) (f := oS (b2 hMul (b2 hIx (vS 2) (kS (.int 0))) (b2 hDiv (vS 1) (b2 hIx (vS 2) (kS (.int 1)))))) (ρ := [some (.sh (.lst (qs.map fr))), some (.sh (.int (lcmL qs 1 : Nat))), none]) fr
    (fun q => DV.sh (.int (q.1 * ((lcmL qs 1 : Nat) / q.2)))) qs g (fun q hm g => by
      have h := hq q hm
      have d1 : divOk (lcmL qs 1 : Nat) q.2 = true := divOk_of h.fr.1 h.d hk2
      have sl := ediv_sz h.fr.1 hb
      have m1 : mulOk q.1 ((lcmL qs 1 : Nat) / q.2) = true := mulOk_of h.n sl (by omega) (by omega)
      simp [fr, d1, m1])
  have er : (qs.map fun q => DV.sh (.int (q.1 * ((lcmL qs 1 : Nat) / q.2)))) = ((nums qs).map SV.int).map DV.sh := by unfold nums; rw [List.map_map, List.map_map]; rfl
  rw [er] at ec
  have hl2 : lenOk (qs.map fr).length = true := lenOk_of (by rw [List.length_map]; omega)
  generalize (nums qs).map SV.int = N at *
  generalize qs.map fr = R at *
  simp at e
  simp [F_scaled, B_scaled, e, ec, hl2]
def qsum : Int × Int → List (Int × Int) → Int × Int
  | a, [] => a
  | a, q :: qs => qsum (qadd a q) qs
theorem total_loop {k : Nat} {g : GS} {y0 : DV} : ∀ (qs : List (Int × Int)) (a : Int × Int) (l : Nat), (∀ q ∈ qs, FrS k q) → FrS l a → l + qs.length * (k + 1) ≤ 9000 → ∀ x : Option DV, ∃ x',
    loopD (gN 2) (setD 1 (oS (fz (callF F_add (aC (vS 1) (aC (vS 2) (aN))))))) (qs.map fr) [some y0, some (.sh (fr a)), x] g = some (.nx [some y0, some (.sh (fr (qsum a qs))), x'] g) ∧ FrS (l + qs.length * (k + 1)) (qsum a qs)
  | [], a, l, _, ha, hl, x => ⟨x, rfl, by simpa [qsum] using ha⟩
  | q :: qs, a, l, hq, ha, hl, x => by
    rw [List.length_cons, Nat.succ_mul] at hl
    have hq1 := hq q List.mem_cons_self
    obtain ⟨x', e, hb⟩ := total_loop (g := g) (y0 := y0) qs (qadd a q) (l + k + 1) (fun y hy => hq y (List.mem_cons_of_mem _ hy)) (qadd_szs ha hq1) (by omega) (some (.sh (fr q)))
    refine ⟨x', ?_, by rw [List.length_cons, Nat.succ_mul]; rw [show l + (qs.length * (k + 1) + (k + 1)) = l + k + 1 + qs.length * (k + 1) by omega]; exact hb⟩
    rw [List.map_cons, loop_nx (ρ' := [some y0, some (.sh (fr (qadd a q))), some (.sh (fr q))]) (g' := g)]
    · exact e
    · simp [add_eq (g := g) ha hq1 (by omega)]
theorem one_szs : FrS 1 (0, 1) := ⟨by unfold Fr; decide, by unfold Sz; decide, by unfold Sz; decide⟩
theorem total_eq {qs : List (Int × Int)} {k : Nat} {g : GS} (hq : ∀ q ∈ qs, FrS k q) (hk : 1 + qs.length * (k + 1) ≤ 9000) : F_total [.lst (qs.map fr)] g = some (.sh (fr (qsum (0, 1) qs)), g) ∧ FrS (1 + qs.length * (k + 1)) (qsum (0, 1) qs) := by
  obtain ⟨x', e, hb⟩ := total_loop (g := g) (y0 := .sh (.lst (qs.map fr))) qs (0, 1) 1 hq one_szs hk none
  refine ⟨?_, hb⟩
  have ez : c_ZERO = fr (0, 1) := rfl
  rw [← ez] at e
  generalize qs.map fr = R at *
  simp [F_total, B_total, e]
theorem dot_loop {k : Nat} {g : GS} {y0 y1 : DV} : ∀ (ps : List ((Int × Int) × (Int × Int))) (a : Int × Int) (l : Nat), (∀ p ∈ ps, FrS k p.1 ∧ FrS k p.2) → FrS l a → l + ps.length * (2 * k + 1) ≤ 9000 → ∀ x y : Option DV, ∃ x' y',
    loopD (gT 2 (gLC (gN 3) (gLC (gN 4) (gLN)))) (setD 2 (oS (fz (callF F_add (aC (vS 2) (aC (fz (callF F_mul (aC (vS 3) (aC (vS 4) (aN))))) (aN))))))) (ps.map fun p => SV.tup [fr p.1, fr p.2]) [some y0, some y1, some (.sh (fr a)), x, y] g =
      some (.nx [some y0, some y1, some (.sh (fr (qsum a (ps.map fun p => qmul p.1 p.2)))), x', y'] g) ∧ FrS (l + ps.length * (2 * k + 1)) (qsum a (ps.map fun p => qmul p.1 p.2))
  | [], a, l, _, ha, hl, x, y => ⟨x, y, rfl, by simpa [qsum] using ha⟩
  | p :: ps, a, l, hp, ha, hl, x, y => by
    rw [List.length_cons, Nat.succ_mul] at hl
    have hp1 := hp p List.mem_cons_self
    have hm := qmul_szs hp1.1 hp1.2
    obtain ⟨x', y', e, hb⟩ := dot_loop (g := g) (y0 := y0) (y1 := y1) ps (qadd a (qmul p.1 p.2)) (l + (k + k) + 1) (fun y hy => hp y (List.mem_cons_of_mem _ hy)) (qadd_szs ha hm) (by omega) (some (.sh (fr p.1))) (some (.sh (fr p.2)))
    refine ⟨x', y', ?_, by rw [List.length_cons, Nat.succ_mul]; rw [show l + (ps.length * (2 * k + 1) + (2 * k + 1)) = l + (k + k) + 1 + ps.length * (2 * k + 1) by omega]; exact hb⟩
    rw [List.map_cons, loop_nx (ρ' := [some y0, some y1, some (.sh (fr (qadd a (qmul p.1 p.2)))), some (.sh (fr p.1)), some (.sh (fr p.2))]) (g' := g)]
    · exact e
    · simp [mul_eq (g := g) hp1.1 hp1.2 (by omega), add_eq (g := g) ha hm (by omega)]
theorem zipL_fr : ∀ (as bs : List (Int × Int)), zipL (as.map fr) (bs.map fr) = (as.zip bs).map fun p => SV.tup [fr p.1, fr p.2]
  | [], _ => rfl
  | _ :: _, [] => rfl
  | a :: as, b :: bs => by
    have := zipL_fr as bs
    unfold zipL at *
    simp [this]
theorem dot_eq {as bs : List (Int × Int)} {k : Nat} {g : GS} (ha : ∀ q ∈ as, FrS k q) (hb : ∀ q ∈ bs, FrS k q) (hk : 1 + (as.zip bs).length * (2 * k + 1) ≤ 9000) : F_dot [.lst (as.map fr), .lst (bs.map fr)] g = some (.sh (fr (qsum (0, 1) ((as.zip bs).map fun p => qmul p.1 p.2))), g) ∧
    FrS (1 + (as.zip bs).length * (2 * k + 1)) (qsum (0, 1) ((as.zip bs).map fun p => qmul p.1 p.2)) := by
  obtain ⟨x', y', e, hx⟩ := dot_loop (g := g) (y0 := .sh (.lst (as.map fr))) (y1 := .sh (.lst (bs.map fr))) (as.zip bs) (0, 1) 1 (fun p hp => ⟨ha _ (List.of_mem_zip hp).1, hb _ (List.of_mem_zip hp).2⟩) one_szs hk none none
  refine ⟨?_, hx⟩
  have ez : c_ZERO = fr (0, 1) := rfl
  rw [← zipL_fr, ← ez] at e
  generalize as.map fr = R at *
  generalize bs.map fr = S at *
  simp [F_dot, B_dot, e]
theorem law_scaled_loop {k : Nat} {g : GS} {y0 y1 : DV} : ∀ (qs : List (Int × Int)) (c l : Nat), (∀ q ∈ qs, FrS k q) → k ≤ 2700 → 0 < c → c < 2 ^ l → l + qs.length * k ≤ 9000 → ∀ x z : Option DV, ∃ x',
    loopD (gN 3) (setD 2 (oS (b2 hMul (b2 hDiv (vS 2) (fz (callF F_law_gcd (aC (vS 2) (aC (b2 hIx (vS 3) (kS (.int 1))) (aN)))))) (b2 hIx (vS 3) (kS (.int 1)))))) (qs.map fr) [some y0, some y1, some (.sh (.int (c : Nat))), x, z] g =
      some (.nx [some y0, some y1, some (.sh (.int (lcmL qs c : Nat))), x', z] g) ∧ lcmL qs c < 2 ^ (l + qs.length * k)
  | [], c, l, _, _, _, hc, hl, x, z => ⟨x, rfl, by simpa [lcmL] using hc⟩
  | q :: qs, c, l, hq, hk, h0, hc, hl, x, z => by
    have hq1 := hq q List.mem_cons_self
    have hd : q.2.natAbs < 2 ^ k := hq1.d
    have d0 : 0 < q.2.natAbs := by have := hq1.fr.1; omega
    rw [List.length_cons, Nat.succ_mul] at hl
    have hn : Nat.lcm c q.2.natAbs < 2 ^ (l + k) := Nat.lt_of_le_of_lt (lcm_le _ _) (by rw [Nat.pow_add]; exact Nat.mul_lt_mul'' hc hd)
    obtain ⟨x', e, hb⟩ := law_scaled_loop (k := k) (g := g) (y0 := y0) (y1 := y1) qs (Nat.lcm c q.2.natAbs) (l + k) (fun y hy => hq y (List.mem_cons_of_mem _ hy)) hk (Nat.lcm_pos h0 d0) hn (by omega) (some (.sh (fr q))) z
    refine ⟨x', ?_, by rw [List.length_cons, Nat.succ_mul]; rw [show l + (qs.length * k + k) = l + k + qs.length * k by omega]; exact hb⟩
    have hg : F_law_gcd [.int (c : Nat), .int q.2] g = some (.sh (.int (Nat.gcd c q.2.natAbs : Nat)), g) := by rw [law_gcd_eq (hq1.d.mono hk), Int.natAbs_natCast]
    have g0 : 0 < Nat.gcd c q.2.natAbs := Nat.gcd_pos_of_pos_left _ h0
    have gl : Nat.gcd c q.2.natAbs < 2 ^ k := Nat.lt_of_le_of_lt (Nat.le_of_dvd d0 (Nat.gcd_dvd_right _ _)) hd
    have t1 : ∀ y, divOk y (Nat.gcd c q.2.natAbs : Nat) = true := fun y => divOk_of (k := k) (by omega) (by unfold Sz; rw [Int.natAbs_natCast]; exact gl) (by omega)
    have el : ((c : Int) / (Nat.gcd c q.2.natAbs : Nat)) * q.2 = (Nat.lcm c q.2.natAbs : Nat) := by
      have hp := hq1.fr.1
      conv => lhs; arg 2; rw [show q.2 = ((q.2.natAbs : Nat) : Int) by omega]
      rw [← Int.natCast_ediv, ← Int.natCast_mul]
      congr 1
      unfold Nat.lcm
      exact (Nat.div_mul_right_comm (Nat.gcd_dvd_left c q.2.natAbs) q.2.natAbs)
    have t2 : mulOk ((c : Int) / (Nat.gcd c q.2.natAbs : Nat)) q.2 = true := by
      refine mulOk_of (k := l) ?_ hq1.d (by omega) (by omega)
      unfold Sz
      rw [← Int.natCast_ediv, Int.natAbs_natCast]
      exact Nat.lt_of_le_of_lt (Nat.div_le_self _ _) hc
    rw [List.map_cons, loop_nx (ρ' := [some y0, some y1, some (.sh (.int (Nat.lcm c q.2.natAbs : Nat))), some (.sh (fr q)), z]) (g' := g)]
    · exact e
    · generalize Nat.gcd c q.2.natAbs = cc at *
      generalize (Nat.lcm c q.2.natAbs : Nat) = ll at *
      simp [fr, hg, t1, t2, el]
theorem law_scaled_eq {qs : List (Int × Int)} {k : Nat} {g : GS} (hq : ∀ q ∈ qs, FrS k q) (hk : 1 + qs.length * k ≤ 9000) (hk2 : k ≤ 2700) (hlen : qs.length ≤ 1000) : F_law_scaled [.lst (qs.map fr)] g = some (.sh (.bl true), g) := by
  have es := scaled_eq (g := g) hq hk (by omega) hlen
  obtain ⟨x', e, hb⟩ := law_scaled_loop (g := g) (y0 := .sh (.lst (qs.map fr))) (y1 := .sh (.tup [.lst ((nums qs).map .int), .int (lcmL qs 1 : Nat)])) qs 1 1 hq hk2 (by decide) (by decide) hk none none
  have hll : ((nums qs).map SV.int).length = qs.length := by unfold nums; simp
  have hlr : (qs.map fr).length = qs.length := by simp
  obtain ⟨ρ', g', e2, z, e3, e4⟩ := loop_rng (gf := gN 4) (lo := 0) (n := qs.length) (g := g)
    (sb := ifD (tOr1 (tNot1 (tB1 (fz (callF F_law_is_integer (aC (b2 hIx (b2 hIx (vS 1) (kS (.int 0))) (vS 4)) (aN)))))) (tB1 (b2 hNe (b2 hMul (b2 hIx (b2 hIx (vS 1) (kS (.int 0))) (vS 4)) (b2 hIx (b2 hIx (vS 0) (vS 4)) (kS (.int 1)))) (b2 hMul (b2 hIx (b2 hIx (vS 0) (vS 4)) (kS (.int 0))) (vS 2))))) (retD (oS (kS (.bl false)))) (skipD))
    (ρ := [some (.sh (.lst (qs.map fr))), some (.sh (.tup [.lst ((nums qs).map .int), .int (lcmL qs 1 : Nat)])), some (.sh (.int (lcmL qs 1 : Nat))), x', none])
    (fun i ρ g' => ∃ z, ρ = [some (.sh (.lst (qs.map fr))), some (.sh (.tup [.lst ((nums qs).map .int), .int (lcmL qs 1 : Nat)])), some (.sh (.int (lcmL qs 1 : Nat))), x', z] ∧ g' = g) ⟨none, rfl, rfl⟩ (by
    rintro i ρ g' hi ⟨z, rfl, rfl⟩
    have hx : qs[i]? = some qs[i] := List.getElem?_eq_getElem hi
    have hm : qs[i] ∈ qs := List.getElem_mem hi
    have a1 : L2.atI (qs.map fr) (i : Int) = some (fr qs[i]) := L2.atI_nat (by rw [List.getElem?_map, hx]; rfl)
    have a2 : L2.atI ((nums qs).map SV.int) (i : Int) = some (.int (qs[i].1 * ((lcmL qs 1 : Nat) / qs[i].2))) := L2.atI_nat (by unfold nums; rw [List.map_map, List.getElem?_map, hx]; rfl)
    have h := hq _ hm
    have hp := h.fr.1
    have hdv : qs[i].2 ∣ ((lcmL qs 1 : Nat) : Int) := by
      rw [show qs[i].2 = ((qs[i].2.natAbs : Nat) : Int) by omega]
      exact Int.natCast_dvd_natCast.mpr (lcmL_dvd qs 1 _ hm)
    have eq1 : qs[i].1 * ((lcmL qs 1 : Nat) / qs[i].2) * qs[i].2 = qs[i].1 * (lcmL qs 1 : Nat) := by rw [Int.mul_assoc, Int.ediv_mul_cancel hdv]
    have sl : Sz (1 + qs.length * k) (lcmL qs 1 : Nat) := by unfold Sz; rw [Int.natAbs_natCast]; exact hb
    have sq := ediv_sz h.fr.1 hb
    have t1 : mulOk (qs[i].1 * ((lcmL qs 1 : Nat) / qs[i].2)) qs[i].2 = true := mulOk_of (h.n.mul sq) h.d (by omega) (by omega)
    have t2 : mulOk qs[i].1 (lcmL qs 1 : Nat) = true := mulOk_of h.n sl (by omega) (by omega)
    refine ⟨[some (.sh (.lst (qs.map fr))), some (.sh (.tup [.lst ((nums qs).map .int), .int (lcmL qs 1 : Nat)])), some (.sh (.int (lcmL qs 1 : Nat))), x', some (.sh (.int (i : Nat)))], g', ?_, _, rfl, rfl⟩
    generalize ((lcmL qs 1 : Nat) : Int) = L at *
    generalize (nums qs).map SV.int = N at *
    generalize qs.map fr = R at *
    simp [a1, a2, isint_eq, fr, t1, t2, eq1])
  subst e3 e4
  rw [show ((1 : Nat) : Int) = 1 from rfl] at e
  generalize ((lcmL qs 1 : Nat) : Int) = L at *
  generalize (nums qs).map SV.int = N at *
  generalize qs.map fr = R at *
  simp [F_law_scaled, B_law_scaled, es, e, isint_eq, hll, hlr, e2, rngOk_of (show qs.length ≤ 1000000 by omega)]

def sumN : Int → Int → List (Int × Int) → Int × Int
  | n, d, [] => (n, d)
  | n, d, q :: qs => sumN (n * q.2 + q.1 * d) (d * q.2) qs
theorem qsum_eq : ∀ (qs : List (Int × Int)) (a : Int × Int) (n d : Int), (∀ q ∈ qs, Fr q) → Fr a → 0 < d → a.1 * d = n * a.2 → (qsum a qs).1 * (sumN n d qs).2 = (sumN n d qs).1 * (qsum a qs).2 ∧ Fr (qsum a qs)
  | [], a, n, d, _, ha, _, e => ⟨e, ha⟩
  | q :: qs, a, n, d, hq, ha, hd, e => by
    have h1 := hq q List.mem_cons_self
    have e2 := qadd_eq ha h1
    refine qsum_eq qs (qadd a q) (n * q.2 + q.1 * d) (d * q.2) (fun y hy => hq y (List.mem_cons_of_mem _ hy)) (rat_fr (den_ne ha h1)) (Int.mul_pos hd h1.1) ?_
    have h0 : a.2 ≠ 0 := Int.ne_of_gt ha.1
    apply Int.eq_of_mul_eq_mul_right h0
    calc (qadd a q).1 * (d * q.2) * a.2 = (qadd a q).1 * (a.2 * q.2) * d := by simp only [Int.add_mul, Int.mul_add, Int.mul_assoc, Int.mul_comm, Int.mul_left_comm]
      _ = (a.1 * q.2 + q.1 * a.2) * (qadd a q).2 * d := by rw [e2]
      _ = ((a.1 * d) * q.2 + q.1 * a.2 * d) * (qadd a q).2 := by simp only [Int.add_mul, Int.mul_add, Int.mul_assoc, Int.mul_comm, Int.mul_left_comm]
      _ = ((n * a.2) * q.2 + q.1 * a.2 * d) * (qadd a q).2 := by rw [e]
      _ = (n * q.2 + q.1 * d) * (qadd a q).2 * a.2 := by simp only [Int.add_mul, Int.mul_add, Int.mul_assoc, Int.mul_comm, Int.mul_left_comm]
theorem sums_loop1 {k : Nat} {g : GS} {y0 y1 : DV} : ∀ (qs : List (Int × Int)) (n d : Int) (l : Nat), (∀ q ∈ qs, FrS k q) → Sz l n → Sz l d → l + qs.length * (k + 1) ≤ 9000 → ∀ x z : Option DV, ∃ x',
    loopD (gN 4) (seqD (setD 2 (oS (b2 hAdd (b2 hMul (vS 2) (b2 hIx (vS 4) (kS (.int 1)))) (b2 hMul (b2 hIx (vS 4) (kS (.int 0))) (vS 3))))) (setD 3 (oS (b2 hMul (vS 3) (b2 hIx (vS 4) (kS (.int 1))))))) (qs.map fr)
      [some y0, some y1, some (.sh (.int n)), some (.sh (.int d)), x, z] g = some (.nx [some y0, some y1, some (.sh (.int (sumN n d qs).1)), some (.sh (.int (sumN n d qs).2)), x', z] g) ∧ Sz (l + qs.length * (k + 1)) (sumN n d qs).1 ∧ Sz (l + qs.length * (k + 1)) (sumN n d qs).2
  | [], n, d, l, _, hn, hd, hl, x, z => ⟨x, rfl, by simpa [sumN] using hn, by simpa [sumN] using hd⟩
  | q :: qs, n, d, l, hq, hn, hd, hl, x, z => by
    rw [List.length_cons, Nat.succ_mul] at hl
    have h := hq q List.mem_cons_self
    obtain ⟨x', e, h1, h2⟩ := sums_loop1 (k := k) (g := g) (y0 := y0) (y1 := y1) qs (n * q.2 + q.1 * d) (d * q.2) (l + (k + 1)) (fun y hy => hq y (List.mem_cons_of_mem _ hy)) (((hn.mul h.d).add (h.n.mul hd)).mono (by omega)) ((hd.mul h.d).mono (by omega)) (by omega) (some (.sh (fr q))) z
    have t1 : mulOk n q.2 = true := mulOk_of hn h.d (by omega) (by omega)
    have t2 : mulOk q.1 d = true := mulOk_of h.n hd (by omega) (by omega)
    have t3 : mulOk d q.2 = true := mulOk_of hd h.d (by omega) (by omega)
    rw [List.length_cons, Nat.succ_mul, show l + (qs.length * (k + 1) + (k + 1)) = l + (k + 1) + qs.length * (k + 1) by omega]
    refine ⟨x', ?_, h1, h2⟩
    rw [List.map_cons, loop_nx (ρ' := [some y0, some y1, some (.sh (.int (n * q.2 + q.1 * d))), some (.sh (.int (d * q.2))), some (.sh (fr q)), z]) (g' := g)]
    · exact e
    · simp [fr, t1, t2, t3]
def prodN : Int → Int → List ((Int × Int) × (Int × Int)) → Int × Int
  | n, d, [] => (n, d)
  | n, d, p :: ps => prodN (n * p.1.2 * p.2.2 + p.1.1 * p.2.1 * d) (d * p.1.2 * p.2.2) ps
theorem prodN_snoc : ∀ (ps : List ((Int × Int) × (Int × Int))) (n d : Int) (p : (Int × Int) × (Int × Int)), prodN n d (ps ++ [p]) = ((prodN n d ps).1 * p.1.2 * p.2.2 + p.1.1 * p.2.1 * (prodN n d ps).2, (prodN n d ps).2 * p.1.2 * p.2.2)
  | [], n, d, p => rfl
  | r :: ps, n, d, p => prodN_snoc ps _ _ p
theorem pdot_eq : ∀ (ps : List ((Int × Int) × (Int × Int))) (a : Int × Int) (n d : Int), (∀ p ∈ ps, Fr p.1 ∧ Fr p.2) → Fr a → 0 < d → a.1 * d = n * a.2 →
    (qsum a (ps.map fun p => qmul p.1 p.2)).1 * (prodN n d ps).2 = (prodN n d ps).1 * (qsum a (ps.map fun p => qmul p.1 p.2)).2
  | [], a, n, d, _, ha, _, e => e
  | p :: ps, a, n, d, hp, ha, hd, e => by
    have h1 := (hp p List.mem_cons_self).1
    have h2 := (hp p List.mem_cons_self).2
    have hm : Fr (qmul p.1 p.2) := rat_fr (Int.ne_of_gt (Int.mul_pos h1.1 h2.1))
    have em := qmul_eq h1 h2
    have e2 := qadd_eq ha hm
    refine pdot_eq ps (qadd a (qmul p.1 p.2)) _ _ (fun y hy => hp y (List.mem_cons_of_mem _ hy)) (rat_fr (den_ne ha hm)) (Int.mul_pos (Int.mul_pos hd h1.1) h2.1) ?_
    have h0 : a.2 * (qmul p.1 p.2).2 ≠ 0 := den_ne ha hm
    apply Int.eq_of_mul_eq_mul_right h0
    generalize qadd a (qmul p.1 p.2) = A at *
    generalize qmul p.1 p.2 = M at *
    calc A.1 * (d * p.1.2 * p.2.2) * (a.2 * M.2) = A.1 * (a.2 * M.2) * (d * p.1.2 * p.2.2) := by simp only [Int.add_mul, Int.mul_add, Int.mul_assoc, Int.mul_comm, Int.mul_left_comm]
      _ = (a.1 * M.2 + M.1 * a.2) * A.2 * (d * p.1.2 * p.2.2) := by rw [e2]
      _ = ((a.1 * d) * M.2 * (p.1.2 * p.2.2) + (M.1 * (p.1.2 * p.2.2)) * a.2 * d) * A.2 := by simp only [Int.add_mul, Int.mul_add, Int.mul_assoc, Int.mul_comm, Int.mul_left_comm]
      _ = ((n * a.2) * M.2 * (p.1.2 * p.2.2) + (p.1.1 * p.2.1 * M.2) * a.2 * d) * A.2 := by rw [e, em]
      _ = (n * p.1.2 * p.2.2 + p.1.1 * p.2.1 * d) * A.2 * (a.2 * M.2) := by simp only [Int.add_mul, Int.mul_add, Int.mul_assoc, Int.mul_comm, Int.mul_left_comm]
theorem law_sums_eq {as bs : List (Int × Int)} {k : Nat} {g : GS} (ha : ∀ q ∈ as, FrS k q) (hb : ∀ q ∈ bs, FrS k q) (hl : as.length = bs.length) (hlen : as.length ≤ 1000) (hk : 1 + as.length * (2 * k + 2) ≤ 2700) : F_law_sums [.lst (as.map fr), .lst (bs.map fr)] g = some (.sh (.bl true), g) := by
  have hz : (as.zip bs).length = as.length := by rw [List.length_zip]; omega
  have hk1 : as.length * (k + 1) ≤ as.length * (2 * k + 2) := Nat.mul_le_mul_left _ (by omega)
  have hk2 : as.length * (2 * k + 1) ≤ as.length * (2 * k + 2) := Nat.mul_le_mul_left _ (by omega)
  obtain ⟨et, st⟩ := total_eq (g := g) ha (by omega)
  obtain ⟨ed, sd⟩ := dot_eq (g := g) ha hb (by rw [hz]; omega)
  obtain ⟨x', e1, n1, d1⟩ := sums_loop1 (g := g) (y0 := .sh (.lst (as.map fr))) (y1 := .sh (.lst (bs.map fr))) as 0 1 1 ha (by unfold Sz; decide) (by unfold Sz; decide) (by omega) none none
  have q1 := (qsum_eq as (0, 1) 0 1 (fun q h => (ha q h).fr) one_szs.fr (by decide) rfl).1
  have s1 := same_eq (g := g) st (by omega) n1 d1 (by omega) q1
  obtain ⟨ρ', g', e2, n, d, x, e3, e4, e5, sn, sd2⟩ := loop_rng (gf := gN 5) (lo := 0) (n := as.length) (g := g)
    (sb := seqD (setD 2 (oS (b2 hAdd (b2 hMul (b2 hMul (vS 2) (b2 hIx (b2 hIx (vS 0) (vS 5)) (kS (.int 1)))) (b2 hIx (b2 hIx (vS 1) (vS 5)) (kS (.int 1)))) (b2 hMul (b2 hMul (b2 hIx (b2 hIx (vS 0) (vS 5)) (kS (.int 0))) (b2 hIx (b2 hIx (vS 1) (vS 5)) (kS (.int 0)))) (vS 3)))))
  (setD 3 (oS (b2 hMul (b2 hMul (vS 3) (b2 hIx (b2 hIx (vS 0) (vS 5)) (kS (.int 1)))) (b2 hIx (b2 hIx (vS 1) (vS 5)) (kS (.int 1)))))))
    (ρ := [some (.sh (.lst (as.map fr))), some (.sh (.lst (bs.map fr))), some (.sh (.int 0)), some (.sh (.int 1)), x', none])
    (fun i ρ g' => ∃ n d x, ρ = [some (.sh (.lst (as.map fr))), some (.sh (.lst (bs.map fr))), some (.sh (.int n)), some (.sh (.int d)), x', x] ∧ g' = g ∧ (n, d) = prodN 0 1 ((as.zip bs).take i) ∧ Sz (1 + i * (2 * k + 2)) n ∧ Sz (1 + i * (2 * k + 2)) d)
    ⟨0, 1, none, rfl, rfl, rfl, (show Sz 1 0 by unfold Sz; decide).mono (by omega), (show Sz 1 1 by unfold Sz; decide).mono (by omega)⟩ (by
    rintro i ρ g' hi ⟨n, d, x, rfl, rfl, e5, sn, sd2⟩
    have hib : i < bs.length := by omega
    have hA := ha _ (List.getElem_mem hi)
    have hB := hb _ (List.getElem_mem hib)
    have a1 : L2.atI (as.map fr) (i : Int) = some (fr as[i]) := L2.atI_nat (by rw [List.getElem?_map, List.getElem?_eq_getElem hi]; rfl)
    have a2 : L2.atI (bs.map fr) (i : Int) = some (fr bs[i]) := L2.atI_nat (by rw [List.getElem?_map, List.getElem?_eq_getElem hib]; rfl)
    have hli : (i + 1) * (2 * k + 2) ≤ as.length * (2 * k + 2) := Nat.mul_le_mul_right _ (by omega)
    rw [Nat.succ_mul] at hli
    have t1 : mulOk n as[i].2 = true := mulOk_of sn hA.d (by omega) (by omega)
    have t2 : mulOk (n * as[i].2) bs[i].2 = true := mulOk_of (sn.mul hA.d) hB.d (by omega) (by omega)
    have t3 : mulOk as[i].1 bs[i].1 = true := mulOk_of hA.n hB.n (by omega) (by omega)
    have t4 : mulOk (as[i].1 * bs[i].1) d = true := mulOk_of (hA.n.mul hB.n) sd2 (by omega) (by omega)
    have t5 : mulOk d as[i].2 = true := mulOk_of sd2 hA.d (by omega) (by omega)
    have t6 : mulOk (d * as[i].2) bs[i].2 = true := mulOk_of (sd2.mul hA.d) hB.d (by omega) (by omega)
    refine ⟨[some (.sh (.lst (as.map fr))), some (.sh (.lst (bs.map fr))), some (.sh (.int (n * as[i].2 * bs[i].2 + as[i].1 * bs[i].1 * d))), some (.sh (.int (d * as[i].2 * bs[i].2))), x', some (.sh (.int (i : Nat)))], g', ?_, _, _, _, rfl, rfl, ?_, ?_, ?_⟩
    · generalize as.map fr = R at *
      generalize bs.map fr = S at *
      simp [a1, a2, fr, t1, t2, t3, t4, t5, t6]
    · have : (as.zip bs)[i]? = some (as[i], bs[i]) := by
        rw [List.getElem?_eq_getElem (by rw [hz]; exact hi), List.getElem_zip]
      rw [List.take_add_one, this]
      show _ = prodN 0 1 (_ ++ [(as[i], bs[i])])
      rw [prodN_snoc, ← e5]
    · rw [Nat.succ_mul]
      exact (((sn.mul hA.d).mul hB.d).add ((hA.n.mul hB.n).mul sd2)).mono (by omega)
    · rw [Nat.succ_mul]
      exact ((sd2.mul hA.d).mul hB.d).mono (by omega))
  subst e3 e4
  rw [show (as.zip bs).take as.length = as.zip bs from List.take_of_length_le (by rw [hz]; exact Nat.le_refl _)] at e5
  have q2 := pdot_eq (as.zip bs) (0, 1) 0 1 (fun p hp => ⟨(ha _ (List.of_mem_zip hp).1).fr, (hb _ (List.of_mem_zip hp).2).fr⟩) one_szs.fr (by decide) rfl
  rw [← e5] at q2
  rw [hz] at sd
  have s2 := same_eq (g := g') sd (by omega) sn sd2 (by omega) q2
  have hlr : (as.map fr).length = as.length := by simp
  generalize as.map fr = R at *
  generalize bs.map fr = S at *
  simp [F_law_sums, B_law_sums, e1, et, s1, hlr, rngOk_of (show as.length ≤ 1000000 by omega), e2, ed, s2]
def Good (o : Option Fl) : Prop := ∃ g', o = some (.rt (.sh (.bl true)) g')
theorem good_seq {s t : SF} {ρ ρ' : Env} {g g' : GS} (h : s ρ g = some (.nx ρ' g')) (k : Good (t ρ' g')) : Good (seqD s t ρ g) := by
  obtain ⟨g2, e⟩ := k
  exact ⟨g2, by rw [ev_seq, h]; exact e⟩
theorem comp_ex {β : Type} {wf : WF} {f : OF} {ρ : Env} (P : β → Prop) (res : β → DV) : ∀ (xs : List SV) (g : GS), (∀ x ∈ xs, ∀ g, ∃ b g', ((wf x ρ).bind fun ρ' => f ρ' g) = some (res b, g') ∧ P b) →
    ∃ (bs : List β) (g' : GS), compL wf yesT f ρ xs g = some (bs.map res, g') ∧ bs.length = xs.length ∧ ∀ b ∈ bs, P b
  | [], g, _ => ⟨[], g, rfl, rfl, fun b h => absurd h List.not_mem_nil⟩
  | x :: xs, g, h => by
    obtain ⟨b, g1, e, hb⟩ := h x List.mem_cons_self g
    obtain ⟨bs, g2, e2, hl, hbs⟩ := comp_ex P res xs g1 fun y hy => h y (List.mem_cons_of_mem _ hy)
    obtain ⟨ρ', e3, e4⟩ := Option.bind_eq_some_iff.mp e
    refine ⟨b :: bs, g2, ?_, by rw [List.length_cons, List.length_cons, hl], fun c hc => ?_⟩
    · unfold compL
      rw [e3, Option.bind_some, ev_yes, Option.bind_some, if_pos rfl, e4, Option.bind_some, e2]
      rfl
    · rcases List.mem_cons.mp hc with z | z
      · subst z; exact hb
      · exact hbs c z
theorem rngL_len (lo : Int) (n : Nat) : (rngL lo n).length = n := by unfold rngL; simp
end DL

namespace DL
theorem fr_list (qs : List (Int × Int)) : (qs.map fun q => DV.sh (fr q)) = (qs.map fr).map DV.sh := by rw [List.map_map]; rfl
theorem atI_own {qs : List (Int × Int)} {i : Nat} (h : i < qs.length) : L2.atI ((qs.map fr).map DV.sh) (i : Int) = some (.sh (fr qs[i])) := L2.atI_nat (by rw [List.getElem?_map, List.getElem?_map, List.getElem?_eq_getElem h]; rfl)
theorem atI_frs {qs : List (Int × Int)} {i : Nat} (h : i < qs.length) : L2.atI (qs.map fr) (i : Int) = some (fr qs[i]) := L2.atI_nat (by rw [List.getElem?_map, List.getElem?_eq_getElem h]; rfl)
theorem ixN_nat {n i : Nat} (h : i < n) : L2.ixN n (i : Int) = some i := by
  unfold L2.ixN
  rw [if_pos (by omega), if_pos (by omega)]
  simp
abbrev E86 (M : Int) (big : Bool) (a b : DV) (t : List (Option DV)) : Env := none :: some (.sh .gen) :: some (.sh (.int M)) :: some (.sh (.bl big)) :: none :: some a :: some b :: t
theorem law_true (g : GS) : ∃ g', B_law ((List.replicate 11 none).set 1 (some (.sh .gen))) g = some (.rt (.sh (.bl true)) g') := by
  show Good _
  unfold B_law
  obtain ⟨r1, g1, e1, p1, q1⟩ := draw_eq g (b := 8) (by decide) (by decide)
  obtain ⟨n, hn, hn0, hn8⟩ : ∃ n : Nat, 1 + r1 = ((n : Nat) : Int) ∧ 0 < n ∧ n ≤ 8 := ⟨(1 + r1).toNat, by omega, by omega, by omega⟩
  refine good_seq (ρ' := [none, some (.sh .gen), some (.sh (.int n)), none, none, none, none, none, none, none, none]) (g' := g1) ?_ ?_
  · simp [e1, hn]
  obtain ⟨r2, g2, e2, p2, q2⟩ := draw_eq g1 (b := 4) (by decide) (by decide)
  obtain ⟨big, hbig⟩ : ∃ big : Bool, decide (r2 = 0) = big := ⟨_, rfl⟩
  refine good_seq (ρ' := [none, some (.sh .gen), some (.sh (.int n)), some (.sh (.bl big)), none, none, none, none, none, none, none]) (g' := g2) ?_ ?_
  · simp [e2, hbig]
  have hr : rngOk (n : Int) = true := rngOk_of (by omega)
  have hl : lenOk (rngL 0 n).length = true := by rw [rngL_len]; exact lenOk_of (by omega)
  obtain ⟨qs, g3, e3, l3, f3⟩ := comp_ex (wf := wN 4) (f := callF F_law_fraction (aC (vS 1) (aC (vS 3) (aN)))) (ρ := [none, some (.sh .gen), some (.sh (.int n)), some (.sh (.bl big)), none, none, none, none, none, none, none])
    (FrS 133) (fun q => DV.sh (fr q)) (rngL 0 n) g2 (fun x _ g => by
      obtain ⟨q, g', e, h⟩ := law_fraction_eq big g
      exact ⟨q, g', by simp [e], h⟩)
  rw [rngL_len] at l3
  rw [fr_list] at e3
  refine good_seq (ρ' := [none, some (.sh .gen), some (.sh (.int n)), some (.sh (.bl big)), none, some (.own ((qs.map fr).map .sh)), none, none, none, none, none]) (g' := g3) ?_ ?_
  · simp [-List.map_map, hr, hl, e3]
  obtain ⟨rs, g4, e4, l4, f4⟩ := comp_ex (wf := wN 4) (f := callF F_law_fraction (aC (vS 1) (aC (vS 3) (aN)))) (ρ := [none, some (.sh .gen), some (.sh (.int n)), some (.sh (.bl big)), none, some (.own ((qs.map fr).map .sh)), none, none, none, none, none])
    (FrS 133) (fun q => DV.sh (fr q)) (rngL 0 n) g3 (fun x _ g => by
      obtain ⟨q, g', e, h⟩ := law_fraction_eq big g
      exact ⟨q, g', by simp [e], h⟩)
  rw [rngL_len] at l4
  rw [fr_list] at e4
  refine good_seq (ρ' := E86 n big (.own ((qs.map fr).map .sh)) (.sh (.lst (rs.map fr))) [none, none, none, none]) (g' := g4) ?_ ?_
  · simp [-List.map_map, hr, hl, e4, frzEnv]
  obtain ⟨r5, g5, e5, p5, q5⟩ := draw_eq g4 (b := 3) (by decide) (by decide)
  obtain ⟨ps, g6, e6, l6, f6⟩ : ∃ (ps : List (Int × Int)) (g6 : GS), (frzD 5 (ifD (tB1 (b2 hEq (fz (callF drawF (aC (vS 1) (aC (kS (.int 3)) (aN))))) (kS (.int 0)))) (asgD (oS (un (ixP (vP 5) (fz (callF drawF (aC (vS 1) (aC (vS 2) (aN)))))))) (gIx 5 (fz (callF drawF (aC (vS 1) (aC (vS 2) (aN))))))) (skipD)))
      (E86 n big (.own ((qs.map fr).map .sh)) (.sh (.lst (rs.map fr))) [none, none, none, none]) g4 = some (.nx (E86 n big (.sh (.lst (ps.map fr))) (.sh (.lst (rs.map fr))) [none, none, none, none]) g6) ∧ ps.length = n ∧ ∀ q ∈ ps, FrS 133 q := by
    by_cases h0 : r5 = 0
    · subst h0
      obtain ⟨i, g6, e6, p6, q6⟩ := draw_eq g5 (b := (n : Int)) (by omega) (by omega)
      obtain ⟨j, g7, e7, p7, q7⟩ := draw_eq g6 (b := (n : Int)) (by omega) (by omega)
      obtain ⟨i, rfl⟩ : ∃ i' : Nat, i = i' := ⟨i.toNat, by omega⟩
      obtain ⟨j, rfl⟩ : ∃ j' : Nat, j = j' := ⟨j.toNat, by omega⟩
      have hi : i < qs.length := by omega
      have hj : j < ((qs.map fr).map DV.sh).length := by rw [List.length_map, List.length_map]; omega
      refine ⟨qs.set j qs[i], g7, ?_, by rw [List.length_set]; exact l3, fun q hq => ?_⟩
      · have es : ((qs.map fr).map DV.sh).set j (.sh (fr qs[i])) = ((qs.set j qs[i]).map fr).map DV.sh := by rw [List.map_set, List.map_set]
        have ea := atI_own hi
        have ej := ixN_nat hj
        simp only [List.length_map] at ej
        simp [-List.map_map, -List.map_set, e5, e6, e7, ea, ej, es, frzEnv]
      · rcases List.mem_or_eq_of_mem_set hq with h | h
        · exact f3 q h
        · subst h; exact f3 _ (List.getElem_mem hi)
    · exact ⟨qs, g5, by simp [-List.map_map, e5, h0, frzEnv], l3, f3⟩
  refine good_seq e6 ?_
  have z1 := same_eq (q := (0, 1)) (n := 0) (d := 1) (g := g6) one_szs (by decide) (l := 1) (by unfold Sz; decide) (by unfold Sz; decide) (by decide) rfl
  have z2 := same_eq (q := (1, 1)) (n := 1) (d := 1) (g := g6) (k := 1) ⟨by unfold Fr; decide, by unfold Sz; decide, by unfold Sz; decide⟩ (by decide) (l := 1) (by unfold Sz; decide) (by unfold Sz; decide) (by decide) rfl
  refine good_seq (ρ' := E86 n big (.sh (.lst (ps.map fr))) (.sh (.lst (rs.map fr))) [none, none, none, none]) (g' := g6) ?_ ?_
  · have c0 : c_ZERO = fr (0, 1) := rfl
    have c1 : c_ONE = fr (1, 1) := rfl
    simp [c0, c1, z1, z2]
  obtain ⟨a1, g7, e7, p7, q7⟩ := law_great_eq big g6
  obtain ⟨a2, g8, e8, p8, q8⟩ := law_great_eq big g7
  refine good_seq (ρ' := E86 n big (.sh (.lst (ps.map fr))) (.sh (.lst (rs.map fr))) [some (.sh (.int (a1 - a2))), none, none, none]) (g' := g8) ?_ ?_
  · simp [e7, e8]
  obtain ⟨a3, g9, e9, p9, q9⟩ := law_great_eq big g8
  refine good_seq (ρ' := E86 n big (.sh (.lst (ps.map fr))) (.sh (.lst (rs.map fr))) [some (.sh (.int (a1 - a2))), some (.sh (.int (1 + a3))), none, none]) (g' := g9) ?_ ?_
  · simp [e9]
  obtain ⟨a4, g10, e10, p10, q10⟩ := draw_eq g9 (b := 30) (by decide) (by decide)
  refine good_seq (ρ' := E86 n big (.sh (.lst (ps.map fr))) (.sh (.lst (rs.map fr))) [some (.sh (.int (a1 - a2))), some (.sh (.int (1 + a3))), some (.sh (.int (1 + a4))), none]) (g' := g10) ?_ ?_
  · simp [e10]
  obtain ⟨a5, g11, e11, p11, q11⟩ := draw_eq g10 (b := 2) (by decide) (by decide)
  obtain ⟨t, ht, ht0, hts⟩ : ∃ t : Int, (if a5 = 1 then -(1 + a4) else 1 + a4) = t ∧ t ≠ 0 ∧ Sz 5 t := ⟨_, rfl, by split <;> omega, by unfold Sz; split <;> omega⟩
  refine good_seq (ρ' := E86 n big (.sh (.lst (ps.map fr))) (.sh (.lst (rs.map fr))) [some (.sh (.int (a1 - a2))), some (.sh (.int (1 + a3))), some (.sh (.int t)), none]) (g' := g11) ?_ ?_
  · subst ht
    by_cases h1 : a5 = 1
    · subst h1; simp [e11]
    · simp [e11, h1]
  have sn : Sz 134 (a1 - a2) := (sz_10_40 p7 (by omega)).sub (sz_10_40 p8 (by omega))
  have sd : Sz 133 (1 + a3) := sz_10_40 (by omega) (by omega)
  have dn : (1 + a3) * t ≠ 0 := Int.mul_ne_zero (by omega) ht0
  have er := ratio_eq (g := g11) (n := (a1 - a2) * t) dn (sd.mul hts) (by decide)
  have fr1 := rat_szs (k := 139) dn ((sn.mul hts).mono (by decide)) ((sd.mul hts).mono (by decide))
  have es := same_eq (g := g11) (n := a1 - a2) (d := 1 + a3) fr1 (by decide) sn (sd.mono (by decide)) (by decide) (by
    have h := rat_eq (n := (a1 - a2) * t) dn
    apply Int.eq_of_mul_eq_mul_right ht0
    generalize rat ((a1 - a2) * t) ((1 + a3) * t) = R at *
    calc R.1 * (1 + a3) * t = R.1 * ((1 + a3) * t) := Int.mul_assoc _ _ _
      _ = (a1 - a2) * t * R.2 := h
      _ = (a1 - a2) * R.2 * t := by rw [Int.mul_assoc, Int.mul_comm t, ← Int.mul_assoc])
  refine good_seq (ρ' := E86 n big (.sh (.lst (ps.map fr))) (.sh (.lst (rs.map fr))) [some (.sh (.int (a1 - a2))), some (.sh (.int (1 + a3))), some (.sh (.int t)), none]) (g' := g11) ?_ ?_
  · have t1 : mulOk (a1 - a2) t = true := mulOk_of sn hts (by decide) (by decide)
    have t2 : mulOk (1 + a3) t = true := mulOk_of sd hts (by decide) (by decide)
    simp [t1, t2, er, es]
  refine good_seq (ρ' := E86 n big (.sh (.lst (ps.map fr))) (.sh (.lst (rs.map fr))) [some (.sh (.int (a1 - a2))), some (.sh (.int (1 + a3))), some (.sh (.int t)), some (.sh (.tup [.lst (ps.map fr), .lst (rs.map fr)]))]) (g' := g11) ?_ ?_
  · generalize ps.map fr = R at *
    generalize rs.map fr = S at *
    simp
  have h0 : 0 < ps.length := by omega
  obtain ⟨ρ', g', e12, x, e13, e14⟩ := loop_rng (gf := gN 4) (lo := 0) (n := n) (g := g11) (sb := ifD (tOr1 (tNot1 (tB1 (fz (callF F_law_pair (aC (b2 hIx (vS 5) (vS 4)) (aC (b2 hIx (vS 6) (vS 4)) (aN))))))) (tNot1 (tB1 (fz (callF F_law_pair (aC (b2 hIx (vS 5) (vS 4)) (aC (b2 hIx (vS 5) (kS (.int 0))) (aN)))))))) (retD (oS (kS (.bl false)))) (skipD))
    (ρ := E86 n big (.sh (.lst (ps.map fr))) (.sh (.lst (rs.map fr))) [some (.sh (.int (a1 - a2))), some (.sh (.int (1 + a3))), some (.sh (.int t)), some (.sh (.tup [.lst (ps.map fr), .lst (rs.map fr)]))])
    (fun i ρ g' => ∃ x, ρ = none :: some (.sh .gen) :: some (.sh (.int n)) :: some (.sh (.bl big)) :: x :: some (.sh (.lst (ps.map fr))) :: some (.sh (.lst (rs.map fr))) :: [some (.sh (.int (a1 - a2))), some (.sh (.int (1 + a3))), some (.sh (.int t)), some (.sh (.tup [.lst (ps.map fr), .lst (rs.map fr)]))] ∧ g' = g11) ⟨none, rfl, rfl⟩ (by
    rintro i ρ g' hi ⟨x, rfl, rfl⟩
    have i1 : i < ps.length := by omega
    have i2 : i < rs.length := by omega
    have b1 := atI_frs i1
    have b2 := atI_frs i2
    have b3 := atI_frs h0
    have c1 := law_pair_eq (g := g') (f6 _ (List.getElem_mem i1)) (f4 _ (List.getElem_mem i2)) (by decide)
    have c2 := law_pair_eq (g := g') (f6 _ (List.getElem_mem i1)) (f6 _ (List.getElem_mem h0)) (by decide)
    rw [show ((0 : Nat) : Int) = 0 from rfl] at b3
    refine ⟨none :: some (.sh .gen) :: some (.sh (.int n)) :: some (.sh (.bl big)) :: some (.sh (.int (i : Nat))) :: some (.sh (.lst (ps.map fr))) :: some (.sh (.lst (rs.map fr))) :: [some (.sh (.int (a1 - a2))), some (.sh (.int (1 + a3))), some (.sh (.int t)), some (.sh (.tup [.lst (ps.map fr), .lst (rs.map fr)]))], g', ?_, _, rfl, rfl⟩
    generalize ps.map fr = R at *
    generalize rs.map fr = S at *
    simp [b1, b2, b3, c1, c2])
  subst e13 e14
  refine good_seq (ρ' := none :: some (.sh .gen) :: some (.sh (.int n)) :: some (.sh (.bl big)) :: x :: some (.sh (.lst (ps.map fr))) :: some (.sh (.lst (rs.map fr))) :: [some (.sh (.int (a1 - a2))), some (.sh (.int (1 + a3))), some (.sh (.int t)), some (.sh (.tup [.lst (ps.map fr), .lst (rs.map fr)]))]) (g' := g') ?_ ?_
  · generalize ps.map fr = R at *
    generalize rs.map fr = S at *
    simp [hr, e12]
  obtain ⟨q0, qt, hps⟩ : ∃ q0 qt, ps = q0 :: qt := by
    cases ps with
    | nil => simp at h0
    | cons q0 qt => exact ⟨q0, qt, rfl⟩
  have k1 := law_ends_eq (g := g') (q := q0) (qs := qt) (fun x hx => f6 x (by rw [hps]; exact hx)) (by decide)
  rw [← hps] at k1
  have k2 := law_scaled_eq (g := g') f6 (by rw [l6]; omega) (by decide) (by omega)
  have k3 := law_scaled_eq (g := g') (qs := []) (k := 1) (fun q h => absurd h List.not_mem_nil) (by decide) (by decide) (by decide)
  have k4 := law_sums_eq (g := g') f6 f4 (by omega) (by omega) (by rw [l6]; omega)
  have k5 := law_sums_eq (g := g') (as := []) (bs := []) (k := 1) (fun q h => absurd h List.not_mem_nil) (fun q h => absurd h List.not_mem_nil) rfl (by decide) (by decide)
  rw [List.map_nil] at k3 k5
  refine good_seq (ρ' := none :: some (.sh .gen) :: some (.sh (.int n)) :: some (.sh (.bl big)) :: x :: some (.sh (.lst (ps.map fr))) :: some (.sh (.lst (rs.map fr))) :: [some (.sh (.int (a1 - a2))), some (.sh (.int (1 + a3))), some (.sh (.int t)), some (.sh (.tup [.lst (ps.map fr), .lst (rs.map fr)]))]) (g' := g') ?_ ?_
  · generalize ps.map fr = R at *
    generalize rs.map fr = S at *
    simp [k1, k2, k3]
  refine good_seq (ρ' := none :: some (.sh .gen) :: some (.sh (.int n)) :: some (.sh (.bl big)) :: x :: some (.sh (.lst (ps.map fr))) :: some (.sh (.lst (rs.map fr))) :: [some (.sh (.int (a1 - a2))), some (.sh (.int (1 + a3))), some (.sh (.int t)), some (.sh (.tup [.lst (ps.map fr), .lst (rs.map fr)]))]) (g' := g') ?_ ?_
  · generalize ps.map fr = R at *
    generalize rs.map fr = S at *
    simp [k4, k5]
  have hp1 := frs_pd ps
  have hp2 := frs_pd rs
  have hd1 := frs_dep ps
  have hd2 := frs_dep rs
  have fin : hEq (.tup [.lst (ps.map fr), .lst (rs.map fr)]) (.tup [.lst (ps.map fr), .lst (rs.map fr)]) = some (.bl true) := by
    refine hEq_tup (d := .tuple [.list (ps.map fun q => .tuple [.int q.1, .int q.2]), .list (rs.map fun q => .tuple [.int q.1, .int q.2])]) ?_ ?_
    · rw [SV.pd, SV.pds, hp1, Option.bind_some, SV.pds, hp2, Option.bind_some, SV.pds]; rfl
    · rw [SV.dep, SV.deps, SV.deps, SV.deps]
      omega
  generalize ps.map fr = R at *
  generalize rs.map fr = S at *
  exact ⟨g', by simp [fin]⟩
end DL

namespace DL
open PySem PySem.Spec L2
theorem all_mk {l : PySem.W.OpenLaw} {w : World} {K : Fg} {h : Heap} {mg : Str → Option Value} {fa : Addr} (X : K.In h) (G : h.Ns mainGlobals mg) (hfa : mg "law" = some (.ref fa))
  {a_ONE : Addr} {od_ONE : Option Addr} {n_ONE : Nat} {sl_ONE : Array (Option Value)} {t_ONE_0 t_ONE_1 : Tok}
  {a_ZERO : Addr} {od_ZERO : Option Addr} {n_ZERO : Nat} {sl_ZERO : Array (Option Value)} {t_ZERO_0 t_ZERO_1 : Tok}
  {f_law_draw : Addr} {od_law_draw an_law_draw : Option Addr} {sl_law_draw : Array (Option Value)} {oc_law_draw kV_law_draw dc_law_draw pm_law_draw cd_law_draw ct_law_draw : Value}
  {f_law_gcd : Addr} {od_law_gcd an_law_gcd : Option Addr} {sl_law_gcd : Array (Option Value)} {oc_law_gcd kV_law_gcd dc_law_gcd pm_law_gcd cd_law_gcd ct_law_gcd : Value}
  {f_law_is_integer : Addr} {od_law_is_integer an_law_is_integer : Option Addr} {sl_law_is_integer : Array (Option Value)} {oc_law_is_integer kV_law_is_integer dc_law_is_integer pm_law_is_integer cd_law_is_integer ct_law_is_integer : Value}
  {f_law_same : Addr} {od_law_same an_law_same : Option Addr} {sl_law_same : Array (Option Value)} {oc_law_same kV_law_same dc_law_same pm_law_same cd_law_same ct_law_same : Value}
  {f_compare : Addr} {od_compare an_compare : Option Addr} {sl_compare : Array (Option Value)} {oc_compare kV_compare dc_compare pm_compare cd_compare ct_compare : Value}
  {f_greatest : Addr} {od_greatest an_greatest : Option Addr} {sl_greatest : Array (Option Value)} {oc_greatest kV_greatest dc_greatest pm_greatest cd_greatest ct_greatest : Value}
  {f_least : Addr} {od_least an_least : Option Addr} {sl_least : Array (Option Value)} {oc_least kV_least dc_least pm_least cd_least ct_least : Value}
  {f_law_ends : Addr} {od_law_ends an_law_ends : Option Addr} {sl_law_ends : Array (Option Value)} {oc_law_ends kV_law_ends dc_law_ends pm_law_ends cd_law_ends ct_law_ends : Value}
  {f_law_great : Addr} {od_law_great an_law_great : Option Addr} {sl_law_great : Array (Option Value)} {oc_law_great kV_law_great dc_law_great pm_law_great cd_law_great ct_law_great : Value}
  {f_law_fraction : Addr} {od_law_fraction an_law_fraction : Option Addr} {sl_law_fraction : Array (Option Value)} {oc_law_fraction kV_law_fraction dc_law_fraction pm_law_fraction cd_law_fraction ct_law_fraction : Value}
  {f_ratio : Addr} {od_ratio an_ratio : Option Addr} {sl_ratio : Array (Option Value)} {oc_ratio kV_ratio dc_ratio pm_ratio cd_ratio ct_ratio : Value}
  {f_add : Addr} {od_add an_add : Option Addr} {sl_add : Array (Option Value)} {oc_add kV_add dc_add pm_add cd_add ct_add : Value}
  {f_div : Addr} {od_div an_div : Option Addr} {sl_div : Array (Option Value)} {oc_div kV_div dc_div pm_div cd_div ct_div : Value}
  {f_mul : Addr} {od_mul an_mul : Option Addr} {sl_mul : Array (Option Value)} {oc_mul kV_mul dc_mul pm_mul cd_mul ct_mul : Value}
  {f_sub : Addr} {od_sub an_sub : Option Addr} {sl_sub : Array (Option Value)} {oc_sub kV_sub dc_sub pm_sub cd_sub ct_sub : Value}
  {f_law_pair : Addr} {od_law_pair an_law_pair : Option Addr} {sl_law_pair : Array (Option Value)} {oc_law_pair kV_law_pair dc_law_pair pm_law_pair cd_law_pair ct_law_pair : Value}
  {f_scaled : Addr} {od_scaled an_scaled : Option Addr} {sl_scaled : Array (Option Value)} {oc_scaled kV_scaled dc_scaled pm_scaled cd_scaled ct_scaled : Value}
  {f_law_scaled : Addr} {od_law_scaled an_law_scaled : Option Addr} {sl_law_scaled : Array (Option Value)} {oc_law_scaled kV_law_scaled dc_law_scaled pm_law_scaled cd_law_scaled ct_law_scaled : Value}
  {f_law_start : Addr} {od_law_start an_law_start : Option Addr} {sl_law_start : Array (Option Value)} {oc_law_start kV_law_start dc_law_start pm_law_start cd_law_start ct_law_start : Value}
  {f_dot : Addr} {od_dot an_dot : Option Addr} {sl_dot : Array (Option Value)} {oc_dot kV_dot dc_dot pm_dot cd_dot ct_dot : Value}
  {f_total : Addr} {od_total an_total : Option Addr} {sl_total : Array (Option Value)} {oc_total kV_total dc_total pm_total cd_total ct_total : Value}
  {f_law_sums : Addr} {od_law_sums an_law_sums : Option Addr} {sl_law_sums : Array (Option Value)} {oc_law_sums kV_law_sums dc_law_sums pm_law_sums cd_law_sums ct_law_sums : Value}
  {f_law : Addr} {od_law an_law : Option Addr} {sl_law : Array (Option Value)} {oc_law kV_law dc_law pm_law cd_law ct_law : Value}
  (z_abs : PySem.W.nsIn K mainGlobals "abs" = some none)
  (z_bool : PySem.W.nsIn K mainGlobals "bool" = some none)
  (z_gcd : PySem.W.nsIn K mainGlobals "gcd" = some (some (.builtin "math.gcd")))
  (z_int : PySem.W.nsIn K mainGlobals "int" = some none)
  (z_isinstance : PySem.W.nsIn K mainGlobals "isinstance" = some none)
  (z_lcm : PySem.W.nsIn K mainGlobals "lcm" = some (some (.builtin "math.lcm")))
  (z_len : PySem.W.nsIn K mainGlobals "len" = some none)
  (z_list : PySem.W.nsIn K mainGlobals "list" = some none)
  (z_range : PySem.W.nsIn K mainGlobals "range" = some none)
  (z_tuple : PySem.W.nsIn K mainGlobals "tuple" = some none)
  (z_zip : PySem.W.nsIn K mainGlobals "zip" = some none)
  (g_ONE : PySem.W.nsIn K mainGlobals "ONE" = some (some (.ref a_ONE))) (l_ONE : K.lookup a_ONE = some ⟨.type "tuple", od_ONE, .seq #[.int 1 t_ONE_0, .int 1 t_ONE_1] n_ONE, sl_ONE⟩)
  (g_ZERO : PySem.W.nsIn K mainGlobals "ZERO" = some (some (.ref a_ZERO))) (l_ZERO : K.lookup a_ZERO = some ⟨.type "tuple", od_ZERO, .seq #[.int 0 t_ZERO_0, .int 1 t_ZERO_1] n_ZERO, sl_ZERO⟩)
  (a_law_draw : PySem.W.nsIn K mainGlobals "_law_draw" = some (some (.ref f_law_draw))) (l_law_draw : K.lookup f_law_draw = some ⟨oc_law_draw, od_law_draw, .func (PySem.W.fnOf "_law_draw" "_law_draw" (defArgs s_law_draw) (defBody s_law_draw) (defScope s_law_draw) .none kV_law_draw dc_law_draw pm_law_draw an_law_draw cd_law_draw ct_law_draw), sl_law_draw⟩) (c_law_draw : PySem.W.codeIn K cd_law_draw "_law_draw" = true) (k_law_draw : PySem.W.keepIn K (.ref f_law_draw) = true)
  (a_law_gcd : PySem.W.nsIn K mainGlobals "_law_gcd" = some (some (.ref f_law_gcd))) (l_law_gcd : K.lookup f_law_gcd = some ⟨oc_law_gcd, od_law_gcd, .func (PySem.W.fnOf "_law_gcd" "_law_gcd" (defArgs s_law_gcd) (defBody s_law_gcd) (defScope s_law_gcd) .none kV_law_gcd dc_law_gcd pm_law_gcd an_law_gcd cd_law_gcd ct_law_gcd), sl_law_gcd⟩) (c_law_gcd : PySem.W.codeIn K cd_law_gcd "_law_gcd" = true) (k_law_gcd : PySem.W.keepIn K (.ref f_law_gcd) = true)
  (a_law_is_integer : PySem.W.nsIn K mainGlobals "_law_is_integer" = some (some (.ref f_law_is_integer))) (l_law_is_integer : K.lookup f_law_is_integer = some ⟨oc_law_is_integer, od_law_is_integer, .func (PySem.W.fnOf "_law_is_integer" "_law_is_integer" (defArgs s_law_is_integer) (defBody s_law_is_integer) (defScope s_law_is_integer) .none kV_law_is_integer dc_law_is_integer pm_law_is_integer an_law_is_integer cd_law_is_integer ct_law_is_integer), sl_law_is_integer⟩) (c_law_is_integer : PySem.W.codeIn K cd_law_is_integer "_law_is_integer" = true) (k_law_is_integer : PySem.W.keepIn K (.ref f_law_is_integer) = true)
  (a_law_same : PySem.W.nsIn K mainGlobals "_law_same" = some (some (.ref f_law_same))) (l_law_same : K.lookup f_law_same = some ⟨oc_law_same, od_law_same, .func (PySem.W.fnOf "_law_same" "_law_same" (defArgs s_law_same) (defBody s_law_same) (defScope s_law_same) .none kV_law_same dc_law_same pm_law_same an_law_same cd_law_same ct_law_same), sl_law_same⟩) (c_law_same : PySem.W.codeIn K cd_law_same "_law_same" = true) (k_law_same : PySem.W.keepIn K (.ref f_law_same) = true)
  (a_compare : PySem.W.nsIn K mainGlobals "compare" = some (some (.ref f_compare))) (l_compare : K.lookup f_compare = some ⟨oc_compare, od_compare, .func (PySem.W.fnOf "compare" "compare" (defArgs s_compare) (defBody s_compare) (defScope s_compare) .none kV_compare dc_compare pm_compare an_compare cd_compare ct_compare), sl_compare⟩) (c_compare : PySem.W.codeIn K cd_compare "compare" = true) (k_compare : PySem.W.keepIn K (.ref f_compare) = true)
  (a_greatest : PySem.W.nsIn K mainGlobals "greatest" = some (some (.ref f_greatest))) (l_greatest : K.lookup f_greatest = some ⟨oc_greatest, od_greatest, .func (PySem.W.fnOf "greatest" "greatest" (defArgs s_greatest) (defBody s_greatest) (defScope s_greatest) .none kV_greatest dc_greatest pm_greatest an_greatest cd_greatest ct_greatest), sl_greatest⟩) (c_greatest : PySem.W.codeIn K cd_greatest "greatest" = true) (k_greatest : PySem.W.keepIn K (.ref f_greatest) = true)
  (a_least : PySem.W.nsIn K mainGlobals "least" = some (some (.ref f_least))) (l_least : K.lookup f_least = some ⟨oc_least, od_least, .func (PySem.W.fnOf "least" "least" (defArgs s_least) (defBody s_least) (defScope s_least) .none kV_least dc_least pm_least an_least cd_least ct_least), sl_least⟩) (c_least : PySem.W.codeIn K cd_least "least" = true) (k_least : PySem.W.keepIn K (.ref f_least) = true)
  (a_law_ends : PySem.W.nsIn K mainGlobals "_law_ends" = some (some (.ref f_law_ends))) (l_law_ends : K.lookup f_law_ends = some ⟨oc_law_ends, od_law_ends, .func (PySem.W.fnOf "_law_ends" "_law_ends" (defArgs s_law_ends) (defBody s_law_ends) (defScope s_law_ends) .none kV_law_ends dc_law_ends pm_law_ends an_law_ends cd_law_ends ct_law_ends), sl_law_ends⟩) (c_law_ends : PySem.W.codeIn K cd_law_ends "_law_ends" = true) (k_law_ends : PySem.W.keepIn K (.ref f_law_ends) = true)
  (a_law_great : PySem.W.nsIn K mainGlobals "_law_great" = some (some (.ref f_law_great))) (l_law_great : K.lookup f_law_great = some ⟨oc_law_great, od_law_great, .func (PySem.W.fnOf "_law_great" "_law_great" (defArgs s_law_great) (defBody s_law_great) (defScope s_law_great) .none kV_law_great dc_law_great pm_law_great an_law_great cd_law_great ct_law_great), sl_law_great⟩) (c_law_great : PySem.W.codeIn K cd_law_great "_law_great" = true) (k_law_great : PySem.W.keepIn K (.ref f_law_great) = true)
  (a_law_fraction : PySem.W.nsIn K mainGlobals "_law_fraction" = some (some (.ref f_law_fraction))) (l_law_fraction : K.lookup f_law_fraction = some ⟨oc_law_fraction, od_law_fraction, .func (PySem.W.fnOf "_law_fraction" "_law_fraction" (defArgs s_law_fraction) (defBody s_law_fraction) (defScope s_law_fraction) .none kV_law_fraction dc_law_fraction pm_law_fraction an_law_fraction cd_law_fraction ct_law_fraction), sl_law_fraction⟩) (c_law_fraction : PySem.W.codeIn K cd_law_fraction "_law_fraction" = true) (k_law_fraction : PySem.W.keepIn K (.ref f_law_fraction) = true)
  (a_ratio : PySem.W.nsIn K mainGlobals "ratio" = some (some (.ref f_ratio))) (l_ratio : K.lookup f_ratio = some ⟨oc_ratio, od_ratio, .func (PySem.W.fnOf "ratio" "ratio" (defArgs s_ratio) (defBody s_ratio) (defScope s_ratio) .none kV_ratio dc_ratio pm_ratio an_ratio cd_ratio ct_ratio), sl_ratio⟩) (c_ratio : PySem.W.codeIn K cd_ratio "ratio" = true) (k_ratio : PySem.W.keepIn K (.ref f_ratio) = true)
  (a_add : PySem.W.nsIn K mainGlobals "add" = some (some (.ref f_add))) (l_add : K.lookup f_add = some ⟨oc_add, od_add, .func (PySem.W.fnOf "add" "add" (defArgs s_add) (defBody s_add) (defScope s_add) .none kV_add dc_add pm_add an_add cd_add ct_add), sl_add⟩) (c_add : PySem.W.codeIn K cd_add "add" = true) (k_add : PySem.W.keepIn K (.ref f_add) = true)
  (a_div : PySem.W.nsIn K mainGlobals "div" = some (some (.ref f_div))) (l_div : K.lookup f_div = some ⟨oc_div, od_div, .func (PySem.W.fnOf "div" "div" (defArgs s_div) (defBody s_div) (defScope s_div) .none kV_div dc_div pm_div an_div cd_div ct_div), sl_div⟩) (c_div : PySem.W.codeIn K cd_div "div" = true) (k_div : PySem.W.keepIn K (.ref f_div) = true)
  (a_mul : PySem.W.nsIn K mainGlobals "mul" = some (some (.ref f_mul))) (l_mul : K.lookup f_mul = some ⟨oc_mul, od_mul, .func (PySem.W.fnOf "mul" "mul" (defArgs s_mul) (defBody s_mul) (defScope s_mul) .none kV_mul dc_mul pm_mul an_mul cd_mul ct_mul), sl_mul⟩) (c_mul : PySem.W.codeIn K cd_mul "mul" = true) (k_mul : PySem.W.keepIn K (.ref f_mul) = true)
  (a_sub : PySem.W.nsIn K mainGlobals "sub" = some (some (.ref f_sub))) (l_sub : K.lookup f_sub = some ⟨oc_sub, od_sub, .func (PySem.W.fnOf "sub" "sub" (defArgs s_sub) (defBody s_sub) (defScope s_sub) .none kV_sub dc_sub pm_sub an_sub cd_sub ct_sub), sl_sub⟩) (c_sub : PySem.W.codeIn K cd_sub "sub" = true) (k_sub : PySem.W.keepIn K (.ref f_sub) = true)
  (a_law_pair : PySem.W.nsIn K mainGlobals "_law_pair" = some (some (.ref f_law_pair))) (l_law_pair : K.lookup f_law_pair = some ⟨oc_law_pair, od_law_pair, .func (PySem.W.fnOf "_law_pair" "_law_pair" (defArgs s_law_pair) (defBody s_law_pair) (defScope s_law_pair) .none kV_law_pair dc_law_pair pm_law_pair an_law_pair cd_law_pair ct_law_pair), sl_law_pair⟩) (c_law_pair : PySem.W.codeIn K cd_law_pair "_law_pair" = true) (k_law_pair : PySem.W.keepIn K (.ref f_law_pair) = true)
  (a_scaled : PySem.W.nsIn K mainGlobals "scaled" = some (some (.ref f_scaled))) (l_scaled : K.lookup f_scaled = some ⟨oc_scaled, od_scaled, .func (PySem.W.fnOf "scaled" "scaled" (defArgs s_scaled) (defBody s_scaled) (defScope s_scaled) .none kV_scaled dc_scaled pm_scaled an_scaled cd_scaled ct_scaled), sl_scaled⟩) (c_scaled : PySem.W.codeIn K cd_scaled "scaled" = true) (k_scaled : PySem.W.keepIn K (.ref f_scaled) = true)
  (a_law_scaled : PySem.W.nsIn K mainGlobals "_law_scaled" = some (some (.ref f_law_scaled))) (l_law_scaled : K.lookup f_law_scaled = some ⟨oc_law_scaled, od_law_scaled, .func (PySem.W.fnOf "_law_scaled" "_law_scaled" (defArgs s_law_scaled) (defBody s_law_scaled) (defScope s_law_scaled) .none kV_law_scaled dc_law_scaled pm_law_scaled an_law_scaled cd_law_scaled ct_law_scaled), sl_law_scaled⟩) (c_law_scaled : PySem.W.codeIn K cd_law_scaled "_law_scaled" = true) (k_law_scaled : PySem.W.keepIn K (.ref f_law_scaled) = true)
  (a_law_start : PySem.W.nsIn K mainGlobals "_law_start" = some (some (.ref f_law_start))) (l_law_start : K.lookup f_law_start = some ⟨oc_law_start, od_law_start, .func (PySem.W.fnOf "_law_start" "_law_start" (defArgs s_law_start) (defBody s_law_start) (defScope s_law_start) .none kV_law_start dc_law_start pm_law_start an_law_start cd_law_start ct_law_start), sl_law_start⟩) (c_law_start : PySem.W.codeIn K cd_law_start "_law_start" = true) (k_law_start : PySem.W.keepIn K (.ref f_law_start) = true)
  (a_dot : PySem.W.nsIn K mainGlobals "dot" = some (some (.ref f_dot))) (l_dot : K.lookup f_dot = some ⟨oc_dot, od_dot, .func (PySem.W.fnOf "dot" "dot" (defArgs s_dot) (defBody s_dot) (defScope s_dot) .none kV_dot dc_dot pm_dot an_dot cd_dot ct_dot), sl_dot⟩) (c_dot : PySem.W.codeIn K cd_dot "dot" = true) (k_dot : PySem.W.keepIn K (.ref f_dot) = true)
  (a_total : PySem.W.nsIn K mainGlobals "total" = some (some (.ref f_total))) (l_total : K.lookup f_total = some ⟨oc_total, od_total, .func (PySem.W.fnOf "total" "total" (defArgs s_total) (defBody s_total) (defScope s_total) .none kV_total dc_total pm_total an_total cd_total ct_total), sl_total⟩) (c_total : PySem.W.codeIn K cd_total "total" = true) (k_total : PySem.W.keepIn K (.ref f_total) = true)
  (a_law_sums : PySem.W.nsIn K mainGlobals "_law_sums" = some (some (.ref f_law_sums))) (l_law_sums : K.lookup f_law_sums = some ⟨oc_law_sums, od_law_sums, .func (PySem.W.fnOf "_law_sums" "_law_sums" (defArgs s_law_sums) (defBody s_law_sums) (defScope s_law_sums) .none kV_law_sums dc_law_sums pm_law_sums an_law_sums cd_law_sums ct_law_sums), sl_law_sums⟩) (c_law_sums : PySem.W.codeIn K cd_law_sums "_law_sums" = true) (k_law_sums : PySem.W.keepIn K (.ref f_law_sums) = true)
  (a_law : PySem.W.nsIn K mainGlobals "law" = some (some (.ref f_law))) (l_law : K.lookup f_law = some ⟨oc_law, od_law, .func (PySem.W.fnOf "law" "law" (defArgs s_law) (defBody s_law) (defScope s_law) .none kV_law dc_law pm_law an_law cd_law ct_law), sl_law⟩) (c_law : PySem.W.codeIn K cd_law "law" = true) (k_law : PySem.W.keepIn K (.ref f_law) = true) :
    ∃ fd : FuncData, (∀ (s : Shared) (v : Value), BindsTo s fd ⟨[v], []⟩ [("script", v)]) ∧ ∀ base : Heap, K.In base → base.Ns mainGlobals mg → FnOk l.prog w K mg base CX0 5 fa fd ["script"] (spLaw K) := by
  have e := hfa.symm.trans (PySem.W.mg_of X G a_law)
  cases e
  let T : Txt K mg := {
    z_abs := PySem.W.mg_none_of X G z_abs
    z_bool := PySem.W.mg_none_of X G z_bool
    z_gcd := PySem.W.mg_of X G z_gcd
    z_int := PySem.W.mg_none_of X G z_int
    z_isinstance := PySem.W.mg_none_of X G z_isinstance
    z_lcm := PySem.W.mg_of X G z_lcm
    z_len := PySem.W.mg_none_of X G z_len
    z_list := PySem.W.mg_none_of X G z_list
    z_range := PySem.W.mg_none_of X G z_range
    z_tuple := PySem.W.mg_none_of X G z_tuple
    z_zip := PySem.W.mg_none_of X G z_zip
    a_ONE := a_ONE
    g_ONE := PySem.W.mg_of X G g_ONE
    r_ONE := fun W H => .tup (vs := [.int 1, .int 1]) (.inr ⟨_, _, _, l_ONE, rfl, rfl, (by show 2 ≤ sizeLine; decide), (.cons ⟨t_ONE_0, rfl⟩ (.cons ⟨t_ONE_1, rfl⟩ Paired.nil))⟩) (.cons .int (.cons .int RepSs.nil))
    a_ZERO := a_ZERO
    g_ZERO := PySem.W.mg_of X G g_ZERO
    r_ZERO := fun W H => .tup (vs := [.int 0, .int 1]) (.inr ⟨_, _, _, l_ZERO, rfl, rfl, (by show 2 ≤ sizeLine; decide), (.cons ⟨t_ZERO_0, rfl⟩ (.cons ⟨t_ZERO_1, rfl⟩ Paired.nil))⟩) (.cons .int (.cons .int RepSs.nil))
    a_law_draw := f_law_draw
    d_law_draw := _
    F_law_draw := fun_mk (st := s_law_draw) l_law_draw c_law_draw k_law_draw
    g_law_draw := PySem.W.mg_of X G a_law_draw
    b_law_draw := (fun_mk (st := s_law_draw) l_law_draw c_law_draw k_law_draw).binds (ps := ["state", "base"]) fun _ _ _ _ _ _ us hl => match us, hl with | [_, _], _ => rfl
    a_law_gcd := f_law_gcd
    d_law_gcd := _
    F_law_gcd := fun_mk (st := s_law_gcd) l_law_gcd c_law_gcd k_law_gcd
    g_law_gcd := PySem.W.mg_of X G a_law_gcd
    b_law_gcd := (fun_mk (st := s_law_gcd) l_law_gcd c_law_gcd k_law_gcd).binds (ps := ["a", "b"]) fun _ _ _ _ _ _ us hl => match us, hl with | [_, _], _ => rfl
    a_law_is_integer := f_law_is_integer
    d_law_is_integer := _
    F_law_is_integer := fun_mk (st := s_law_is_integer) l_law_is_integer c_law_is_integer k_law_is_integer
    g_law_is_integer := PySem.W.mg_of X G a_law_is_integer
    b_law_is_integer := (fun_mk (st := s_law_is_integer) l_law_is_integer c_law_is_integer k_law_is_integer).binds (ps := ["actual"]) fun _ _ _ _ _ _ us hl => match us, hl with | [_], _ => rfl
    a_law_same := f_law_same
    d_law_same := _
    F_law_same := fun_mk (st := s_law_same) l_law_same c_law_same k_law_same
    g_law_same := PySem.W.mg_of X G a_law_same
    b_law_same := (fun_mk (st := s_law_same) l_law_same c_law_same k_law_same).binds (ps := ["actual", "n", "d"]) fun _ _ _ _ _ _ us hl => match us, hl with | [_, _, _], _ => rfl
    a_compare := f_compare
    d_compare := _
    F_compare := fun_mk (st := s_compare) l_compare c_compare k_compare
    g_compare := PySem.W.mg_of X G a_compare
    b_compare := (fun_mk (st := s_compare) l_compare c_compare k_compare).binds (ps := ["a", "b"]) fun _ _ _ _ _ _ us hl => match us, hl with | [_, _], _ => rfl
    a_greatest := f_greatest
    d_greatest := _
    F_greatest := fun_mk (st := s_greatest) l_greatest c_greatest k_greatest
    g_greatest := PySem.W.mg_of X G a_greatest
    b_greatest := (fun_mk (st := s_greatest) l_greatest c_greatest k_greatest).binds (ps := ["fractions"]) fun _ _ _ _ _ _ us hl => match us, hl with | [_], _ => rfl
    a_least := f_least
    d_least := _
    F_least := fun_mk (st := s_least) l_least c_least k_least
    g_least := PySem.W.mg_of X G a_least
    b_least := (fun_mk (st := s_least) l_least c_least k_least).binds (ps := ["fractions"]) fun _ _ _ _ _ _ us hl => match us, hl with | [_], _ => rfl
    a_law_ends := f_law_ends
    d_law_ends := _
    F_law_ends := fun_mk (st := s_law_ends) l_law_ends c_law_ends k_law_ends
    g_law_ends := PySem.W.mg_of X G a_law_ends
    b_law_ends := (fun_mk (st := s_law_ends) l_law_ends c_law_ends k_law_ends).binds (ps := ["rows"]) fun _ _ _ _ _ _ us hl => match us, hl with | [_], _ => rfl
    a_law_great := f_law_great
    d_law_great := _
    F_law_great := fun_mk (st := s_law_great) l_law_great c_law_great k_law_great
    g_law_great := PySem.W.mg_of X G a_law_great
    b_law_great := (fun_mk (st := s_law_great) l_law_great c_law_great k_law_great).binds (ps := ["state", "big"]) fun _ _ _ _ _ _ us hl => match us, hl with | [_, _], _ => rfl
    a_law_fraction := f_law_fraction
    d_law_fraction := _
    F_law_fraction := fun_mk (st := s_law_fraction) l_law_fraction c_law_fraction k_law_fraction
    g_law_fraction := PySem.W.mg_of X G a_law_fraction
    b_law_fraction := (fun_mk (st := s_law_fraction) l_law_fraction c_law_fraction k_law_fraction).binds (ps := ["state", "big"]) fun _ _ _ _ _ _ us hl => match us, hl with | [_, _], _ => rfl
    a_ratio := f_ratio
    d_ratio := _
    F_ratio := fun_mk (st := s_ratio) l_ratio c_ratio k_ratio
    g_ratio := PySem.W.mg_of X G a_ratio
    b_ratio := (fun_mk (st := s_ratio) l_ratio c_ratio k_ratio).binds (ps := ["n", "d"]) fun _ _ _ _ _ _ us hl => match us, hl with | [_, _], _ => rfl
    a_add := f_add
    d_add := _
    F_add := fun_mk (st := s_add) l_add c_add k_add
    g_add := PySem.W.mg_of X G a_add
    b_add := (fun_mk (st := s_add) l_add c_add k_add).binds (ps := ["a", "b"]) fun _ _ _ _ _ _ us hl => match us, hl with | [_, _], _ => rfl
    a_div := f_div
    d_div := _
    F_div := fun_mk (st := s_div) l_div c_div k_div
    g_div := PySem.W.mg_of X G a_div
    b_div := (fun_mk (st := s_div) l_div c_div k_div).binds (ps := ["a", "b"]) fun _ _ _ _ _ _ us hl => match us, hl with | [_, _], _ => rfl
    a_mul := f_mul
    d_mul := _
    F_mul := fun_mk (st := s_mul) l_mul c_mul k_mul
    g_mul := PySem.W.mg_of X G a_mul
    b_mul := (fun_mk (st := s_mul) l_mul c_mul k_mul).binds (ps := ["a", "b"]) fun _ _ _ _ _ _ us hl => match us, hl with | [_, _], _ => rfl
    a_sub := f_sub
    d_sub := _
    F_sub := fun_mk (st := s_sub) l_sub c_sub k_sub
    g_sub := PySem.W.mg_of X G a_sub
    b_sub := (fun_mk (st := s_sub) l_sub c_sub k_sub).binds (ps := ["a", "b"]) fun _ _ _ _ _ _ us hl => match us, hl with | [_, _], _ => rfl
    a_law_pair := f_law_pair
    d_law_pair := _
    F_law_pair := fun_mk (st := s_law_pair) l_law_pair c_law_pair k_law_pair
    g_law_pair := PySem.W.mg_of X G a_law_pair
    b_law_pair := (fun_mk (st := s_law_pair) l_law_pair c_law_pair k_law_pair).binds (ps := ["a", "b"]) fun _ _ _ _ _ _ us hl => match us, hl with | [_, _], _ => rfl
    a_scaled := f_scaled
    d_scaled := _
    F_scaled := fun_mk (st := s_scaled) l_scaled c_scaled k_scaled
    g_scaled := PySem.W.mg_of X G a_scaled
    b_scaled := (fun_mk (st := s_scaled) l_scaled c_scaled k_scaled).binds (ps := ["fractions"]) fun _ _ _ _ _ _ us hl => match us, hl with | [_], _ => rfl
    a_law_scaled := f_law_scaled
    d_law_scaled := _
    F_law_scaled := fun_mk (st := s_law_scaled) l_law_scaled c_law_scaled k_law_scaled
    g_law_scaled := PySem.W.mg_of X G a_law_scaled
    b_law_scaled := (fun_mk (st := s_law_scaled) l_law_scaled c_law_scaled k_law_scaled).binds (ps := ["rows"]) fun _ _ _ _ _ _ us hl => match us, hl with | [_], _ => rfl
    a_law_start := f_law_start
    d_law_start := _
    F_law_start := fun_mk (st := s_law_start) l_law_start c_law_start k_law_start
    g_law_start := PySem.W.mg_of X G a_law_start
    b_law_start := (fun_mk (st := s_law_start) l_law_start c_law_start k_law_start).binds (ps := ["script"]) fun _ _ _ _ _ _ us hl => match us, hl with | [_], _ => rfl
    a_dot := f_dot
    d_dot := _
    F_dot := fun_mk (st := s_dot) l_dot c_dot k_dot
    g_dot := PySem.W.mg_of X G a_dot
    b_dot := (fun_mk (st := s_dot) l_dot c_dot k_dot).binds (ps := ["first", "second"]) fun _ _ _ _ _ _ us hl => match us, hl with | [_, _], _ => rfl
    a_total := f_total
    d_total := _
    F_total := fun_mk (st := s_total) l_total c_total k_total
    g_total := PySem.W.mg_of X G a_total
    b_total := (fun_mk (st := s_total) l_total c_total k_total).binds (ps := ["fractions"]) fun _ _ _ _ _ _ us hl => match us, hl with | [_], _ => rfl
    a_law_sums := f_law_sums
    d_law_sums := _
    F_law_sums := fun_mk (st := s_law_sums) l_law_sums c_law_sums k_law_sums
    g_law_sums := PySem.W.mg_of X G a_law_sums
    b_law_sums := (fun_mk (st := s_law_sums) l_law_sums c_law_sums k_law_sums).binds (ps := ["rows", "others"]) fun _ _ _ _ _ _ us hl => match us, hl with | [_, _], _ => rfl
    a_law := fa
    d_law := _
    F_law := fun_mk (st := s_law) l_law c_law k_law
    g_law := PySem.W.mg_of X G a_law
    b_law := (fun_mk (st := s_law) l_law c_law k_law).binds (ps := ["script"]) fun _ _ _ _ _ _ us hl => match us, hl with | [_], _ => rfl }
  exact ⟨T.d_law, fun s v => .of_eq rfl, fun base _ _ => ok_law T law_true⟩
end DL
open PySem PySem.W
set_option maxHeartbeats 0 in
theorem PySem.Challenge.cw_soldtoworths_k86_exact_fractions_holds : PySem.Challenge.rw_soldtoworths_k86_exact_fractions.Holds := by
  w_on; o_law; k_head; (case hw => w_witness2)
  k_fill
  refine L2.walk_of (l := PySem.Challenge.rw_soldtoworths_k86_exact_fractions) (n := 63) (k := 5) (x := "script") (CX := fun _ => L2.CX0) (sp := fun w => DL.spLaw _) rfl (by decide) rfl ⟨rfl, by decide, by decide⟩ (fun w h Y => PySem.W.kIn_of Y) ?F (fun _ _ a ns hl _ hS => ⟨a, ns, rfl, hS, hl, fun _ => rfl⟩) (fun _ _ _ _ _ h => h)
  case F =>
    intro w mg fa h KX G hmg
    refine' DL.all_mk KX G hmg ?z_abs ?z_bool ?z_gcd ?z_int ?z_isinstance ?z_lcm ?z_len ?z_list ?z_range ?z_tuple ?z_zip ?g_ONE ?l_ONE ?g_ZERO ?l_ZERO ?a_law_draw ?l_law_draw ?c_law_draw ?k_law_draw ?a_law_gcd ?l_law_gcd ?c_law_gcd ?k_law_gcd ?a_law_is_integer ?l_law_is_integer ?c_law_is_integer ?k_law_is_integer ?a_law_same ?l_law_same ?c_law_same ?k_law_same ?a_compare ?l_compare ?c_compare ?k_compare ?a_greatest ?l_greatest ?c_greatest ?k_greatest ?a_least ?l_least ?c_least ?k_least ?a_law_ends ?l_law_ends ?c_law_ends ?k_law_ends ?a_law_great ?l_law_great ?c_law_great ?k_law_great ?a_law_fraction ?l_law_fraction ?c_law_fraction ?k_law_fraction ?a_ratio ?l_ratio ?c_ratio ?k_ratio ?a_add ?l_add ?c_add ?k_add ?a_div ?l_div ?c_div ?k_div ?a_mul ?l_mul ?c_mul ?k_mul ?a_sub ?l_sub ?c_sub ?k_sub ?a_law_pair ?l_law_pair ?c_law_pair ?k_law_pair ?a_scaled ?l_scaled ?c_scaled ?k_scaled ?a_law_scaled ?l_law_scaled ?c_law_scaled ?k_law_scaled ?a_law_start ?l_law_start ?c_law_start ?k_law_start ?a_dot ?l_dot ?c_dot ?k_dot ?a_total ?l_total ?c_total ?k_total ?a_law_sums ?l_law_sums ?c_law_sums ?k_law_sums ?a_law ?l_law ?c_law ?k_law
    (case z_abs => k_is); (case z_bool => k_is); (case z_gcd => k_is); (case z_int => k_is); (case z_isinstance => k_is); (case z_lcm => k_is); (case z_len => k_is); (case z_list => k_is); (case z_range => k_is); (case z_tuple => k_is); (case z_zip => k_is); (case g_ONE => k_is); (case l_ONE => k_is); (case g_ZERO => k_is); (case l_ZERO => k_is); (case a_law_draw => k_is); (case l_law_draw => k_is); (case c_law_draw => k_is); (case k_law_draw => k_is); (case a_law_gcd => k_is); (case l_law_gcd => k_is); (case c_law_gcd => k_is); (case k_law_gcd => k_is); (case a_law_is_integer => k_is); (case l_law_is_integer => k_is); (case c_law_is_integer => k_is); (case k_law_is_integer => k_is); (case a_law_same => k_is); (case l_law_same => k_is); (case c_law_same => k_is); (case k_law_same => k_is); (case a_compare => k_is); (case l_compare => k_is); (case c_compare => k_is); (case k_compare => k_is); (case a_greatest => k_is); (case l_greatest => k_is); (case c_greatest => k_is); (case k_greatest => k_is); (case a_least => k_is); (case l_least => k_is); (case c_least => k_is); (case k_least => k_is); (case a_law_ends => k_is); (case l_law_ends => k_is); (case c_law_ends => k_is); (case k_law_ends => k_is); (case a_law_great => k_is); (case l_law_great => k_is); (case c_law_great => k_is); (case k_law_great => k_is); (case a_law_fraction => k_is); (case l_law_fraction => k_is); (case c_law_fraction => k_is); (case k_law_fraction => k_is); (case a_ratio => k_is); (case l_ratio => k_is); (case c_ratio => k_is); (case k_ratio => k_is); (case a_add => k_is); (case l_add => k_is); (case c_add => k_is); (case k_add => k_is); (case a_div => k_is); (case l_div => k_is); (case c_div => k_is); (case k_div => k_is); (case a_mul => k_is); (case l_mul => k_is); (case c_mul => k_is); (case k_mul => k_is); (case a_sub => k_is); (case l_sub => k_is); (case c_sub => k_is); (case k_sub => k_is); (case a_law_pair => k_is); (case l_law_pair => k_is); (case c_law_pair => k_is); (case k_law_pair => k_is); (case a_scaled => k_is); (case l_scaled => k_is); (case c_scaled => k_is); (case k_scaled => k_is); (case a_law_scaled => k_is); (case l_law_scaled => k_is); (case c_law_scaled => k_is); (case k_law_scaled => k_is); (case a_law_start => k_is); (case l_law_start => k_is); (case c_law_start => k_is); (case k_law_start => k_is); (case a_dot => k_is); (case l_dot => k_is); (case c_dot => k_is); (case k_dot => k_is); (case a_total => k_is); (case l_total => k_is); (case c_total => k_is); (case k_total => k_is); (case a_law_sums => k_is); (case l_law_sums => k_is); (case c_law_sums => k_is); (case k_law_sums => k_is); (case a_law => k_is); (case l_law => k_is); (case c_law => k_is); (case k_law => k_is)

