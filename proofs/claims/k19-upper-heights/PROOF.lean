import PyProof.Rows.All
import Wide.All
import OpenK.AllK
import Wide.FinOn
import HandS.ForMost
import HandS.Gcd
import HandS.Wide
import HandS.IsInst
import HandS.Deep
import HandS.TupAny
import KE.KMathG
import HandS.SortInts
import HandS.Zip
import HandS.Rev
import HandS.Defaults
import HandS.MakeKwOnly
import HandS.SortKw
import HandS.Iter
import KE.KSortedM
import PySem.Challenge.RW_soldtoworths_k19_upper_heights
set_option Elab.async false
set_option linter.all false
set_option maxRecDepth 100000
set_option maxHeartbeats 4000000
/-! DL0: data by value over the hand layer. -/
namespace DL
open PySem PySem.Spec L2

/-! ### values by content -/
inductive SV where
  | non | bl (b : Bool) | int (i : Int) | str (x : Str) | tup (xs : List SV) | lst (xs : List SV) | raw (v : V) | gen
inductive DV where
  | sh (s : SV) | own (xs : List DV)
structure GS where
  cells : List Int
  rests : List Int
  turn : Int
  ok : 0 < cells.length ∧ rests.length = cells.length
abbrev Wd := Option (Addr × Addr × Addr)
def Wd.as : Wd → List Addr
  | none => []
  | some (a, b, c) => [a, b, c]
def msk (O : List Addr) (H : Hp) : Hp := fun b => if b ∈ O then none else H b
abbrev Fg := PySem.W.Frag

mutual
inductive RepS (K : Fg) (W : Wd) (H : Hp) : V → SV → Prop
  | non : RepS K W H .non .non
  | bl {b : Bool} : RepS K W H (.bl b) (.bl b)
  | int {i : Int} : RepS K W H (.int i) (.int i)
  | str {x : Str} : RepS K W H (.str x) (.str x)
  | raw {v : V} : RepS K W H v (.raw v)
  | gen {a b c : Addr} (h : W = some (a, b, c)) : RepS K W H (.ref a) .gen
  | tup {a : Addr} {vs : List V} {xs : List SV} (h : SqT K H a vs) (r : RepSs K W H vs xs) : RepS K W H (.ref a) (.tup xs)
  | lst {a : Addr} {vs : List V} {xs : List SV} (h : H a = some (.lst vs)) (r : RepSs K W H vs xs) : RepS K W H (.ref a) (.lst xs)
inductive RepSs (K : Fg) (W : Wd) (H : Hp) : List V → List SV → Prop
  | nil : RepSs K W H [] []
  | cons {v : V} {vs : List V} {x : SV} {xs : List SV} (h : RepS K W H v x) (t : RepSs K W H vs xs) : RepSs K W H (v :: vs) (x :: xs)
end
mutual
inductive Rep (K : Fg) (W : Wd) (O : List Addr) (H : Hp) : V → DV → List Addr → Prop
  | sh {v : V} {s : SV} (h : RepS K W (msk O H) v s) : Rep K W O H v (.sh s) []
  | own {a : Addr} {vs : List V} {ds : List DV} {fp : List Addr} (ha : a ∈ O) (hw : a ∉ W.as) (h : H a = some (.lst vs)) (r : Reps K W O H vs ds fp) : Rep K W O H (.ref a) (.own ds) (a :: fp)
inductive Reps (K : Fg) (W : Wd) (O : List Addr) (H : Hp) : List V → List DV → List Addr → Prop
  | nil : Reps K W O H [] [] []
  | cons {v : V} {vs : List V} {d : DV} {ds : List DV} {fp fq : List Addr} (h : Rep K W O H v d fp) (t : Reps K W O H vs ds fq) : Reps K W O H (v :: vs) (d :: ds) (fp ++ fq)
end

theorem sqT_mono {K : Fg} {H H' : Hp} {a : Addr} {xs : List V} (e : Same H H') (h : SqT K H a xs) : SqT K H' a xs := by
  rcases h with (h | ⟨o, h⟩) | h
  · exact .inl (.inl (e _ _ h))
  · exact .inl (.inr ⟨o, e _ _ h⟩)
  · exact .inr h
section
variable {K : Fg} {W : Wd} {H H' : Hp} {O O' : List Addr}
mutual
theorem RepS.mono (e : Same H H') : ∀ {v : V} {s : SV}, RepS K W H v s → RepS K W H' v s
  | _, _, .non => .non
  | _, _, .bl => .bl
  | _, _, .int => .int
  | _, _, .str => .str
  | _, _, .raw => .raw
  | _, _, .gen h => .gen h
  | _, _, .tup h r => .tup (sqT_mono e h) (RepSs.mono e r)
  | _, _, .lst h r => .lst (e _ _ h) (RepSs.mono e r)
theorem RepSs.mono (e : Same H H') : ∀ {vs : List V} {xs : List SV}, RepSs K W H vs xs → RepSs K W H' vs xs
  | _, _, .nil => .nil
  | _, _, .cons h t => .cons (RepS.mono e h) (RepSs.mono e t)
end
/-- the draws' state alone may change -/
def Ext (W : Wd) (H H' : Hp) : Prop := ∀ b o, b ∉ W.as → H b = some o → H' b = some o
theorem Ext.refl : Ext W H H := fun _ _ _ h => h
theorem Ext.trans {H1 H2 : Hp} (a : Ext W H H1) (b : Ext W H1 H2) : Ext W H H2 := fun c o n h => b c o n (a c o n h)
theorem Same.ext (e : Same H H') : Ext W H H' := fun b o _ h => e b o h
mutual
theorem Rep.mono (hm : Same (msk O H) (msk O' H')) (e : Ext W H H') : ∀ {v : V} {d : DV} {fp : List Addr}, (∀ a ∈ fp, a ∈ O') → Rep K W O H v d fp → Rep K W O' H' v d fp
  | _, _, _, _, .sh h => .sh (RepS.mono hm h)
  | _, _, _, ho, .own ha hw h r => .own (ho _ List.mem_cons_self) hw (e _ _ hw h) (Reps.mono hm e (fun b hb => ho b (List.mem_cons_of_mem _ hb)) r)
theorem Reps.mono (hm : Same (msk O H) (msk O' H')) (e : Ext W H H') : ∀ {vs : List V} {ds : List DV} {fp : List Addr}, (∀ a ∈ fp, a ∈ O') → Reps K W O H vs ds fp → Reps K W O' H' vs ds fp
  | _, _, _, _, .nil => .nil
  | _, _, _, ho, .cons h t => .cons (Rep.mono hm e (fun b hb => ho b (List.mem_append_left _ hb)) h) (Reps.mono hm e (fun b hb => ho b (List.mem_append_right _ hb)) t)
end
mutual
theorem Rep.inO : ∀ {v : V} {d : DV} {fp : List Addr}, Rep K W O H v d fp → ∀ a ∈ fp, a ∈ O ∧ a ∉ W.as ∧ H a ≠ none
  | _, _, _, .sh _, a, h => by simp at h
  | _, _, _, .own ha hw h r, a, m => by
    rcases List.mem_cons.mp m with e | m
    · subst e; exact ⟨ha, hw, by rw [h]; simp⟩
    · exact Reps.inO r a m
theorem Reps.inO : ∀ {vs : List V} {ds : List DV} {fp : List Addr}, Reps K W O H vs ds fp → ∀ a ∈ fp, a ∈ O ∧ a ∉ W.as ∧ H a ≠ none
  | _, _, _, .nil, a, h => by simp at h
  | _, _, _, .cons h t, a, m => by
    rcases List.mem_append.mp m with m | m
    · exact Rep.inO h a m
    · exact Reps.inO t a m
end
theorem Reps.length : ∀ {vs : List V} {ds : List DV} {fp : List Addr}, Reps K W O H vs ds fp → vs.length = ds.length
  | _, _, _, .nil => rfl
  | _, _, _, .cons _ t => by rw [List.length_cons, List.length_cons, Reps.length t]
theorem RepSs.length : ∀ {vs : List V} {xs : List SV}, RepSs K W H vs xs → vs.length = xs.length
  | _, _, .nil => rfl
  | _, _, .cons _ t => by rw [List.length_cons, List.length_cons, RepSs.length t]
theorem RepSs.get : ∀ {vs : List V} {xs : List SV} {i : Nat} {x : SV}, RepSs K W H vs xs → xs[i]? = some x → ∃ v, vs[i]? = some v ∧ RepS K W H v x
  | _, _, _, _, .nil, h => by simp at h
  | _, _, 0, _, .cons h t, e => by
    have e' := Option.some.inj e
    subst e'
    exact ⟨_, rfl, h⟩
  | _, _, i + 1, _, .cons h t, e => by
    obtain ⟨v, e1, r⟩ := RepSs.get (i := i) t (by simpa using e)
    exact ⟨v, by simpa using e1, r⟩
theorem Reps.get : ∀ {vs : List V} {ds : List DV} {fp : List Addr} {i : Nat} {d : DV}, Reps K W O H vs ds fp → ds[i]? = some d → ∃ v fq, vs[i]? = some v ∧ Rep K W O H v d fq
  | _, _, _, _, _, .nil, h => by simp at h
  | _, _, _, 0, _, .cons h t, e => by
    have e' := Option.some.inj e
    subst e'
    exact ⟨_, _, rfl, h⟩
  | _, _, _, i + 1, _, .cons h t, e => by
    obtain ⟨v, fq, e1, r⟩ := Reps.get (i := i) t (by simpa using e)
    exact ⟨v, fq, by simpa using e1, r⟩
theorem RepSs.append : ∀ {vs ws : List V} {xs ys : List SV}, RepSs K W H vs xs → RepSs K W H ws ys → RepSs K W H (vs ++ ws) (xs ++ ys)
  | _, _, _, _, .nil, r => r
  | _, _, _, _, .cons h t, r => .cons h (RepSs.append t r)
theorem Reps.append : ∀ {vs ws : List V} {xs ys : List DV} {fp fq : List Addr}, Reps K W O H vs xs fp → Reps K W O H ws ys fq → Reps K W O H (vs ++ ws) (xs ++ ys) (fp ++ fq)
  | _, _, _, _, _, _, .nil, r => r
  | _, _, _, _, _, _, .cons h t, r => by
    rw [List.append_assoc]
    exact .cons h (Reps.append t r)
theorem Reps.ofS : ∀ {vs : List V} {xs : List SV}, RepSs K W (msk O H) vs xs → Reps K W O H vs (xs.map DV.sh) []
  | _, _, .nil => .nil
  | _, _, .cons h t => .cons (fp := []) (.sh h) (Reps.ofS t)
theorem Reps.toS : ∀ {vs : List V} {xs : List SV} {fp : List Addr}, Reps K W O H vs (xs.map DV.sh) fp → RepSs K W (msk O H) vs xs ∧ fp = []
  | _, [], _, .nil => ⟨.nil, rfl⟩
  | _, x :: xs, _, .cons (.sh h) t => by
    obtain ⟨r, e⟩ := Reps.toS t
    subst e
    exact ⟨.cons h r, rfl⟩
end
mutual
def DV.frz : DV → SV
  | .sh s => s
  | .own ds => .lst (DV.frzs ds)
def DV.frzs : List DV → List SV
  | [] => []
  | d :: ds => d.frz :: DV.frzs ds
end
theorem frzs_sh : ∀ xs : List SV, DV.frzs (xs.map DV.sh) = xs
  | [] => rfl
  | x :: xs => by simp [DV.frzs, DV.frz, frzs_sh xs]
section
variable {K : Fg} {W : Wd} {H H' : Hp} {O O' : List Addr}
theorem msk_le (h : ∀ b, b ∈ O' → b ∈ O) : Same (msk O H) (msk O' H) := fun b o e => by
  unfold msk at *
  by_cases hb : b ∈ O
  · rw [if_pos hb] at e; cases e
  · rw [if_neg hb] at e
    rw [if_neg fun z => hb (h b z)]
    exact e
theorem msk_get {b : Addr} {o : HO} (h : b ∉ O) (e : H b = some o) : msk O H b = some o := by unfold msk; rw [if_neg h]; exact e
theorem of_msk {b : Addr} {o : HO} (e : msk O H b = some o) : H b = some o ∧ b ∉ O := by
  unfold msk at e
  by_cases hb : b ∈ O
  · rw [if_pos hb] at e; cases e
  · rw [if_neg hb] at e; exact ⟨e, hb⟩
mutual
theorem Rep.freeze (hO : ∀ b, b ∈ O' → b ∈ O) : ∀ {v : V} {d : DV} {fp : List Addr}, (∀ a ∈ fp, a ∉ O') → Rep K W O H v d fp → RepS K W (msk O' H) v d.frz
  | _, _, _, _, .sh h => by unfold DV.frz; exact RepS.mono (msk_le hO) h
  | _, _, _, ho, .own ha hw h r => by
    unfold DV.frz
    exact .lst (msk_get (ho _ List.mem_cons_self) h) (Reps.freeze hO (fun b hb => ho b (List.mem_cons_of_mem _ hb)) r)
theorem Reps.freeze (hO : ∀ b, b ∈ O' → b ∈ O) : ∀ {vs : List V} {ds : List DV} {fp : List Addr}, (∀ a ∈ fp, a ∉ O') → Reps K W O H vs ds fp → RepSs K W (msk O' H) vs (DV.frzs ds)
  | _, _, _, _, .nil => by unfold DV.frzs; exact .nil
  | _, _, _, ho, .cons h t => by
    unfold DV.frzs
    exact .cons (Rep.freeze hO (fun b hb => ho b (List.mem_append_left _ hb)) h) (Reps.freeze hO (fun b hb => ho b (List.mem_append_right _ hb)) t)
end
end

/-! ### the slots -/
abbrev Env := List (Option DV)
inductive ERep (K : Fg) (W : Wd) (O : List Addr) (H : Hp) : St → Env → List Addr → Prop
  | nil : ERep K W O H [] [] []
  | non {x : Option V} {σ : St} {ρ : Env} {fp : List Addr} (t : ERep K W O H σ ρ fp) : ERep K W O H (x :: σ) (none :: ρ) fp
  | som {v : V} {d : DV} {σ : St} {ρ : Env} {fp fq : List Addr} (h : Rep K W O H v d fp) (t : ERep K W O H σ ρ fq) : ERep K W O H (some v :: σ) (some d :: ρ) (fp ++ fq)
section
variable {K : Fg} {W : Wd} {H H' : Hp} {O O' : List Addr}
theorem ERep.mono (hm : Same (msk O H) (msk O' H')) (e : Ext W H H') : ∀ {σ : St} {ρ : Env} {fp : List Addr}, (∀ a ∈ fp, a ∈ O') → ERep K W O H σ ρ fp → ERep K W O' H' σ ρ fp
  | _, _, _, _, .nil => .nil
  | _, _, _, ho, .non t => .non (ERep.mono hm e ho t)
  | _, _, _, ho, .som h t => .som (Rep.mono hm e (fun b hb => ho b (List.mem_append_left _ hb)) h) (ERep.mono hm e (fun b hb => ho b (List.mem_append_right _ hb)) t)
theorem ERep.inO : ∀ {σ : St} {ρ : Env} {fp : List Addr}, ERep K W O H σ ρ fp → ∀ a ∈ fp, a ∈ O ∧ a ∉ W.as ∧ H a ≠ none
  | _, _, _, .nil, a, h => by simp at h
  | _, _, _, .non t, a, h => ERep.inO t a h
  | _, _, _, .som h t, a, m => by
    rcases List.mem_append.mp m with m | m
    · exact Rep.inO h a m
    · exact ERep.inO t a m
/-- a slot, and the rest -/
theorem ERep.at : ∀ {σ : St} {ρ : Env} {fp : List Addr} {i : Nat} {d : DV}, ERep K W O H σ ρ fp → ρ[i]? = some (some d) →
    ∃ v fq, σ[i]? = some (some v) ∧ Rep K W O H v d fq ∧ ∀ a ∈ fq, a ∈ fp
  | _, _, _, _, _, .nil, h => by simp at h
  | _, _, _, 0, _, .non t, h => by cases (Option.some.inj h)
  | _, _, _, i + 1, _, .non t, h => by
    obtain ⟨v, fq, e, r, hs⟩ := ERep.at (i := i) t (by simpa using h)
    exact ⟨v, fq, by simpa using e, r, hs⟩
  | _, _, _, 0, _, .som r t, h => by
    cases (Option.some.inj (Option.some.inj h))
    exact ⟨_, _, rfl, r, fun a m => List.mem_append_left _ m⟩
  | _, _, _, i + 1, _, .som r t, h => by
    obtain ⟨v, fq, e, r, hs⟩ := ERep.at (i := i) t (by simpa using h)
    exact ⟨v, fq, by simpa using e, r, fun a m => List.mem_append_right _ (hs a m)⟩
/-- a slot is stored anew -/
theorem ERep.set {v : V} {d : DV} {f1 : List Addr} (r1 : Rep K W O H v d f1) : ∀ {σ : St} {ρ : Env} {fp : List Addr} (i : Nat), ERep K W O H σ ρ fp → (fp ++ f1).Nodup →
    ∃ fq, ERep K W O H (σ.set i (some v)) (ρ.set i (some d)) fq ∧ fq.Nodup ∧ ∀ a ∈ fq, a ∈ fp ∨ a ∈ f1
  | _, _, _, _, .nil, hn => ⟨[], .nil, List.nodup_nil, fun a h => by simp at h⟩
  | _, _, fp, 0, .non t, hn => ⟨f1 ++ fp, .som r1 t, by
      rw [List.nodup_append] at hn ⊢
      exact ⟨hn.2.1, hn.1, fun a ha b hb e => hn.2.2 b hb a ha e.symm⟩, fun a h => (List.mem_append.mp h).symm⟩
  | _, _, fp, i + 1, .non t, hn => by
    obtain ⟨fq, h1, h2, h3⟩ := ERep.set r1 i t hn
    exact ⟨fq, .non h1, h2, h3⟩
  | _, _, _, 0, .som (fp := fp) (fq := fq) r t, hn => ⟨f1 ++ fq, .som r1 t, by
      rw [List.nodup_append] at hn ⊢
      have h1 := (List.nodup_append.mp hn.1)
      exact ⟨hn.2.1, h1.2.1, fun a ha b hb e => hn.2.2 b (List.mem_append_right _ hb) a ha e.symm⟩, fun a h => by
      rcases List.mem_append.mp h with h | h
      · exact .inr h
      · exact .inl (List.mem_append_right _ h)⟩
  | _, _, _, i + 1, .som (fp := fp) (fq := fr) r t, hn => by
    have hn' := List.nodup_append.mp hn
    have hn1 := List.nodup_append.mp hn'.1
    obtain ⟨fq, h1, h2, h3⟩ := ERep.set r1 i t (by
      rw [List.nodup_append]
      exact ⟨hn1.2.1, hn'.2.1, fun a ha b hb => hn'.2.2 a (List.mem_append_right _ ha) b hb⟩)
    refine ⟨fp ++ fq, .som r h1, ?_, fun a h => ?_⟩
    · rw [List.nodup_append]
      refine ⟨hn1.1, h2, fun a ha b hb e => ?_⟩
      subst e
      rcases h3 a hb with z | z
      · exact hn1.2.2 a ha a z rfl
      · exact hn'.2.2 a (List.mem_append_left _ ha) a z rfl
    · rcases List.mem_append.mp h with h | h
      · exact .inl (List.mem_append_left _ h)
      · rcases h3 a h with z | z
        · exact .inl (List.mem_append_right _ z)
        · exact .inr z
end

/-! ### the state -/
def GOk (W : Wd) (O : List Addr) (H : Hp) (g : GS) : Prop := match W with
  | none => True
  | some (a, b, c) => a ∈ O ∧ b ∈ O ∧ c ∈ O ∧ a ≠ b ∧ a ≠ c ∧ b ≠ c ∧ H a = some (.lst [.ref b, .ref c, .int g.turn]) ∧ H b = some (.lst (g.cells.map V.int)) ∧ H c = some (.lst (g.rests.map V.int))
theorem GOk.mem {W : Wd} {O : List Addr} {H : Hp} {g : GS} (h : GOk W O H g) : ∀ a ∈ W.as, a ∈ O ∧ H a ≠ none := fun x hx => by
  match W with
  | none => simp [Wd.as] at hx
  | some (a, b, c) =>
    obtain ⟨h1, h2, h3, _, _, _, h4, h5, h6⟩ := h
    have hx' : x = a ∨ x = b ∨ x = c := by simpa [Wd.as] using hx
    rcases hx' with e | e | e
    · subst e; exact ⟨h1, by rw [h4]; simp⟩
    · subst e; exact ⟨h2, by rw [h5]; simp⟩
    · subst e; exact ⟨h3, by rw [h6]; simp⟩
theorem GOk.same {W : Wd} {O : List Addr} {H H' : Hp} {g : GS} (h : GOk W O H g) (e : Same H H') : GOk W O H' g := by
  match W with
  | none => trivial
  | some (a, b, c) =>
    obtain ⟨h1, h2, h3, n1, n2, n3, h4, h5, h6⟩ := h
    exact ⟨h1, h2, h3, n1, n2, n3, e _ _ h4, e _ _ h5, e _ _ h6⟩
/-- the entry: what is owned there, the heap there -/
abbrev Bs := List Addr × Hp
/-- without the slots -/
structure Den0 (B : Bs) (W : Wd) (O : List Addr) (H : Hp) (g : GS) : Prop where
  base : Ext W B.2 H
  sub : ∀ a ∈ B.1, a ∈ O
  new : ∀ a ∈ O, a ∈ B.1 ∨ B.2 a = none
  dom : ∀ a ∈ O, H a ≠ none
  gen : GOk W B.1 H g
  bdom : ∀ a ∈ B.1, B.2 a ≠ none
structure Den (K : Fg) (B : Bs) (W : Wd) (O : List Addr) (σ : St) (H : Hp) (ρ : Env) (g : GS) : Prop extends Den0 B W O H g where
  env : ∃ fp, ERep K W O H σ ρ fp ∧ fp.Nodup ∧ ∀ a ∈ fp, B.2 a = none
section
variable {K : Fg} {B : Bs} {W : Wd} {H H' : Hp} {O O' : List Addr} {σ : St} {ρ : Env} {g g' : GS}
theorem Den0.was (D : Den0 B W O H g) : ∀ a ∈ W.as, a ∈ O := fun a h => D.sub a (D.gen.mem a h).1
/-- shared data stay -/
theorem Den0.keeps (D : Den0 B W O H g) (e : Ext W H H') {fp : List Addr} (hf : ∀ a ∈ fp, H a = none) : Same (msk O H) (msk (fp ++ O) H') := fun b o h => by
  obtain ⟨h1, h2⟩ := of_msk h
  refine msk_get (fun z => ?_) (e b o (fun z => h2 (D.was b z)) h1)
  rcases List.mem_append.mp z with z | z
  · rw [hf b z] at h1; cases h1
  · exact h2 z
theorem Den0.keep (D : Den0 B W O H g) (e : Ext W H H') : Same (msk O H) (msk O H') := D.keeps e (fp := []) fun a h => by simp at h
theorem Den0.grow {fp : List Addr} (D : Den0 B W O H g) (e : Ext W H H') (hg : GOk W B.1 H' g') (hf : ∀ a ∈ fp, H a = none ∧ H' a ≠ none) : Den0 B W (fp ++ O) H' g' where
  base := D.base.trans e
  sub := fun a h => List.mem_append_right _ (D.sub a h)
  new := fun a h => by
    rcases List.mem_append.mp h with h | h
    · right
      cases q : B.2 a with
      | none => rfl
      | some o =>
        have h1 := (hf a h).1
        by_cases hw : a ∈ W.as
        · exact absurd h1 (D.dom a (D.was a hw))
        · rw [D.base a o hw q] at h1; cases h1
    · exact D.new a h
  dom := fun a h => by
    rcases List.mem_append.mp h with h | h
    · exact (hf a h).2
    · by_cases hw : a ∈ W.as
      · exact (hg.mem a hw).2
      · cases q : H a with
        | none => exact absurd q (D.dom a h)
        | some o => rw [e a o hw q]; simp
  gen := hg
  bdom := D.bdom
theorem Den.grow {fp : List Addr} (D : Den K B W O σ H ρ g) (e : Ext W H H') (hg : GOk W B.1 H' g') (hf : ∀ a ∈ fp, H a = none ∧ H' a ≠ none) : Den K B W (fp ++ O) σ H' ρ g' := by
  obtain ⟨fq, r, n, h⟩ := D.env
  exact { D.toDen0.grow e hg hf with env := ⟨fq, r.mono (D.keeps e fun a z => (hf a z).1) e (fun a m => List.mem_append_right _ (r.inO a m).1), n, h⟩ }
theorem Den.step (D : Den K B W O σ H ρ g) (e : Ext W H H') (hg : GOk W B.1 H' g') : Den K B W O σ H' ρ g' := D.grow (fp := []) e hg fun a h => by simp at h
end

/-! ### the judgements -/
abbrev EF := Env → GS → Option (SV × GS)
abbrev OF := Env → GS → Option (DV × GS)
abbrev TF := Env → GS → Option (Bool × GS)
abbrev AF := Env → GS → Option (List SV × GS)
/-- a shared value comes -/
def DEs (K : Fg) (t : TE) (f : EF) : Prop := ∀ B W O σ H ρ g s g', Den K B W O σ H ρ g → f ρ g = some (s, g') →
  ∀ Q : VK, (∀ v H', Ext W H H' → GOk W B.1 H' g' → RepS K W (msk O H') v s → Q v H') → t σ H Q
def DE (X : Cx) (e : Expr) (f : EF) : Prop := ∃ t, PE X e t ∧ DEs X.K t f
/-- a new value comes -/
def DOs (K : Fg) (t : TE) (f : OF) : Prop := ∀ B W O σ H ρ g d g', Den K B W O σ H ρ g → f ρ g = some (d, g') →
  ∀ Q : VK, (∀ v H' fp, Ext W H H' → GOk W B.1 H' g' → fp.Nodup → (∀ a ∈ fp, H a = none ∧ H' a ≠ none) → Rep K W (fp ++ O) H' v d fp → Q v H') → t σ H Q
def DO (X : Cx) (e : Expr) (f : OF) : Prop := ∃ t, PE X e t ∧ DOs X.K t f
/-- a value is looked at -/
def DPs (K : Fg) (t : TE) (f : OF) : Prop := ∀ B W O σ H ρ g d g', Den K B W O σ H ρ g → f ρ g = some (d, g') →
  ∀ Q : VK, (∀ v H' fp, Ext W H H' → GOk W B.1 H' g' → Rep K W O H' v d fp → Q v H') → t σ H Q
def DP (X : Cx) (e : Expr) (f : OF) : Prop := ∃ t, PE X e t ∧ DPs X.K t f
def DTs (K : Fg) (t : TT) (f : TF) : Prop := ∀ B W O σ H ρ g b g', Den K B W O σ H ρ g → f ρ g = some (b, g') →
  ∀ Q : Bool → Hp → Prop, (∀ H', Ext W H H' → GOk W B.1 H' g' → Q b H') → t σ H Q
def DT (X : Cx) (e : Expr) (f : TF) : Prop := ∃ t, PT X e t ∧ DTs X.K t f
def DW (X : Cx) (e : Expr) (f : TF) : Prop := ∃ t, PW X e t ∧ DTs X.K t f
def DAs (K : Fg) (t : TA) (f : AF) : Prop := ∀ B W O σ H ρ g s g', Den K B W O σ H ρ g → f ρ g = some (s, g') →
  ∀ Q : List V → Hp → Prop, (∀ v H', Ext W H H' → GOk W B.1 H' g' → RepSs K W (msk O H') v s → Q v H') → t σ H Q
def DA (X : Cx) (es : List Expr) (f : AF) : Prop := ∃ t, PA X es t ∧ DAs X.K t f
inductive Fl where
  | nx (ρ : Env) (g : GS) | rt (d : DV) (g : GS) | bk (ρ : Env) (g : GS) | ct (ρ : Env) (g : GS)
abbrev SF := Env → GS → Option Fl
/-- shared data stay -/
abbrev Keep (O : List Addr) (H : Hp) (O' : List Addr) (H' : Hp) : Prop := Same (msk O H) (msk O' H')
def FlOk (K : Fg) (B : Bs) (W : Wd) (O0 : List Addr) (H0 : Hp) (D : Ends) : Fl → Prop
  | .nx ρ g => ∀ σ O H, Keep O0 H0 O H → Den K B W O σ H ρ g → D.nx σ H
  | .bk ρ g => ∀ σ O H, Keep O0 H0 O H → Den K B W O σ H ρ g → D.bk σ H
  | .ct ρ g => ∀ σ O H, Keep O0 H0 O H → Den K B W O σ H ρ g → D.ct σ H
  | .rt d g => ∀ v O H fp, Den0 B W O H g → Rep K W O H v d fp → fp.Nodup → (∀ a ∈ fp, B.2 a = none) → D.rt v H
def DSt (K : Fg) (t : TS) (f : SF) : Prop := ∀ B W O σ H ρ g r, Den K B W O σ H ρ g → f ρ g = some r → ∀ D : Ends, FlOk K B W O H D r → t D σ H
def DS (X : Cx) (st : Stmt) (f : SF) : Prop := ∃ t, PS X st t ∧ DSt X.K t f
def DSs (X : Cx) (st : List Stmt) (f : SF) : Prop := ∃ t, PSs X st t ∧ DSt X.K t f
/-- what a for walks -/
abbrev IF := Env → GS → Option (List SV × GS)
def ItOk (K : Fg) (W : Wd) (O0 : List Addr) (H0 : Hp) (J : It) (xs : List SV) : Prop := ∀ O H, Keep O0 H0 O H → (∀ a ∈ O, H a ≠ none) →
  (∀ i x, xs[i]? = some x → J.go i H ∧ ∀ v H2, J.yld i H v H2 → Same H H2 ∧ RepS K W (msk O H2) v x) ∧ ∀ i, xs.length ≤ i → J.stop i H
def DIs (K : Fg) (wi : TI) (f : IF) : Prop := ∀ B W O σ H ρ g xs g', Den K B W O σ H ρ g → f ρ g = some (xs, g') →
  ∀ R : It → Hp → Prop, (∀ J H', Ext W H H' → GOk W B.1 H' g' → ItOk K W O H' J xs → R J H') → wi σ H R
def DI (X : Cx) (tg e : Expr) (f : IF) : Prop := ∃ wi, PI X tg e wi ∧ DIs X.K wi f
/-- a state with a value at hand that stands apart from the slots -/
structure DenV (K : Fg) (B : Bs) (W : Wd) (O : List Addr) (σ : St) (H : Hp) (ρ : Env) (g : GS) (v : V) (d : DV) : Prop extends Den0 B W O H g where
  env : ∃ fe fp, ERep K W O H σ ρ fe ∧ Rep K W O H v d fp ∧ (fe ++ fp).Nodup ∧ ∀ a ∈ fe ++ fp, B.2 a = none
/-- an assignment's target -/
abbrev GF := DV → Env → GS → Option (Env × GS)
def DGs (K : Fg) (t : TG) (f : GF) : Prop := ∀ B W O σ H ρ g d v ρ' g', DenV K B W O σ H ρ g v d → f d ρ g = some (ρ', g') →
  ∀ Q : St → Hp → Prop, (∀ σ' O' H', Keep O H O' H' → Den K B W O' σ' H' ρ' g' → Q σ' H') → t v σ H Q
def DG (X : Cx) (tg : Expr) (f : GF) : Prop := ∃ t, PG X tg t ∧ DGs X.K t f
end DL

/-! DL1: the rules for expressions. -/
namespace DL
open PySem PySem.Spec L2
section
variable {K : Fg} {B : Bs} {W : Wd} {H H' : Hp} {O O' : List Addr} {σ : St} {ρ : Env} {g g' : GS} {v : V} {d : DV} {fp : List Addr}
theorem Keep.refl : Keep O H O H := Same.refl _
theorem Den0.fresh (D : Den0 B W O H g) {a : Addr} (h : H a = none) : B.2 a = none := by
  cases q : B.2 a with
  | none => rfl
  | some o =>
    by_cases hw : a ∈ W.as
    · exact absurd h (D.dom a (D.was a hw))
    · rw [D.base a o hw q] at h; cases h
theorem Den0.notO (D : Den0 B W O H g) {a : Addr} (h : H a = none) : a ∉ O := fun z => D.dom a z h
/-- behind an expression that made something new -/
theorem Den.withV (D : Den K B W O σ H ρ g) (e : Ext W H H') (hg : GOk W B.1 H' g') (nd : fp.Nodup) (hf : ∀ a ∈ fp, H a = none ∧ H' a ≠ none) (r : Rep K W (fp ++ O) H' v d fp) : DenV K B W (fp ++ O) σ H' ρ g' v d := by
  obtain ⟨fe, re, n, h⟩ := D.env
  refine { D.toDen0.grow e hg hf with env := ⟨fe, fp, re.mono (D.keeps e fun a z => (hf a z).1) e (fun a m => List.mem_append_right _ (re.inO a m).1), r, ?_, fun a m => ?_⟩ }
  · rw [List.nodup_append]
    exact ⟨n, nd, fun a ha b hb z => (re.inO a ha).2.2 (by rw [z]; exact (hf b hb).1)⟩
  · rcases List.mem_append.mp m with m | m
    · exact h a m
    · exact D.toDen0.fresh (hf a m).1
theorem DenV.withS (D : Den K B W O σ H ρ g) {s : SV} (r : RepS K W (msk O H) v s) : DenV K B W O σ H ρ g v (.sh s) := by
  obtain ⟨fe, re, n, h⟩ := D.env
  exact { D.toDen0 with env := ⟨fe, [], re, .sh r, by simpa using n, by simpa using h⟩ }
theorem keep_new {p : Addr} {o : HO} (hp : H p = none) : Same H (upd H p o) := fun b x e => by
  rw [upd_ne (ne_of_none e hp)]
  exact e
theorem msk_same (e : Same H H') : Same (msk O H) (msk O H') := fun b o h => by
  obtain ⟨h1, h2⟩ := of_msk h
  exact msk_get h2 (e _ _ h1)
theorem rep_tup {vs : List V} {xs : List SV} {p : Addr} (hO : ∀ a ∈ O, H a ≠ none) (hp : H p = none) (r : RepSs K W (msk O H) vs xs) : RepS K W (msk O (upd H p (.tup vs))) (.ref p) (.tup xs) :=
  .tup (.inl (.inl (msk_get (fun z => hO p z hp) upd_same))) (r.mono (msk_same (keep_new hp)))
theorem rep_lst {vs : List V} {xs : List SV} {p : Addr} (hO : ∀ a ∈ O, H a ≠ none) (hp : H p = none) (r : RepSs K W (msk O H) vs xs) : RepS K W (msk O (upd H p (.lst vs))) (.ref p) (.lst xs) :=
  .lst (msk_get (fun z => hO p z hp) upd_same) (r.mono (msk_same (keep_new hp)))
/-- a new list of own items -/
theorem rep_own {vs : List V} {ds : List DV} {p : Addr} (hO : ∀ a ∈ O, H a ≠ none) (hw : ∀ a ∈ W.as, a ∈ O) (hp : H p = none) (r : Reps K W (fp ++ O) H vs ds fp) :
    Rep K W ((p :: fp) ++ O) (upd H p (.lst vs)) (.ref p) (.own ds) (p :: fp) := by
  refine .own (List.mem_cons_self) (fun z => hO p (hw p z) hp) upd_same ?_
  refine r.mono ?_ (Same.ext (keep_new hp)) fun a h => ?_
  · intro b o e
    obtain ⟨h1, h2⟩ := of_msk e
    refine msk_get (fun z => ?_) (keep_new hp b o h1)
    rcases List.mem_cons.mp z with z | z
    · subst z; rw [hp] at h1; cases h1
    · exact h2 z
  · exact List.mem_cons_of_mem _ (List.mem_append_left _ h)
end

/-! ### from one judgement to another -/
def oS (f : EF) : OF := fun ρ g => (f ρ g).map fun p => (.sh p.1, p.2)
def fz (f : OF) : EF := fun ρ g => (f ρ g).map fun p => (p.1.frz, p.2)
def DV.sh? : DV → Option SV
  | .sh s => some s
  | .own _ => none
def un (f : OF) : EF := fun ρ g => (f ρ g).bind fun p => p.1.sh?.map fun s => (s, p.2)
section
variable {X : Cx} {e a b c : Expr} {f fa fb fc : EF} {h : OF} {pos : Pos}
theorem DE.o (D : DE X e f) : DO X e (oS f) := by
  obtain ⟨t, pt, q⟩ := D
  refine ⟨t, pt, fun B W O σ H ρ g d g' D e Q k => ?_⟩
  obtain ⟨⟨s, g1⟩, e1, e2⟩ := Option.map_eq_some_iff.mp e
  cases e2
  exact q B W O σ H ρ g s g1 D e1 Q fun v H' x hg r => k v H' [] x hg List.nodup_nil (fun a z => by simp at z) (.sh r)
theorem DE.p (D : DE X e f) : DP X e (oS f) := by
  obtain ⟨t, pt, q⟩ := D
  refine ⟨t, pt, fun B W O σ H ρ g d g' D e Q k => ?_⟩
  obtain ⟨⟨s, g1⟩, e1, e2⟩ := Option.map_eq_some_iff.mp e
  cases e2
  exact q B W O σ H ρ g s g1 D e1 Q fun v H' x hg r => k v H' [] x hg (.sh r)
theorem DO.s (D : DO X e h) : DE X e (fz h) := by
  obtain ⟨t, pt, q⟩ := D
  refine ⟨t, pt, fun B W O σ H ρ g s g' D e Q k => ?_⟩
  obtain ⟨⟨d, g1⟩, e1, e2⟩ := Option.map_eq_some_iff.mp e
  cases e2
  exact q B W O σ H ρ g d g1 D e1 Q fun v H' fp x hg nd hf r => k v H' x hg (r.freeze (fun b z => List.mem_append_right _ z) fun a z => D.toDen0.notO (hf a z).1)
theorem DP.s (D : DP X e h) : DE X e (un h) := by
  obtain ⟨t, pt, q⟩ := D
  refine ⟨t, pt, fun B W O σ H ρ g s g' D e Q k => ?_⟩
  obtain ⟨⟨d, g1⟩, e1, e2⟩ := Option.bind_eq_some_iff.mp e
  obtain ⟨s1, e3, e4⟩ := Option.map_eq_some_iff.mp e2
  cases e4
  cases d with
  | own _ => cases e3
  | sh s2 =>
    cases e3
    exact q B W O σ H ρ g _ g1 D e1 Q fun v H' fp x hg r => by
      cases r with
      | sh r => exact k v H' x hg r

/-! ### names, constants -/
def vS (i : Nat) : EF := fun ρ g => match ρ[i]? with
  | some (some (.sh s)) => some (s, g)
  | _ => none
def vP (i : Nat) : OF := fun ρ g => match ρ[i]? with
  | some (some d) => some (d, g)
  | _ => none
def kS (s : SV) : EF := fun _ g => some (s, g)
theorem dp_var (i : Nat) {x : Str} (hN : X.N[i]? = some x := by rfl) (hv : Vis X.env.scope x := by first | exact Or.inl rfl | exact Or.inr (Or.inl rfl) | exact Or.inr (Or.inr rfl)) (hd : (x == ("__debug__" : Str)) = false := by decide)
    (hcd : (x == ("__classdict__" : Str)) = false := by decide) : DP X (.Name x pos) (vP i) := by
  refine ⟨tVar i, pe_var hN hv hd hcd, fun B W O σ H ρ g d g' D e Q k => ?_⟩
  unfold vP at e
  split at e
  · rename_i d1 h1
    cases e
    obtain ⟨fe, re, n, hh⟩ := D.env
    obtain ⟨v, fq, e1, r, _⟩ := re.at h1
    exact ⟨v, e1, k v H fq Ext.refl D.gen r⟩
  · cases e
theorem de_var (i : Nat) {x : Str} (hN : X.N[i]? = some x := by rfl) (hv : Vis X.env.scope x := by first | exact Or.inl rfl | exact Or.inr (Or.inl rfl) | exact Or.inr (Or.inr rfl)) (hd : (x == ("__debug__" : Str)) = false := by decide)
    (hcd : (x == ("__classdict__" : Str)) = false := by decide) : DE X (.Name x pos) (vS i) := by
  refine ⟨tVar i, pe_var hN hv hd hcd, fun B W O σ H ρ g s g' D e Q k => ?_⟩
  unfold vS at e
  split at e
  · rename_i d1 h1
    cases e
    obtain ⟨fe, re, n, hh⟩ := D.env
    obtain ⟨v, fq, e1, r, _⟩ := re.at h1
    cases r with
    | sh r => exact ⟨v, e1, k v H Ext.refl D.gen r⟩
  · cases e
theorem de_k {s : SV} {v : V} (p : PE X e (tC v)) (r : ∀ W H, RepS X.K W H v s) : DE X e (kS s) :=
  ⟨tC v, p, fun B W O σ H ρ g s g' D e Q k => by cases e; exact k v H Ext.refl D.gen (r _ _)⟩
theorem de_int {i : Int} {j} : DE X (.Constant (.int i) j pos) (kS (.int i)) := de_k pe_int fun _ _ => .int
theorem de_bl {i : Bool} {j} : DE X (.Constant (.bool i) j pos) (kS (.bl i)) := de_k pe_bl fun _ _ => .bl
theorem de_non {j} : DE X (.Constant .none j pos) (kS .non) := de_k pe_non fun _ _ => .non
theorem de_str {i : Str} {j} : DE X (.Constant (.str i) j pos) (kS (.str i)) := de_k pe_str fun _ _ => .str
/-- a constant of the module -/
theorem de_glob {x : Str} {v : V} {u : Value} {s : SV} (hg : Gl X x) (hm : X.mg x = some u) (r : RelV v u) (rs : ∀ W H, RepS X.K W H v s) (hd : (x == ("__debug__" : Str)) = false := by decide) : DE X (.Name x pos) (kS s) :=
  de_k (pe_glob hg hm r hd) rs

/-! ### operators -/
def b2 (k : SV → SV → Option SV) (fa fb : EF) : EF := fun ρ g => (fa ρ g).bind fun p => (fb ρ p.2).bind fun q => (k p.1 q.1).map fun s => (s, q.2)
def R2S (K : Fg) (r : R2) (k : SV → SV → Option SV) : Prop := ∀ W O H x y a b s, RepS K W (msk O H) x a → RepS K W (msk O H) y b → k a b = some s → (∀ a ∈ O, H a ≠ none) →
  ∀ Q : VK, (∀ v H', Same H H' → RepS K W (msk O H') v s → Q v H') → r x y H Q
theorem op2s {K : Fg} {r : R2} {k : SV → SV → Option SV} {ta tb : TE} (hr : R2S K r k) (ha : DEs K ta fa) (hb : DEs K tb fb) : DEs K (tOp r ta tb) (b2 k fa fb) := by
  intro B W O σ H ρ g s g' D e Q q
  obtain ⟨⟨a, g1⟩, e1, e⟩ := Option.bind_eq_some_iff.mp e
  obtain ⟨⟨b, g2⟩, e2, e⟩ := Option.bind_eq_some_iff.mp e
  obtain ⟨s1, e3, e4⟩ := Option.map_eq_some_iff.mp e
  cases e4
  refine ha B W O σ H ρ g a g1 D e1 _ fun x H1 x1 h1 r1 => ?_
  have D1 := D.step x1 h1
  refine hb B W O σ H1 ρ g1 b g2 D1 e2 _ fun y H2 x2 h2 r2 => ?_
  have D2 := D1.step x2 h2
  exact hr W O H2 x y a b _ (r1.mono (D1.toDen0.keep x2)) r2 e3 D2.dom _ fun v H3 sm r3 => q v H3 ((x1.trans x2).trans (Same.ext sm)) (D2.gen.same sm) r3
theorem de_op {op : Operator} {r : R2} {k : SV → SV → Option SV} (ho : OpR X (binaryOp op) r) (hr : R2S X.K r k) (ha : DE X a fa) (hb : DE X b fb) : DE X (.BinOp a op b pos) (b2 k fa fb) := by
  obtain ⟨ta, pa, qa⟩ := ha
  obtain ⟨tb, pb, qb⟩ := hb
  exact ⟨_, pe_op ho pa pb, op2s hr qa qb⟩
theorem de_cmp {op : CmpOp} {r : R2} {k : SV → SV → Option SV} (ho : OpR X (compareOp op) r) (hr : R2S X.K r k) (ha : DE X a fa) (hb : DE X b fb) (hm : behindInMarks op b = false) : DE X (.Compare a [op] [b] pos) (b2 k fa fb) := by
  obtain ⟨ta, pa, qa⟩ := ha
  obtain ⟨tb, pb, qb⟩ := hb
  exact ⟨_, pe_cmpR ho pa pb hm, op2s hr qa qb⟩
def hI (c : Int → Int → Bool) (k : Int → Int → SV) : SV → SV → Option SV
  | .int i, .int j => if c i j then some (k i j) else none
  | _, _ => none
def hI0 (k : Int → Int → SV) : SV → SV → Option SV
  | .int i, .int j => some (k i j)
  | _, _ => none
theorem r2_I {K : Fg} {C : Int → Int → Prop} {c : Int → Int → Bool} {kv : Int → Int → V} {k : Int → Int → SV} (hC : ∀ i j, c i j = true → C i j) (hk : ∀ W H i j, RepS K W H (kv i j) (k i j)) : R2S K (rI C kv) (hI c k) := by
  intro W O H x y a b s ra rb e hO Q q
  unfold hI at e
  split at e
  · split at e
    · rename_i hc
      cases e
      cases ra
      cases rb
      exact ⟨_, _, rfl, rfl, hC _ _ hc, q _ H (Same.refl H) (hk ..)⟩
    · cases e
  · cases e
theorem r2_I0 {K : Fg} {kv : Int → Int → V} {k : Int → Int → SV} (hk : ∀ W H i j, RepS K W H (kv i j) (k i j)) : R2S K (rI0 kv) (hI0 k) := by
  intro W O H x y a b s ra rb e hO Q q
  unfold hI0 at e
  split at e
  · cases e
    cases ra
    cases rb
    exact ⟨_, _, rfl, rfl, q _ H (Same.refl H) (hk ..)⟩
  · cases e
def hAdd := hI0 fun i j => .int (i + j)
def hSub := hI0 fun i j => .int (i - j)
def mulOk (i j : Int) : Bool := decide (i.natAbs.log2 < 60000000 ∧ j.natAbs.log2 < 60000000)
def hMul := hI mulOk fun i j => .int (i * j)
def divOk (_ j : Int) : Bool := decide (0 < j ∧ j.natAbs.log2 < 9000)
def hDiv := hI divOk fun i j => .int (i / j)
def modOk (_ j : Int) : Bool := decide (0 < j)
def hMod := hI modOk fun i j => .int (i % j)
def powOk (i j : Int) : Bool := decide (0 ≤ j ∧ j ≤ 1000000 ∧ i.natAbs < 18446744073709551616)
def hPow := hI powOk fun i j => .int (i ^ j.toNat)
def hLt := hI0 fun i j => .bl (decide (i < j))
def hLe := hI0 fun i j => .bl (decide (i ≤ j))
def hGt := hI0 fun i j => .bl (decide (j < i))
def hGe := hI0 fun i j => .bl (decide (j ≤ i))
def CMulX (i j : Int) : Prop := i.natAbs.log2 < 60000000 ∧ j.natAbs.log2 < 60000000
theorem CMulX.ok {i j : Int} (h : CMulX i j) : IntMulOk i j := by
  have b : ∀ x : Int, Builtin.Int.intBits x ≤ x.natAbs.log2 + 1 := fun x => by
    unfold Builtin.Int.intBits
    split <;> omega
  have h1 := b i
  have h2 := b j
  have h3 := h.1
  have h4 := h.2
  have e : bitsLine = 134217728 := by decide
  unfold IntMulOk
  intro z
  rw [Bool.and_eq_true] at z
  have z2 := z.2
  unfold Builtin.Int.intTooBig at z2
  have z3 := of_decide_eq_true z2
  rw [e] at z3
  omega
theorem op_mulX : OpR X (binaryOp .Mult) (rI CMulX fun i j => .int (i * j)) := opI fun _ _ _ _ _ _ _ hc q => PyProof.Rows.mul_int q hc.ok
theorem de_add (ha : DE X a fa) (hb : DE X b fb) : DE X (.BinOp a .Add b pos) (b2 hAdd fa fb) := de_op op_add (r2_I0 fun _ _ _ _ => .int) ha hb
theorem de_sub (ha : DE X a fa) (hb : DE X b fb) : DE X (.BinOp a .Sub b pos) (b2 hSub fa fb) := de_op op_sub (r2_I0 fun _ _ _ _ => .int) ha hb
theorem de_mul (ha : DE X a fa) (hb : DE X b fb) : DE X (.BinOp a .Mult b pos) (b2 hMul fa fb) := de_op op_mulX (r2_I (fun i j h => (show i.natAbs.log2 < 60000000 ∧ j.natAbs.log2 < 60000000 from of_decide_eq_true h)) fun _ _ _ _ => .int) ha hb
theorem de_div (ha : DE X a fa) (hb : DE X b fb) : DE X (.BinOp a .FloorDiv b pos) (b2 hDiv fa fb) := de_op op_fdivW (r2_I (fun i j h => (show 0 < j ∧ j.natAbs.log2 < 9000 from of_decide_eq_true h)) fun _ _ _ _ => .int) ha hb
theorem de_mod (ha : DE X a fa) (hb : DE X b fb) : DE X (.BinOp a .Mod b pos) (b2 hMod fa fb) := de_op op_mod (r2_I (fun i j h => (show 0 < j from of_decide_eq_true h)) fun _ _ _ _ => .int) ha hb
theorem de_pow (ha : DE X a fa) (hb : DE X b fb) : DE X (.BinOp a .Pow b pos) (b2 hPow fa fb) := de_op op_pow (r2_I (fun _ _ h => by
  have z := of_decide_eq_true h
  exact ⟨z.1, z.2.1, z.2.2⟩) fun _ _ _ _ => .int) ha hb
theorem de_lt (ha : DE X a fa) (hb : DE X b fb) : DE X (.Compare a [.Lt] [b] pos) (b2 hLt fa fb) := de_cmp op_lt (r2_I0 fun _ _ _ _ => .bl) ha hb (nomark _)
theorem de_le (ha : DE X a fa) (hb : DE X b fb) : DE X (.Compare a [.LtE] [b] pos) (b2 hLe fa fb) := de_cmp op_le (r2_I0 fun _ _ _ _ => .bl) ha hb (nomark _)
theorem de_gt (ha : DE X a fa) (hb : DE X b fb) : DE X (.Compare a [.Gt] [b] pos) (b2 hGt fa fb) := de_cmp op_gt (r2_I0 fun _ _ _ _ => .bl) ha hb (nomark _)
theorem de_ge (ha : DE X a fa) (hb : DE X b fb) : DE X (.Compare a [.GtE] [b] pos) (b2 hGe fa fb) := de_cmp op_ge (r2_I0 fun _ _ _ _ => .bl) ha hb (nomark _)
end
end DL

/-! DL2: more expressions, tests, arguments, calls. -/
namespace DL
open PySem PySem.Spec L2

/-! ### equality of data -/
mutual
def SV.pd : SV → Option PyData
  | .non => some .none
  | .bl b => some (.bool b)
  | .int i => some (.int i)
  | .str _ => none
  | .tup xs => (SV.pds xs).map .tuple
  | .lst xs => (SV.pds xs).map .list
  | .raw _ => none
  | .gen => none
def SV.pds : List SV → Option (List PyData)
  | [] => some []
  | x :: xs => (SV.pd x).bind fun d => (SV.pds xs).map fun ds => d :: ds
end
mutual
/-- Python's == on data -/
def SV.eq : SV → SV → Option Bool
  | .non, .non => some true
  | .non, .bl _ => some false
  | .non, .int _ => some false
  | .non, .tup _ => some false
  | .non, .lst _ => some false
  | .bl a, .bl b => some (a == b)
  | .bl a, .int j => some ((if a then 1 else 0) == j)
  | .bl _, .non => some false
  | .bl _, .tup _ => some false
  | .bl _, .lst _ => some false
  | .int i, .int j => some (i == j)
  | .int i, .bl b => some (i == (if b then 1 else 0))
  | .int _, .non => some false
  | .int _, .tup _ => some false
  | .int _, .lst _ => some false
  | .tup xs, .tup ys => SV.eqs xs ys
  | .tup _, .non => some false
  | .tup _, .bl _ => some false
  | .tup _, .int _ => some false
  | .tup _, .lst _ => some false
  | .lst xs, .lst ys => SV.eqs xs ys
  | .lst _, .non => some false
  | .lst _, .bl _ => some false
  | .lst _, .int _ => some false
  | .lst _, .tup _ => some false
  | _, _ => none
def SV.eqs : List SV → List SV → Option Bool
  | [], [] => some true
  | x :: xs, y :: ys => match SV.eq x y, SV.eqs xs ys with
    | some a, some b => some (a && b)
    | _, _ => none
  | [], _ :: _ => some false
  | _ :: _, [] => some false
end
mutual
def SV.dep : SV → Nat
  | .tup xs => SV.deps xs + 1
  | .lst xs => SV.deps xs + 1
  | _ => 0
def SV.deps : List SV → Nat
  | [] => 0
  | x :: xs => max (SV.dep x) (SV.deps xs)
end
mutual
theorem pd_eqv : ∀ (x y : SV) (d e : PyData) (b : Bool), x.pd = some d → y.pd = some e → SV.eq x y = some b → PyData.eqv d e = b := by
  intro x y d e b hx hy hb
  cases x <;> cases y <;> simp only [SV.pd, SV.eq, Option.some.injEq, reduceCtorEq, Option.map_eq_some_iff] at hx hy hb
  all_goals first
    | (obtain ⟨p, hp, rfl⟩ := hx; obtain ⟨q, hq, rfl⟩ := hy; first | (simp only [PyData.eqv]; exact pds_eqv _ _ _ _ _ hp hq hb) | (subst hb; simp only [PyData.eqv]))
    | (obtain ⟨p, hp, rfl⟩ := hx; subst hy; subst hb; simp only [PyData.eqv])
    | (obtain ⟨p, hp, rfl⟩ := hy; subst hx; subst hb; simp only [PyData.eqv])
    | (subst hx; subst hy; subst hb; simp only [PyData.eqv])
theorem pds_eqv : ∀ (xs ys : List SV) (ds es : List PyData) (b : Bool), SV.pds xs = some ds → SV.pds ys = some es → SV.eqs xs ys = some b → PyData.eqvAll ds es = b := by
  intro xs ys ds es b hx hy hb
  cases xs with
  | nil =>
    cases ys with
    | nil => simp [SV.pds] at hx hy; simp [SV.eqs] at hb; subst hx; subst hy; subst hb; rfl
    | cons y ys =>
      simp [SV.pds] at hx; simp [SV.eqs] at hb
      simp only [SV.pds, Option.bind_eq_some_iff, Option.map_eq_some_iff] at hy
      obtain ⟨p, _, q, _, rfl⟩ := hy
      subst hx; subst hb; rfl
  | cons x xs =>
    simp only [SV.pds, Option.bind_eq_some_iff, Option.map_eq_some_iff] at hx
    obtain ⟨p, hp, q, hq, rfl⟩ := hx
    cases ys with
    | nil => simp [SV.pds] at hy; simp [SV.eqs] at hb; subst hy; subst hb; rfl
    | cons y ys =>
      simp only [SV.pds, Option.bind_eq_some_iff, Option.map_eq_some_iff] at hy
      obtain ⟨p', hp', q', hq', rfl⟩ := hy
      simp only [SV.eqs] at hb
      split at hb
      · rename_i a b' h1 h2
        cases hb
        simp only [PyData.eqvAll]
        rw [pd_eqv x y p p' a hp hp' h1, pds_eqv xs ys q q' b' hq hq' h2]
      · cases hb
end
section
variable {K : Fg} {W : Wd} {H : Hp}
mutual
theorem RepS.dp : ∀ {v : V} {s : SV} {d : PyData}, RepS K W H v s → s.pd = some d → Dp K H v d
  | _, _, _, .non, h => by simp [SV.pd] at h; subst h; exact .non
  | _, _, _, .bl, h => by simp [SV.pd] at h; subst h; exact .bl _
  | _, _, _, .int, h => by simp [SV.pd] at h; subst h; exact .int _
  | _, _, _, .str, h => by simp [SV.pd] at h
  | _, _, _, .raw, h => by simp [SV.pd] at h
  | _, _, _, .gen _, h => by simp [SV.pd] at h
  | _, _, _, .tup hq r, h => by
    simp only [SV.pd, Option.map_eq_some_iff] at h
    obtain ⟨ds, h1, rfl⟩ := h
    exact .tup hq (RepSs.dp r h1)
  | _, _, _, .lst hq r, h => by
    simp only [SV.pd, Option.map_eq_some_iff] at h
    obtain ⟨ds, h1, rfl⟩ := h
    exact .lst (.inl (.inl hq)) (RepSs.dp r h1)
theorem RepSs.dp : ∀ {vs : List V} {xs : List SV} {ds : List PyData}, RepSs K W H vs xs → SV.pds xs = some ds → DpAll K H vs ds
  | _, _, _, .nil, h => by simp [SV.pds] at h; subst h; exact .nil
  | _, _, _, .cons r t, h => by
    simp only [SV.pds, Option.bind_eq_some_iff, Option.map_eq_some_iff] at h
    obtain ⟨p, hp, q, hq, rfl⟩ := h
    exact .cons (RepS.dp r hp) (RepSs.dp t hq)
end
end
mutual
theorem pd_shaped : ∀ (x : SV) (d : PyData), x.pd = some d → d.canLay0 = true ∧ d.depth = x.dep := by
  intro x d h
  cases x <;> simp only [SV.pd, Option.some.injEq, reduceCtorEq, Option.map_eq_some_iff] at h
  case tup xs =>
    obtain ⟨p, hp, rfl⟩ := h
    have z := pds_shaped xs p hp
    exact ⟨by simp only [PyData.canLay0]; exact z.1, by simp only [PyData.depth, SV.dep]; rw [z.2]⟩
  case lst xs =>
    obtain ⟨p, hp, rfl⟩ := h
    have z := pds_shaped xs p hp
    exact ⟨by simp only [PyData.canLay0]; exact z.1, by simp only [PyData.depth, SV.dep]; rw [z.2]⟩
  all_goals (subst h; exact ⟨by simp only [PyData.canLay0], by simp only [PyData.depth, SV.dep]⟩)
theorem pds_shaped : ∀ (xs : List SV) (ds : List PyData), SV.pds xs = some ds → PyData.canLayAll0 ds = true ∧ PyData.depthAll ds = SV.deps xs := by
  intro xs ds h
  cases xs with
  | nil => simp [SV.pds] at h; subst h; exact ⟨by simp only [PyData.canLayAll0], by simp only [PyData.depthAll, SV.deps]⟩
  | cons x xs =>
    simp only [SV.pds, Option.bind_eq_some_iff, Option.map_eq_some_iff] at h
    obtain ⟨p, hp, q, hq, rfl⟩ := h
    have z1 := pd_shaped x p hp
    have z2 := pds_shaped xs q hq
    exact ⟨by simp only [PyData.canLayAll0]; rw [z1.1, z2.1]; rfl, by simp only [PyData.depthAll, SV.deps]; rw [z1.2, z2.2]⟩
end

def hEqD (k : Bool → Bool) (a b : SV) : Option SV := match a.pd, b.pd, SV.eq a b with
  | some _, some _, some r => if a.dep ≤ 64 ∧ b.dep ≤ 64 then some (.bl (k r)) else none
  | _, _, _ => none
def hEq : SV → SV → Option SV
  | .int i, .int j => some (.bl (decide (i = j)))
  | .bl i, .bl j => some (.bl (decide (i = j)))
  | .str i, .str j => some (.bl (decide (i = j)))
  | a, b => hEqD (fun x => x) a b
def hNe : SV → SV → Option SV
  | .int i, .int j => some (.bl (!decide (i = j)))
  | .bl i, .bl j => some (.bl (!decide (i = j)))
  | .str i, .str j => some (.bl (!decide (i = j)))
  | a, b => hEqD (fun x => !x) a b
def rEqX (K : Fg) : R2 := fun x y H Q => rEq x y H Q ∨ rEqD K x y H Q
def rNeX (K : Fg) : R2 := fun x y H Q => rNe x y H Q ∨ rNeD K x y H Q
section
variable {X : Cx}
theorem op_eqX (hu : X.A.units + 64 < cLine) : OpR X (compareOp .Eq) (rEqX X.K) := by
  intro pins s σ H x y v u Q I rx ry h
  rcases h with h | h
  · exact op_eq pins s σ H x y v u Q I rx ry h
  · exact op_eqD hu pins s σ H x y v u Q I rx ry h
theorem op_neX (hu : X.A.units + 64 < cLine) : OpR X (compareOp .NotEq) (rNeX X.K) := by
  intro pins s σ H x y v u Q I rx ry h
  rcases h with h | h
  · exact op_ne pins s σ H x y v u Q I rx ry h
  · exact op_neD hu pins s σ H x y v u Q I rx ry h
end
theorem vint {i j : Int} : decide (V.int i = V.int j) = decide (i = j) := by
  rw [Bool.eq_iff_iff]; simp
theorem vbl {i j : Bool} : decide (V.bl i = V.bl j) = decide (i = j) := by
  rw [Bool.eq_iff_iff]; simp
theorem vstr {i j : Str} : decide (V.str i = V.str j) = decide (i = j) := by
  rw [Bool.eq_iff_iff]; simp
theorem eqD_core {K : Fg} {W : Wd} {M : Hp} {k : Bool → Bool} {x y : V} {a b s : SV} (ra : RepS K W M x a) (rb : RepS K W M y b) (e : hEqD k a b = some s) :
    ∃ d e' r, Dp K M x d ∧ Dp K M y e' ∧ SeqAt.shaped d = true ∧ SeqAt.shaped e' = true ∧ PyData.eqv d e' = r ∧ s = .bl (k r) := by
  unfold hEqD at e
  split at e
  · rename_i d1 d2 r h1 h2 h3
    split at e
    · rename_i hd
      cases e
      have z1 := pd_shaped a d1 h1
      have z2 := pd_shaped b d2 h2
      refine ⟨d1, d2, r, ra.dp h1, rb.dp h2, ?_, ?_, pd_eqv a b d1 d2 r h1 h2 h3, rfl⟩
      · unfold SeqAt.shaped; rw [z1.1, z1.2, decide_eq_true hd.1]; rfl
      · unfold SeqAt.shaped; rw [z2.1, z2.2, decide_eq_true hd.2]; rfl
    · cases e
  · cases e
section
variable {K : Fg} {H H' : Hp}
mutual
theorem Dp.mono (e : Same H H') : ∀ {v : V} {d : PyData}, Dp K H v d → Dp K H' v d
  | _, _, .non => .non
  | _, _, .bl b => .bl b
  | _, _, .int i => .int i
  | _, _, .str x => .str x
  | _, _, .lst h r => .lst (e.seq h) (DpAll.mono e r)
  | _, _, .tup h r => .tup (sqT_mono e h) (DpAll.mono e r)
theorem DpAll.mono (e : Same H H') : ∀ {vs : List V} {ds : List PyData}, DpAll K H vs ds → DpAll K H' vs ds
  | _, _, .nil => .nil
  | _, _, .cons h t => .cons (Dp.mono e h) (DpAll.mono e t)
end
end
theorem msk_sub {O : List Addr} {H : Hp} : Same (msk O H) H := fun _ _ e => (of_msk e).1
theorem r2_eq {K : Fg} : R2S K (rEqX K) hEq := by
  intro W O H x y a b s ra rb e hO Q q
  unfold hEq at e
  split at e
  · cases e; cases ra; cases rb
    exact .inl ⟨rfl, by rw [vint]; exact q _ H (Same.refl H) .bl⟩
  · cases e; cases ra; cases rb
    exact .inl ⟨rfl, by rw [vbl]; exact q _ H (Same.refl H) .bl⟩
  · cases e; cases ra; cases rb
    exact .inl ⟨rfl, by rw [vstr]; exact q _ H (Same.refl H) .bl⟩
  · obtain ⟨d, e', r, h1, h2, h3, h4, h5, rfl⟩ := eqD_core ra rb e
    exact .inr ⟨d, e', Dp.mono msk_sub h1, Dp.mono msk_sub h2, h3, h4, by rw [h5]; exact q _ H (Same.refl H) .bl⟩
theorem r2_ne {K : Fg} : R2S K (rNeX K) hNe := by
  intro W O H x y a b s ra rb e hO Q q
  unfold hNe at e
  split at e
  · cases e; cases ra; cases rb
    exact .inl ⟨rfl, by rw [vint]; exact q _ H (Same.refl H) .bl⟩
  · cases e; cases ra; cases rb
    exact .inl ⟨rfl, by rw [vbl]; exact q _ H (Same.refl H) .bl⟩
  · cases e; cases ra; cases rb
    exact .inl ⟨rfl, by rw [vstr]; exact q _ H (Same.refl H) .bl⟩
  · obtain ⟨d, e', r, h1, h2, h3, h4, h5, rfl⟩ := eqD_core ra rb e
    exact .inr ⟨d, e', Dp.mono msk_sub h1, Dp.mono msk_sub h2, h3, h4, by rw [h5]; exact q _ H (Same.refl H) .bl⟩
/-- x in a list of data -/
def hInD (k : Bool → Bool) (a b : SV) : Option SV := match b with
  | .lst xs => match a.pd, SV.pds xs, xs.mapM (fun z => SV.eq z a) with
    | some _, some _, some rs => if a.dep ≤ 64 ∧ (SV.lst xs).dep ≤ 64 then some (.bl (k (rs.any fun r => r))) else none
    | _, _, _ => none
  | _ => none
theorem any_eqv {a : SV} {d : PyData} (h : a.pd = some d) : ∀ (xs : List SV) (ds : List PyData) (rs : List Bool), SV.pds xs = some ds → xs.mapM (fun z => SV.eq z a) = some rs → (ds.any fun z => PyData.eqv z d) = rs.any fun r => r
  | [], ds, rs, h1, h2 => by
    simp [SV.pds] at h1; simp at h2; subst h1; subst h2; rfl
  | x :: xs, ds, rs, h1, h2 => by
    simp only [SV.pds, Option.bind_eq_some_iff, Option.map_eq_some_iff] at h1
    obtain ⟨p, hp, q, hq, rfl⟩ := h1
    simp only [List.mapM_cons, Option.bind_eq_bind, Option.bind_eq_some_iff, Option.pure_def, Option.some.injEq] at h2
    obtain ⟨r, hr, rs', hrs, rfl⟩ := h2
    rw [List.any_cons, List.any_cons, any_eqv h xs q rs' hq hrs, pd_eqv x a p d r hp h hr]
theorem inD_core {K : Fg} {W : Wd} {M : Hp} {k : Bool → Bool} {x y : V} {a b s : SV} (ra : RepS K W M x a) (rb : RepS K W M y b) (e : hInD k a b = some s) :
    ∃ d ds r, Dp K M x d ∧ Dp K M y (.list ds) ∧ SeqAt.shaped d = true ∧ SeqAt.shaped (.list ds) = true ∧ (ds.any fun z => PyData.eqv z d) = r ∧ s = .bl (k r) := by
  unfold hInD at e
  split at e
  · rename_i xs
    split at e
    · rename_i d1 d2 rs h1 h2 h3
      split at e
      · rename_i hd
        cases e
        have hl : (SV.lst xs).pd = some (.list d2) := by simp only [SV.pd]; rw [h2]; rfl
        have z1 := pd_shaped a d1 h1
        have z2 := pd_shaped (.lst xs) _ hl
        refine ⟨d1, d2, _, ra.dp h1, rb.dp hl, ?_, ?_, any_eqv h1 xs d2 rs h2 h3, rfl⟩
        · unfold SeqAt.shaped; rw [z1.1, z1.2, decide_eq_true hd.1]; rfl
        · unfold SeqAt.shaped; rw [z2.1, z2.2, decide_eq_true hd.2]; rfl
      · cases e
    · cases e
  · cases e
theorem r2_in {K : Fg} : R2S K (rInD K) (hInD fun x => x) := by
  intro W O H x y a b s ra rb e hO Q q
  obtain ⟨d, ds, r, h1, h2, h3, h4, h5, rfl⟩ := inD_core ra rb e
  exact ⟨d, ds, Dp.mono msk_sub h1, Dp.mono msk_sub h2, h3, h4, by rw [h5]; exact q _ H (Same.refl H) .bl⟩
theorem r2_notIn {K : Fg} : R2S K (rNotInD K) (hInD fun x => !x) := by
  intro W O H x y a b s ra rb e hO Q q
  obtain ⟨d, ds, r, h1, h2, h3, h4, h5, rfl⟩ := inD_core ra rb e
  exact ⟨d, ds, Dp.mono msk_sub h1, Dp.mono msk_sub h2, h3, h4, by rw [h5]; exact q _ H (Same.refl H) .bl⟩
section
variable {X : Cx} {e a b c : Expr} {f fa fb fc : EF} {h ha' : OF} {pos : Pos} {tt : TF}
theorem de_eq (hu : X.A.units + 64 < cLine) (ha : DE X a fa) (hb : DE X b fb) : DE X (.Compare a [.Eq] [b] pos) (b2 hEq fa fb) := de_cmp (op_eqX hu) r2_eq ha hb (nomark _)
theorem de_ne (hu : X.A.units + 64 < cLine) (ha : DE X a fa) (hb : DE X b fb) : DE X (.Compare a [.NotEq] [b] pos) (b2 hNe fa fb) := de_cmp (op_neX hu) r2_ne ha hb (nomark _)
theorem de_in (hu : X.A.units + 65 < cLine) (ha : DE X a fa) (hb : DE X b fb) (hm : behindInMarks .In b = false := by rfl) : DE X (.Compare a [.In] [b] pos) (b2 (hInD fun x => x) fa fb) := de_cmp (op_inD hu) r2_in ha hb hm
theorem de_notIn (hu : X.A.units + 65 < cLine) (ha : DE X a fa) (hb : DE X b fb) (hm : behindInMarks .NotIn b = false := by rfl) : DE X (.Compare a [.NotIn] [b] pos) (b2 (hInD fun x => !x) fa fb) := de_cmp (op_notInD hu) r2_notIn ha hb hm

/-! ### one-place operations -/
def u1 (k : SV → Option SV) (fa : EF) : EF := fun ρ g => (fa ρ g).bind fun p => (k p.1).map fun s => (s, p.2)
def hNeg : SV → Option SV
  | .int i => some (.int (-i))
  | _ => none
def hNot : SV → Option SV
  | .bl b => some (.bl (!b))
  | _ => none
theorem de_neg (ha : DE X a fa) : DE X (.UnaryOp .USub a pos) (u1 hNeg fa) := by
  obtain ⟨t, pt, qt⟩ := ha
  refine ⟨_, pe_un un_neg pt, fun B W O σ H ρ g s g' D e Q q => ?_⟩
  obtain ⟨⟨x, g1⟩, e1, e⟩ := Option.bind_eq_some_iff.mp e
  obtain ⟨s1, e3, e4⟩ := Option.map_eq_some_iff.mp e
  cases e4
  refine qt B W O σ H ρ g x g1 D e1 _ fun v H1 x1 h1 r1 => ?_
  cases x with
  | int i => cases e3; cases r1; exact ⟨i, rfl, q _ H1 x1 h1 .int⟩
  | _ => cases e3
theorem de_not (ha : DE X a fa) : DE X (.UnaryOp .Not a pos) (u1 hNot fa) := by
  obtain ⟨t, pt, qt⟩ := ha
  refine ⟨_, pe_not pt, fun B W O σ H ρ g s g' D e Q q => ?_⟩
  obtain ⟨⟨x, g1⟩, e1, e⟩ := Option.bind_eq_some_iff.mp e
  obtain ⟨s1, e3, e4⟩ := Option.map_eq_some_iff.mp e
  cases e4
  refine qt B W O σ H ρ g x g1 D e1 _ fun v H1 x1 h1 r1 => ?_
  cases x with
  | bl i => cases e3; cases r1; exact ⟨i, rfl, q _ H1 x1 h1 .bl⟩
  | _ => cases e3
/-- x is None, x is not None -/
def isN (k : Bool → Bool) : DV → Option SV
  | .sh .non => some (.bl (k true))
  | .sh (.raw _) => none
  | _ => some (.bl (k false))
def u1P (k : DV → Option SV) (fa : OF) : EF := fun ρ g => (fa ρ g).bind fun p => (k p.1).map fun s => (s, p.2)
theorem isN_ok {K : Fg} {W : Wd} {O : List Addr} {H : Hp} {k : Bool → Bool} {v : V} {d : DV} {fp : List Addr} {s : SV} (r : Rep K W O H v d fp) (e : isN k d = some s) : s = .bl (k (decide (v = .non))) := by
  unfold isN at e
  split at e
  · cases e; cases r with
    | sh r => cases r; rfl
  · cases e
  · rename_i h1 h2
    cases e
    have hv : v ≠ .non := by
      rintro rfl
      cases r with
      | sh r => cases r with
        | non => exact h1 rfl
        | raw => exact h2 _ rfl
    rw [decide_eq_false hv]
theorem de_isN (ha : DP X a ha') {k : Nat} {p2 : Pos} : DE X (.Compare a [.Is] [.Constant .none k p2] pos) (u1P (isN fun x => x) ha') := by
  obtain ⟨t, pt, qt⟩ := ha
  refine ⟨_, pe_cmpR op_isN pt pe_non (nomark _), fun B W O σ H ρ g s g' D e Q q => ?_⟩
  obtain ⟨⟨x, g1⟩, e1, e⟩ := Option.bind_eq_some_iff.mp e
  obtain ⟨s1, e3, e4⟩ := Option.map_eq_some_iff.mp e
  cases e4
  refine qt B W O σ H ρ g x g1 D e1 _ fun v H1 fp x1 h1 r1 => ?_
  have z := isN_ok r1 e3
  subst z
  exact ⟨rfl, q _ H1 x1 h1 .bl⟩
theorem de_notN (ha : DP X a ha') {k : Nat} {p2 : Pos} : DE X (.Compare a [.IsNot] [.Constant .none k p2] pos) (u1P (isN fun x => !x) ha') := by
  obtain ⟨t, pt, qt⟩ := ha
  refine ⟨_, pe_cmpR op_notN pt pe_non (nomark _), fun B W O σ H ρ g s g' D e Q q => ?_⟩
  obtain ⟨⟨x, g1⟩, e1, e⟩ := Option.bind_eq_some_iff.mp e
  obtain ⟨s1, e3, e4⟩ := Option.map_eq_some_iff.mp e
  cases e4
  refine qt B W O σ H ρ g x g1 D e1 _ fun v H1 fp x1 h1 r1 => ?_
  have z := isN_ok r1 e3
  subst z
  exact ⟨rfl, q _ H1 x1 h1 .bl⟩

/-! ### tests -/
def tB1 (f : EF) : TF := fun ρ g => (f ρ g).bind fun p => match p.1 with
  | .bl b => some (b, p.2)
  | _ => none
def tAnd1 (a b : TF) : TF := fun ρ g => (a ρ g).bind fun p => if p.1 = true then b ρ p.2 else some (false, p.2)
def tOr1 (a b : TF) : TF := fun ρ g => (a ρ g).bind fun p => if p.1 = true then some (true, p.2) else b ρ p.2
def tNot1 (a : TF) : TF := fun ρ g => (a ρ g).map fun p => (!p.1, p.2)
theorem tB1s {K : Fg} {t : TE} (h : DEs K t f) : DTs K (fun σ H Q => t σ H fun x H1 => ∃ c, x = .bl c ∧ Q c H1) (tB1 f) := by
  intro B W O σ H ρ g b g' D e Q q
  obtain ⟨⟨x, g1⟩, e1, e⟩ := Option.bind_eq_some_iff.mp e
  refine h B W O σ H ρ g x g1 D e1 _ fun v H1 x1 h1 r1 => ?_
  cases x with
  | bl i => cases e; cases r1; exact ⟨_, rfl, q H1 x1 h1⟩
  | _ => cases e
theorem dt_val (h : DE X e f) (he : ∀ whole, isTrue e X.env whole = (do let v ← whole; standAt e.pos; holding [v] (truthy v)) := by intro _; rfl) : DT X e (tB1 f) := by
  obtain ⟨t, pt, qt⟩ := h
  exact ⟨_, pt_val pt he, tB1s qt⟩
theorem dt_not (h : DT X a tt) : DT X (.UnaryOp .Not a pos) (tNot1 tt) := by
  obtain ⟨t, pt, qt⟩ := h
  refine ⟨_, pt_not pt, fun B W O σ H ρ g b g' D e Q q => ?_⟩
  obtain ⟨⟨x, g1⟩, e1, e2⟩ := Option.map_eq_some_iff.mp e
  cases e2
  exact qt B W O σ H ρ g x g1 D e1 _ fun H1 x1 h1 => q H1 x1 h1
variable {ta tb : TF} {rest : List Expr}
theorem dw_and1 (h : DT X a ta) : DW X (.BoolOp .And [a] pos) ta := by
  obtain ⟨t, pt, qt⟩ := h
  exact ⟨t, pw_and1 pt, qt⟩
theorem dw_or1 (h : DT X a ta) : DW X (.BoolOp .Or [a] pos) ta := by
  obtain ⟨t, pt, qt⟩ := h
  exact ⟨t, pw_or1 pt, qt⟩
theorem dw_and (h : DT X a ta) (h2 : DW X (.BoolOp .And (b :: rest) pos) tb) : DW X (.BoolOp .And (a :: b :: rest) pos) (tAnd1 ta tb) := by
  obtain ⟨t, pt, qt⟩ := h
  obtain ⟨u, pu, qu⟩ := h2
  refine ⟨_, pw_and pt pu, fun B W O σ H ρ g b g' D e Q q => ?_⟩
  obtain ⟨⟨x, g1⟩, e1, e⟩ := Option.bind_eq_some_iff.mp e
  refine qt B W O σ H ρ g x g1 D e1 _ fun H1 x1 h1 => ?_
  cases x with
  | true =>
    rw [if_pos rfl] at e ⊢
    exact qu B W O σ H1 ρ g1 b g' (D.step x1 h1) e Q fun H2 x2 h2 => q H2 (x1.trans x2) h2
  | false =>
    dsimp only at e
    rw [if_neg Bool.false_ne_true] at e ⊢
    cases e
    exact q H1 x1 h1
theorem dw_or (h : DT X a ta) (h2 : DW X (.BoolOp .Or (b :: rest) pos) tb) : DW X (.BoolOp .Or (a :: b :: rest) pos) (tOr1 ta tb) := by
  obtain ⟨t, pt, qt⟩ := h
  obtain ⟨u, pu, qu⟩ := h2
  refine ⟨_, pw_or pt pu, fun B W O σ H ρ g b g' D e Q q => ?_⟩
  obtain ⟨⟨x, g1⟩, e1, e⟩ := Option.bind_eq_some_iff.mp e
  refine qt B W O σ H ρ g x g1 D e1 _ fun H1 x1 h1 => ?_
  cases x with
  | false =>
    dsimp only at e
    rw [if_neg Bool.false_ne_true] at e ⊢
    exact qu B W O σ H1 ρ g1 b g' (D.step x1 h1) e Q fun H2 x2 h2 => q H2 (x1.trans x2) h2
  | true =>
    rw [if_pos rfl] at e ⊢
    cases e
    exact q H1 x1 h1
theorem DW.t (h : DW X e ta) : DT X e ta := by
  obtain ⟨t, pt, qt⟩ := h
  exact ⟨t, pt.pt, qt⟩
def ifV (c : TF) (fa fb : EF) : EF := fun ρ g => (c ρ g).bind fun p => if p.1 = true then fa ρ p.2 else fb ρ p.2
theorem de_ifExp (hc : DT X c tt) (ha : DE X a fa) (hb : DE X b fb) : DE X (.IfExp c a b pos) (ifV tt fa fb) := by
  obtain ⟨t, pt, qt⟩ := hc
  obtain ⟨u, pu, qu⟩ := ha
  obtain ⟨w, pw, qw⟩ := hb
  refine ⟨_, pe_ifExp pt pu pw, fun B W O σ H ρ g s g' D e Q q => ?_⟩
  obtain ⟨⟨x, g1⟩, e1, e⟩ := Option.bind_eq_some_iff.mp e
  refine qt B W O σ H ρ g x g1 D e1 _ fun H1 x1 h1 => ?_
  cases x with
  | true =>
    rw [if_pos rfl] at e ⊢
    exact qu B W O σ H1 ρ g1 s g' (D.step x1 h1) e Q fun v H2 x2 h2 => q v H2 (x1.trans x2) h2
  | false =>
    dsimp only at e
    rw [if_neg Bool.false_ne_true] at e ⊢
    exact qw B W O σ H1 ρ g1 s g' (D.step x1 h1) e Q fun v H2 x2 h2 => q v H2 (x1.trans x2) h2
/-- and, or as values: all but the last are truth values -/
def vAnd (a : EF) (b : EF) : EF := fun ρ g => (a ρ g).bind fun p => match p.1 with
  | .bl true => b ρ p.2
  | .bl false => some (.bl false, p.2)
  | _ => none
def vOr (a : EF) (b : EF) : EF := fun ρ g => (a ρ g).bind fun p => match p.1 with
  | .bl false => b ρ p.2
  | .bl true => some (.bl true, p.2)
  | _ => none
theorem de_one {op} (h : DE X a fa) : DE X (.BoolOp op [a] pos) fa := by
  obtain ⟨t, pt, qt⟩ := h
  exact ⟨t, pe_one pt, qt⟩
theorem de_and (h : DE X a fa) (h2 : DE X (.BoolOp .And (b :: rest) pos) fb) : DE X (.BoolOp .And (a :: b :: rest) pos) (vAnd fa fb) := by
  obtain ⟨t, pt, qt⟩ := h
  obtain ⟨u, pu, qu⟩ := h2
  refine ⟨_, pe_and pt pu, fun B W O σ H ρ g s g' D e Q q => ?_⟩
  obtain ⟨⟨x, g1⟩, e1, e⟩ := Option.bind_eq_some_iff.mp e
  refine qt B W O σ H ρ g x g1 D e1 _ fun v H1 x1 h1 r1 => ?_
  cases x with
  | bl i =>
    cases r1
    refine ⟨i, rfl, ?_⟩
    cases i with
    | true =>
      rw [if_pos rfl]
      exact qu B W O σ H1 ρ g1 s g' (D.step x1 h1) e Q fun v H2 x2 h2 => q v H2 (x1.trans x2) h2
    | false =>
      rw [if_neg (by decide)]
      cases e
      exact q _ H1 x1 h1 .bl
  | _ => cases e
theorem de_or (h : DE X a fa) (h2 : DE X (.BoolOp .Or (b :: rest) pos) fb) : DE X (.BoolOp .Or (a :: b :: rest) pos) (vOr fa fb) := by
  obtain ⟨t, pt, qt⟩ := h
  obtain ⟨u, pu, qu⟩ := h2
  refine ⟨_, pe_or pt pu, fun B W O σ H ρ g s g' D e Q q => ?_⟩
  obtain ⟨⟨x, g1⟩, e1, e⟩ := Option.bind_eq_some_iff.mp e
  refine qt B W O σ H ρ g x g1 D e1 _ fun v H1 x1 h1 r1 => ?_
  cases x with
  | bl i =>
    cases r1
    refine ⟨i, rfl, ?_⟩
    cases i with
    | false =>
      rw [if_neg (by decide)]
      exact qu B W O σ H1 ρ g1 s g' (D.step x1 h1) e Q fun v H2 x2 h2 => q v H2 (x1.trans x2) h2
    | true =>
      rw [if_pos rfl]
      cases e
      exact q _ H1 x1 h1 .bl
  | _ => cases e

/-! ### items -/
def SV.seq? : SV → Option (List SV)
  | .tup xs => some xs
  | .lst xs => some xs
  | _ => none
def hIx (a b : SV) : Option SV := match a.seq?, b with
  | some xs, .int i => atI xs i
  | _, _ => none
theorem atI_rep {K : Fg} {W : Wd} {M : Hp} {vs : List V} {xs : List SV} {i : Int} {s : SV} (r : RepSs K W M vs xs) (e : atI xs i = some s) : ∃ v, atI vs i = some v ∧ RepS K W M v s := by
  unfold atI at e ⊢
  rw [r.length]
  obtain ⟨j, e1, e2⟩ := Option.bind_eq_some_iff.mp e
  obtain ⟨v, e3, r3⟩ := r.get e2
  exact ⟨v, by rw [e1]; exact e3, r3⟩
theorem r2_ix {K : Fg} : R2S K (rIx K) hIx := by
  intro W O H x y a b s ra rb e hO Q q
  unfold hIx at e
  split at e
  · rename_i xs i h1
    cases rb
    cases ra with
    | tup hq r =>
      cases h1
      obtain ⟨v, e1, r1⟩ := atI_rep r e
      exact .inr (.inl ⟨_, _, i, v, rfl, rfl, sqT_mono msk_sub hq, e1, q v H (Same.refl H) r1⟩)
    | lst hq r =>
      cases h1
      obtain ⟨v, e1, r1⟩ := atI_rep r e
      exact .inl ⟨_, _, i, v, rfl, rfl, .inl (.inl (of_msk hq).1), e1, q v H (Same.refl H) r1⟩
    | _ => cases h1
  · cases e
theorem de_ix (ha : DE X a fa) (hb : DE X b fb) (hs : PlainIx b := by exact fun _ _ => rfl) : DE X (.Subscript a b pos) (b2 hIx fa fb) := by
  obtain ⟨t, pt, qt⟩ := ha
  obtain ⟨u, pu, qu⟩ := hb
  exact ⟨_, pe_ix ix_seq pt pu hs, op2s r2_ix qt qu⟩
/-- an item of a thing that is looked at -/
def DV.at (d : DV) (i : Int) : Option DV := match d with
  | .own ds => atI ds i
  | .sh s => s.seq?.bind fun xs => (atI xs i).map .sh
def ixP (fa : OF) (fb : EF) : OF := fun ρ g => (fa ρ g).bind fun p => (fb ρ p.2).bind fun q => match q.1 with
  | .int i => (p.1.at i).map fun d => (d, q.2)
  | _ => none
theorem atI_reps {K : Fg} {W : Wd} {O : List Addr} {M : Hp} {vs : List V} {ds : List DV} {fp : List Addr} {i : Int} {d : DV} (r : Reps K W O M vs ds fp) (e : atI ds i = some d) : ∃ v fq, atI vs i = some v ∧ Rep K W O M v d fq := by
  unfold atI at e ⊢
  rw [r.length]
  obtain ⟨j, e1, e2⟩ := Option.bind_eq_some_iff.mp e
  obtain ⟨v, fq, e3, r3⟩ := r.get e2
  exact ⟨v, fq, by rw [e1]; exact e3, r3⟩
theorem dp_ix {ga : OF} (ha : DP X a ga) (hb : DE X b fb) (hs : PlainIx b := by exact fun _ _ => rfl) : DP X (.Subscript a b pos) (ixP ga fb) := by
  obtain ⟨t, pt, qt⟩ := ha
  obtain ⟨u, pu, qu⟩ := hb
  refine ⟨_, pe_ix ix_seq pt pu hs, fun B W O σ H ρ g d g' D e Q q => ?_⟩
  obtain ⟨⟨x, g1⟩, e1, e⟩ := Option.bind_eq_some_iff.mp e
  obtain ⟨⟨y, g2⟩, e2, e⟩ := Option.bind_eq_some_iff.mp e
  refine qt B W O σ H ρ g x g1 D e1 _ fun v H1 fp x1 h1 r1 => ?_
  have D1 := D.step x1 h1
  refine qu B W O σ H1 ρ g1 y g2 D1 e2 _ fun w H2 x2 h2 r2 => ?_
  have r1' := r1.mono (D1.toDen0.keep x2) x2 (fun a m => (r1.inO a m).1)
  cases y with
  | int i =>
    obtain ⟨d1, e3, e4⟩ := Option.map_eq_some_iff.mp e
    cases e4
    cases r2
    cases r1' with
    | own ho hw hl rs =>
      obtain ⟨z, fq, e5, r5⟩ := atI_reps rs e3
      exact .inl ⟨_, _, i, z, rfl, rfl, .inl (.inl hl), e5, q z H2 fq (x1.trans x2) h2 r5⟩
    | sh r =>
      obtain ⟨xs, e5, e6⟩ := Option.bind_eq_some_iff.mp e3
      obtain ⟨s, e7, e8⟩ := Option.map_eq_some_iff.mp e6
      subst e8
      cases r with
      | tup hq r =>
        cases e5
        obtain ⟨v, e1, r1⟩ := atI_rep r e7
        exact .inr (.inl ⟨_, _, i, v, rfl, rfl, sqT_mono msk_sub hq, e1, q v H2 [] (x1.trans x2) h2 (.sh r1)⟩)
      | lst hq r =>
        cases e5
        obtain ⟨v, e1, r1⟩ := atI_rep r e7
        exact .inl ⟨_, _, i, v, rfl, rfl, .inl (.inl (of_msk hq).1), e1, q v H2 [] (x1.trans x2) h2 (.sh r1)⟩
      | _ => cases e5
  | _ => cases e
end
end DL

/-! DL3: arguments, displays, slices, calls. -/
namespace DL
open PySem PySem.Spec L2
theorem GOk.re {W : Wd} {O O2 : List Addr} {H : Hp} {g : GS} (h : GOk W O H g) (ho : ∀ a ∈ W.as, a ∈ O2) : GOk W O2 H g := by
  match W with
  | none => trivial
  | some (a, b, c) =>
    obtain ⟨h1, h2, h3, n1, n2, n3, h4, h5, h6⟩ := h
    exact ⟨ho a (by simp [Wd.as]), ho b (by simp [Wd.as]), ho c (by simp [Wd.as]), n1, n2, n3, h4, h5, h6⟩
def DV.items? : DV → Option (List SV)
  | .own ds => ds.mapM DV.sh?
  | .sh s => s.seq?
theorem mapM_sh : ∀ xs : List SV, (xs.map DV.sh).mapM DV.sh? = some xs
  | [] => rfl
  | x :: xs => by simp [List.mapM_cons, DV.sh?, mapM_sh xs]
theorem of_mapM_sh : ∀ {ds : List DV} {xs : List SV}, ds.mapM DV.sh? = some xs → ds = xs.map DV.sh
  | [], xs, h => by simp at h; subst h; rfl
  | d :: ds, xs, h => by
    simp only [List.mapM_cons, Option.bind_eq_bind, Option.bind_eq_some_iff, Option.pure_def, Option.some.injEq] at h
    obtain ⟨s, h1, ys, h2, rfl⟩ := h
    cases d with
    | own _ => cases h1
    | sh s' => cases h1; rw [of_mapM_sh h2]; rfl
section
variable {K : Fg} {W : Wd} {O : List Addr} {H : Hp} {v : V} {d : DV} {fp : List Addr} {xs : List SV}
theorem Rep.items (r : Rep K W O H v d fp) (e : d.items? = some xs) : ∃ a vs, v = .ref a ∧ (SqL K H a vs ∨ SqT K H a vs) ∧ RepSs K W (msk O H) vs xs := by
  cases r with
  | own ha hw h rs =>
    have e' := of_mapM_sh e
    subst e'
    exact ⟨_, _, rfl, .inl (.inl (.inl h)), (Reps.toS rs).1⟩
  | sh r =>
    cases r with
    | tup hq r => cases e; exact ⟨_, _, rfl, .inr (sqT_mono msk_sub hq), r⟩
    | lst hq r => cases e; exact ⟨_, _, rfl, .inl (.inl (.inl (of_msk hq).1)), r⟩
    | _ => cases e
/-- a list's items -/
def DV.lst? : DV → Option (List SV)
  | .own ds => ds.mapM DV.sh?
  | .sh (.lst xs) => some xs
  | _ => none
theorem Rep.list (r : Rep K W O H v d fp) (e : d.lst? = some xs) : ∃ a vs, v = .ref a ∧ H a = some (.lst vs) ∧ RepSs K W (msk O H) vs xs := by
  cases r with
  | own ha hw h rs =>
    have e' := of_mapM_sh e
    subst e'
    exact ⟨_, _, rfl, h, (Reps.toS rs).1⟩
  | sh r =>
    cases r with
    | lst hq r => cases e; exact ⟨_, _, rfl, (of_msk hq).1, r⟩
    | _ => cases e
/-- the length of a thing that is looked at -/
def DV.len? : DV → Option Nat
  | .own ds => some ds.length
  | .sh (.tup xs) => some xs.length
  | .sh (.lst xs) => some xs.length
  | _ => none
theorem Rep.len {n : Nat} (r : Rep K W O H v d fp) (e : d.len? = some n) : ∃ a vs, v = .ref a ∧ (SqL K H a vs ∨ SqT K H a vs) ∧ vs.length = n := by
  cases r with
  | own ha hw h rs => cases e; exact ⟨_, _, rfl, .inl (.inl (.inl h)), rs.length⟩
  | sh r =>
    cases r with
    | tup hq r => cases e; exact ⟨_, _, rfl, .inr (sqT_mono msk_sub hq), r.length⟩
    | lst hq r => cases e; exact ⟨_, _, rfl, .inl (.inl (.inl (of_msk hq).1)), r.length⟩
    | _ => cases e
end

theorem log2_lt_pow {n k : Nat} (h : n.log2 < k) : n < 2 ^ k := by
  by_cases h0 : n = 0
  · subst h0; exact Nat.two_pow_pos k
  · exact Nat.lt_of_lt_of_le (Nat.log2_lt h0 |>.mp (Nat.lt_succ_self _)) (Nat.pow_le_pow_right (by decide) h)
theorem log2_of_lt {n k : Nat} (hk : 0 < k) (h : n < 2 ^ k) : n.log2 < k := by
  by_cases h0 : n = 0
  · subst h0; simpa using hk
  · exact (Nat.log2_lt h0).mpr h
/-- not too long -/
def lenOk (n : Nat) : Bool := decide (n.log2 < 20)
theorem lenOk_of {n : Nat} (h : n ≤ 1000000) : lenOk n = true := decide_eq_true (log2_of_lt (by decide) (Nat.lt_of_le_of_lt h (by decide)))
theorem lenOk_lt {n : Nat} (h : lenOk n = true) : n < 1048576 := log2_lt_pow (k := 20) (of_decide_eq_true h)
def rngOk (n : Int) : Bool := decide (n.natAbs.log2 < 60)
theorem rngOk_lt {n : Int} (h : rngOk n = true) : n.natAbs < 1152921504606846976 := log2_lt_pow (k := 60) (of_decide_eq_true h)
theorem rngOk_of {n : Nat} (h : n ≤ 1000000) : rngOk (n : Int) = true := decide_eq_true (by rw [Int.natAbs_natCast]; exact log2_of_lt (by decide) (Nat.lt_of_le_of_lt h (by decide)))
/-! ### arguments, displays -/
def aN : AF := fun _ g => some ([], g)
def aC (f : EF) (fs : AF) : AF := fun ρ g => (f ρ g).bind fun p => (fs ρ p.2).map fun q => (p.1 :: q.1, q.2)
abbrev AOF := Env → GS → Option (List DV × GS)
def DAOs (K : Fg) (t : TA) (f : AOF) : Prop := ∀ B W O σ H ρ g s g', Den K B W O σ H ρ g → f ρ g = some (s, g') →
  ∀ Q : List V → Hp → Prop, (∀ v H' fp, Ext W H H' → GOk W B.1 H' g' → fp.Nodup → (∀ a ∈ fp, H a = none ∧ H' a ≠ none) → Reps K W (fp ++ O) H' v s fp → Q v H') → t σ H Q
def DAO (X : Cx) (es : List Expr) (f : AOF) : Prop := ∃ t, PA X es t ∧ DAOs X.K t f
def oN : AOF := fun _ g => some ([], g)
def oC (f : OF) (fs : AOF) : AOF := fun ρ g => (f ρ g).bind fun p => (fs ρ p.2).map fun q => (p.1 :: q.1, q.2)
def tupF (f : AF) : EF := fun ρ g => (f ρ g).bind fun p => if p.1.length ≤ 1000 then some (.tup p.1, p.2) else none
def lstF (f : AOF) : OF := fun ρ g => (f ρ g).bind fun p => if p.1.length ≤ 1000 then some (.own p.1, p.2) else none
theorem le1000 {n : Nat} (h : n ≤ 1000) : n ≤ sizeLine := Nat.le_of_lt (small1000 h)
section
variable {X : Cx} {e a b c : Expr} {es : List Expr} {f fa fb fc : EF} {h h' : OF} {fs : AF} {os : AOF} {pos : Pos}
theorem da_nil : DA X [] aN := ⟨_, pa_nil, fun B W O σ H ρ g s g' D e Q q => by cases e; exact q [] H Ext.refl D.gen .nil⟩
theorem da_cons (ha : DE X e f) (hr : DA X es fs) (hs : starEach (e :: es) X.env = (false, eval e X.env) :: starEach es X.env := by rfl) : DA X (e :: es) (aC f fs) := by
  obtain ⟨t, pt, qt⟩ := ha
  obtain ⟨u, pu, qu⟩ := hr
  refine ⟨_, pa_cons pt pu hs, fun B W O σ H ρ g s g' D e Q q => ?_⟩
  obtain ⟨⟨x, g1⟩, e1, e⟩ := Option.bind_eq_some_iff.mp e
  obtain ⟨⟨xs, g2⟩, e2, e3⟩ := Option.map_eq_some_iff.mp e
  cases e3
  refine qt B W O σ H ρ g x g1 D e1 _ fun v H1 x1 h1 r1 => ?_
  have D1 := D.step x1 h1
  refine qu B W O σ H1 ρ g1 xs g2 D1 e2 _ fun vs H2 x2 h2 r2 => ?_
  exact q _ H2 (x1.trans x2) h2 (.cons (r1.mono (D1.toDen0.keep x2)) r2)
theorem dao_nil : DAO X [] oN := ⟨_, pa_nil, fun B W O σ H ρ g s g' D e Q q => by cases e; exact q [] H [] Ext.refl D.gen List.nodup_nil (fun a z => by simp at z) .nil⟩
theorem dao_cons (ha : DO X e h) (hr : DAO X es os) (hs : starEach (e :: es) X.env = (false, eval e X.env) :: starEach es X.env := by rfl) : DAO X (e :: es) (oC h os) := by
  obtain ⟨t, pt, qt⟩ := ha
  obtain ⟨u, pu, qu⟩ := hr
  refine ⟨_, pa_cons pt pu hs, fun B W O σ H ρ g s g' D e Q q => ?_⟩
  obtain ⟨⟨x, g1⟩, e1, e⟩ := Option.bind_eq_some_iff.mp e
  obtain ⟨⟨xs, g2⟩, e2, e3⟩ := Option.map_eq_some_iff.mp e
  cases e3
  refine qt B W O σ H ρ g x g1 D e1 _ fun v H1 fp x1 h1 n1 f1 r1 => ?_
  have D1 := D.grow (fp := fp) x1 h1 f1
  refine qu B W _ σ H1 ρ g1 xs g2 D1 e2 _ fun vs H2 fq x2 h2 n2 f2 r2 => ?_
  refine q _ H2 (fp ++ fq) (x1.trans x2) h2 ?_ ?_ (.cons ?_ ?_)
  · rw [List.nodup_append]
    exact ⟨n1, n2, fun a ha b hb z => (f1 a ha).2 (by rw [z]; exact (f2 b hb).1)⟩
  · intro a ha
    rcases List.mem_append.mp ha with m | m
    · refine ⟨(f1 a m).1, ?_⟩
      have hw := (r1.inO a m).2.1
      cases q : H1 a with
      | none => exact absurd q (f1 a m).2
      | some o => rw [x2 a o hw q]; simp
    · refine ⟨?_, (f2 a m).2⟩
      cases q : H a with
      | none => rfl
      | some o =>
        by_cases hw : a ∈ W.as
        · exact absurd (f2 a m).1 (D1.dom a (D1.toDen0.was a hw))
        · have := (f2 a m).1
          rw [x1 a o hw q] at this; cases this
  · refine (r1.mono (D1.toDen0.keeps x2 fun a z => (f2 a z).1) x2 fun a m => List.mem_append_right _ (r1.inO a m).1).mono ?_ Ext.refl fun a m => List.mem_append_left _ (List.mem_append_left _ m)
    exact msk_le fun b z => by
      rcases List.mem_append.mp z with z | z
      · rcases List.mem_append.mp z with z | z
        · exact List.mem_append_right _ (List.mem_append_left _ z)
        · exact List.mem_append_left _ z
      · exact List.mem_append_right _ (List.mem_append_right _ z)
  · refine r2.mono ?_ Ext.refl fun a m => List.mem_append_left _ (List.mem_append_right _ m)
    exact msk_le fun b z => by
      rcases List.mem_append.mp z with z | z
      · rcases List.mem_append.mp z with z | z
        · exact List.mem_append_right _ (List.mem_append_left _ z)
        · exact List.mem_append_left _ z
      · exact List.mem_append_right _ (List.mem_append_right _ z)
theorem de_tup {k : Nat} (ha : DA X es fs) : DE X (.Tuple es k pos) (tupF fs) := by
  obtain ⟨t, pt, qt⟩ := ha
  refine ⟨_, pe_tup pt, fun B W O σ H ρ g s g' D e Q q => ?_⟩
  obtain ⟨⟨xs, g1⟩, e1, e⟩ := Option.bind_eq_some_iff.mp e
  split at e
  · rename_i hl
    cases e
    refine qt B W O σ H ρ g xs g1 D e1 _ fun vs H1 x1 h1 r1 => ⟨by rw [r1.length]; exact le1000 hl, fun p hp => ?_⟩
    have D1 := D.step x1 h1
    exact q _ _ (x1.trans (Same.ext (keep_new hp))) (h1.same (keep_new hp)) (rep_tup D1.dom hp r1)
  · cases e
theorem do_lst (ha : DAO X es os) : DO X (.List es pos) (lstF os) := by
  obtain ⟨t, pt, qt⟩ := ha
  refine ⟨_, pe_lst pt, fun B W O σ H ρ g s g' D e Q q => ?_⟩
  obtain ⟨⟨xs, g1⟩, e1, e⟩ := Option.bind_eq_some_iff.mp e
  split at e
  · rename_i hl
    cases e
    refine qt B W O σ H ρ g xs g1 D e1 _ fun vs H1 fp x1 h1 n1 f1 r1 => ⟨by rw [r1.length]; exact le1000 hl, fun p hp => ?_⟩
    have D1 := D.step x1 h1
    refine q _ _ (p :: fp) (x1.trans (Same.ext (keep_new hp))) (h1.same (keep_new hp)) ?_ ?_ (rep_own D1.dom D1.toDen0.was hp r1)
    · exact List.nodup_cons.mpr ⟨fun z => (f1 p z).2 hp, n1⟩
    · intro a ha
      rcases List.mem_cons.mp ha with m | m
      · subst m
        refine ⟨?_, by rw [upd_same]; simp⟩
        cases q : H a with
        | none => rfl
        | some o =>
          by_cases hw : a ∈ W.as
          · exact absurd hp (D1.dom a (D1.toDen0.was a hw))
          · rw [x1 a o hw q] at hp; cases hp
      · refine ⟨(f1 a m).1, ?_⟩
        rw [upd_ne (fun z => (f1 a m).2 (by rw [z]; exact hp))]
        exact (f1 a m).2
  · cases e
/-- something that lays a new list of shared items -/
theorem new_own {K : Fg} {B : Bs} {W : Wd} {O : List Addr} {σ : St} {H H1 : Hp} {ρ : Env} {g g1 : GS} {p : Addr} {vs : List V} {xs : List SV} {Q : VK} (D : Den K B W O σ H ρ g) (x1 : Ext W H H1) (h1 : GOk W B.1 H1 g1) (hp : H1 p = none) (r : RepSs K W (msk O H1) vs xs)
    (q : ∀ v H' fp, Ext W H H' → GOk W B.1 H' g1 → fp.Nodup → (∀ a ∈ fp, H a = none ∧ H' a ≠ none) → Rep K W (fp ++ O) H' v (.own (xs.map .sh)) fp → Q v H') : Q (.ref p) (upd H1 p (.lst vs)) := by
  have D1 := D.step x1 h1
  refine q _ _ [p] (x1.trans (Same.ext (keep_new hp))) (h1.same (keep_new hp)) (by simp) ?_ (rep_own (fp := []) D1.dom D1.toDen0.was hp (Reps.ofS r))
  intro a ha
  have m : a = p := by simpa using ha
  subst m
  refine ⟨?_, by rw [upd_same]; simp⟩
  cases q : H a with
  | none => rfl
  | some o =>
    by_cases hw : a ∈ W.as
    · exact absurd hp (D1.dom a (D1.toDen0.was a hw))
    · rw [x1 a o hw q] at hp; cases hp

/-! ### calls of one's own defs -/
abbrev FF := List SV → GS → Option (DV × GS)
def spD (K : Fg) (n : Nat) (F : FF) : Sp := fun vs H Q _ => ∃ W O ss g d g', vs.length = n ∧ RepSs K W (msk O H) vs ss ∧ (∀ a ∈ O, H a ≠ none) ∧ GOk W O H g ∧ F ss g = some (d, g') ∧
  ∀ v H' fp, Ext W H H' → GOk W O H' g' → fp.Nodup → (∀ a ∈ fp, H a = none ∧ H' a ≠ none) → Rep K W (fp ++ O) H' v d fp → Q v H'
def callF (F : FF) (fs : AF) : OF := fun ρ g => (fs ρ g).bind fun p => F p.1 p.2
theorem sp_of {K : Fg} {F : FF} {n : Nat} {B : Bs} {W : Wd} {O : List Addr} {σ : St} {H H1 : Hp} {ρ : Env} {g g1 g' : GS} {vs : List V} {ss : List SV} {d : DV} {Q : VK} {E : XK} (D : Den K B W O σ H ρ g) (x1 : Ext W H H1) (h1 : GOk W B.1 H1 g1) (r : RepSs K W (msk O H1) vs ss) (hn : ss.length = n) (e : F ss g1 = some (d, g'))
    (q : ∀ v H' fp, Ext W H H' → GOk W B.1 H' g' → fp.Nodup → (∀ a ∈ fp, H a = none ∧ H' a ≠ none) → Rep K W (fp ++ O) H' v d fp → Q v H') : spD K n F vs H1 Q E := by
  have D1 := D.step x1 h1
  refine ⟨W, O, ss, g1, d, g', by rw [r.length]; exact hn, r, D1.dom, h1.re D1.toDen0.was, e, fun v H' fp x2 h2 n2 f2 r2 => ?_⟩
  refine q v H' fp (x1.trans x2) (h2.re fun a ha => (D.gen.mem a ha).1) n2 (fun a m => ⟨?_, (f2 a m).2⟩) r2
  cases q : H a with
  | none => rfl
  | some o =>
    by_cases hw : a ∈ W.as
    · exact absurd (f2 a m).1 (D1.dom a (D1.toDen0.was a hw))
    · have := (f2 a m).1
      rw [x1 a o hw q] at this; cases this
def FF.ar (n : Nat) (F : FF) : Prop := ∀ ss g r, F ss g = some r → ss.length = n
theorem do_call {F : FF} {n k : Nat} {fd : FuncData} {fa : Addr} {ps : List Str} {x : Str} {p : Pos} (G : FnOk X.prog X.w X.K X.mg X.base CX0 k fa fd ps (spD X.K n F)) (ar : FF.ar n F) (hr : Room k X.A) (hg : Gl X x) (hm : X.mg x = some (.ref fa)) (hk : PySem.W.keepIn X.K (.ref fa) = true) (hb : Binds X.K fd ps [])
    (ha : DA X (e :: es) fs) (hdb : (x == ("__debug__" : Str)) = false := by decide) (he : starEach (e :: es) X.env = (false, eval e X.env) :: starEach es X.env := by rfl) (hpl : (backTo pos (starEach es X.env)).any (·.1) = false := by rfl) :
    DO X (.Call (.Name x p) (e :: es) [] pos) (callF F fs) := by
  obtain ⟨t, pt, qt⟩ := ha
  refine ⟨_, pe_call G hr hg hm hk hb .nil pass0 pt hdb he hpl, fun B W O σ H ρ g d g' D e Q q => ?_⟩
  obtain ⟨⟨ss, g1⟩, e1, e2⟩ := Option.bind_eq_some_iff.mp e
  refine qt B W O σ H ρ g ss g1 D e1 _ fun vs H1 x1 h1 r1 => ?_
  rw [List.append_nil]
  exact sp_of D x1 h1 r1 (ar _ _ _ e2) e2 q

/-! ### calls of built-ins -/
def RLS (K : Fg) (r : List V → Hp → VK → Prop) (k : List SV → Option SV) : Prop := ∀ W O H vs ss s, RepSs K W (msk O H) vs ss → k ss = some s → (∀ a ∈ O, H a ≠ none) → ∀ Q : VK, (∀ v H', Same H H' → RepS K W (msk O H') v s → Q v H') → r vs H Q
def c1 (k : List SV → Option SV) (fs : AF) : EF := fun ρ g => (fs ρ g).bind fun p => (k p.1).map fun s => (s, p.2)
theorem tCBs {K : Fg} {r : List V → Hp → VK → Prop} {k : List SV → Option SV} {t : TA} (hr : RLS K r k) (ha : DAs K t fs) : DEs K (tCB r t) (c1 k fs) := by
  intro B W O σ H ρ g s g' D e Q q
  obtain ⟨⟨ss, g1⟩, e1, e⟩ := Option.bind_eq_some_iff.mp e
  obtain ⟨s1, e3, e4⟩ := Option.map_eq_some_iff.mp e
  cases e4
  refine ha B W O σ H ρ g ss g1 D e1 _ fun vs H1 x1 h1 r1 => ?_
  have D1 := D.step x1 h1
  exact hr W O H1 vs ss _ r1 e3 D1.dom _ fun v H2 sm r2 => q v H2 (x1.trans (Same.ext sm)) (h1.same sm) r2
theorem de_callB {id : String} {x : Str} {p : Pos} {r : List V → Hp → VK → Prop} {k : List SV → Option SV} (hc : CallR X (.builtin id) r) (hr : RLS X.K r k) (hg : Gl X x) (hm : X.mg x = none) (hv : bootBuiltins x = some (.builtin id)) (ha : DA X (e :: es) fs) (hn : x ≠ "__name__" := by decide) (hdb : (x == ("__debug__" : Str)) = false := by decide)
    (he : starEach (e :: es) X.env = (false, eval e X.env) :: starEach es X.env := by rfl) (hpl : (backTo pos (starEach es X.env)).any (·.1) = false := by rfl) : DE X (.Call (.Name x p) (e :: es) [] pos) (c1 k fs) := by
  obtain ⟨t, pt, qt⟩ := ha
  exact ⟨_, pe_callB hc hg hm hv pt hn hdb he hpl, tCBs hr qt⟩
theorem de_callTy {T : String} {x : Str} {p : Pos} {r : List V → Hp → VK → Prop} {k : List SV → Option SV} (hc : CallR X (.type T) r) (hr : RLS X.K r k) (hg : Gl X x) (hm : X.mg x = none) (hv : bootBuiltins x = some (.type T)) (ha : DA X (e :: es) fs) (hn : x ≠ "__name__" := by decide) (hdb : (x == ("__debug__" : Str)) = false := by decide)
    (he : starEach (e :: es) X.env = (false, eval e X.env) :: starEach es X.env := by rfl) (hpl : (backTo pos (starEach es X.env)).any (·.1) = false := by rfl) : DE X (.Call (.Name x p) (e :: es) [] pos) (c1 k fs) := by
  obtain ⟨t, pt, qt⟩ := ha
  exact ⟨_, pe_callTy hc hg hm hv pt hn hdb he hpl, tCBs hr qt⟩
theorem de_callBfun {id : String} {x : Str} {p : Pos} {r : List V → Hp → VK → Prop} {k : List SV → Option SV} (hc : CallR X (.builtin id) r) (hr : RLS X.K r k) (hg : Gl X x) (hm : X.mg x = some (.builtin id)) (ha : DA X (e :: es) fs) (hdb : (x == ("__debug__" : Str)) = false := by decide)
    (he : starEach (e :: es) X.env = (false, eval e X.env) :: starEach es X.env := by rfl) (hpl : (backTo pos (starEach es X.env)).any (·.1) = false := by rfl) : DE X (.Call (.Name x p) (e :: es) [] pos) (c1 k fs) := by
  obtain ⟨t, pt, qt⟩ := ha
  exact ⟨_, pe_callBfun hc hg hm pt hdb he hpl, tCBs hr qt⟩
def hAbs : List SV → Option SV
  | [.int i] => some (.int (if i < 0 then -i else i))
  | _ => none
def hMax : List SV → Option SV
  | [.int i, .int j] => some (.int (if j > i then j else i))
  | _ => none
def hMin : List SV → Option SV
  | [.int i, .int j] => some (.int (if j < i then j else i))
  | _ => none
def hInt : List SV → Option SV
  | [.int i] => some (.int i)
  | [.bl k] => some (.int (if k then 1 else 0))
  | _ => none
def hGcd : List SV → Option SV
  | [.int i, .int j] => some (.int ((Nat.gcd i.natAbs j.natAbs : Nat) : Int))
  | _ => none
def hLcm : List SV → Option SV
  | [.int i, .int j] => if i.natAbs.log2 < 9000 ∧ j.natAbs.log2 < 9000 then some (.int ((Nat.lcm i.natAbs j.natAbs : Nat) : Int)) else none
  | _ => none
theorem reps1 {K : Fg} {W : Wd} {M : Hp} {vs : List V} {x : SV} (r : RepSs K W M vs [x]) : ∃ v, vs = [v] ∧ RepS K W M v x := by
  cases r with
  | cons h t => cases t; exact ⟨_, rfl, h⟩
theorem reps2 {K : Fg} {W : Wd} {M : Hp} {vs : List V} {x y : SV} (r : RepSs K W M vs [x, y]) : ∃ v w, vs = [v, w] ∧ RepS K W M v x ∧ RepS K W M w y := by
  cases r with
  | cons h t =>
    obtain ⟨w, rfl, r2⟩ := reps1 t
    exact ⟨_, _, rfl, h, r2⟩
theorem rl_abs {K : Fg} : RLS K (fun xs H Q => ∃ i, xs = [.int i] ∧ Q (.int (if i < 0 then -i else i)) H) hAbs := by
  intro W O H vs ss s r e hO Q q
  unfold hAbs at e
  split at e
  · cases e
    obtain ⟨v, rfl, r1⟩ := reps1 r
    cases r1
    exact ⟨_, rfl, q _ H (Same.refl H) .int⟩
  · cases e
theorem rl_max {K : Fg} : RLS K (fun xs H Q => ∃ i j, xs = [.int i, .int j] ∧ Q (.int (if j > i then j else i)) H) hMax := by
  intro W O H vs ss s r e hO Q q
  unfold hMax at e
  split at e
  · cases e
    obtain ⟨v, w, rfl, r1, r2⟩ := reps2 r
    cases r1; cases r2
    exact ⟨_, _, rfl, q _ H (Same.refl H) .int⟩
  · cases e
theorem rl_min {K : Fg} : RLS K (fun xs H Q => ∃ i j, xs = [.int i, .int j] ∧ Q (.int (if j < i then j else i)) H) hMin := by
  intro W O H vs ss s r e hO Q q
  unfold hMin at e
  split at e
  · cases e
    obtain ⟨v, w, rfl, r1, r2⟩ := reps2 r
    cases r1; cases r2
    exact ⟨_, _, rfl, q _ H (Same.refl H) .int⟩
  · cases e
theorem rl_int {K : Fg} : RLS K (fun xs H Q => (∃ i, xs = [.int i] ∧ Q (.int i) H) ∨ ∃ k, xs = [.bl k] ∧ Q (.int (if k then 1 else 0)) H) hInt := by
  intro W O H vs ss s r e hO Q q
  unfold hInt at e
  split at e
  · cases e
    obtain ⟨v, rfl, r1⟩ := reps1 r
    cases r1
    exact .inl ⟨_, rfl, q _ H (Same.refl H) .int⟩
  · cases e
    obtain ⟨v, rfl, r1⟩ := reps1 r
    cases r1
    exact .inr ⟨_, rfl, q _ H (Same.refl H) .int⟩
  · cases e
theorem rl_gcd {K : Fg} : RLS K rGcd hGcd := by
  intro W O H vs ss s r e hO Q q
  unfold hGcd at e
  split at e
  · cases e
    obtain ⟨v, w, rfl, r1, r2⟩ := reps2 r
    cases r1; cases r2
    exact ⟨_, _, rfl, q _ H (Same.refl H) .int⟩
  · cases e
def rLcm : List V → Hp → VK → Prop := fun vs H Q => ∃ a b : Int, vs = [.int a, .int b] ∧ a.natAbs.log2 < 9000 ∧ b.natAbs.log2 < 9000 ∧ Q (.int ((Nat.lcm a.natAbs b.natAbs : Nat) : Int)) H
theorem lcm_one (m : Nat) : Nat.lcm 1 m = m := by simp [Nat.lcm]
theorem cr_lcm : CallR X (.builtin "math.lcm") rLcm := by
  intro pins s σ H vs us Q I r h
  obtain ⟨a, b, rfl, ha, hb, q⟩ := h
  obtain ⟨t, u, rfl⟩ := Vals.int2 r
  have h1 := log2_lt_pow ha
  have h2 := log2_lt_pow hb
  have p9 : (2 : Nat) ^ 9000 ≥ 1 := Nat.two_pow_pos _
  have hm1 : (max 1 a.natAbs).log2 ≤ 9000 := by
    by_cases z : 1 ≤ a.natAbs
    · rw [Nat.max_eq_right z]; omega
    · rw [Nat.max_eq_left (by omega)]; decide
  have hm2 : (max a.natAbs b.natAbs).log2 ≤ 9000 := by
    by_cases z : a.natAbs ≤ b.natAbs
    · rw [Nat.max_eq_right z]; omega
    · rw [Nat.max_eq_left (by omega)]; omega
  have hl : a.natAbs.lcm b.natAbs ≤ a.natAbs * b.natAbs := by
    unfold Nat.lcm
    exact Nat.div_le_self _ _
  have hsz : (((((Nat.lcm 1 a.natAbs).lcm b.natAbs : Nat) : Int)).natAbs).log2 < bitsLine := by
    rw [lcm_one, Int.natAbs_natCast]
    have hb' : bitsLine = 134217728 := by decide
    rw [hb']
    refine Nat.lt_of_lt_of_le (log2_of_lt (k := 18000) (by decide) (Nat.lt_of_le_of_lt hl ?_)) (by decide)
    rw [show (18000 : Nat) = 9000 + 9000 from rfl, Nat.pow_add]
    exact Nat.mul_lt_mul'' h1 h2
  have key := PySem.W.mg_run_lcm a t b u (by omega) (by omega) hsz
  refine PySem.call_function_meets PySem.W.MGF.kind_lcm PySem.W.MGF.plain_lcm PySem.W.MGF.entry_lcm (PySem.W.MGF.args_lcm _ _) key.meets ?_
  rw [lcm_one]
  exact ⟨.int _, H, I.tok _, ⟨_, rfl⟩, q⟩
theorem rl_lcm {K : Fg} : RLS K rLcm hLcm := by
  intro W O H vs ss s r e hO Q q
  unfold hLcm at e
  split at e
  · split at e
    · rename_i hh
      cases e
      obtain ⟨v, w, rfl, r1, r2⟩ := reps2 r
      cases r1; cases r2
      exact ⟨_, _, rfl, hh.1, hh.2, q _ H (Same.refl H) .int⟩
    · cases e
  · cases e
end
end DL

/-! DL4: statements. -/
namespace DL
open PySem PySem.Spec L2
section
variable {K : Fg} {W : Wd} {H H' : Hp} {O O' : List Addr} {B : Bs} {σ : St} {ρ : Env} {g g' : GS} {v : V} {d d' : DV} {fp fq : List Addr}
theorem nodup_swap {a b : List Addr} (h : (a ++ b).Nodup) : (b ++ a).Nodup := by
  rw [List.nodup_append] at h ⊢
  exact ⟨h.2.1, h.1, fun x hx y hy e => h.2.2 y hy x hx e.symm⟩
/-- a slot taken out -/
theorem ERep.take : ∀ {σ : St} {ρ : Env} {fe : List Addr} {i : Nat} {d : DV}, ERep K W O H σ ρ fe → ρ[i]? = some (some d) → fe.Nodup →
    ∃ v fq fr, σ[i]? = some (some v) ∧ Rep K W O H v d fq ∧ ERep K W O H σ (ρ.set i none) fr ∧ (fq ++ fr).Nodup ∧ ∀ a, a ∈ fq ++ fr → a ∈ fe
  | _, _, _, _, _, .nil, h, _ => by simp at h
  | _, _, _, 0, _, .non t, h, _ => by cases (Option.some.inj h)
  | _, _, fe, i + 1, _, .non t, h, hn => by
    obtain ⟨v, fq, fr, e, r, t', n, hs⟩ := ERep.take (i := i) t (by simpa using h) hn
    exact ⟨v, fq, fr, by simpa using e, r, .non t', n, hs⟩
  | _, _, _, 0, _, .som r t, h, hn => by
    cases (Option.some.inj (Option.some.inj h))
    exact ⟨_, _, _, rfl, r, .non t, hn, fun a m => m⟩
  | _, _, _, i + 1, _, .som (fp := f1) (fq := f2) r t, h, hn => by
    have hn' := List.nodup_append.mp hn
    obtain ⟨v, fq, fr, e, r', t', n, hs⟩ := ERep.take (i := i) t (by simpa using h) hn'.2.1
    have n' := List.nodup_append.mp n
    refine ⟨v, fq, f1 ++ fr, by simpa using e, r', .som r t', ?_, fun a m => ?_⟩
    · rw [List.nodup_append]
      refine ⟨n'.1, ?_, fun a ha b hb z => ?_⟩
      · rw [List.nodup_append]
        exact ⟨hn'.1, n'.2.1, fun a ha b hb => hn'.2.2 a ha b (hs b (List.mem_append_right _ hb))⟩
      · rcases List.mem_append.mp hb with hb | hb
        · exact hn'.2.2 b hb a (hs a (List.mem_append_left _ ha)) z.symm
        · exact n'.2.2 a ha b hb z
    · rcases List.mem_append.mp m with m | m
      · exact List.mem_append_right _ (hs a (List.mem_append_left _ m))
      · rcases List.mem_append.mp m with m | m
        · exact List.mem_append_left _ m
        · exact List.mem_append_right _ (hs a (List.mem_append_right _ m))
/-- a slot put back -/
theorem ERep.put {v : V} {d : DV} {fq : List Addr} (r : Rep K W O H v d fq) : ∀ {σ : St} {ρ : Env} {fr : List Addr} {i : Nat}, ERep K W O H σ (ρ.set i none) fr → i < ρ.length → σ[i]? = some (some v) → (fq ++ fr).Nodup →
    ∃ fe, ERep K W O H σ (ρ.set i (some d)) fe ∧ fe.Nodup ∧ ∀ a ∈ fe, a ∈ fq ++ fr
  | σ, [], fr, i, t, h, _, _ => by simp at h
  | [], x :: ρ, fr, i, t, h, e, _ => by simp at e
  | y :: σ, x :: ρ, fr, 0, t, h, e, hn => by
    cases t with
    | non t =>
      cases (Option.some.inj e)
      exact ⟨_, .som r t, hn, fun a m => m⟩
  | y :: σ, none :: ρ, fr, i + 1, t, h, e, hn => by
    cases t with
    | non t =>
      obtain ⟨fe, h1, h2, h3⟩ := ERep.put r (i := i) t (by simpa using h) (by simpa using e) hn
      exact ⟨fe, .non h1, h2, h3⟩
  | y :: σ, some x :: ρ, fr, i + 1, t, h, e, hn => by
    cases t with
    | som r1 t =>
      rename_i v1 f1 f2
      have n1 := List.nodup_append.mp hn
      have n2 := List.nodup_append.mp n1.2.1
      obtain ⟨fe, h1, h2, h3⟩ := ERep.put r (i := i) t (by simpa using h) (by simpa using e) (by
        rw [List.nodup_append]
        exact ⟨n1.1, n2.2.1, fun a ha b hb => n1.2.2 a ha b (List.mem_append_right _ hb)⟩)
      refine ⟨f1 ++ fe, .som r1 h1, ?_, fun a m => ?_⟩
      · rw [List.nodup_append]
        refine ⟨n2.1, h2, fun a ha b hb z => ?_⟩
        rcases List.mem_append.mp (h3 b hb) with m | m
        · exact n1.2.2 b m a (List.mem_append_left _ ha) z.symm
        · exact n2.2.2 a ha b m z
      · rcases List.mem_append.mp m with m | m
        · exact List.mem_append_right _ (List.mem_append_left _ m)
        · rcases List.mem_append.mp (h3 a m) with m | m
          · exact List.mem_append_left _ m
          · exact List.mem_append_right _ (List.mem_append_right _ m)
theorem lt_of_slot {i : Nat} (h : ρ[i]? = some (some d)) : i < ρ.length := (List.getElem?_eq_some_iff.mp h).1
/-- an owned address changes: all that does not hold it stays -/
theorem msk_upd {a : Addr} {o : HO} (ha : a ∈ O) : msk O (upd H a o) = msk O H := by
  funext b
  unfold msk
  by_cases hb : b ∈ O
  · rw [if_pos hb, if_pos hb]
  · rw [if_neg hb, if_neg hb, upd_ne fun z => hb (by rw [z]; exact ha)]
mutual
theorem Rep.upd {a : Addr} {o : HO} (ha : a ∈ O) : ∀ {v : V} {d : DV} {fp : List Addr}, a ∉ fp → Rep K W O H v d fp → Rep K W O (upd H a o) v d fp
  | _, _, _, _, .sh h => .sh (by rw [msk_upd ha]; exact h)
  | _, _, _, hn, .own h1 h2 h3 r => .own h1 h2 (by rw [upd_ne fun z => hn (by rw [z]; exact List.mem_cons_self)]; exact h3) (Reps.upd ha (fun m => hn (List.mem_cons_of_mem _ m)) r)
theorem Reps.upd {a : Addr} {o : HO} (ha : a ∈ O) : ∀ {vs : List V} {ds : List DV} {fp : List Addr}, a ∉ fp → Reps K W O H vs ds fp → Reps K W O (upd H a o) vs ds fp
  | _, _, _, _, .nil => .nil
  | _, _, _, hn, .cons h t => .cons (Rep.upd ha (fun m => hn (List.mem_append_left _ m)) h) (Reps.upd ha (fun m => hn (List.mem_append_right _ m)) t)
end
theorem ERep.upd {a : Addr} {o : HO} (ha : a ∈ O) : ∀ {σ : St} {ρ : Env} {fp : List Addr}, a ∉ fp → ERep K W O H σ ρ fp → ERep K W O (upd H a o) σ ρ fp
  | _, _, _, _, .nil => .nil
  | _, _, _, hn, .non t => .non (ERep.upd ha hn t)
  | _, _, _, hn, .som h t => .som (Rep.upd ha (fun m => hn (List.mem_append_left _ m)) h) (ERep.upd ha (fun m => hn (List.mem_append_right _ m)) t)
theorem Den0.upd (D : Den0 B W O H g) {a : Addr} {o : HO} (hw : a ∉ W.as) (hb : B.2 a = none) : Den0 B W O (upd H a o) g where
  base := fun b x nb e => by
    rw [upd_ne fun z => by subst z; rw [hb] at e; cases e]
    exact D.base b x nb e
  sub := D.sub
  new := D.new
  dom := fun b m => by
    by_cases z : b = a
    · subst z; rw [upd_same]; simp
    · rw [upd_ne z]; exact D.dom b m
  gen := by
    have := D.gen
    match W, hw, this with
    | none, _, _ => trivial
    | some (x, y, z), hw, h =>
      obtain ⟨h1, h2, h3, n1, n2, n3, h4, h5, h6⟩ := h
      simp [Wd.as] at hw
      exact ⟨h1, h2, h3, n1, n2, n3, by rw [upd_ne fun q => hw.1 q.symm]; exact h4, by rw [upd_ne fun q => hw.2.1 q.symm]; exact h5, by rw [upd_ne fun q => hw.2.2 q.symm]; exact h6⟩
  bdom := D.bdom
/-- the state with a slot's own list at hand -/
theorem Den.own (D : Den K B W O σ H ρ g) {i : Nat} {ds : List DV} (h : ρ[i]? = some (some (.own ds))) :
    ∃ a vs fq fr, σ[i]? = some (some (.ref a)) ∧ a ∈ O ∧ a ∉ W.as ∧ H a = some (.lst vs) ∧ Reps K W O H vs ds fq ∧ ERep K W O H σ (ρ.set i none) fr ∧ ((a :: fq) ++ fr).Nodup ∧ ∀ b ∈ (a :: fq) ++ fr, B.2 b = none := by
  obtain ⟨fe, re, n, hh⟩ := D.env
  obtain ⟨v, fq, fr, e, r, t, n', hs⟩ := re.take h n
  cases r with
  | own ha hw hl rs => exact ⟨_, _, _, fr, e, ha, hw, hl, rs, t, n', fun b m => hh b (hs b m)⟩
/-- .. and the list stored anew: the new items stand apart -/
theorem Den.own_put (D : Den0 B W O H g) {a : Addr} {vs' : List V} {ds' : List DV} {fq' fr : List Addr} {i : Nat} (hi : i < ρ.length) (hσ : σ[i]? = some (some (.ref a))) (ha : a ∈ O) (hw : a ∉ W.as)
    (t : ERep K W O H σ (ρ.set i none) fr) (rs : Reps K W O H vs' ds' fq') (n : ((a :: fq') ++ fr).Nodup) (hb : ∀ b ∈ (a :: fq') ++ fr, B.2 b = none) :
    Den K B W O σ (upd H a (.lst vs')) (ρ.set i (some (.own ds'))) g := by
  have n1 := List.nodup_append.mp n
  have n2 := List.nodup_cons.mp n1.1
  have har : a ∉ fr := fun m => n1.2.2 a List.mem_cons_self a m rfl
  have hba : B.2 a = none := hb a (List.mem_append_left _ List.mem_cons_self)
  obtain ⟨fe, h1, h2, h3⟩ := ERep.put (.own ha hw upd_same (rs.upd ha n2.1)) (t.upd ha har) hi hσ n
  exact { D.upd hw hba with env := ⟨fe, h1, h2, fun b m => hb b (h3 b m)⟩ }
theorem keep_upd {a : Addr} {o : HO} (ha : a ∈ O) : Keep O H O (upd H a o) := by
  unfold Keep
  rw [msk_upd ha]
  exact Same.refl _
end

/-! ### names stored, returns, blocks -/
def setD (i : Nat) (f : OF) : SF := fun ρ g => (f ρ g).map fun p => .nx (ρ.set i (some p.1)) p.2
def retD (f : OF) : SF := fun ρ g => (f ρ g).map fun p => .rt p.1 p.2
def exprD (f : EF) : SF := fun ρ g => (f ρ g).map fun p => .nx ρ p.2
def skipD : SF := fun ρ g => some (.nx ρ g)
def brkD : SF := fun ρ g => some (.bk ρ g)
def cntD : SF := fun ρ g => some (.ct ρ g)
def noD : SF := fun _ _ => none
def seqD (a b : SF) : SF := fun ρ g => (a ρ g).bind fun r => match r with
  | .nx ρ' g' => b ρ' g'
  | .rt d g' => some (.rt d g')
  | .bk ρ' g' => some (.bk ρ' g')
  | .ct ρ' g' => some (.ct ρ' g')
def ifD (c : TF) (a b : SF) : SF := fun ρ g => (c ρ g).bind fun p => if p.1 = true then a ρ p.2 else b ρ p.2
theorem FlOk.keep {K : Fg} {B : Bs} {W : Wd} {O O1 : List Addr} {H H1 : Hp} {D : Ends} {r : Fl} (k : Keep O H O1 H1) (h : FlOk K B W O H D r) : FlOk K B W O1 H1 D r := by
  cases r with
  | nx ρ g => exact fun σ' O' H' k' => h σ' O' H' (k.trans k')
  | bk ρ g => exact fun σ' O' H' k' => h σ' O' H' (k.trans k')
  | ct ρ g => exact fun σ' O' H' k' => h σ' O' H' (k.trans k')
  | rt d g => exact h
section
variable {X : Cx} {e a b c : Expr} {s : Stmt} {ss : List Stmt} {f fa fb : EF} {h : OF} {c1 : TF} {s1 s2 : SF} {pos : Pos}
theorem DenV.set {K : Fg} {B : Bs} {W : Wd} {O : List Addr} {σ : St} {H : Hp} {ρ : Env} {g : GS} {v : V} {d : DV} (D : DenV K B W O σ H ρ g v d) (i : Nat) : Den K B W O (σ.set i (some v)) H (ρ.set i (some d)) g := by
  obtain ⟨fe, fp, re, r, n, hb⟩ := D.env
  obtain ⟨fq, h1, h2, h3⟩ := ERep.set r i re n
  exact { D.toDen0 with env := ⟨fq, h1, h2, fun a m => hb a (List.mem_append.mpr (h3 a m))⟩ }
theorem ds_set {i : Nat} {x : Str} {pos' : Pos} (hN : X.N.Nodup) (hi : X.N[i]? = some x) (hx : Loc X.env.scope x) (he : DO X e h) (hs : swapsWith e (some (.Name x pos')) pos.line X.env = pure false := by rfl) (hf : X.fn x = true ∨ X.env.scope.names.lookup x = some .local := by first | exact .inl rfl | exact .inr rfl | assumption) :
    DS X (.Assign [.Name x pos'] e pos) (setD i h) := by
  obtain ⟨t, pt, qt⟩ := he
  refine ⟨_, ps_set hN hi hx pt hs hf, fun B W O σ H ρ g r D e E q => ?_⟩
  obtain ⟨⟨d, g1⟩, e1, e2⟩ := Option.map_eq_some_iff.mp e
  cases e2
  refine qt B W O σ H ρ g d g1 D e1 _ fun v H1 fp x1 h1 n1 f1 r1 => ?_
  have D2 := D.withV x1 h1 n1 f1 r1
  exact q _ _ H1 (D.toDen0.keeps x1 fun a z => (f1 a z).1) (D2.set i)
theorem ds_ret (he : DO X e h) : DS X (.Return (some e) pos) (retD h) := by
  obtain ⟨t, pt, qt⟩ := he
  refine ⟨_, ps_ret pt, fun B W O σ H ρ g r D e E q => ?_⟩
  obtain ⟨⟨d, g1⟩, e1, e2⟩ := Option.map_eq_some_iff.mp e
  cases e2
  refine qt B W O σ H ρ g d g1 D e1 _ fun v H1 fp x1 h1 n1 f1 r1 => ?_
  exact q v _ H1 fp (D.toDen0.grow x1 h1 f1) r1 n1 fun a m => D.toDen0.fresh (f1 a m).1
/-- return of an own slot -/
def retV (i : Nat) : SF := fun ρ g => match ρ[i]? with
  | some (some d) => some (.rt d g)
  | _ => none
theorem ds_retv (i : Nat) {x : Str} {p' : Pos} (hN : X.N[i]? = some x := by rfl) (hv : Vis X.env.scope x := by first | exact Or.inl rfl | exact Or.inr (Or.inl rfl) | exact Or.inr (Or.inr rfl)) (hd : (x == ("__debug__" : Str)) = false := by decide)
    (hcd : (x == ("__classdict__" : Str)) = false := by decide) : DS X (.Return (some (.Name x p')) pos) (retV i) := by
  refine ⟨_, ps_ret (pe_var hN hv hd hcd), fun B W O σ H ρ g r D e E q => ?_⟩
  unfold retV at e
  split at e
  · rename_i d h1
    cases e
    obtain ⟨fe, re, n, hh⟩ := D.env
    obtain ⟨v, fq, fr, e1, r, t, n', hs⟩ := re.take h1 n
    exact ⟨v, e1, q v O H fq D.toDen0 r (List.nodup_append.mp n').1 fun a m => hh a (hs a (List.mem_append_left _ m))⟩
  · cases e
theorem ds_retN : DS X (.Return none pos) (retD (oS (kS .non))) :=
  ⟨_, ps_retN, fun B W O σ H ρ g r D e E q => by cases e; exact q .non O H [] D.toDen0 (.sh .non) List.nodup_nil fun a m => by simp at m⟩
theorem ds_expr (he : DE X e f) (hs : swapsWith e none pos.line X.env = pure false := by rfl) : DS X (.Expr e pos) (exprD f) := by
  obtain ⟨t, pt, qt⟩ := he
  refine ⟨_, ps_expr pt hs, fun B W O σ H ρ g r D e E q => ?_⟩
  obtain ⟨⟨d, g1⟩, e1, e2⟩ := Option.map_eq_some_iff.mp e
  cases e2
  refine qt B W O σ H ρ g d g1 D e1 _ fun v H1 x1 h1 r1 => ?_
  exact q σ O H1 (D.toDen0.keep x1) (D.step x1 h1)
theorem ds_pass : DS X (.Pass pos) skipD := ⟨_, ps_pass, fun B W O σ H ρ g r D e E q => by cases e; exact q σ O H Keep.refl D⟩
theorem ds_break : DS X (.Break pos) brkD := ⟨_, ps_break, fun B W O σ H ρ g r D e E q => by cases e; exact q σ O H Keep.refl D⟩
theorem ds_continue : DS X (.Continue pos) cntD := ⟨_, ps_continue, fun B W O σ H ρ g r D e E q => by cases e; exact q σ O H Keep.refl D⟩
theorem ds_never : DS X s noD := ⟨_, ps_never, fun B W O σ H ρ g r D e E q => by cases e⟩
theorem ds_doc {x j pos pos'} : DS X (.Expr (.Constant (.str x) j pos) pos') skipD := ⟨_, ps_doc, fun B W O σ H ρ g r D e E q => by cases e; exact q σ O H Keep.refl D⟩
theorem dss_nil : DSs X [] skipD := ⟨_, pss_nil, fun B W O σ H ρ g r D e E q => by cases e; exact q σ O H Keep.refl D⟩
theorem dss_one (hs : DS X s s1) : DSs X [s] s1 := by
  obtain ⟨t, pt, qt⟩ := hs
  exact ⟨t, pss_one pt, qt⟩
theorem dss_cons (hs : DS X s s1) (hr : DSs X ss s2) : DSs X (s :: ss) (seqD s1 s2) := by
  obtain ⟨t, pt, qt⟩ := hs
  obtain ⟨u, pu, qu⟩ := hr
  refine ⟨_, pss_cons pt pu, fun B W O σ H ρ g r D e E q => ?_⟩
  obtain ⟨r1, e1, e2⟩ := Option.bind_eq_some_iff.mp e
  refine qt B W O σ H ρ g r1 D e1 _ ?_
  cases r1 with
  | nx ρ' g' => exact fun σ' O' H' k D' => qu B W O' σ' H' ρ' g' r D' e2 E (q.keep k)
  | rt d g' => cases e2; exact q
  | bk ρ' g' => cases e2; exact q
  | ct ρ' g' => cases e2; exact q
theorem ds_if (hc : DT X c c1) (ha : DSs X ss s1) {sb : List Stmt} (hb : DSs X sb s2) : DS X (.If c ss sb pos) (ifD c1 s1 s2) := by
  obtain ⟨t, pt, qt⟩ := hc
  obtain ⟨u, pu, qu⟩ := ha
  obtain ⟨w, pw, qw⟩ := hb
  refine ⟨_, ps_if pt pu pw, fun B W O σ H ρ g r D e E q => ?_⟩
  obtain ⟨⟨x, g1⟩, e1, e⟩ := Option.bind_eq_some_iff.mp e
  refine qt B W O σ H ρ g x g1 D e1 _ fun H1 x1 h1 => ?_
  cases x with
  | true =>
    rw [if_pos rfl] at e ⊢
    exact qu B W O σ H1 ρ g1 r (D.step x1 h1) e E (q.keep (D.toDen0.keep x1))
  | false =>
    dsimp only at e
    rw [if_neg Bool.false_ne_true] at e ⊢
    exact qw B W O σ H1 ρ g1 r (D.step x1 h1) e E (q.keep (D.toDen0.keep x1))

/-! ### ghost: a slot is frozen -/
def frzEnv (i : Nat) (ρ : Env) : Env := match ρ[i]? with
  | some (some d) => ρ.set i (some (.sh d.frz))
  | _ => ρ
def frzD (i : Nat) (a : SF) : SF := fun ρ g => (a ρ g).map fun r => match r with
  | .nx ρ' g' => .nx (frzEnv i ρ') g'
  | r => r
theorem Den.frz {K : Fg} {B : Bs} {W : Wd} {O : List Addr} {σ : St} {H : Hp} {ρ : Env} {g : GS} (D : Den K B W O σ H ρ g) (i : Nat) : ∃ O', Keep O H O' H ∧ Den K B W O' σ H (frzEnv i ρ) g := by
  unfold frzEnv
  split
  · rename_i d h1
    obtain ⟨fe, re, n, hh⟩ := D.env
    obtain ⟨v, fq, fr, e1, r, t, n', hs⟩ := re.take h1 n
    have n1 := List.nodup_append.mp n'
    have sub : ∀ b, b ∈ O.filter (fun x => decide (x ∉ fq)) → b ∈ O := fun b m => (List.mem_filter.mp m).1
    have inO : ∀ b, b ∈ O → b ∉ fq → b ∈ O.filter (fun x => decide (x ∉ fq)) := fun b m n => List.mem_filter.mpr ⟨m, decide_eq_true n⟩
    have nq : ∀ b, b ∈ fq → b ∉ O.filter (fun x => decide (x ∉ fq)) := fun b m z => of_decide_eq_true (List.mem_filter.mp z).2 m
    have keep : Keep O H (O.filter (fun x => decide (x ∉ fq))) H := msk_le sub
    have r' : RepS K W (msk (O.filter (fun x => decide (x ∉ fq))) H) v d.frz := r.freeze sub nq
    have t' := t.mono (O' := O.filter (fun x => decide (x ∉ fq))) keep Ext.refl (fun a m => inO a (t.inO a m).1 fun z => n1.2.2 a z a m rfl)
    obtain ⟨fe', h2, h3, h4⟩ := ERep.put (fq := []) (Rep.sh r') t' (lt_of_slot h1) e1 (by simpa using n1.2.1)
    refine ⟨_, keep, ?_⟩
    exact { base := D.base, sub := fun a m => inO a (D.sub a m) fun z => D.bdom a m (hh a (hs a (List.mem_append_left _ z))), new := fun a m => D.new a (sub a m), dom := fun a m => D.dom a (sub a m), gen := D.gen, bdom := D.bdom
            env := ⟨fe', h2, h3, fun a m => hh a (hs a (List.mem_append_right _ (by simpa using h4 a m)))⟩ }
  · exact ⟨O, Keep.refl, D⟩
theorem ds_frz (i : Nat) (hs : DS X s s1) : DS X s (frzD i s1) := by
  obtain ⟨t, pt, qt⟩ := hs
  refine ⟨t, pt, fun B W O σ H ρ g r D e E q => ?_⟩
  obtain ⟨r1, e1, e2⟩ := Option.map_eq_some_iff.mp e
  subst e2
  refine qt B W O σ H ρ g r1 D e1 _ ?_
  cases r1 with
  | nx ρ' g' =>
    intro σ' O' H' k D'
    obtain ⟨O2, k2, D2⟩ := D'.frz i
    exact q σ' O2 H' (k.trans k2) D2
  | rt d g' => exact q
  | bk ρ' g' => exact q
  | ct ρ' g' => exact q

/-! ### methods of an own list in a slot -/
def appD (i : Nat) (f : OF) : SF := fun ρ g => match ρ[i]? with
  | some (some (.own ds)) => (f ρ g).bind fun p => if lenOk ds.length = true then some (.nx (ρ.set i (some (.own (ds ++ [p.1])))) p.2) else none
  | _ => none
theorem ds_append (i : Nat) {x : Str} {p1 p2 p3 : Pos} (he : DO X e h) (hN : X.N[i]? = some x := by rfl) (hv : Vis X.env.scope x := by first | exact Or.inl rfl | exact Or.inr (Or.inl rfl) | exact Or.inr (Or.inr rfl)) (hd : (x == ("__debug__" : Str)) = false := by decide)
    (hcd : (x == ("__classdict__" : Str)) = false := by decide)
    (hbase : attributeBase (.Name x p1) "append" X.env (eval (.Name x p1) X.env) = eval (.Name x p1) X.env := by rfl)
    (hfew : ((backTo p3 (starEach [e] X.env)).all (fun x => !x.1) && (backToKw p3 (keywordEach [] X.env)).all (fun x => x.1.isSome)
      && decide ([e].length + ([] : List Keyword).length + (if ([] : List Keyword).isEmpty then 0 else 1) < 30)) = true := by rfl)
    (hline : (p2.endLine == p3.line) = true := by rfl) (hs : starEach [e] X.env = (false, eval e X.env) :: starEach [] X.env := by rfl) (hplain : (backTo p3 (starEach [] X.env)).any (·.1) = false := by rfl)
    (hs2 : swapsWith (.Call (.Attribute (.Name x p1) "append" p2) [e] [] p3) none pos.line X.env = pure false := by rfl) :
    DS X (.Expr (.Call (.Attribute (.Name x p1) "append" p2) [e] [] p3) pos) (appD i h) := by
  obtain ⟨t, pt, qt⟩ := he
  refine ⟨_, ps_expr (pe_bm PySem.F.plainAttrs_list PySem.F.slot_list_append PySem.F.type_list_append mt_append (pe_var hN hv hd hcd) (pa_cons pt pa_nil hs) hbase hfew hline hs hplain) hs2, fun B W O σ H ρ g r D e E q => ?_⟩
  unfold appD at e
  split at e
  · rename_i ds h1
    obtain ⟨⟨d, g1⟩, e1, e⟩ := Option.bind_eq_some_iff.mp e
    split at e
    · rename_i hl
      cases e
      obtain ⟨a, vs, fq, fr, eσ, ha, hw, hv', rs, rt, n, hb⟩ := D.own h1
      refine ⟨.ref a, eσ, .inl ⟨rfl, vs, .inl (.inl hv')⟩, ?_⟩
      refine qt B W O σ H ρ g d g1 D e1 _ fun v H1 fp x1 hg1 n1 f1 r1 => ?_
      have D1 := D.toDen0.grow (fp := fp) x1 hg1 f1
      have kp := D.toDen0.keeps x1 fun a z => (f1 a z).1
      have hv1 : H1 a = some (.lst vs) := x1 a _ hw hv'
      refine ⟨a, vs, v, rfl, rfl, hv1, ?_, ?_⟩
      · rw [rs.length]
        have z : sizeLine = 16777216 := by decide
        have := lenOk_lt hl
        omega
      have nf : ∀ b ∈ fp, b ∉ (a :: fq) ++ fr := fun b m z => by
        have : H b ≠ none := by
          rcases List.mem_append.mp z with z | z
          · rcases List.mem_cons.mp z with z | z
            · subst z; rw [hv']; simp
            · exact (rs.inO b z).2.2
          · exact (rt.inO b z).2.2
        exact this (f1 b m).1
      have n' := List.nodup_append.mp n
      have nc := List.nodup_cons.mp n'.1
      refine q σ (fp ++ O) _ (kp.trans (keep_upd (List.mem_append_right _ ha))) ?_
      refine Den.own_put D1 (lt_of_slot h1) eσ (List.mem_append_right _ ha) hw (rt.mono kp x1 fun b m => List.mem_append_right _ (rt.inO b m).1) ((rs.mono kp x1 fun b m => List.mem_append_right _ (rs.inO b m).1).append (.cons r1 .nil)) ?_ fun b m => ?_
      · rw [List.append_nil, List.nodup_append]
        refine ⟨?_, n'.2.1, fun x hx y hy z => ?_⟩
        · rw [← List.cons_append, List.nodup_append]
          exact ⟨n'.1, n1, fun x hx y hy z => nf y hy (by rw [← z]; exact List.mem_append_left _ hx)⟩
        · rcases List.mem_cons.mp hx with m | m
          · exact n'.2.2 x (by rw [m]; exact List.mem_cons_self) y hy z
          · rcases List.mem_append.mp m with m | m
            · exact n'.2.2 x (List.mem_cons_of_mem _ m) y hy z
            · exact nf x m (by rw [z]; exact List.mem_append_right _ hy)
      · rw [List.append_nil] at m
        rcases List.mem_append.mp m with m | m
        · rcases List.mem_cons.mp m with m | m
          · subst m; exact hb _ (List.mem_append_left _ List.mem_cons_self)
          · rcases List.mem_append.mp m with m | m
            · exact hb b (List.mem_append_left _ (List.mem_cons_of_mem _ m))
            · exact D.toDen0.fresh (f1 b m).1
        · exact hb b (List.mem_append_right _ m)
    · cases e
  · cases e
end
end DL

/-! DL5: targets, loops, comprehensions, defs. -/
namespace DL
open PySem PySem.Spec L2

/-! ### targets -/
def gN (i : Nat) : GF := fun d ρ g => some (ρ.set i (some d), g)
abbrev GLF := List SV → Env → GS → Option (Env × GS)
def DGLs (K : Fg) (t : TGs) (f : GLF) : Prop := ∀ B W O σ H ρ g vs ss ρ' g', Den K B W O σ H ρ g → RepSs K W (msk O H) vs ss → f ss ρ g = some (ρ', g') →
  ∀ Q : St → Hp → Prop, (∀ σ' O' H', Keep O H O' H' → Den K B W O' σ' H' ρ' g' → Q σ' H') → t vs σ H Q
def DGL (X : Cx) (ts : List Expr) (f : GLF) : Prop := ∃ t, PGs X ts t ∧ DGLs X.K t f
def gLN : GLF := fun ss ρ g => match ss with
  | [] => some (ρ, g)
  | _ => none
def gLC (f : GF) (fs : GLF) : GLF := fun ss ρ g => match ss with
  | s :: ss => (f (.sh s) ρ g).bind fun p => fs ss p.1 p.2
  | [] => none
def gT (n : Nat) (fs : GLF) : GF := fun d ρ g => match d with
  | .sh (.tup xs) => if xs.length = n then fs xs ρ g else none
  | _ => none
section
variable {X : Cx} {e a b c tg : Expr} {es : List Expr} {s : Stmt} {ss : List Stmt} {f fa fb : EF} {h : OF} {c1 : TF} {s1 s2 sb : SF} {pos : Pos} {gf : GF} {gs : GLF}
theorem dg_name {i : Nat} {x : Str} (hN : X.N.Nodup) (hi : X.N[i]? = some x) (hx : Loc X.env.scope x) (hf : X.fn x = true ∨ X.env.scope.names.lookup x = some .local := by first | exact .inl rfl | exact .inr rfl | assumption) : DG X (.Name x pos) (gN i) :=
  ⟨_, pg_name hN hi hx hf, fun B W O σ H ρ g d v ρ' g' D e Q q => by
    cases e
    exact q _ O H Keep.refl (D.set i)⟩
theorem dgl_nil : DGL X [] gLN := by
  refine ⟨_, pgs_nil, fun B W O σ H ρ g vs ss ρ' g' D r e Q q => ?_⟩
  cases r with
  | nil => cases e; exact ⟨rfl, q σ O H Keep.refl D⟩
  | cons _ _ => cases e
theorem dgl_cons (h1 : DG X e gf) (h2 : DGL X es gs) (hs : (assignEach (e :: es) X.env).map (·.2) = assign e X.env :: (assignEach es X.env).map (·.2) := by rfl) : DGL X (e :: es) (gLC gf gs) := by
  obtain ⟨t, pt, qt⟩ := h1
  obtain ⟨u, pu, qu⟩ := h2
  refine ⟨_, pgs_cons pt pu hs, fun B W O σ H ρ g vs ss ρ' g' D r e Q q => ?_⟩
  cases r with
  | nil => cases e
  | cons r rr =>
    obtain ⟨⟨ρ1, g1⟩, e1, e2⟩ := Option.bind_eq_some_iff.mp e
    refine ⟨_, _, rfl, qt B W O σ H ρ g _ _ ρ1 g1 (DenV.withS D r) e1 _ fun σ1 O1 H1 k1 D1 => ?_⟩
    exact qu B W O1 σ1 H1 ρ1 g1 _ _ ρ' g' D1 (rr.mono k1) e2 _ fun σ2 O2 H2 k2 D2 => q σ2 O2 H2 (k1.trans k2) D2
theorem DenV.den {K : Fg} {B : Bs} {W : Wd} {O : List Addr} {σ : St} {H : Hp} {ρ : Env} {g : GS} {v : V} {d : DV} (D : DenV K B W O σ H ρ g v d) : Den K B W O σ H ρ g := by
  obtain ⟨fe, fp, re, r, n, hb⟩ := D.env
  exact { D.toDen0 with env := ⟨fe, re, (List.nodup_append.mp n).1, fun a m => hb a (List.mem_append_left _ m)⟩ }
theorem dg_tup {k n : Nat} (hc : X.calm = true) (h : DGL X es gs) (hn : (assignEach es X.env).length = n := by rfl) (hst : (assignEach es X.env).findIdx? (·.1) = none := by rfl) : DG X (.Tuple es k pos) (gT n gs) := by
  obtain ⟨t, pt, qt⟩ := h
  refine ⟨_, pg_tup hc pt hn hst, fun B W O σ H ρ g d v ρ' g' D e Q q => ?_⟩
  unfold gT at e
  split at e
  · rename_i xs
    split at e
    · rename_i hl
      have D' := D.den
      obtain ⟨fe, fp, re, r, nn, hb⟩ := D.env
      cases r with
      | sh r =>
        cases r with
        | tup hq rs => exact ⟨_, _, rfl, sqT_mono msk_sub hq, by rw [rs.length]; exact hl, qt B W O σ H ρ g _ xs ρ' g' D' rs e Q q⟩
    · cases e
  · cases e
/-- target = value -/
def asgD (h : OF) (gf : GF) : SF := fun ρ g => (h ρ g).bind fun p => (gf p.1 ρ p.2).map fun q => .nx q.1 q.2
theorem ds_asg (he : DO X e h) (hg : DG X tg gf) (hs : swapsWithSole [tg] e pos.line X.env = pure false := by rfl) (hw : swappedStores [tg] e X.env = pure none := by rfl)
    (h1 : (assignEach [tg] X.env).map (·.2) = [assign tg X.env] := by rfl) : DS X (.Assign [tg] e pos) (asgD h gf) := by
  obtain ⟨t, pt, qt⟩ := he
  obtain ⟨u, pu, qu⟩ := hg
  refine ⟨_, ps_asg pt pu hs hw h1, fun B W O σ H ρ g r D e E q => ?_⟩
  obtain ⟨⟨d, g1⟩, e1, e2⟩ := Option.bind_eq_some_iff.mp e
  obtain ⟨⟨ρ', g'⟩, e3, e4⟩ := Option.map_eq_some_iff.mp e2
  cases e4
  refine qt B W O σ H ρ g d g1 D e1 _ fun v H1 fp x1 h1 n1 f1 r1 => ?_
  have D2 := D.withV x1 h1 n1 f1 r1
  exact qu B W _ σ H1 ρ g1 d v ρ' g' D2 e3 _ fun σ2 O2 H2 k2 D3 => q σ2 O2 H2 ((D.toDen0.keeps x1 fun a z => (f1 a z).1).trans k2) D3
/-- a list's item is stored -/
theorem Reps.set {K : Fg} {W : Wd} {O : List Addr} {H : Hp} {v : V} {d : DV} {f1 : List Addr} (r1 : Rep K W O H v d f1) : ∀ {vs : List V} {ds : List DV} {fp : List Addr} (i : Nat), Reps K W O H vs ds fp → (fp ++ f1).Nodup →
    ∃ fq, Reps K W O H (vs.set i v) (ds.set i d) fq ∧ fq.Nodup ∧ ∀ a ∈ fq, a ∈ fp ∨ a ∈ f1
  | _, _, _, _, .nil, hn => ⟨[], .nil, List.nodup_nil, fun a h => by simp at h⟩
  | _, _, _, 0, .cons (fp := fp) (fq := fq) r t, hn => ⟨f1 ++ fq, .cons r1 t, by
      rw [List.nodup_append] at hn ⊢
      have h1 := (List.nodup_append.mp hn.1)
      exact ⟨hn.2.1, h1.2.1, fun a ha b hb e => hn.2.2 b (List.mem_append_right _ hb) a ha e.symm⟩, fun a h => by
      rcases List.mem_append.mp h with h | h
      · exact .inr h
      · exact .inl (List.mem_append_right _ h)⟩
  | _, _, _, i + 1, .cons (fp := fp) (fq := fr) r t, hn => by
    have hn' := List.nodup_append.mp hn
    have hn1 := List.nodup_append.mp hn'.1
    obtain ⟨fq, h1, h2, h3⟩ := Reps.set r1 i t (by
      rw [List.nodup_append]
      exact ⟨hn1.2.1, hn'.2.1, fun a ha b hb => hn'.2.2 a (List.mem_append_right _ ha) b hb⟩)
    refine ⟨fp ++ fq, .cons r h1, ?_, fun a h => ?_⟩
    · rw [List.nodup_append]
      refine ⟨hn1.1, h2, fun a ha b hb e => ?_⟩
      subst e
      rcases h3 a hb with z | z
      · exact hn1.2.2 a ha a z rfl
      · exact hn'.2.2 a (List.mem_append_left _ ha) a z rfl
    · rcases List.mem_append.mp h with h | h
      · exact .inl (List.mem_append_left _ h)
      · rcases h3 a h with z | z
        · exact .inl (List.mem_append_right _ z)
        · exact .inr z
/-- xs[i] = v, xs an own slot -/
def gIx (i : Nat) (fi : EF) : GF := fun d ρ g => match ρ[i]? with
  | some (some (.own ds)) => (fi ρ g).bind fun p => match p.1 with
    | .int k => (ixN ds.length k).map fun j => (ρ.set i (some (.own (ds.set j d))), p.2)
    | _ => none
  | _ => none
theorem dg_ix (i : Nat) {x : Str} {p1 : Pos} (hi : DE X a fa) (hN : X.N[i]? = some x := by rfl) (hv : Vis X.env.scope x := by first | exact Or.inl rfl | exact Or.inr (Or.inl rfl) | exact Or.inr (Or.inr rfl)) (hd : (x == ("__debug__" : Str)) = false := by decide)
    (hcd : (x == ("__classdict__" : Str)) = false := by decide)
    (ha : ∀ v, assign (.Subscript (.Name x p1) a pos) X.env v = (do
      let ov ← holding [v] (eval (.Name x p1) X.env)
      let iv ← holding [v, ov] (eval a X.env)
      standAt pos
      holding [v, ov, iv] (setItem ov iv v)
      release [v, ov, iv] []) := by intro _; rfl) : DG X (.Subscript (.Name x p1) a pos) (gIx i fa) := by
  obtain ⟨t, pt, qt⟩ := hi
  refine ⟨_, pg_sub (pe_var hN hv hd hcd) pt set_list ha, fun B W O σ H ρ g d v ρ' g' D e Q q => ?_⟩
  have D' := D.den
  unfold gIx at e
  split at e
  · rename_i ds h1
    obtain ⟨⟨y, g1⟩, e1, e⟩ := Option.bind_eq_some_iff.mp e
    cases y with
    | int k =>
      obtain ⟨j, ej, e2⟩ := Option.map_eq_some_iff.mp e
      cases e2
      obtain ⟨fe, fp, re, rv, nn, hb⟩ := D.env
      have n0 := List.nodup_append.mp nn
      obtain ⟨v0, fq0, fr, e0, r0, rt, n1, hs⟩ := re.take h1 n0.1
      cases r0 with
      | own ha hw hl rs =>
        rename_i a' vs fq
        refine ⟨.ref a', e0, ?_⟩
        refine qt B W O σ H ρ g _ g1 D' e1 _ fun w H1 x1 hg1 r1 => ?_
        have D1 := D'.step x1 hg1
        have kp := D'.toDen0.keep x1
        cases r1
        have hl1 := x1 a' _ hw hl
        refine ⟨a', vs, k, j, rfl, rfl, hl1, by rw [rs.length]; exact ej, ?_⟩
        have rs1 := rs.mono kp x1 fun b m => (rs.inO b m).1
        have rv1 := rv.mono kp x1 fun b m => (rv.inO b m).1
        have rt1 := rt.mono kp x1 fun b m => (rt.inO b m).1
        have n2 := List.nodup_append.mp n1
        have n3 := List.nodup_cons.mp n2.1
        have apart : ∀ b ∈ (a' :: fq) ++ fr, b ∉ fp := fun b m z => n0.2.2 b (hs b m) b z rfl
        obtain ⟨fq', k1, k2, k3⟩ := Reps.set rv1 j rs1 (by
          rw [List.nodup_append]
          exact ⟨n3.2, n0.2.1, fun b hb c hc z => apart b (List.mem_append_left _ (List.mem_cons_of_mem _ hb)) (by rw [z]; exact hc)⟩)
        refine q σ O _ (kp.trans (keep_upd ha)) ?_
        refine Den.own_put D1.toDen0 (lt_of_slot h1) e0 ha hw rt1 k1 ?_ fun b m => ?_
        · rw [List.nodup_append]
          refine ⟨List.nodup_cons.mpr ⟨fun z => ?_, k2⟩, n2.2.1, fun b hb c hc z => ?_⟩
          · rcases k3 _ z with z | z
            · exact n3.1 z
            · exact apart a' (List.mem_append_left _ List.mem_cons_self) z
          · rcases List.mem_cons.mp hb with m | m
            · exact n2.2.2 b (by rw [m]; exact List.mem_cons_self) c hc z
            · rcases k3 _ m with m | m
              · exact n2.2.2 b (List.mem_cons_of_mem _ m) c hc z
              · exact apart c (List.mem_append_right _ hc) (by rw [← z]; exact m)
        · rcases List.mem_append.mp m with m | m
          · rcases List.mem_cons.mp m with m | m
            · rw [m]; exact hb _ (List.mem_append_left _ (hs _ (List.mem_append_left _ List.mem_cons_self)))
            · rcases k3 _ m with m | m
              · exact hb _ (List.mem_append_left _ (hs _ (List.mem_append_left _ (List.mem_cons_of_mem _ m))))
              · exact hb _ (List.mem_append_right _ m)
          · exact hb _ (List.mem_append_left _ (hs _ (List.mem_append_right _ m)))
    | _ => cases e
  · cases e

/-! ### for -/
def loopD (gf : GF) (sb : SF) : List SV → SF
  | [], ρ, g => some (.nx ρ g)
  | x :: xs, ρ, g => (gf (.sh x) ρ g).bind fun p => (sb p.1 p.2).bind fun r => match r with
    | .nx ρ' g' => loopD gf sb xs ρ' g'
    | .ct ρ' g' => loopD gf sb xs ρ' g'
    | .bk ρ' g' => some (.nx ρ' g')
    | .rt d g' => some (.rt d g')
def forD (fi : IF) (gf : GF) (sb : SF) : SF := fun ρ g => (fi ρ g).bind fun p => loopD gf sb p.1 ρ p.2
theorem drop_cons {α : Type} {xs : List α} {i : Nat} {x : α} (h : xs[i]? = some x) : xs.drop i = x :: xs.drop (i + 1) := by
  obtain ⟨hi, e⟩ := List.getElem?_eq_some_iff.mp h
  rw [List.drop_eq_getElem_cons hi, e]
theorem ds_for {fi : IF} (hc : X.calm = true) (hp : PassesOwn (model X.prog X.w) X.A X.env X.xe) (hi : DI X tg e fi) (hg : DG X tg gf) (hb : DSs X ss sb) (hs : ∀ x, foldedSetIterable e X.env x = pure x := by intro _; rfl) : DS X (.For tg e ss [] pos) (forD fi gf sb) := by
  obtain ⟨wi, pi, qi⟩ := hi
  obtain ⟨tg', pg, qg⟩ := hg
  obtain ⟨tb, pb, qb⟩ := hb
  refine ⟨_, ps_for hp hc pi pg pb hs, fun B W O σ H ρ g r D e E q => ?_⟩
  obtain ⟨⟨xs, g1⟩, e1, e2⟩ := Option.bind_eq_some_iff.mp e
  refine qi B W O σ H ρ g xs g1 D e1 _ fun J H1 x1 hg1 ok => ?_
  have k1 := D.toDen0.keep x1
  refine ⟨fun i m σ' H' => i ≤ xs.length ∧ m = xs.length - i ∧ ∃ O' ρ' g', Keep O H1 O' H' ∧ Den X.K B W O' σ' H' ρ' g' ∧ loopD gf sb (xs.drop i) ρ' g' = some r, ⟨xs.length, Nat.zero_le _, by simp, O, ρ, g1, Keep.refl, D.step x1 hg1, e2⟩, ?_⟩
  rintro i m σ' H' ⟨hi, rfl, O', ρ', g', k', D', e'⟩
  obtain ⟨go, stop⟩ := ok O' H' k' D'.dom
  by_cases hlt : i < xs.length
  · obtain ⟨x, hx⟩ : ∃ x, xs[i]? = some x := ⟨xs[i], by simp [hlt]⟩
    rw [drop_cons hx] at e'
    unfold loopD at e'
    obtain ⟨⟨ρ2, g2⟩, e3, e4⟩ := Option.bind_eq_some_iff.mp e'
    obtain ⟨r1, e5, e6⟩ := Option.bind_eq_some_iff.mp e4
    obtain ⟨go1, yld⟩ := go i x hx
    refine .inr ⟨go1, fun σ'' H'' => ∃ O'' ρ'' g'', Keep O H1 O'' H'' ∧ Den X.K B W O'' σ'' H'' ρ'' g'' ∧ loopD gf sb (xs.drop (i + 1)) ρ'' g'' = some r, fun σ'' H'' hN => ⟨xs.length - (i + 1), by omega, hlt, rfl, hN⟩, fun v H2 hy => ?_⟩
    obtain ⟨sm, rv⟩ := yld v H2 hy
    have D2 := D'.step (Same.ext sm) (D'.gen.same sm)
    have k2 : Keep O H1 O' H2 := k'.trans (msk_same sm)
    refine qg B W O' σ' H2 ρ' g' _ v ρ2 g2 (DenV.withS D2 rv) e3 _ fun σ3 O3 H3 k3 D3 => ?_
    refine qb B W O3 σ3 H3 ρ2 g2 r1 D3 e5 _ ?_
    cases r1 with
    | nx ρ4 g4 => exact fun σ4 O4 H4 k4 D4 => ⟨O4, ρ4, g4, (k2.trans k3).trans k4, D4, e6⟩
    | ct ρ4 g4 => exact fun σ4 O4 H4 k4 D4 => ⟨O4, ρ4, g4, (k2.trans k3).trans k4, D4, e6⟩
    | bk ρ4 g4 =>
      cases e6
      exact fun σ4 O4 H4 k4 D4 => q σ4 O4 H4 (k1.trans ((k2.trans k3).trans k4)) D4
    | rt d g4 =>
      cases e6
      exact q
  · have he : i = xs.length := by omega
    subst he
    rw [List.drop_length] at e'
    unfold loopD at e'
    cases e'
    exact .inl ⟨stop _ (Nat.le_refl _), q σ' O' H' (k1.trans k') D'⟩

/-! ### while -/
def whileN (c : TF) (sb : SF) : Nat → SF
  | 0, _, _ => none
  | n + 1, ρ, g => (c ρ g).bind fun p => if p.1 = true then (sb ρ p.2).bind fun r => match r with
    | .nx ρ' g' => whileN c sb n ρ' g'
    | .ct ρ' g' => whileN c sb n ρ' g'
    | .bk ρ' g' => some (.nx ρ' g')
    | .rt d g' => some (.rt d g')
  else some (.nx ρ p.2)
def FUEL : Nat := 18446744073709551616
def whileD (c : TF) (sb : SF) : SF := whileN c sb FUEL
theorem ds_while (hp : PassesOwn (model X.prog X.w) X.A X.env X.xe) (hc : DT X c c1) (hb : DSs X ss sb) : DS X (.While c ss [] pos) (whileD c1 sb) := by
  obtain ⟨t, pt, qt⟩ := hc
  obtain ⟨u, pu, qu⟩ := hb
  refine ⟨_, ps_while hp pt pu, fun B W O σ H ρ g r D e E q => ?_⟩
  refine ⟨fun m σ' H' => ∃ O' ρ' g', Keep O H O' H' ∧ Den X.K B W O' σ' H' ρ' g' ∧ whileN c1 sb m ρ' g' = some r, ⟨FUEL, O, ρ, g, Keep.refl, D, e⟩, ?_⟩
  rintro m σ' H' ⟨O', ρ', g', k', D', e'⟩
  cases m with
  | zero => cases e'
  | succ m =>
    unfold whileN at e'
    obtain ⟨⟨b, g1⟩, e1, e2⟩ := Option.bind_eq_some_iff.mp e'
    refine qt B W O' σ' H' ρ' g' b g1 D' e1 _ fun H1 x1 hg1 => ?_
    have k1 := D'.toDen0.keep x1
    have D1 := D'.step x1 hg1
    cases b with
    | false =>
      rw [if_neg Bool.false_ne_true]
      dsimp only at e2
      rw [if_neg Bool.false_ne_true] at e2
      cases e2
      exact q σ' O' H1 (k'.trans k1) D1
    | true =>
      rw [if_pos rfl]
      rw [if_pos rfl] at e2
      obtain ⟨r1, e5, e6⟩ := Option.bind_eq_some_iff.mp e2
      refine ⟨fun σ'' H'' => ∃ O'' ρ'' g'', Keep O H O'' H'' ∧ Den X.K B W O'' σ'' H'' ρ'' g'' ∧ whileN c1 sb m ρ'' g'' = some r, fun σ'' H'' hN => ⟨m, Nat.lt_succ_self m, hN⟩, ?_⟩
      refine qu B W O' σ' H1 ρ' g1 r1 D1 e5 _ ?_
      cases r1 with
      | nx ρ4 g4 => exact fun σ4 O4 H4 k4 D4 => ⟨O4, ρ4, g4, (k'.trans k1).trans k4, D4, e6⟩
      | ct ρ4 g4 => exact fun σ4 O4 H4 k4 D4 => ⟨O4, ρ4, g4, (k'.trans k1).trans k4, D4, e6⟩
      | bk ρ4 g4 =>
        cases e6
        exact fun σ4 O4 H4 k4 D4 => q σ4 O4 H4 ((k'.trans k1).trans k4) D4
      | rt d g4 =>
        cases e6
        exact q

/-! ### what is walked -/
def iSeq (f : EF) : IF := fun ρ g => (f ρ g).bind fun p => p.1.seq?.map fun xs => (xs, p.2)
/-- a list or a tuple -/
def iLT (K : Fg) (tl : TE) : TI := fun σ H R => tl σ H fun x H1 => ∃ a, x = .ref a ∧ (((∃ xs, SqL K H1 a xs) ∧ R (Itl K a) H1) ∨ ((∃ xs, SqT K H1 a xs) ∧ R (Itt K a) H1))
theorem pi_lt {l : Expr} {tl : TE} (hl : PE X l tl) : PI X tg l (iLT X.K tl) := by
  refine ⟨fun pins s σ H R I h => ?_⟩
  refine thn (hl.run pins s σ H _ I h) fun v s1 ⟨x, H1, I1, r1, q1⟩ => ?_
  obtain ⟨a, e, q⟩ := q1
  subst e
  cases r1
  rcases q with ⟨⟨xs, hq⟩, q⟩ | ⟨⟨xs, hq⟩, q⟩
  · obtain ⟨its, rv, p, hz⟩ := I1.list hq
    refine wpAny_pyIter_list p.isList ?_
    refine ⟨s1.heap.objs.size, [s1.heap.objs.size], _, _, H1, rfl, I1.kept (t' := s1.toks) fun b o e => Heap.get?_push_of_some _ e, turn_list a _, ⟨_, Heap.get?_push_size _ rfl, rfl, rfl⟩, fun b hb => ?_, q⟩
    have e : b = s1.heap.objs.size := by simpa using hb
    subst e
    exact I1.fpOk (Nat.le_refl _) (I1.hok.fresh (Nat.le_refl _))
  · obtain ⟨its, rv, p, hz⟩ := I1.tuple hq
    refine wpAny_pyIter_tuple (show s1.heap.IsTuple a its.toArray from p) ?_
    refine ⟨s1.heap.objs.size, [s1.heap.objs.size], _, _, H1, rfl, I1.kept (t' := s1.toks) fun b o e => Heap.get?_push_of_some _ e, turn_tuple a _, ⟨_, Heap.get?_push_size _ rfl, rfl, rfl⟩, fun b hb => ?_, q⟩
    have e : b = s1.heap.objs.size := by simpa using hb
    subst e
    exact I1.fpOk (Nat.le_refl _) (I1.hok.fresh (Nat.le_refl _))
theorem itl_ok {K : Fg} {W : Wd} {O : List Addr} {H : Hp} {a : Addr} {vs : List V} {xs : List SV} (h : msk O H a = some (.lst vs)) (r : RepSs K W (msk O H) vs xs) : ItOk K W O H (Itl K a) xs := by
  intro O' H' k hO
  have h' : SqL K H' a vs := .inl (.inl (of_msk (k _ _ h)).1)
  have r' := r.mono k
  refine ⟨fun i x hx => ?_, fun i hi => ⟨vs, h', by rw [r.length]; exact hi⟩⟩
  obtain ⟨v, e1, r1⟩ := r'.get hx
  refine ⟨⟨vs, v, h', e1⟩, fun w H2 hy => ?_⟩
  obtain ⟨rfl, hy⟩ := hy
  have e2 := hy vs h'
  rw [e1] at e2
  cases e2
  exact ⟨Same.refl _, r1⟩
theorem itt_ok {K : Fg} {W : Wd} {O : List Addr} {H : Hp} {a : Addr} {vs : List V} {xs : List SV} (h : SqT K (msk O H) a vs) (r : RepSs K W (msk O H) vs xs) : ItOk K W O H (Itt K a) xs := by
  intro O' H' k hO
  have h' : SqT K H' a vs := sqT_mono msk_sub (sqT_mono k h)
  have r' := r.mono k
  refine ⟨fun i x hx => ?_, fun i hi => ⟨vs, h', by rw [r.length]; exact hi⟩⟩
  obtain ⟨v, e1, r1⟩ := r'.get hx
  refine ⟨⟨vs, v, h', e1⟩, fun w H2 hy => ?_⟩
  obtain ⟨rfl, hy⟩ := hy
  have e2 := hy vs h'
  rw [e1] at e2
  cases e2
  exact ⟨Same.refl _, r1⟩
theorem di_seq (ha : DE X e f) : DI X tg e (iSeq f) := by
  obtain ⟨t, pt, qt⟩ := ha
  refine ⟨_, pi_lt pt, fun B W O σ H ρ g xs g' D e R q => ?_⟩
  obtain ⟨⟨s, g1⟩, e1, e2⟩ := Option.bind_eq_some_iff.mp e
  obtain ⟨ys, e3, e4⟩ := Option.map_eq_some_iff.mp e2
  cases e4
  refine qt B W O σ H ρ g s g1 D e1 _ fun v H1 x1 h1 r1 => ?_
  cases r1 with
  | tup hq r => cases e3; exact ⟨_, rfl, .inr ⟨⟨_, sqT_mono msk_sub hq⟩, q _ H1 x1 h1 (itt_ok hq r)⟩⟩
  | lst hq r => cases e3; exact ⟨_, rfl, .inl ⟨⟨_, .inl (.inl (of_msk hq).1)⟩, q _ H1 x1 h1 (itl_ok hq r)⟩⟩
  | _ => cases e3
/-- range(n), range(a, b) -/
def rngL (lo : Int) (n : Nat) : List SV := (List.range n).map fun (i : Nat) => SV.int (lo + (i : Int))
theorem itr_ok {K : Fg} {W : Wd} {O : List Addr} {H : Hp} {lo : Int} {n : Nat} : ItOk K W O H (Itr lo n) (rngL lo n) := by
  intro O' H' k hO
  refine ⟨fun i x hx => ?_, fun i hi => ?_⟩
  · unfold rngL at hx
    rw [List.getElem?_map] at hx
    obtain ⟨j, e1, e2⟩ := Option.map_eq_some_iff.mp hx
    obtain ⟨hlt, e3⟩ := List.getElem?_eq_some_iff.mp e1
    rw [List.getElem_range] at e3
    subst e3
    subst e2
    rw [List.length_range] at hlt
    refine ⟨hlt, fun w H2 hy => ?_⟩
    obtain ⟨rfl, rfl⟩ := hy
    exact ⟨Same.refl _, .int⟩
  · unfold rngL at hi
    rw [List.length_map, List.length_range] at hi
    exact hi
def iR1 (f : EF) : IF := fun ρ g => (f ρ g).bind fun p => match p.1 with
  | .int n => if rngOk n = true then some (rngL 0 n.toNat, p.2) else none
  | _ => none
def iR2 (fa fb : EF) : IF := fun ρ g => (fa ρ g).bind fun p => (fb ρ p.2).bind fun q => match p.1, q.1 with
  | .int a, .int b => if rngOk a = true ∧ rngOk b = true then some (rngL a (b - a).toNat, q.2) else none
  | _, _ => none
theorem di_range1 {p : Pos} (hg : Gl X "range") (hm : X.mg "range" = none) (ha : DE X a fa) (hs : starEach [a] X.env = (false, eval a X.env) :: starEach [] X.env := by rfl) (hs2 : starEach [a] X.env = [(false, eval a X.env)] := by rfl) : DI X tg (.Call (.Name "range" p) [a] [] pos) (iR1 fa) := by
  obtain ⟨t, pt, qt⟩ := ha
  refine ⟨_, pi_range1 hg hm (pa_cons pt pa_nil hs) hs2, fun B W O σ H ρ g xs g' D e R q => ?_⟩
  obtain ⟨⟨s, g1⟩, e1, e2⟩ := Option.bind_eq_some_iff.mp e
  refine qt B W O σ H ρ g s g1 D e1 _ fun v H1 x1 h1 r1 => ?_
  cases s with
  | int n =>
    cases r1
    dsimp only at e2
    split at e2
    · rename_i hh
      cases e2
      have hz := rngOk_lt hh
      exact ⟨n, rfl, by omega, by omega, q _ H1 x1 h1 itr_ok⟩
    · cases e2
  | _ => cases e2
theorem di_range2 {p : Pos} (hg : Gl X "range") (hm : X.mg "range" = none) (ha : DE X a fa) (hb : DE X b fb) (hs : starEach [a, b] X.env = (false, eval a X.env) :: starEach [b] X.env := by rfl) (hs1 : starEach [b] X.env = (false, eval b X.env) :: starEach [] X.env := by rfl) (hs2 : starEach [a, b] X.env = [(false, eval a X.env), (false, eval b X.env)] := by rfl) (hs3 : starEach [b] X.env = [(false, eval b X.env)] := by rfl) :
    DI X tg (.Call (.Name "range" p) [a, b] [] pos) (iR2 fa fb) := by
  obtain ⟨t, pt, qt⟩ := ha
  obtain ⟨u, pu, qu⟩ := hb
  refine ⟨_, pi_range2 hg hm (pa_cons pt (pa_cons pu pa_nil hs1) hs) hs2 hs3, fun B W O σ H ρ g xs g' D e R q => ?_⟩
  obtain ⟨⟨s, g1⟩, e1, e2⟩ := Option.bind_eq_some_iff.mp e
  obtain ⟨⟨s2, g2⟩, e3, e4⟩ := Option.bind_eq_some_iff.mp e2
  refine qt B W O σ H ρ g s g1 D e1 _ fun v H1 x1 h1 r1 => ?_
  have D1 := D.step x1 h1
  refine qu B W O σ H1 ρ g1 s2 g2 D1 e3 _ fun w H2 x2 h2 r2 => ?_
  cases s with
  | int n =>
    cases s2 with
    | int n2 =>
      cases r1; cases r2
      dsimp only at e4
      split at e4
      · rename_i hh
        cases e4
        have hz1 := rngOk_lt hh.1
        have hz2 := rngOk_lt hh.2
        exact ⟨n, n2, rfl, ⟨by omega, by omega, by omega, by omega⟩, q _ H2 (x1.trans x2) h2 itr_ok⟩
      · cases e4
    | _ => cases e4
  | _ => cases e4
/-- enumerate(xs) of a list -/
def numL (xs : List SV) : List SV := xs.zipIdx.map fun p => SV.tup [.int (p.2 : Nat), p.1]
theorem numL_get {xs : List SV} {i : Nat} {x : SV} (h : (numL xs)[i]? = some x) : ∃ y, xs[i]? = some y ∧ x = .tup [.int (i : Nat), y] := by
  unfold numL at h
  rw [List.getElem?_map, List.getElem?_zipIdx] at h
  obtain ⟨p, e1, e2⟩ := Option.map_eq_some_iff.mp h
  obtain ⟨y, e3, e4⟩ := Option.map_eq_some_iff.mp e1
  subst e4
  subst e2
  exact ⟨y, e3, by simp⟩
theorem numL_len {xs : List SV} : (numL xs).length = xs.length := by unfold numL; rw [List.length_map, List.length_zipIdx]
theorem rep_pair {K : Fg} {W : Wd} {O : List Addr} {H : Hp} {T : Addr} {x y : V} {a b : SV} (hO : ∀ a ∈ O, H a ≠ none) (hT : H T = none) (ra : RepS K W (msk O H) x a) (rb : RepS K W (msk O H) y b) : RepS K W (msk O (upd H T (.tup [x, y]))) (.ref T) (.tup [a, b]) :=
  rep_tup hO hT (.cons ra (.cons rb .nil))
theorem ite_ok {K : Fg} {W : Wd} {O : List Addr} {H : Hp} {a : Addr} {vs : List V} {xs : List SV} (h : msk O H a = some (.lst vs)) (r : RepSs K W (msk O H) vs xs) : ItOk K W O H (Ite K a) (numL xs) := by
  intro O' H' k hO
  have h' : SqL K H' a vs := .inl (.inl (of_msk (k _ _ h)).1)
  have r' := r.mono k
  refine ⟨fun i x hx => ?_, fun i hi => ⟨vs, h', by rw [r.length]; rw [numL_len] at hi; exact hi⟩⟩
  obtain ⟨y, hy, rfl⟩ := numL_get hx
  obtain ⟨v, e1, r1⟩ := r'.get hy
  refine ⟨⟨vs, v, h', e1⟩, fun w H2 hw => ?_⟩
  obtain ⟨T, x, rfl, hT, rfl, hx⟩ := hw
  have e2 := hx vs h'
  rw [e1] at e2
  cases e2
  exact ⟨keep_new hT, rep_pair hO hT .int r1⟩
def SV.l? : SV → Option (List SV)
  | .lst xs => some xs
  | _ => none
def iNum (f : EF) : IF := fun ρ g => (f ρ g).bind fun p => p.1.l?.map fun xs => (numL xs, p.2)
theorem di_enum {p tpos : Pos} {elts : List Expr} {kk : Nat} (hg : Gl X "enumerate") (hm : X.mg "enumerate" = none) (ha : DE X a fa) (hs : starEach [a] X.env = (false, eval a X.env) :: starEach [] X.env := by rfl) (hs2 : starEach [a] X.env = [(false, eval a X.env)] := by rfl) :
    DI X (.Tuple elts kk tpos) (.Call (.Name "enumerate" p) [a] [] pos) (iNum fa) := by
  obtain ⟨t, pt, qt⟩ := ha
  refine ⟨_, pi_enum hg hm (pa_cons pt pa_nil hs) hs2, fun B W O σ H ρ g xs g' D e R q => ?_⟩
  obtain ⟨⟨s, g1⟩, e1, e2⟩ := Option.bind_eq_some_iff.mp e
  obtain ⟨ys, e3, e4⟩ := Option.map_eq_some_iff.mp e2
  cases e4
  refine qt B W O σ H ρ g s g1 D e1 _ fun v H1 x1 h1 r1 => ?_
  cases r1 with
  | lst hq r => cases e3; exact ⟨_, _, rfl, .inl (.inl (of_msk hq).1), q _ H1 x1 h1 (ite_ok hq r)⟩
  | _ => cases e3
/-- zip(xs, ys) of two lists or two tuples -/
def zipL (xs ys : List SV) : List SV := List.zipWith (fun a b => SV.tup [a, b]) xs ys
theorem zipL_get {xs ys : List SV} {i : Nat} {x : SV} (h : (zipL xs ys)[i]? = some x) : ∃ a b, xs[i]? = some a ∧ ys[i]? = some b ∧ x = .tup [a, b] := by
  unfold zipL at h
  rw [List.getElem?_zipWith] at h
  cases ha : xs[i]? with
  | none => rw [ha] at h; simp at h
  | some a =>
    cases hb : ys[i]? with
    | none => rw [ha, hb] at h; simp at h
    | some b => rw [ha, hb] at h; simp at h; exact ⟨a, b, rfl, rfl, h.symm⟩
theorem itz_ok {K : Fg} {W : Wd} {O : List Addr} {H : Hp} {a b : Addr} {vs ws : List V} {xs ys : List SV} (h : msk O H a = some (.lst vs)) (r : RepSs K W (msk O H) vs xs) (h2 : msk O H b = some (.lst ws)) (r2 : RepSs K W (msk O H) ws ys) : ItOk K W O H (Itz K a b) (zipL xs ys) := by
  intro O' H' k hO
  have h' : SqL K H' a vs := .inl (.inl (of_msk (k _ _ h)).1)
  have h2' : SqL K H' b ws := .inl (.inl (of_msk (k _ _ h2)).1)
  have r' := r.mono k
  have r2' := r2.mono k
  refine ⟨fun i x hx => ?_, fun i hi => ⟨vs, ws, h', h2', ?_⟩⟩
  · obtain ⟨c, d, hc, hd, rfl⟩ := zipL_get hx
    obtain ⟨v, e1, r1⟩ := r'.get hc
    obtain ⟨w, e3, r3⟩ := r2'.get hd
    refine ⟨⟨vs, ws, v, w, h', h2', e1, e3⟩, fun z H2 hw => ?_⟩
    obtain ⟨T, x, y, rfl, hT, rfl, hx, hy⟩ := hw
    have e2 := hx vs h'
    rw [e1] at e2
    cases e2
    have e4 := hy ws h2'
    rw [e3] at e4
    cases e4
    exact ⟨keep_new hT, rep_pair hO hT r1 r3⟩
  · unfold zipL at hi
    rw [List.length_zipWith] at hi
    rw [r.length, r2.length]
    omega
theorem itzT_ok {K : Fg} {W : Wd} {O : List Addr} {H : Hp} {a b : Addr} {vs ws : List V} {xs ys : List SV} (h : SqT K (msk O H) a vs) (r : RepSs K W (msk O H) vs xs) (h2 : SqT K (msk O H) b ws) (r2 : RepSs K W (msk O H) ws ys) : ItOk K W O H (RZ.ItzT K a b) (zipL xs ys) := by
  intro O' H' k hO
  have h' : SqT K H' a vs := sqT_mono msk_sub (sqT_mono k h)
  have h2' : SqT K H' b ws := sqT_mono msk_sub (sqT_mono k h2)
  have r' := r.mono k
  have r2' := r2.mono k
  refine ⟨fun i x hx => ?_, fun i hi => ⟨vs, ws, h', h2', ?_⟩⟩
  · obtain ⟨c, d, hc, hd, rfl⟩ := zipL_get hx
    obtain ⟨v, e1, r1⟩ := r'.get hc
    obtain ⟨w, e3, r3⟩ := r2'.get hd
    refine ⟨⟨vs, ws, v, w, h', h2', e1, e3⟩, fun z H2 hw => ?_⟩
    obtain ⟨T, x, y, rfl, hT, rfl, hx, hy⟩ := hw
    have e2 := hx vs h'
    rw [e1] at e2
    cases e2
    have e4 := hy ws h2'
    rw [e3] at e4
    cases e4
    exact ⟨keep_new hT, rep_pair hO hT r1 r3⟩
  · unfold zipL at hi
    rw [List.length_zipWith] at hi
    rw [r.length, r2.length]
    omega
def hZip : SV → SV → Option (List SV)
  | .lst xs, .lst ys => some (zipL xs ys)
  | .tup xs, .tup ys => some (zipL xs ys)
  | _, _ => none
def iZp (fa fb : EF) : IF := fun ρ g => (fa ρ g).bind fun p => (fb ρ p.2).bind fun q => (hZip p.1 q.1).map fun xs => (xs, q.2)
theorem di_zip {p tpos : Pos} {elts : List Expr} {kk : Nat} (hg : Gl X "zip") (hm : X.mg "zip" = none) (ha : DE X a fa) (hb : DE X b fb) (hs : starEach [a, b] X.env = (false, eval a X.env) :: starEach [b] X.env := by rfl) (hs1 : starEach [b] X.env = (false, eval b X.env) :: starEach [] X.env := by rfl)
    (hpl : (backTo pos (starEach [b] X.env)).any (·.1) = false := by rfl) :
    DI X (.Tuple elts kk tpos) (.Call (.Name "zip" p) [a, b] [] pos) (iZp fa fb) := by
  obtain ⟨t, pt, qt⟩ := ha
  obtain ⟨u, pu, qu⟩ := hb
  refine ⟨_, RZ.pi_zipA hg hm (pa_cons pt (pa_cons pu pa_nil hs1) hs) hs hpl, fun B W O σ H ρ g xs g' D e R q => ?_⟩
  obtain ⟨⟨s, g1⟩, e1, e2⟩ := Option.bind_eq_some_iff.mp e
  obtain ⟨⟨s2, g2⟩, e3, e4⟩ := Option.bind_eq_some_iff.mp e2
  obtain ⟨ys, e5, e6⟩ := Option.map_eq_some_iff.mp e4
  cases e6
  refine qt B W O σ H ρ g s g1 D e1 _ fun v H1 x1 h1 r1 => ?_
  have D1 := D.step x1 h1
  refine qu B W O σ H1 ρ g1 s2 g2 D1 e3 _ fun w H2 x2 h2 r2 => ?_
  have r1' := r1.mono (D1.toDen0.keep x2)
  cases r1' with
  | lst hq r =>
    cases r2 with
    | lst hq2 r2 => cases e5; exact ⟨_, _, _, _, rfl, .inl ⟨.inl (.inl (of_msk hq).1), .inl (.inl (of_msk hq2).1), q _ H2 (x1.trans x2) h2 (itz_ok hq r hq2 r2)⟩⟩
    | _ => cases e5
  | tup hq r =>
    cases r2 with
    | tup hq2 r2 => cases e5; exact ⟨_, _, _, _, rfl, .inr ⟨sqT_mono msk_sub hq, sqT_mono msk_sub hq2, q _ H2 (x1.trans x2) h2 (itzT_ok hq r hq2 r2)⟩⟩
    | _ => cases e5
  | _ => cases e5
end
end DL

/-! DL6: comprehensions, defs. -/
namespace DL
open PySem PySem.Spec L2

/-! ### the judgements by one reading each -/
def tEf (K : Fg) (f : EF) : TE := fun σ H Q => ∃ B W O ρ g s g', Den K B W O σ H ρ g ∧ f ρ g = some (s, g') ∧ ∀ v H', Ext W H H' → GOk W B.1 H' g' → RepS K W (msk O H') v s → Q v H'
def tOf (K : Fg) (f : OF) : TE := fun σ H Q => ∃ B W O ρ g d g', Den K B W O σ H ρ g ∧ f ρ g = some (d, g') ∧ ∀ v H' fp, Ext W H H' → GOk W B.1 H' g' → fp.Nodup → (∀ a ∈ fp, H a = none ∧ H' a ≠ none) → Rep K W (fp ++ O) H' v d fp → Q v H'
def tTf (K : Fg) (f : TF) : TT := fun σ H Q => ∃ B W O ρ g b g', Den K B W O σ H ρ g ∧ f ρ g = some (b, g') ∧ ∀ H', Ext W H H' → GOk W B.1 H' g' → Q b H'
section
variable {X : Cx} {e tg : Expr} {f : EF} {h : OF} {c : TF}
theorem DE.pe (D : DE X e f) : PE X e (tEf X.K f) := by
  obtain ⟨t, pt, qt⟩ := D
  refine ⟨fun pins s σ H Q I hq => ?_⟩
  obtain ⟨B, W, O, ρ, g, s', g', D, e, q⟩ := hq
  exact pt.run pins s σ H Q I (qt B W O σ H ρ g s' g' D e Q q)
theorem DO.pe (D : DO X e h) : PE X e (tOf X.K h) := by
  obtain ⟨t, pt, qt⟩ := D
  refine ⟨fun pins s σ H Q I hq => ?_⟩
  obtain ⟨B, W, O, ρ, g, s', g', D, e, q⟩ := hq
  exact pt.run pins s σ H Q I (qt B W O σ H ρ g s' g' D e Q q)
theorem DT.pt (D : DT X e c) : PT X e (tTf X.K c) := by
  obtain ⟨t, pt, qt⟩ := D
  refine ⟨fun pins s σ H Q I hq => ?_⟩
  obtain ⟨B, W, O, ρ, g, s', g', D, e, q⟩ := hq
  exact pt.run pins s σ H Q I (qt B W O σ H ρ g s' g' D e Q q)
end
/-- a comprehension's target: names of the block alone -/
abbrev WF := SV → Env → Option Env
def DGw (K : Fg) (t : TG) (vs : List Nat) (f : WF) : Prop := ∀ B W O σ H ρ g s v ρ', Den K B W O σ H ρ g → RepS K W (msk O H) v s → f s ρ = some ρ' →
  ∀ Q : St → Hp → Prop, (∀ σ', wipe σ' vs = wipe σ vs → Den K B W O σ' H ρ' g → Q σ' H) → t v σ H Q
def DGwl (K : Fg) (t : TGs) (vs : List Nat) (f : List SV → Env → Option Env) : Prop := ∀ B W O σ H ρ g s v ρ', Den K B W O σ H ρ g → RepSs K W (msk O H) v s → f s ρ = some ρ' →
  ∀ Q : St → Hp → Prop, (∀ σ', wipe σ' vs = wipe σ vs → Den K B W O σ' H ρ' g → Q σ' H) → t v σ H Q
def wN (i : Nat) : WF := fun s ρ => some (ρ.set i (some (.sh s)))
def wLN : List SV → Env → Option Env := fun ss ρ => match ss with
  | [] => some ρ
  | _ => none
def wLC (f : WF) (fs : List SV → Env → Option Env) : List SV → Env → Option Env := fun ss ρ => match ss with
  | s :: ss => (f s ρ).bind fun ρ' => fs ss ρ'
  | [] => none
def wT (n : Nat) (fs : List SV → Env → Option Env) : WF := fun s ρ => match s with
  | .tup xs => if xs.length = n then fs xs ρ else none
  | _ => none
theorem wipe_get (σ : St) (j : Nat) : ∀ vs : List Nat, (wipe σ vs)[j]? = if j ∈ vs ∧ j < σ.length then some none else σ[j]?
  | [] => by simp [wipe]
  | v :: vs => by
    unfold wipe
    rw [List.getElem?_set, wipe_length, wipe_get σ j vs]
    by_cases h : v = j
    · subst h
      by_cases h2 : v < σ.length
      · simp [h2]
      · simp [h2]
    · rw [if_neg h]
      have : (j ∈ v :: vs) ↔ j ∈ vs := by
        rw [List.mem_cons]
        exact ⟨fun z => z.resolve_left (fun q => h q.symm), Or.inr⟩
      simp only [this]
theorem wipe_set {σ : St} {i : Nat} {y : Option V} {vs : List Nat} (h : i ∈ vs) : wipe (σ.set i y) vs = wipe σ vs := by
  apply List.ext_getElem?
  intro j
  rw [wipe_get, wipe_get, List.length_set]
  by_cases hj : j ∈ vs ∧ j < σ.length
  · rw [if_pos hj, if_pos hj]
  · rw [if_neg hj, if_neg hj, List.getElem?_set]
    by_cases hij : i = j
    · subst hij
      rw [if_pos rfl]
      by_cases hl : i < σ.length
      · exact absurd ⟨h, hl⟩ hj
      · rw [if_neg hl, List.getElem?_eq_none (Nat.le_of_not_lt hl)]
    · rw [if_neg hij]
theorem wipe_wipe {σ : St} {vs : List Nat} : wipe (wipe σ vs) vs = wipe σ vs := by
  apply List.ext_getElem?
  intro j
  rw [wipe_get, wipe_length]
  by_cases hj : j ∈ vs ∧ j < σ.length
  · rw [if_pos hj, wipe_get, if_pos hj]
  · rw [if_neg hj]
theorem dgw_name {K : Fg} {i : Nat} {vs : List Nat} (h : i ∈ vs) : DGw K (gName i) vs (wN i) := by
  intro B W O σ H ρ g s v ρ' D r e Q q
  cases e
  exact q _ (wipe_set h) ((DenV.withS D r).set i)
theorem dgwl_nil {K : Fg} {vs : List Nat} : DGwl K gNil vs wLN := by
  intro B W O σ H ρ g s v ρ' D r e Q q
  cases r with
  | nil => cases e; exact ⟨rfl, q σ rfl D⟩
  | cons _ _ => cases e
theorem dgwl_cons {K : Fg} {vs : List Nat} {t : TG} {u : TGs} {f : WF} {fs : List SV → Env → Option Env} (h1 : DGw K t vs f) (h2 : DGwl K u vs fs) : DGwl K (gCons t u) vs (wLC f fs) := by
  intro B W O σ H ρ g s v ρ' D r e Q q
  cases r with
  | nil => cases e
  | cons r rr =>
    obtain ⟨ρ1, e1, e2⟩ := Option.bind_eq_some_iff.mp e
    refine ⟨_, _, rfl, h1 B W O σ H ρ g _ _ ρ1 D r e1 _ fun σ1 w1 D1 => ?_⟩
    exact h2 B W O σ1 H ρ1 g _ _ ρ' D1 rr e2 _ fun σ2 w2 D2 => q σ2 (w2.trans w1) D2
theorem dgw_tup {K : Fg} {vs : List Nat} {u : TGs} {n : Nat} {fs : List SV → Env → Option Env} (h : DGwl K u vs fs) : DGw K (gTup K n u) vs (wT n fs) := by
  intro B W O σ H ρ g s v ρ' D r e Q q
  unfold wT at e
  split at e
  · split at e
    · rename_i hl
      cases r with
      | tup hq rs => exact ⟨_, _, rfl, sqT_mono msk_sub hq, by rw [rs.length]; exact hl, h B W O σ H ρ g _ _ ρ' D rs e Q q⟩
    · cases e
  · cases e
def wipeE (ρ : Env) : List Nat → Env
  | [] => ρ
  | v :: vs => (wipeE ρ vs).set v none
theorem ERep.wipe1 {K : Fg} {W : Wd} {O : List Addr} {H : Hp} : ∀ {σ : St} {ρ : Env} {fe : List Addr} (i : Nat), ERep K W O H σ ρ fe → fe.Nodup → ∃ fq, ERep K W O H (σ.set i none) (ρ.set i none) fq ∧ fq.Nodup ∧ ∀ a ∈ fq, a ∈ fe
  | _, _, _, _, .nil, h => ⟨[], .nil, h, fun a m => m⟩
  | _, _, _, 0, .non t, h => ⟨_, .non t, h, fun a m => m⟩
  | _, _, _, i + 1, .non t, h => by
    obtain ⟨fq, h1, h2, h3⟩ := ERep.wipe1 i t h
    exact ⟨fq, .non h1, h2, h3⟩
  | _, _, _, 0, .som r t, h => ⟨_, .non t, (List.nodup_append.mp h).2.1, fun a m => List.mem_append_right _ m⟩
  | _, _, _, i + 1, .som (fp := fp) r t, h => by
    have hh := List.nodup_append.mp h
    obtain ⟨fq, h1, h2, h3⟩ := ERep.wipe1 i t hh.2.1
    refine ⟨fp ++ fq, .som r h1, ?_, fun a m => ?_⟩
    · rw [List.nodup_append]
      exact ⟨hh.1, h2, fun a ha b hb => hh.2.2 a ha b (h3 b hb)⟩
    · rcases List.mem_append.mp m with m | m
      · exact List.mem_append_left _ m
      · exact List.mem_append_right _ (h3 a m)
theorem Den.wipe {K : Fg} {B : Bs} {W : Wd} {O : List Addr} {σ : St} {H : Hp} {ρ : Env} {g : GS} (D : Den K B W O σ H ρ g) : ∀ vs : List Nat, Den K B W O (L2.wipe σ vs) H (wipeE ρ vs) g
  | [] => D
  | v :: vs => by
    have D' := D.wipe vs
    obtain ⟨fe, re, n, hb⟩ := D'.env
    obtain ⟨fq, h1, h2, h3⟩ := ERep.wipe1 v re n
    exact { D'.toDen0 with env := ⟨fq, h1, h2, fun a m => hb a (h3 a m)⟩ }

/-! ### comprehensions -/
def compL (wf : WF) (ct : TF) (f : OF) (ρ : Env) : List SV → GS → Option (List DV × GS)
  | [], g => some ([], g)
  | x :: xs, g => (wf x ρ).bind fun ρ' => (ct ρ' g).bind fun p => if p.1 = true then (f ρ' p.2).bind fun q => (compL wf ct f ρ xs q.2).map fun r => (q.1 :: r.1, r.2) else compL wf ct f ρ xs p.2
def compD (fi : IF) (wf : WF) (ct : TF) (f : OF) (vs : List Nat) : OF := fun ρ g => (fi ρ g).bind fun p => if lenOk p.1.length = true then (compL wf ct f (wipeE ρ vs) p.1 p.2).map fun q => (.own q.1, q.2) else none
theorem lc_s {K : Fg} {wi : TI} {tg : TG} {tt : TT} {te : TE} {vs : List Nat} {fi : IF} {wf : WF} {ct : TF} {f : OF} (hi : DIs K wi fi) (hg : DGw K tg vs wf) (ht : DTs K tt ct) (he : DOs K te f) : DOs K (tLc wi tg tt te vs) (compD fi wf ct f vs) := by
  intro B W O σ H ρ g d g' D e Q q
  obtain ⟨⟨xs, g1⟩, e1, e2⟩ := Option.bind_eq_some_iff.mp e
  split at e2
  case isFalse => cases e2
  rename_i hlen
  obtain ⟨⟨ds, g2⟩, e3, e4⟩ := Option.map_eq_some_iff.mp e2
  cases e4
  refine hi B W O σ H ρ g xs g1 D e1 _ fun J H1 x1 hg1 ok => fun Dd hD => ?_
  have D1 := D.step x1 hg1
  obtain ⟨fe, re, nfe, hfe⟩ := D1.env
  have dO : Dd ∉ O := D1.toDen0.notO hD
  have dW : Dd ∉ W.as := fun z => dO (D1.toDen0.was Dd z)
  have dB : B.2 Dd = none := D1.toDen0.fresh hD
  have dfe : Dd ∉ fe := fun z => dO (re.inO Dd z).1
  have xD : Ext W H1 (upd H1 Dd (.lst [])) := Same.ext (keep_new hD)
  have fD : ∀ a ∈ [Dd], H1 a = none ∧ upd H1 Dd (.lst []) a ≠ none := fun a m => by
    have m' : a = Dd := by simpa using m
    subst m'
    exact ⟨hD, by rw [upd_same]; simp⟩
  have line : sizeLine = 16777216 := by decide
  have D0 : Den0 B W (Dd :: O) (upd H1 Dd (.lst [])) g1 := D1.toDen0.grow (fp := [Dd]) xD (hg1.same (keep_new hD)) fD
  have re0 : ERep K W (Dd :: O) (upd H1 Dd (.lst [])) σ ρ fe := re.mono (D1.toDen0.keeps (fp := [Dd]) xD fun a m => (fD a m).1) xD fun a m => List.mem_cons_of_mem _ (re.inO a m).1
  have hlen := lenOk_lt hlen
  dsimp only at hlen
  refine ⟨fun i m H' => i ≤ xs.length ∧ m = xs.length - i ∧ ∃ gc ws acc M fl rest, Ext W H1 H' ∧ Den0 B W M H' gc ∧ ERep K W M H' σ ρ fe ∧ H' Dd = some (.lst ws) ∧ Reps K W M H' ws acc fl ∧ fl.Nodup ∧ (Dd ∈ M ∧ (∀ a ∈ O, a ∈ M) ∧ (∀ a ∈ M, a ∈ O ∨ H1 a = none) ∧ ∀ a ∈ fl, H1 a = none ∧ a ≠ Dd) ∧
    compL wf ct f (wipeE ρ vs) (xs.drop i) gc = some (rest, g2) ∧ acc ++ rest = ds ∧ acc.length ≤ i, ⟨xs.length, Nat.zero_le _, by simp, g1, [], [], Dd :: O, [], ds, xD, D0, re0, upd_same, .nil, List.nodup_nil, ⟨List.mem_cons_self, fun a m => List.mem_cons_of_mem _ m, fun a m => (List.mem_cons.mp m).elim (fun z => .inr (by rw [z]; exact hD)) .inl, fun a m => by simp at m⟩, e3, rfl, Nat.le_refl _⟩, ?_⟩
  rintro i m H' ⟨hi, rfl, gc, ws, acc, M, fl, rest, x2, D2, re2, hl, rs, nfl, ⟨hDM, hOM, hMn, hfl⟩, e', eq, hal⟩
  have k2 : Keep O H1 M H' := fun b o hb => by
    obtain ⟨hb1, hb2⟩ := of_msk hb
    refine msk_get (fun z => ?_) (x2 b o (fun z => hb2 (D1.toDen0.was b z)) hb1)
    rcases hMn b z with z | z
    · exact hb2 z
    · rw [z] at hb1; cases hb1
  obtain ⟨go, stop⟩ := ok M H' k2 D2.dom
  by_cases hlt : i < xs.length
  · obtain ⟨x, hx⟩ : ∃ x, xs[i]? = some x := ⟨xs[i], by simp [hlt]⟩
    rw [drop_cons hx] at e'
    unfold compL at e'
    obtain ⟨ρ', e5, e6⟩ := Option.bind_eq_some_iff.mp e'
    obtain ⟨⟨b, g3⟩, e7, e8⟩ := Option.bind_eq_some_iff.mp e6
    obtain ⟨go1, yld⟩ := go i x hx
    refine .inr ⟨go1, fun H'' => ∃ gc ws acc M fl rest, Ext W H1 H'' ∧ Den0 B W M H'' gc ∧ ERep K W M H'' σ ρ fe ∧ H'' Dd = some (.lst ws) ∧ Reps K W M H'' ws acc fl ∧ fl.Nodup ∧ (Dd ∈ M ∧ (∀ a ∈ O, a ∈ M) ∧ (∀ a ∈ M, a ∈ O ∨ H1 a = none) ∧ ∀ a ∈ fl, H1 a = none ∧ a ≠ Dd) ∧
      compL wf ct f (wipeE ρ vs) (xs.drop (i + 1)) gc = some (rest, g2) ∧ acc ++ rest = ds ∧ acc.length ≤ i + 1, fun H'' hN => ⟨xs.length - (i + 1), by omega, hlt, rfl, hN⟩, fun v H2 hy => ?_⟩
    obtain ⟨sm, rv⟩ := yld v H2 hy
    have D3 : Den K B W M σ H' ρ gc := { D2 with env := ⟨fe, re2, nfe, hfe⟩ }
    have D4 := D3.step (Same.ext sm) (D3.gen.same sm)
    refine hg B W M _ H2 (wipeE ρ vs) gc x v ρ' (D4.wipe vs) rv e5 _ fun σ3 hw D5 => ⟨hw.trans wipe_wipe, ?_⟩
    refine ht B W M σ3 H2 ρ' gc b g3 D5 e7 _ fun H3 x3 hg3 => ?_
    have D6 := D5.step x3 hg3
    have x13 : Ext W H1 H3 := (x2.trans (Same.ext sm)).trans x3
    have x23 : Ext W H' H3 := (Same.ext sm : Ext W H' H2).trans x3
    have k23 : Keep M H' M H3 := D3.toDen0.keep x23
    cases b with
    | false =>
      rw [if_neg Bool.false_ne_true]
      dsimp only at e8
      rw [if_neg Bool.false_ne_true] at e8
      exact ⟨g3, ws, acc, M, fl, rest, x13, D3.toDen0.grow (fp := []) x23 hg3 fun a m => by simp at m, re2.mono k23 x23 fun a m => (re2.inO a m).1, x23 _ _ dW hl, rs.mono k23 x23 fun a m => (rs.inO a m).1, nfl, ⟨hDM, hOM, hMn, hfl⟩, e8, eq, by omega⟩
    | true =>
      rw [if_pos rfl]
      rw [if_pos rfl] at e8
      obtain ⟨⟨d1, g4⟩, e9, e10⟩ := Option.bind_eq_some_iff.mp e8
      obtain ⟨⟨rest', g5⟩, e11, e12⟩ := Option.map_eq_some_iff.mp e10
      cases e12
      refine he B W M σ3 H3 ρ' g3 d1 g4 D6 e9 _ fun y H4 fp x4 hg4 n4 f4 r4 => ?_
      have x24 : Ext W H' H4 := x23.trans x4
      have x14 : Ext W H1 H4 := x13.trans x4
      have hl4 : H4 Dd = some (.lst ws) := x24 _ _ dW hl
      refine ⟨ws, hl4, by rw [rs.length]; omega, ?_⟩
      have fpn : ∀ a ∈ fp, H1 a = none ∧ a ≠ Dd ∧ H' a = none := fun a m => by
        have h3 := (f4 a m).1
        have aM : a ∉ M := fun z => D6.dom a z h3
        have aW : a ∉ W.as := fun z => aM (D6.toDen0.was a z)
        have h' : H' a = none := by
          cases q : H' a with
          | none => rfl
          | some o => rw [x23 a o aW q] at h3; cases h3
        refine ⟨?_, fun z => aM (by rw [z]; exact hDM), h'⟩
        cases q : H1 a with
        | none => rfl
        | some o => rw [x2 a o aW q] at h'; cases h'
      have D7 : Den0 B W (fp ++ M) H4 g4 := D3.toDen0.grow x24 hg4 fun a m => ⟨(fpn a m).2.2, (f4 a m).2⟩
      have k24 : Keep M H' (fp ++ M) H4 := D3.toDen0.keeps x24 fun a m => (fpn a m).2.2
      have fdis : ∀ a ∈ fl, ∀ b ∈ fp, a ≠ b := fun a ha b hb z => by
        subst z
        exact (rs.inO a ha).2.2 (fpn a hb).2.2
      have xD4 : Ext W H1 (upd H4 Dd (.lst (ws ++ [y]))) := fun b o nb hb => by
        rw [upd_ne fun z => by subst z; rw [hD] at hb; cases hb]
        exact x14 b o nb hb
      have dm : Dd ∈ fp ++ M := List.mem_append_right _ hDM
      refine ⟨g4, ws ++ [y], acc ++ [d1], fp ++ M, fl ++ fp, rest', xD4, D7.upd dW dB, (re2.mono k24 x24 fun a m => List.mem_append_right _ (re2.inO a m).1).upd dm dfe, upd_same, ?_, ?_, ⟨dm, fun a m => List.mem_append_right _ (hOM a m), fun a m => (List.mem_append.mp m).elim (fun z => .inr (fpn a z).1) (hMn a), ?_⟩, e11, by rw [List.append_assoc]; exact eq, by rw [List.length_append, List.length_singleton]; omega⟩
      · have r3 : Reps K W (fp ++ M) H4 [y] [d1] fp := by
          have := Reps.cons r4 (Reps.nil (K := K) (W := W) (O := fp ++ M) (H := H4))
          rw [List.append_nil] at this
          exact this
        refine ((rs.mono k24 x24 fun a m => List.mem_append_right _ (rs.inO a m).1).append r3).upd dm fun z => ?_
        rcases List.mem_append.mp z with z | z
        · exact (hfl Dd z).2 rfl
        · exact (fpn Dd z).2.1 rfl
      · rw [List.nodup_append]
        exact ⟨nfl, n4, fdis⟩
      · intro a m
        rcases List.mem_append.mp m with m | m
        · exact hfl a m
        · exact ⟨(fpn a m).1, (fpn a m).2.1⟩
  · have he : i = xs.length := by omega
    subst he
    rw [List.drop_length] at e'
    unfold compL at e'
    cases e'
    rw [List.append_nil] at eq
    subst eq
    refine .inl ⟨stop _ (Nat.le_refl _), q _ H' (Dd :: fl) (x1.trans x2) D2.gen ?_ ?_ ?_⟩
    · exact List.nodup_cons.mpr ⟨fun z => (hfl Dd z).2 rfl, nfl⟩
    · intro a m
      have h1 : H1 a = none ∧ H' a ≠ none := by
        rcases List.mem_cons.mp m with m | m
        · subst m; exact ⟨hD, by rw [hl]; simp⟩
        · exact ⟨(hfl a m).1, (rs.inO a m).2.2⟩
      refine ⟨?_, h1.2⟩
      cases q : H a with
      | none => rfl
      | some o =>
        by_cases hw : a ∈ W.as
        · exact absurd h1.1 (D1.dom a (D1.toDen0.was a hw))
        · have := h1.1
          rw [x1 a o hw q] at this; cases this
    · refine .own List.mem_cons_self dW hl (rs.mono ?_ Ext.refl fun a m => List.mem_cons_of_mem _ (List.mem_append_left _ m))
      exact msk_le fun b z => by
        rcases List.mem_cons.mp z with z | z
        · rw [z]; exact hDM
        · rcases List.mem_append.mp z with z | z
          · exact (rs.inO b z).1
          · exact hOM b z

section
variable {X : Cx} {tg iter elt : Expr} {ifs : List Expr} {scope : Scope} {own : List (Str × Nat)} {pos spos py : Pos} {fi : IF} {wf : WF} {ct : TF} {f : OF} {g : TG}
abbrev Blk (X : Cx) (scope : Scope) (J : Cx → Prop) : Prop := ∀ (s : Shared) (H : Hp) (C : Addr) (cl : List (Str × Addr)) (fp : List Addr), J (X.blk s H scope (compEnvC scope cl C X.env) fp)
def yesT : TF := fun _ g => some (true, g)
/-- the conditions of a comprehension -/
def DTs1 (X : Cx) (ifs : List Expr) (ct : TF) : Prop := PTs X ifs (tTf X.K ct)
theorem dts_nil : DTs1 X [] yesT := by
  refine ⟨fun pins s σ H Q I hq => ?_⟩
  obtain ⟨B, W, O, ρ, g, b, g', D, e, q⟩ := hq
  cases e
  exact wpAny_tests_nil ⟨H, I, q H Ext.refl D.gen⟩
theorem dts_one {c : Expr} (h : DT X c ct) : DTs1 X [c] ct := pts_one h.pt
theorem tTf_s {K : Fg} {c : TF} : DTs K (tTf K c) c := fun B W O σ H ρ g b g' D e Q q => ⟨B, W, O, ρ, g, b, g', D, e, q⟩
theorem tOf_s {K : Fg} {c : OF} : DOs K (tOf K c) c := fun B W O σ H ρ g b g' D e Q q => ⟨B, W, O, ρ, g, b, g', D, e, q⟩
theorem do_lc (hc : X.calm = true) (hN : X.N.Nodup) (hi : DI X tg iter fi) (ok : BlkOk X.N X.env.scope scope own) (hg : Blk X scope fun Y => PG Y tg g) (hw : DGw X.K g (own.map (·.2)) wf) (ht : Blk X scope fun Y => DTs1 Y ifs ct) (he : Blk X scope fun Y => DO Y elt f)
    (hs : ∀ x, foldedSetIterable iter X.env x = pure x := by intro _; rfl) : DO X (.ListComp elt [⟨tg, iter, ifs, 0⟩] scope pos) (compD fi wf ct f (own.map (·.2))) := by
  obtain ⟨wi, pi, qi⟩ := hi
  exact ⟨_, pe_lc (tt := tTf X.K ct) (te := tOf X.K f) hc hN pi ok hg ht (fun s H C cl fp => (he s H C cl fp).pe) hs, lc_s qi hw tTf_s tOf_s⟩
theorem ds_setLc {i : Nat} {y : Str} (hc : X.calm = true) (hN : X.N.Nodup) (hy : X.N[i]? = some y) (hyl : X.env.scope.names.lookup y = some .local)
    (hsw : swapsWith (.ListComp elt [⟨tg, iter, ifs, 0⟩] scope pos) (some (.Name y py)) spos.line X.env = pure true) (hi : DI X tg iter fi) (ok : BlkOk X.N X.env.scope scope own) (hg : Blk X scope fun Y => PG Y tg g) (hw : DGw X.K g (own.map (·.2)) wf) (ht : Blk X scope fun Y => DTs1 Y ifs ct) (he : Blk X scope fun Y => DO Y elt f)
    (hs : ∀ x, foldedSetIterable iter X.env x = pure x := by intro _; rfl) : DS X (.Assign [.Name y py] (.ListComp elt [⟨tg, iter, ifs, 0⟩] scope pos) spos) (setD i (compD fi wf ct f (own.map (·.2)))) := by
  obtain ⟨wi, pi, qi⟩ := hi
  refine ⟨_, ps_setLc (tt := tTf X.K ct) (te := tOf X.K f) hc hN hy hyl hsw pi ok hg ht (fun s H C cl fp => (he s H C cl fp).pe) hs, fun B W O σ H ρ g r D e E q => ?_⟩
  obtain ⟨⟨d, g1⟩, e1, e2⟩ := Option.map_eq_some_iff.mp e
  cases e2
  refine lc_s qi hw tTf_s tOf_s B W O σ H ρ g d g1 D e1 _ fun v H1 fp x1 h1 n1 f1 r1 => ?_
  have D2 := D.withV x1 h1 n1 f1 r1
  exact q _ _ H1 (D.toDen0.keeps x1 fun a z => (f1 a z).1) (D2.set i)
end

/-! ### a def -/
def env0 (N : Nat) (ss : List SV) : Env := ss.map (fun s => some (.sh s)) ++ List.replicate (N - ss.length) none
def fnF (n N : Nat) (body : SF) : FF := fun ss g => if ss.length = n then (body (env0 N ss) g).bind fun r => match r with
  | .rt d g' => some (d, g')
  | .nx _ g' => some (.sh .non, g')
  | _ => none
else none
theorem fnF_ar {n N : Nat} {body : SF} : FF.ar n (fnF n N body) := fun ss g r h => by
  unfold fnF at h
  split at h
  · assumption
  · cases h
theorem erep0 {K : Fg} {W : Wd} {O : List Addr} {H : Hp} : ∀ {vs : List V} {ss : List SV} (k : Nat), RepSs K W (msk O H) vs ss → ERep K W O H (vs.map some ++ List.replicate k none) (ss.map (fun s => some (.sh s)) ++ List.replicate k none) []
  | _, _, k, .nil => by
    induction k with
    | zero => exact .nil
    | succ k ih => rw [List.replicate_succ, List.replicate_succ]; exact .non ih
  | _, _, k, .cons r t => .som (fp := []) (.sh r) (erep0 k t)
theorem den_start {K : Fg} {W : Wd} {O : List Addr} {H : Hp} {g : GS} {N : List Str} {vs : List V} {ss : List SV} (r : RepSs K W (msk O H) vs ss) (hO : ∀ a ∈ O, H a ≠ none) (hg : GOk W O H g) : Den K (O, H) W O (L2.start N vs) H (env0 N.length ss) g where
  base := Ext.refl
  sub := fun a m => m
  new := fun a m => .inl m
  dom := hO
  gen := hg
  bdom := hO
  env := ⟨[], by unfold L2.start env0; rw [r.length]; exact erep0 _ r, List.nodup_nil, fun a m => by simp at m⟩
theorem fn_ok {P : Program} {w : World} {K : Fg} {mg : Str → Option Value} {base : Heap} {x qual : Str} {st : Stmt} {f : Addr} {fd : FuncData} {N ps : List Str} {k : Nat} {body : SF} (F : Fun K x qual st f fd) (S : FnScope N ps (defScope st))
    (hb : ∀ (cdv : Value) (A : Around) (outer : List PySem.Env) (s : Shared) (H : Hp) (E : XK), Room k (A.deeper (PyProof.Rows.envOfC qual (defScope st) s.heap.objs.size f cdv)) → DSs (cxOf CX0 P w K mg base N qual (defScope st) f cdv A outer s H E).nox (defBody st) body) :
    FnOk P w K mg base CX0 (k + 1) f fd ps (spD K ps.length (fnF ps.length N.length body)) := by
  refine F.ok S (fun vs H Q E h => ?_) (fun cdv A outer s H vs Q E hr h => ?_)
  · obtain ⟨W, O, ss, g, d, g', hl, _⟩ := h
    exact hl
  · obtain ⟨W, O, ss, g, d, g', hl, rs, hO, hg, e, q⟩ := h
    obtain ⟨t, pt, qt⟩ := hb cdv A outer s H E hr
    refine ⟨t, pt, ?_⟩
    unfold fnF at e
    split at e
    · obtain ⟨r, e1, e2⟩ := Option.bind_eq_some_iff.mp e
      refine qt (O, H) W O _ H _ g r (den_start (N := N) rs hO hg) e1 _ ?_
      cases r with
      | nx ρ1 g1 =>
        cases e2
        exact fun σ' O' H' _ D' => q .non H' [] D'.base D'.gen List.nodup_nil (fun a m => by simp at m) (.sh .non)
      | rt d1 g1 =>
        cases e2
        intro v O' H' fp D' r' nd hf
        refine q v H' fp D'.base D'.gen nd (fun a m => ⟨hf a m, (r'.inO a m).2.2⟩) (r'.mono ?_ Ext.refl fun a m => List.mem_append_left _ m)
        exact msk_le fun b z => by
          rcases List.mem_append.mp z with z | z
          · exact (r'.inO b z).1
          · exact D'.sub b z
      | bk _ _ => cases e2
      | ct _ _ => cases e2
    · cases e
end DL

/-! DL7: built-ins that look at things, draws. -/
namespace DL
open PySem PySem.Spec L2
section
variable {X : Cx} {e a b c : Expr} {f fa fb fc : EF} {h ha' : OF} {fs : AF} {pos p : Pos} {x : Str}

/-! ### one thing looked at, handed to a built-in -/
theorem tCons1 {t : TE} {r : List V → Hp → VK → Prop} {σ : St} {H : Hp} {Q : VK} (h : t σ H fun x H1 => r [x] H1 Q) : tCB r (tCons t tNil) σ H Q := h
def lenP (f : OF) : EF := fun ρ g => (f ρ g).bind fun p => p.1.len?.map fun n => (.int (n : Nat), p.2)
theorem de_len (hg : Gl X "len") (hm : X.mg "len" = none) (ha : DP X a h) (he : starEach [a] X.env = (false, eval a X.env) :: starEach [] X.env := by rfl) (hpl : (backTo pos (starEach [] X.env)).any (·.1) = false := by rfl) :
    DE X (.Call (.Name "len" p) [a] [] pos) (lenP h) := by
  obtain ⟨t, pt, qt⟩ := ha
  refine ⟨_, pe_callB call_len_seq hg hm PySem.boot_len (pa_cons pt pa_nil he) (by decide) (by decide) he hpl, fun B W O σ H ρ g s g' D e Q q => ?_⟩
  obtain ⟨⟨d, g1⟩, e1, e2⟩ := Option.bind_eq_some_iff.mp e
  obtain ⟨n, e3, e4⟩ := Option.map_eq_some_iff.mp e2
  cases e4
  refine tCons1 (qt B W O σ H ρ g d g1 D e1 _ fun v H1 fp x1 h1 r1 => ?_)
  obtain ⟨pp, vs, rfl, hs, rfl⟩ := r1.len e3
  exact ⟨pp, vs, rfl, hs, q _ H1 x1 h1 .int⟩
def listP (f : OF) : OF := fun ρ g => (f ρ g).bind fun p => p.1.items?.map fun xs => (.own (xs.map .sh), p.2)
theorem do_list (hg : Gl X "list") (hm : X.mg "list" = none) (ha : DP X a h) (he : starEach [a] X.env = (false, eval a X.env) :: starEach [] X.env := by rfl) (hpl : (backTo pos (starEach [] X.env)).any (·.1) = false := by rfl) :
    DO X (.Call (.Name "list" p) [a] [] pos) (listP h) := by
  obtain ⟨t, pt, qt⟩ := ha
  refine ⟨_, pe_callTy call_list_of hg hm PyProof.Rows.boot_list (pa_cons pt pa_nil he) (by decide) (by decide) he hpl, fun B W O σ H ρ g s g' D e Q q => ?_⟩
  obtain ⟨⟨d, g1⟩, e1, e2⟩ := Option.bind_eq_some_iff.mp e
  obtain ⟨xs, e3, e4⟩ := Option.map_eq_some_iff.mp e2
  cases e4
  refine tCons1 (qt B W O σ H ρ g d g1 D e1 _ fun v H1 fp x1 h1 r1 => ?_)
  obtain ⟨pp, vs, rfl, hs, rs⟩ := r1.items e3
  exact ⟨pp, vs, rfl, hs, fun l hl => new_own D x1 h1 hl rs q⟩
def tupleP (f : OF) : EF := fun ρ g => (f ρ g).bind fun p => p.1.items?.map fun xs => (.tup xs, p.2)
theorem Rep.items2 {K : Fg} {W : Wd} {O : List Addr} {H : Hp} {v : V} {d : DV} {fp : List Addr} {xs : List SV} (r : Rep K W O H v d fp) (e : d.items? = some xs) : ∃ a vs, v = .ref a ∧ (SqL K H a vs ∨ SqT K (msk O H) a vs) ∧ RepSs K W (msk O H) vs xs := by
  cases r with
  | own ha hw h rs =>
    have e' := of_mapM_sh e
    subst e'
    exact ⟨_, _, rfl, .inl (.inl (.inl h)), (Reps.toS rs).1⟩
  | sh r =>
    cases r with
    | tup hq r => cases e; exact ⟨_, _, rfl, .inr hq, r⟩
    | lst hq r => cases e; exact ⟨_, _, rfl, .inl (.inl (.inl (of_msk hq).1)), r⟩
    | _ => cases e
theorem de_tuple (hg : Gl X "tuple") (hm : X.mg "tuple" = none) (ha : DP X a h) (he : starEach [a] X.env = (false, eval a X.env) :: starEach [] X.env := by rfl) (hpl : (backTo pos (starEach [] X.env)).any (·.1) = false := by rfl) :
    DE X (.Call (.Name "tuple" p) [a] [] pos) (tupleP h) := by
  obtain ⟨t, pt, qt⟩ := ha
  refine ⟨_, pe_callTy call_tuple_of hg hm PyProof.Rows.boot_tuple (pa_cons pt pa_nil he) (by decide) (by decide) he hpl, fun B W O σ H ρ g s g' D e Q q => ?_⟩
  obtain ⟨⟨d, g1⟩, e1, e2⟩ := Option.bind_eq_some_iff.mp e
  obtain ⟨xs, e3, e4⟩ := Option.map_eq_some_iff.mp e2
  cases e4
  refine tCons1 (qt B W O σ H ρ g d g1 D e1 _ fun v H1 fp x1 h1 r1 => ?_)
  obtain ⟨pp, vs, rfl, hs, rs⟩ := r1.items2 e3
  have D1 := D.step x1 h1
  refine ⟨pp, vs, rfl, ?_⟩
  rcases hs with hs | hs
  · exact .inl ⟨hs, fun l hl => q _ _ (x1.trans (Same.ext (keep_new hl))) (h1.same (keep_new hl)) (rep_tup D1.dom hl rs)⟩
  · exact .inr ⟨sqT_mono msk_sub hs, q _ H1 x1 h1 (.tup hs rs)⟩
/-- what isinstance sees -/
def DV.ty? : DV → Option String
  | .own _ => some "list"
  | .sh .non => some "NoneType"
  | .sh (.bl _) => some "bool"
  | .sh (.int _) => some "int"
  | .sh (.str _) => some "str"
  | .sh (.tup _) => some "tuple"
  | .sh (.lst _) => some "list"
  | .sh (.raw _) => none
  | .sh .gen => none
theorem Rep.ty {K : Fg} {W : Wd} {O : List Addr} {H : Hp} {v : V} {d : DV} {fp : List Addr} {T : String} (r : Rep K W O H v d fp) (e : d.ty? = some T) : TyX K H v (.type T) := by
  cases r with
  | own ha hw h rs => cases e; exact .base (.lst h)
  | sh r =>
    cases r with
    | non => cases e; exact .base .non
    | bl => cases e; exact .base (.bl _)
    | int => cases e; exact .base (.int _)
    | str => cases e; exact .base (.str _)
    | raw => cases e
    | gen => cases e
    | lst hq r => cases e; exact .base (.lst (of_msk hq).1)
    | tup hq r =>
      cases e
      rcases sqT_mono msk_sub hq with (hq | ⟨o, hq⟩) | ⟨o, its, n, hk, hc, _⟩
      · exact .base (.tup hq)
      · exact .fTuple hq
      · exact .kTuple hk hc
def isiP (T : String) (f : OF) : EF := fun ρ g => (f ρ g).bind fun p => p.1.ty?.bind fun t => (kitB t T).map fun b => (.bl b, p.2)
theorem de_isi {T : String} {xt : Str} {p2 : Pos} (hg : Gl X "isinstance") (hm : X.mg "isinstance" = none) (ha : DP X a h) (hgT : Gl X xt) (hmT : X.mg xt = none) (hvT : bootBuiltins xt = some (.type T)) (hnT : xt ≠ "__name__" := by decide) (hdT : (xt == ("__debug__" : Str)) = false := by decide)
    (he : starEach [a, .Name xt p2] X.env = (false, eval a X.env) :: starEach [.Name xt p2] X.env := by rfl) (he2 : starEach [.Name xt p2] X.env = (false, eval (.Name xt p2) X.env) :: starEach [] X.env := by rfl) (hpl : (backTo pos (starEach [.Name xt p2] X.env)).any (·.1) = false := by rfl) :
    DE X (.Call (.Name "isinstance" p) [a, .Name xt p2] [] pos) (isiP T h) := by
  obtain ⟨t, pt, qt⟩ := ha
  refine ⟨_, pe_callB call_isi hg hm PyProof.Rows.boot_isinstance (pa_cons pt (pa_cons (pe_bltn (v := .ty T) hgT hmT hvT rfl hnT hdT) pa_nil he2) he) (by decide) (by decide) he hpl, fun B W O σ H ρ g s g' D e Q q => ?_⟩
  obtain ⟨⟨d, g1⟩, e1, e2⟩ := Option.bind_eq_some_iff.mp e
  obtain ⟨tt, e3, e4⟩ := Option.bind_eq_some_iff.mp e2
  obtain ⟨b, e5, e6⟩ := Option.map_eq_some_iff.mp e4
  cases e6
  refine qt B W O σ H ρ g d g1 D e1 _ fun v H1 fp x1 h1 r1 => ?_
  exact ⟨v, .ty T, _, _, b, rfl, .ty T, r1.ty e3, kit_ty e5, q _ H1 x1 h1 .bl⟩

/-! ### the draws -/
def GS.at (g : GS) : Nat := (g.turn % (g.cells.length : Int)).toNat
def GS.draw (g : GS) (b : Int) : Int × GS :=
  if 1000000000000000000 ≤ g.cells.getD g.at 0 ∧ 0 < g.rests.getD g.at 0 then (g.rests.getD g.at 0 % b, ⟨g.cells, g.rests.set g.at (g.rests.getD g.at 0 / b), g.turn + 1, by rw [List.length_set]; exact g.ok⟩)
  else
    let n := (g.cells.getD g.at 0 * 48271 + g.turn * 69621 + 11) % 2147483647
    (((n * n + g.turn * 7919 + 3) % 2147483629) % b, ⟨g.cells, g.rests, g.turn + 1, g.ok⟩)
def drawF : FF := fun ss g => match ss with
  | [.gen, .int b] => if 0 < b ∧ b.natAbs.log2 < 9000 then some (.sh (.int (g.draw b).1), (g.draw b).2) else none
  | _ => none
theorem drawF_ar : FF.ar 2 drawF := fun ss g r h => by
  unfold drawF at h
  split at h
  · rfl
  · cases h
theorem GS.draw_lt (g : GS) {b : Int} (hb : 0 < b) : 0 ≤ (g.draw b).1 ∧ (g.draw b).1 < b := by
  unfold GS.draw
  split
  · exact ⟨Int.emod_nonneg _ (by omega), Int.emod_lt_of_pos _ hb⟩
  · exact ⟨Int.emod_nonneg _ (by omega), Int.emod_lt_of_pos _ hb⟩
def spStart (K : Fg) : Sp := fun vs H Q _ => ∃ (a : Addr) (ns : List Int), vs = [.ref a] ∧ SqL K H a (ns.map V.int) ∧ ns.length ≤ 63 ∧
  ∀ (g : GS) (s c r : Addr) (H' : Hp), Same H H' → H s = none → H c = none → H r = none → GOk (some (s, c, r)) [s, c, r] H' g → Q (.ref s) H'
def spLaw (K : Fg) : Sp := fun vs H Q _ => ∃ (a : Addr) (ns : List Int), vs = [.ref a] ∧ SqL K H a (ns.map V.int) ∧ ns.length ≤ 63 ∧ ∀ H', Q (.bl true) H'
/-- behind the law's first statement -/
theorem law_body {K : Fg} {N : Nat} {g : GS} {s c r : Addr} {H : Hp} {body : SF} {i : Nat} {σ : St} {D : Ends} {t : TS} (qt : DSt K t body) (hσ : σ.length = N) (hi : σ[i]? = some (some (.ref s))) (hg : GOk (some (s, c, r)) [s, c, r] H g)
    (hl : ∃ g', body ((List.replicate N none).set i (some (.sh .gen))) g = some (.rt (.sh (.bl true)) g')) (q : ∀ H', D.rt (.bl true) H') : t D σ H := by
  obtain ⟨g', e⟩ := hl
  have hm := hg.mem
  have er : ∀ (σ : St), ERep K (some (s, c, r)) [s, c, r] H σ (List.replicate σ.length none) [] := fun σ => by
    induction σ with
    | nil => exact .nil
    | cons x σ ih => rw [List.length_cons, List.replicate_succ]; exact .non ih
  have hin : i < σ.length := (List.getElem?_eq_some_iff.mp hi).1
  have en : ERep K (some (s, c, r)) [s, c, r] H σ (((List.replicate N none : Env)).set i none) [] := by
    have : ((List.replicate N none : Env)).set i none = List.replicate σ.length none := by
      rw [hσ]
      apply List.ext_getElem?
      intro j
      rw [List.getElem?_set]
      by_cases hij : i = j
      · subst hij
        by_cases hl : i < N
        · simp [hl]
        · simp [hl]
      · simp [hij]
    rw [this]
    exact er σ
  obtain ⟨fe, h1, h2, h3⟩ := ERep.put (fq := []) (Rep.sh (.gen rfl)) en (by rw [List.length_replicate, ← hσ]; exact hin) hi (by simp)
  have hmem : ∀ a ∈ [s, c, r], H a ≠ none := fun a m => (hm a (by simpa [Wd.as] using m)).2
  refine qt ([s, c, r], H) (some (s, c, r)) [s, c, r] σ H _ g _ { base := Ext.refl, sub := fun a m => m, new := fun a m => .inl m, dom := hmem, gen := hg, bdom := hmem, env := ⟨fe, h1, h2, fun a m => by have := h3 a m; simp at this⟩ } e D ?_
  intro v O' H' fp _ r' _ _
  cases r' with
  | sh r' => cases r'; exact q H'
end
end DL

/-! DL8: comparisons as tests; more. -/
namespace DL
open PySem PySem.Spec L2
theorem room65 {k : Nat} {A : Around} (r : Room k A) : A.units + 65 < cLine := by have := r.un; omega
section
variable {X : Cx} {e a b c : Expr} {f fa fb fc : EF} {h ha' : OF} {fs : AF} {pos p : Pos} {x : Str}
theorem dt_cmp {op : CmpOp} {r : R2} {k : SV → SV → Option SV} (ho : OpR X (compareOp op) r) (hr : R2S X.K r k) (ha : DE X a fa) (hb : DE X b fb) (hm : behindInMarks op b = false) : DT X (.Compare a [op] [b] pos) (tB1 (b2 k fa fb)) := by
  obtain ⟨ta, pa, qa⟩ := ha
  obtain ⟨tb, pb, qb⟩ := hb
  exact ⟨_, pt_cmpR ho pa pb hm, tB1s (op2s hr qa qb)⟩
theorem dt_lt (ha : DE X a fa) (hb : DE X b fb) : DT X (.Compare a [.Lt] [b] pos) (tB1 (b2 hLt fa fb)) := dt_cmp op_lt (r2_I0 fun _ _ _ _ => .bl) ha hb (nomark _)
theorem dt_le (ha : DE X a fa) (hb : DE X b fb) : DT X (.Compare a [.LtE] [b] pos) (tB1 (b2 hLe fa fb)) := dt_cmp op_le (r2_I0 fun _ _ _ _ => .bl) ha hb (nomark _)
theorem dt_gt (ha : DE X a fa) (hb : DE X b fb) : DT X (.Compare a [.Gt] [b] pos) (tB1 (b2 hGt fa fb)) := dt_cmp op_gt (r2_I0 fun _ _ _ _ => .bl) ha hb (nomark _)
theorem dt_ge (ha : DE X a fa) (hb : DE X b fb) : DT X (.Compare a [.GtE] [b] pos) (tB1 (b2 hGe fa fb)) := dt_cmp op_ge (r2_I0 fun _ _ _ _ => .bl) ha hb (nomark _)
theorem dt_eq (hu : X.A.units + 64 < cLine) (ha : DE X a fa) (hb : DE X b fb) : DT X (.Compare a [.Eq] [b] pos) (tB1 (b2 hEq fa fb)) := dt_cmp (op_eqX hu) r2_eq ha hb (nomark _)
theorem dt_ne (hu : X.A.units + 64 < cLine) (ha : DE X a fa) (hb : DE X b fb) : DT X (.Compare a [.NotEq] [b] pos) (tB1 (b2 hNe fa fb)) := dt_cmp (op_neX hu) r2_ne ha hb (nomark _)
theorem dt_in (hu : X.A.units + 65 < cLine) (ha : DE X a fa) (hb : DE X b fb) (hm : behindInMarks .In b = false := by rfl) : DT X (.Compare a [.In] [b] pos) (tB1 (b2 (hInD fun x => x) fa fb)) := dt_cmp (op_inD hu) r2_in ha hb hm
theorem dt_notIn (hu : X.A.units + 65 < cLine) (ha : DE X a fa) (hb : DE X b fb) (hm : behindInMarks .NotIn b = false := by rfl) : DT X (.Compare a [.NotIn] [b] pos) (tB1 (b2 (hInD fun x => !x) fa fb)) := dt_cmp (op_notInD hu) r2_notIn ha hb hm
theorem dt_isN (ha : DP X a ha') {k : Nat} {p2 : Pos} : DT X (.Compare a [.Is] [.Constant .none k p2] pos) (tB1 (u1P (isN fun x => x) ha')) := by
  obtain ⟨t, pt, qt⟩ := ha
  refine ⟨_, pt_cmpR op_isN pt pe_non (nomark _), tB1s fun B W O σ H ρ g s g' D e Q q => ?_⟩
  obtain ⟨⟨x, g1⟩, e1, e⟩ := Option.bind_eq_some_iff.mp e
  obtain ⟨s1, e3, e4⟩ := Option.map_eq_some_iff.mp e
  cases e4
  refine qt B W O σ H ρ g x g1 D e1 _ fun v H1 fp x1 h1 r1 => ?_
  have z := isN_ok r1 e3
  subst z
  exact ⟨rfl, q _ H1 x1 h1 .bl⟩
theorem dt_notN (ha : DP X a ha') {k : Nat} {p2 : Pos} : DT X (.Compare a [.IsNot] [.Constant .none k p2] pos) (tB1 (u1P (isN fun x => !x) ha')) := by
  obtain ⟨t, pt, qt⟩ := ha
  refine ⟨_, pt_cmpR op_notN pt pe_non (nomark _), tB1s fun B W O σ H ρ g s g' D e Q q => ?_⟩
  obtain ⟨⟨x, g1⟩, e1, e⟩ := Option.bind_eq_some_iff.mp e
  obtain ⟨s1, e3, e4⟩ := Option.map_eq_some_iff.mp e
  cases e4
  refine qt B W O σ H ρ g x g1 D e1 _ fun v H1 fp x1 h1 r1 => ?_
  have z := isN_ok r1 e3
  subst z
  exact ⟨rfl, q _ H1 x1 h1 .bl⟩
end
end DL

/-! DL9: calls that only look, keywords, methods of lists, slices, sorted. -/
namespace DL
open PySem PySem.Spec L2
section
variable {X : Cx} {e a b c : Expr} {es : List Expr} {f fa fb fc : EF} {h ha' : OF} {fs : AF} {pos p : Pos} {x : Str}

/-! ### a call that gets own lists to look at, and answers an atom -/
def DV.atom? : DV → Option SV
  | .sh .non => some .non
  | .sh (.bl b) => some (.bl b)
  | .sh (.int i) => some (.int i)
  | .sh (.str s) => some (.str s)
  | _ => none
theorem Rep.atom {K : Fg} {W : Wd} {O : List Addr} {H : Hp} {v : V} {d : DV} {fp : List Addr} {s : SV} (r : Rep K W O H v d fp) (e : d.atom? = some s) : ∀ H', RepS K W H' v s := fun H' => by
  cases r with
  | own _ _ _ _ => cases e
  | sh r =>
    cases r with
    | non => cases e; exact .non
    | bl => cases e; exact .bl
    | int => cases e; exact .int
    | str => cases e; exact .str
    | _ => cases e
/-- looked at, side by side -/
inductive PReps (K : Fg) (W : Wd) (O : List Addr) (H : Hp) : List V → List DV → List Addr → Prop
  | nil : PReps K W O H [] [] []
  | cons {v : V} {vs : List V} {d : DV} {ds : List DV} {fp fq : List Addr} (h : Rep K W O H v d fp) (t : PReps K W O H vs ds fq) : PReps K W O H (v :: vs) (d :: ds) (fp ++ fq)
theorem PReps.mono {K : Fg} {W : Wd} {O O' : List Addr} {H H' : Hp} (hm : Same (msk O H) (msk O' H')) (e : Ext W H H') : ∀ {vs : List V} {ds : List DV} {fp : List Addr}, (∀ a ∈ fp, a ∈ O') → PReps K W O H vs ds fp → PReps K W O' H' vs ds fp
  | _, _, _, _, .nil => .nil
  | _, _, _, ho, .cons h t => .cons (h.mono hm e fun b hb => ho b (List.mem_append_left _ hb)) (PReps.mono hm e (fun b hb => ho b (List.mem_append_right _ hb)) t)
theorem PReps.inO {K : Fg} {W : Wd} {O : List Addr} {H : Hp} : ∀ {vs : List V} {ds : List DV} {fp : List Addr}, PReps K W O H vs ds fp → ∀ a ∈ fp, a ∈ O ∧ a ∉ W.as ∧ H a ≠ none
  | _, _, _, .nil, a, h => by simp at h
  | _, _, _, .cons h t, a, m => by
    rcases List.mem_append.mp m with m | m
    · exact h.inO a m
    · exact PReps.inO t a m
theorem PReps.freeze {K : Fg} {W : Wd} {O O' : List Addr} {H : Hp} (hO : ∀ b, b ∈ O' → b ∈ O) : ∀ {vs : List V} {ds : List DV} {fp : List Addr}, (∀ a ∈ fp, a ∉ O') → PReps K W O H vs ds fp → RepSs K W (msk O' H) vs (ds.map DV.frz)
  | _, _, _, _, .nil => .nil
  | _, _, _, ho, .cons h t => .cons (h.freeze hO fun b hb => ho b (List.mem_append_left _ hb)) (PReps.freeze hO (fun b hb => ho b (List.mem_append_right _ hb)) t)
theorem PReps.length {K : Fg} {W : Wd} {O : List Addr} {H : Hp} : ∀ {vs : List V} {ds : List DV} {fp : List Addr}, PReps K W O H vs ds fp → vs.length = ds.length
  | _, _, _, .nil => rfl
  | _, _, _, .cons _ t => by rw [List.length_cons, List.length_cons, PReps.length t]
def DAPs (K : Fg) (t : TA) (f : AOF) : Prop := ∀ B W O σ H ρ g s g', Den K B W O σ H ρ g → f ρ g = some (s, g') →
  ∀ Q : List V → Hp → Prop, (∀ v H' fp, Ext W H H' → GOk W B.1 H' g' → PReps K W O H' v s fp → Q v H') → t σ H Q
def DAP (X : Cx) (es : List Expr) (f : AOF) : Prop := ∃ t, PA X es t ∧ DAPs X.K t f
theorem dap_nil : DAP X [] oN := ⟨_, pa_nil, fun B W O σ H ρ g s g' D e Q q => by cases e; exact q [] H [] Ext.refl D.gen .nil⟩
theorem dap_cons {os : AOF} (ha : DP X e h) (hr : DAP X es os) (hs : starEach (e :: es) X.env = (false, eval e X.env) :: starEach es X.env := by rfl) : DAP X (e :: es) (oC h os) := by
  obtain ⟨t, pt, qt⟩ := ha
  obtain ⟨u, pu, qu⟩ := hr
  refine ⟨_, pa_cons pt pu hs, fun B W O σ H ρ g s g' D e Q q => ?_⟩
  obtain ⟨⟨x, g1⟩, e1, e⟩ := Option.bind_eq_some_iff.mp e
  obtain ⟨⟨xs, g2⟩, e2, e3⟩ := Option.map_eq_some_iff.mp e
  cases e3
  refine qt B W O σ H ρ g x g1 D e1 _ fun v H1 fp x1 h1 r1 => ?_
  have D1 := D.step x1 h1
  refine qu B W O σ H1 ρ g1 xs g2 D1 e2 _ fun vs H2 fq x2 h2 r2 => ?_
  exact q _ H2 (fp ++ fq) (x1.trans x2) h2 (.cons (r1.mono (D1.toDen0.keep x2) x2 fun a m => (r1.inO a m).1) r2)
def callB (F : FF) (os : AOF) : EF := fun ρ g => (os ρ g).bind fun p => (F (p.1.map DV.frz) p.2).bind fun r => r.1.atom?.map fun s => (s, r.2)
theorem sp_look {K : Fg} {F : FF} {n : Nat} {B : Bs} {W : Wd} {O : List Addr} {σ : St} {H H1 : Hp} {ρ : Env} {g g1 g' : GS} {vs : List V} {ds : List DV} {fp : List Addr} {d : DV} {s : SV} {Q : VK} {E : XK} (D : Den K B W O σ H ρ g) (x1 : Ext W H H1) (h1 : GOk W B.1 H1 g1) (r : PReps K W O H1 vs ds fp) (hn : ds.length = n) (e : F (ds.map DV.frz) g1 = some (d, g')) (es : d.atom? = some s)
    (q : ∀ v H', Ext W H H' → GOk W B.1 H' g' → RepS K W (msk O H') v s → Q v H') : spD K n F vs H1 Q E := by
  have D1 := D.step x1 h1
  have sub : ∀ b, b ∈ O.filter (fun x => decide (x ∉ fp)) → b ∈ O := fun b m => (List.mem_filter.mp m).1
  have nq : ∀ b, b ∈ fp → b ∉ O.filter (fun x => decide (x ∉ fp)) := fun b m z => of_decide_eq_true (List.mem_filter.mp z).2 m
  refine ⟨W, O.filter (fun x => decide (x ∉ fp)), _, g1, d, g', by rw [r.length]; exact hn, r.freeze sub nq, fun a m => D1.dom a (sub a m), h1.re (fun a ha => List.mem_filter.mpr ⟨D1.toDen0.was a ha, decide_eq_true fun z => (r.inO a z).2.1 ha⟩), e, fun v H' fq x2 h2 n2 f2 r2 => ?_⟩
  exact q v H' (x1.trans x2) (h2.re fun a ha => (D.gen.mem a ha).1) (r2.atom es _)
theorem de_callB1 {F : FF} {n k : Nat} {fd : FuncData} {fa : Addr} {ps : List Str} {os : AOF} (G : FnOk X.prog X.w X.K X.mg X.base CX0 k fa fd ps (spD X.K n F)) (ar : FF.ar n F) (hr : Room k X.A) (hg : Gl X x) (hm : X.mg x = some (.ref fa)) (hk : PySem.W.keepIn X.K (.ref fa) = true) (hb : Binds X.K fd ps [])
    (ha : DAP X (e :: es) os) (hdb : (x == ("__debug__" : Str)) = false := by decide) (he : starEach (e :: es) X.env = (false, eval e X.env) :: starEach es X.env := by rfl) (hpl : (backTo pos (starEach es X.env)).any (·.1) = false := by rfl) :
    DE X (.Call (.Name x p) (e :: es) [] pos) (callB F os) := by
  obtain ⟨t, pt, qt⟩ := ha
  refine ⟨_, pe_call G hr hg hm hk hb .nil pass0 pt hdb he hpl, fun B W O σ H ρ g d g' D e Q q => ?_⟩
  obtain ⟨⟨ss, g1⟩, e1, e2⟩ := Option.bind_eq_some_iff.mp e
  obtain ⟨⟨d1, g2⟩, e3, e4⟩ := Option.bind_eq_some_iff.mp e2
  obtain ⟨s1, e5, e6⟩ := Option.map_eq_some_iff.mp e4
  cases e6
  refine qt B W O σ H ρ g ss g1 D e1 _ fun vs H1 fp x1 h1 r1 => ?_
  rw [List.append_nil]
  have hl := ar _ _ _ e3
  rw [List.length_map] at hl
  exact sp_look D x1 h1 r1 hl e3 e5 q

/-! ### defaults and keywords -/
/-- the defaults fill up -/
def callD (F : FF) (fs : AF) (ds : List SV) : OF := fun ρ g => (fs ρ g).bind fun p => F (p.1 ++ ds) p.2
theorem do_callD {F : FF} {n k : Nat} {fd : FuncData} {fa : Addr} {ps : List Str} {dvs : List V} {dss : List SV} {ds : List Value} (G : FnOk X.prog X.w X.K X.mg X.base CX0 k fa fd ps (spD X.K n F)) (ar : FF.ar n F) (hr : Room k X.A) (hg : Gl X x) (hm : X.mg x = some (.ref fa)) (hk : PySem.W.keepIn X.K (.ref fa) = true) (hb : Binds X.K fd ps ds) (hd : Vals dvs ds) (hs : ∀ W H, RepSs X.K W H dvs dss)
    (ha : DA X (e :: es) fs) (hdb : (x == ("__debug__" : Str)) = false := by decide) (he : starEach (e :: es) X.env = (false, eval e X.env) :: starEach es X.env := by rfl) (hpl : (backTo pos (starEach es X.env)).any (·.1) = false := by rfl) :
    DO X (.Call (.Name x p) (e :: es) [] pos) (callD F fs dss) := by
  obtain ⟨t, pt, qt⟩ := ha
  refine ⟨_, pe_call G hr hg hm hk hb hd pass0 pt hdb he hpl, fun B W O σ H ρ g d g' D e Q q => ?_⟩
  obtain ⟨⟨ss, g1⟩, e1, e2⟩ := Option.bind_eq_some_iff.mp e
  refine qt B W O σ H ρ g ss g1 D e1 _ fun vs H1 x1 h1 r1 => ?_
  exact sp_of D x1 h1 (r1.append (hs _ _)) (ar _ _ _ e2) e2 q
def DKs (X : Cx) (kws : List Keyword) (f : AF) : Prop := ∃ t, PK X kws t ∧ DAs X.K t f
theorem dk_nil : DKs X [] aN := ⟨_, pk_nil, fun B W O σ H ρ g s g' D e Q q => by cases e; exact q [] H Ext.refl D.gen .nil⟩
theorem dk_cons {nm : Option Str} {kpos : Pos} {kws : List Keyword} (ha : DE X e f) (hr : DKs X kws fs) : DKs X (⟨nm, e, kpos⟩ :: kws) (aC f fs) := by
  obtain ⟨t, pt, qt⟩ := ha
  obtain ⟨u, pu, qu⟩ := hr
  refine ⟨_, pk_cons pt pu, fun B W O σ H ρ g s g' D e Q q => ?_⟩
  obtain ⟨⟨x, g1⟩, e1, e⟩ := Option.bind_eq_some_iff.mp e
  obtain ⟨⟨xs, g2⟩, e2, e3⟩ := Option.map_eq_some_iff.mp e
  cases e3
  refine qt B W O σ H ρ g x g1 D e1 _ fun v H1 x1 h1 r1 => ?_
  have D1 := D.step x1 h1
  refine qu B W O σ H1 ρ g1 xs g2 D1 e2 _ fun vs H2 x2 h2 r2 => ?_
  exact q _ H2 (x1.trans x2) h2 (.cons (r1.mono (D1.toDen0.keep x2)) r2)
/-- all keyword-only parameters are written, in order -/
def callN (F : FF) (m : Nat) (fs ks : AF) : OF := fun ρ g => (fs ρ g).bind fun p => (ks ρ p.2).bind fun q => if q.1.length = m then F (p.1 ++ q.1) q.2 else none
theorem do_callN {F : FF} {n k : Nat} {fd : FuncData} {fa : Addr} {ps kn : List Str} {kws : List Keyword} {gs : AF} {np ml : Nat} {gg : List Value → List Value → List Value} {gV : List V → List V → List V} (G : FnOk X.prog X.w X.K X.mg X.base CX0 k fa fd ps (spD X.K n F)) (ar : FF.ar n F) (hr : Room k X.A) (hg : Gl X x) (hm : X.mg x = some (.ref fa)) (hk : PySem.W.keepIn X.K (.ref fa) = true)
    (hb : KBn X.K fd ps np kn gg gV) (ha : DA X (e :: es) fs) (hkw : DKs X kws gs) (hgV : ∀ vs zs, gV vs zs = vs ++ zs := by exact fun _ _ => rfl) (hnp : np + kn.length = n := by rfl) (hml : kn.length = ml := by rfl) (hall : (backToKw pos (keywordEach kws X.env)).all (·.1.isSome) = true := by rfl) (hks : (backToKw pos (keywordEach kws X.env)).filterMap (·.1) = kn := by rfl)
    (hdb : (x == ("__debug__" : Str)) = false := by decide) (he : starEach (e :: es) X.env = (false, eval e X.env) :: starEach es X.env := by rfl)
    (hpl : ((backTo pos (starEach (e :: es) X.env)).any (·.1) || (backToKw pos (keywordEach kws X.env)).any (·.1.isNone)) = false := by rfl) :
    DO X (.Call (.Name x p) (e :: es) kws pos) (callN F ml fs gs) := by
  subst hml
  obtain ⟨t, pt, qt⟩ := ha
  obtain ⟨u, pu, qu⟩ := hkw
  refine ⟨_, pe_callN G hr hg hm hk hb pass0 pt pu hall hks hdb he hpl, fun B W O σ H ρ g d g' D e Q q => ?_⟩
  obtain ⟨⟨ss, g1⟩, e1, e2⟩ := Option.bind_eq_some_iff.mp e
  obtain ⟨⟨zs, g2⟩, e3, e4⟩ := Option.bind_eq_some_iff.mp e2
  refine qt B W O σ H ρ g ss g1 D e1 _ fun vs H1 x1 h1 r1 => ?_
  have D1 := D.step x1 h1
  refine qu B W O σ H1 ρ g1 zs g2 D1 e3 _ fun ws H2 x2 h2 r2 => ?_
  split at e4
  · rename_i hz
    have hl := ar _ _ _ e4
    rw [List.length_append] at hl
    rw [hgV]
    refine ⟨by rw [r1.length]; dsimp only at *; omega, by rw [r2.length]; exact hz, ?_⟩
    exact sp_of D (x1.trans x2) h2 ((r1.mono (D1.toDen0.keep x2)).append r2) (by rw [List.length_append]; exact hl) e4 q
  · cases e4
/-- a def with defaults -/
theorem fn_okD {P : Program} {w : World} {K : Fg} {mg : Str → Option Value} {base : Heap} {y qual : Str} {params : Arguments} {bd : List Stmt} {scope : Scope} {dvs : List V} {kws : List (Str × V)} {f : Addr} {fd : FuncData} {N ps : List Str} {k : Nat} {body : SF} (F : FunD K y qual params bd scope dvs kws f fd) (S : FnScope N ps scope)
    (hb : ∀ (cdv : Value) (A : Around) (outer : List PySem.Env) (s : Shared) (H : Hp) (E : XK), Room k (A.deeper (PyProof.Rows.envOfC qual scope s.heap.objs.size f cdv)) → DSs (cxOf CX0 P w K mg base N qual scope f cdv A outer s H E).nox bd body) :
    FnOk P w K mg base CX0 (k + 1) f fd ps (spD K ps.length (fnF ps.length N.length body)) := by
  refine F.ok S (fun vs H Q E h => ?_) (fun cdv A outer s H vs Q E hr h => ?_)
  · obtain ⟨W, O, ss, g, d, g', hl, _⟩ := h
    exact hl
  · obtain ⟨W, O, ss, g, d, g', hl, rs, hO, hg, e, q⟩ := h
    obtain ⟨t, pt, qt⟩ := hb cdv A outer s H E hr
    refine ⟨t, pt.nox, ?_⟩
    unfold fnF at e
    split at e
    · obtain ⟨r, e1, e2⟩ := Option.bind_eq_some_iff.mp e
      refine qt (O, H) W O _ H _ g r (den_start (N := N) rs hO hg) e1 _ ?_
      cases r with
      | nx ρ1 g1 =>
        cases e2
        exact fun σ' O' H' _ D' => q .non H' [] D'.base D'.gen List.nodup_nil (fun a m => by simp at m) (.sh .non)
      | rt d1 g1 =>
        cases e2
        intro v O' H' fp D' r' nd hf
        refine q v H' fp D'.base D'.gen nd (fun a m => ⟨hf a m, (r'.inO a m).2.2⟩) (r'.mono ?_ Ext.refl fun a m => List.mem_append_left _ m)
        exact msk_le fun b z => by
          rcases List.mem_append.mp z with z | z
          · exact (r'.inO b z).1
          · exact D'.sub b z
      | bk _ _ => cases e2
      | ct _ _ => cases e2
    · cases e

/-! ### methods of an own list in a slot -/
theorem own_upd {K : Fg} {B : Bs} {W : Wd} {O : List Addr} {σ : St} {H : Hp} {ρ : Env} {g : GS} {i : Nat} {ds : List DV} (D : Den K B W O σ H ρ g) (h : ρ[i]? = some (some (.own ds))) :
    ∃ a vs fq, σ[i]? = some (some (.ref a)) ∧ H a = some (.lst vs) ∧ Reps K W O H vs ds fq ∧ ∀ vs' ds', (∃ fq', Reps K W O H vs' ds' fq' ∧ fq'.Nodup ∧ ∀ b ∈ fq', b ∈ fq) → Keep O H O (upd H a (.lst vs')) ∧ Den K B W O σ (upd H a (.lst vs')) (ρ.set i (some (.own ds'))) g := by
  obtain ⟨a, vs, fq, fr, eσ, ha, hw, hv', rs, rt, n, hb⟩ := D.own h
  refine ⟨a, vs, fq, eσ, hv', rs, fun vs' ds' ⟨fq', r', nd, hs⟩ => ⟨keep_upd ha, ?_⟩⟩
  have n1 := List.nodup_append.mp n
  have n2 := List.nodup_cons.mp n1.1
  refine Den.own_put D.toDen0 (lt_of_slot h) eσ ha hw rt r' ?_ fun b m => ?_
  · rw [List.nodup_append]
    refine ⟨List.nodup_cons.mpr ⟨fun z => n2.1 (hs _ z), nd⟩, n1.2.1, fun x hx y hy z => ?_⟩
    rcases List.mem_cons.mp hx with m | m
    · exact n1.2.2 x (by rw [m]; exact List.mem_cons_self) y hy z
    · exact n1.2.2 x (List.mem_cons_of_mem _ (hs _ m)) y hy z
  · rcases List.mem_append.mp m with m | m
    · rcases List.mem_cons.mp m with m | m
      · rw [m]; exact hb _ (List.mem_append_left _ List.mem_cons_self)
      · exact hb _ (List.mem_append_left _ (List.mem_cons_of_mem _ (hs _ m)))
    · exact hb _ (List.mem_append_right _ m)
theorem Reps.dropLast {K : Fg} {W : Wd} {O : List Addr} {H : Hp} : ∀ {vs : List V} {ds : List DV} {fp : List Addr}, Reps K W O H vs ds fp → fp.Nodup → ∃ fq, Reps K W O H vs.dropLast ds.dropLast fq ∧ fq.Nodup ∧ ∀ b ∈ fq, b ∈ fp
  | _, _, _, .nil, h => ⟨[], .nil, h, fun b m => m⟩
  | _, _, _, .cons r .nil, h => ⟨[], .nil, List.nodup_nil, fun b m => by simp at m⟩
  | _, _, _, .cons (fp := f1) r (.cons r2 t), h => by
    have hn := List.nodup_append.mp h
    obtain ⟨fq, h1, h2, h3⟩ := Reps.dropLast (.cons r2 t) hn.2.1
    refine ⟨f1 ++ fq, .cons r h1, ?_, fun b m => ?_⟩
    · rw [List.nodup_append]
      exact ⟨hn.1, h2, fun x hx y hy => hn.2.2 x hx y (h3 y hy)⟩
    · rcases List.mem_append.mp m with m | m
      · exact List.mem_append_left _ m
      · exact List.mem_append_right _ (h3 b m)
def lastS : List DV → Option SV
  | [] => none
  | [d] => d.sh?
  | _ :: d :: ds => lastS (d :: ds)
theorem Reps.last {K : Fg} {W : Wd} {O : List Addr} {H : Hp} : ∀ {vs : List V} {ds : List DV} {fp : List Addr} {s : SV}, Reps K W O H vs ds fp → lastS ds = some s → ∃ v, vs[vs.length - 1]? = some v ∧ RepS K W (msk O H) v s
  | _, _, _, _, .nil, h => by cases h
  | _, _, _, _, .cons r .nil, h => by
    cases r with
    | sh r => cases h; exact ⟨_, rfl, r⟩
    | own _ _ _ _ => cases h
  | _, _, _, _, .cons (vs := v2 :: vs2) r (.cons r2 t), h => by
    obtain ⟨v, e1, e2⟩ := Reps.last (.cons r2 t) h
    refine ⟨v, ?_, e2⟩
    rw [List.length_cons, Nat.add_sub_cancel] at e1
    rw [List.length_cons, Nat.add_sub_cancel, List.length_cons, List.getElem?_cons_succ]
    exact e1
/-- x = y.pop() -/
def popD (j i : Nat) : SF := fun ρ g => match ρ[i]? with
  | some (some (.own ds)) => (lastS ds).map fun s => .nx ((ρ.set i (some (.own ds.dropLast))).set j (some (.sh s))) g
  | _ => none
def pop0D (i : Nat) : SF := fun ρ g => match ρ[i]? with
  | some (some (.own ds)) => (lastS ds).map fun _ => .nx (ρ.set i (some (.own ds.dropLast))) g
  | _ => none
theorem pop_core {K : Fg} {B : Bs} {W : Wd} {O : List Addr} {σ : St} {H : Hp} {ρ : Env} {g : GS} {i : Nat} {ds : List DV} {s : SV} (D : Den K B W O σ H ρ g) (h : ρ[i]? = some (some (.own ds))) (e : lastS ds = some s) {Q : VK}
    (q : ∀ v a vs, Keep O H O (upd H a (.lst vs)) → Den K B W O σ (upd H a (.lst vs)) (ρ.set i (some (.own ds.dropLast))) g → RepS K W (msk O (upd H a (.lst vs))) v s → Q v (upd H a (.lst vs))) :
    ∃ v, σ[i]? = some (some v) ∧ tyV K "list" v H ∧ rPop v [] H Q := by
  obtain ⟨a, vs, fq, fr, eσ, ha, hw, hv', rs, rt, n, hb⟩ := D.own h
  obtain ⟨a', vs', fq', eσ', hv'', rs', k⟩ := own_upd D h
  rw [eσ] at eσ'
  cases eσ'
  rw [hv'] at hv''
  cases hv''
  have nd : fq'.Nodup ∨ True := .inr trivial
  obtain ⟨v, e1, r1⟩ := rs.last e
  have n1 := List.nodup_append.mp n
  have n2 := List.nodup_cons.mp n1.1
  obtain ⟨fz, z1, z2, z3⟩ := rs.dropLast n2.2
  have put : Den K B W O σ (upd H a (.lst vs.dropLast)) (ρ.set i (some (.own ds.dropLast))) g := by
    refine Den.own_put D.toDen0 (lt_of_slot h) eσ ha hw rt z1 ?_ fun b m => ?_
    · rw [List.nodup_append]
      refine ⟨List.nodup_cons.mpr ⟨fun z => n2.1 (z3 _ z), z2⟩, n1.2.1, fun x hx y hy z => ?_⟩
      rcases List.mem_cons.mp hx with m | m
      · exact n1.2.2 x (by rw [m]; exact List.mem_cons_self) y hy z
      · exact n1.2.2 x (List.mem_cons_of_mem _ (z3 _ m)) y hy z
    · rcases List.mem_append.mp m with m | m
      · rcases List.mem_cons.mp m with m | m
        · rw [m]; exact hb _ (List.mem_append_left _ List.mem_cons_self)
        · exact hb _ (List.mem_append_left _ (List.mem_cons_of_mem _ (z3 _ m)))
      · exact hb _ (List.mem_append_right _ m)
  exact ⟨.ref a, eσ, .inl ⟨rfl, vs, .inl (.inl hv')⟩, a, vs, v, rfl, rfl, hv', e1, q v a _ (keep_upd ha) put (by rw [msk_upd ha]; exact r1)⟩
theorem ds_pop (i : Nat) {y : Str} {p1 p2 p3 : Pos} (hN : X.N[i]? = some y := by rfl) (hv : Vis X.env.scope y := by first | exact Or.inl rfl | exact Or.inr (Or.inl rfl) | exact Or.inr (Or.inr rfl)) (hd : (y == ("__debug__" : Str)) = false := by decide)
    (hcd : (y == ("__classdict__" : Str)) = false := by decide) (hbase : attributeBase (.Name y p1) "pop" X.env (eval (.Name y p1) X.env) = eval (.Name y p1) X.env := by rfl) (hline : (p2.endLine == p3.line) = true := by rfl)
    (hs2 : swapsWith (.Call (.Attribute (.Name y p1) "pop" p2) [] [] p3) none pos.line X.env = pure false := by rfl) : DS X (.Expr (.Call (.Attribute (.Name y p1) "pop" p2) [] [] p3) pos) (pop0D i) := by
  refine ⟨_, ps_expr (pe_bm0 PySem.F.plainAttrs_list PySem.F.slot_list_pop PySem.F.type_list_pop mt_pop (pe_var hN hv hd hcd) hbase hline) hs2, fun B W O σ H ρ g r D e E q => ?_⟩
  unfold pop0D at e
  split at e
  · rename_i ds h1
    obtain ⟨s, e1, e2⟩ := Option.map_eq_some_iff.mp e
    cases e2
    exact pop_core D h1 e1 fun v a vs k D2 _ => q σ O _ k D2
  · cases e
theorem ds_setpop (j i : Nat) {y z : Str} {p1 p2 p3 pz : Pos} (hNd : X.N.Nodup) (hj : X.N[j]? = some z) (hz : Loc X.env.scope z) (hN : X.N[i]? = some y := by rfl) (hv : Vis X.env.scope y := by first | exact Or.inl rfl | exact Or.inr (Or.inl rfl) | exact Or.inr (Or.inr rfl)) (hd : (y == ("__debug__" : Str)) = false := by decide)
    (hcd : (y == ("__classdict__" : Str)) = false := by decide) (hbase : attributeBase (.Name y p1) "pop" X.env (eval (.Name y p1) X.env) = eval (.Name y p1) X.env := by rfl) (hline : (p2.endLine == p3.line) = true := by rfl)
    (hs2 : swapsWith (.Call (.Attribute (.Name y p1) "pop" p2) [] [] p3) (some (.Name z pz)) pos.line X.env = pure false := by rfl) (hf : X.fn z = true ∨ X.env.scope.names.lookup z = some .local := by first | exact .inl rfl | exact .inr rfl | assumption) :
    DS X (.Assign [.Name z pz] (.Call (.Attribute (.Name y p1) "pop" p2) [] [] p3) pos) (popD j i) := by
  refine ⟨_, ps_set hNd hj hz (pe_bm0 PySem.F.plainAttrs_list PySem.F.slot_list_pop PySem.F.type_list_pop mt_pop (pe_var hN hv hd hcd) hbase hline) hs2 hf, fun B W O σ H ρ g r D e E q => ?_⟩
  unfold popD at e
  split at e
  · rename_i ds h1
    obtain ⟨s, e1, e2⟩ := Option.map_eq_some_iff.mp e
    cases e2
    exact pop_core D h1 e1 fun v a vs k D2 r2 => q _ O _ k ((DenV.withS D2 r2).set j)
  · cases e
def revD (i : Nat) : SF := fun ρ g => match ρ[i]? with
  | some (some (.own ds)) => (ds.mapM DV.sh?).map fun xs => .nx (ρ.set i (some (.own (xs.reverse.map .sh)))) g
  | _ => none
theorem RepSs.reverse {K : Fg} {W : Wd} {H : Hp} : ∀ {vs : List V} {xs : List SV}, RepSs K W H vs xs → RepSs K W H vs.reverse xs.reverse
  | _, _, .nil => .nil
  | _, _, .cons r t => by
    rw [List.reverse_cons, List.reverse_cons]
    exact t.reverse.append (.cons r .nil)
theorem ds_reverse (i : Nat) {y : Str} {p1 p2 p3 : Pos} (hN : X.N[i]? = some y := by rfl) (hv : Vis X.env.scope y := by first | exact Or.inl rfl | exact Or.inr (Or.inl rfl) | exact Or.inr (Or.inr rfl)) (hd : (y == ("__debug__" : Str)) = false := by decide)
    (hcd : (y == ("__classdict__" : Str)) = false := by decide) (hbase : attributeBase (.Name y p1) "reverse" X.env (eval (.Name y p1) X.env) = eval (.Name y p1) X.env := by rfl) (hline : (p2.endLine == p3.line) = true := by rfl)
    (hs2 : swapsWith (.Call (.Attribute (.Name y p1) "reverse" p2) [] [] p3) none pos.line X.env = pure false := by rfl) : DS X (.Expr (.Call (.Attribute (.Name y p1) "reverse" p2) [] [] p3) pos) (revD i) := by
  refine ⟨_, ps_expr (pe_bm0 PySem.F.plainAttrs_list PySem.F.slot_list_reverse PySem.F.type_list_reverse mt_reverse (pe_var hN hv hd hcd) hbase hline) hs2, fun B W O σ H ρ g r D e E q => ?_⟩
  unfold revD at e
  split at e
  · rename_i ds h1
    obtain ⟨xs, e1, e2⟩ := Option.map_eq_some_iff.mp e
    cases e2
    obtain ⟨a, vs, fq, eσ, hv', rs, k⟩ := own_upd D h1
    have e' := of_mapM_sh e1
    subst e'
    obtain ⟨k1, k2⟩ := k vs.reverse (xs.reverse.map .sh) ⟨[], Reps.ofS (Reps.toS rs).1.reverse, List.nodup_nil, fun b m => by simp at m⟩
    exact ⟨.ref a, eσ, .inl ⟨rfl, vs, .inl (.inl hv')⟩, a, vs, rfl, rfl, hv', q σ O _ k1 k2⟩
  · cases e
def clrD (i : Nat) : SF := fun ρ g => match ρ[i]? with
  | some (some (.own _)) => some (.nx (ρ.set i (some (.own []))) g)
  | _ => none
theorem ds_clear (i : Nat) {y : Str} {p1 p2 p3 : Pos} (hN : X.N[i]? = some y := by rfl) (hv : Vis X.env.scope y := by first | exact Or.inl rfl | exact Or.inr (Or.inl rfl) | exact Or.inr (Or.inr rfl)) (hd : (y == ("__debug__" : Str)) = false := by decide)
    (hcd : (y == ("__classdict__" : Str)) = false := by decide) (hbase : attributeBase (.Name y p1) "clear" X.env (eval (.Name y p1) X.env) = eval (.Name y p1) X.env := by rfl) (hline : (p2.endLine == p3.line) = true := by rfl)
    (hs2 : swapsWith (.Call (.Attribute (.Name y p1) "clear" p2) [] [] p3) none pos.line X.env = pure false := by rfl) : DS X (.Expr (.Call (.Attribute (.Name y p1) "clear" p2) [] [] p3) pos) (clrD i) := by
  refine ⟨_, ps_expr (pe_bm0 PySem.F.plainAttrs_list PySem.F.slot_list_clear PySem.F.type_list_clear mt_clear (pe_var hN hv hd hcd) hbase hline) hs2, fun B W O σ H ρ g r D e E q => ?_⟩
  unfold clrD at e
  split at e
  · rename_i ds h1
    cases e
    obtain ⟨a, vs, fq, eσ, hv', rs, k⟩ := own_upd D h1
    obtain ⟨k1, k2⟩ := k [] [] ⟨[], .nil, List.nodup_nil, fun b m => by simp at m⟩
    exact ⟨.ref a, eσ, .inl ⟨rfl, vs, .inl (.inl hv')⟩, a, vs, rfl, rfl, hv', q σ O _ k1 k2⟩
  · cases e
end
end DL

/-! DL10: repeated lists, joined ones, slices, sorted, extend. -/
namespace DL
open PySem PySem.Spec L2
section
variable {X : Cx} {e a b c : Expr} {es : List Expr} {f fa fb fc : EF} {h ha' : OF} {fs : AF} {pos p p2 : Pos} {x : Str}
theorem RepSs.flat {K : Fg} {W : Wd} {M : Hp} {vs : List V} {xs : List SV} (r : RepSs K W M vs xs) : ∀ n, RepSs K W M (List.replicate n vs).flatten (List.replicate n xs).flatten
  | 0 => .nil
  | n + 1 => by
    rw [List.replicate_succ, List.replicate_succ, List.flatten_cons, List.flatten_cons]
    exact r.append (r.flat n)
def hRep (xs : List SV) (k : Int) : Option (List SV) := if lenOk k.natAbs = true ∧ lenOk (xs.length * k.toNat) = true then some (List.replicate k.toNat xs).flatten else none
/-- [x] * n -/
def repF (h : OF) (f : EF) : OF := fun ρ g => (h ρ g).bind fun p => (f ρ p.2).bind fun q => match p.1.lst?, q.1 with
  | some xs, .int k => (hRep xs k).map fun ys => (.own (ys.map .sh), q.2)
  | _, _ => none
theorem do_rep (ha : DP X a h) (hb : DE X b fb) : DO X (.BinOp a .Mult b pos) (repF h fb) := by
  obtain ⟨t, pt, qt⟩ := ha
  obtain ⟨u, pu, qu⟩ := hb
  refine ⟨_, pe_op op_rep pt pu, fun B W O σ H ρ g s g' D e Q q => ?_⟩
  obtain ⟨⟨d, g1⟩, e1, e2⟩ := Option.bind_eq_some_iff.mp e
  obtain ⟨⟨n, g2⟩, e3, e4⟩ := Option.bind_eq_some_iff.mp e2
  refine qt B W O σ H ρ g d g1 D e1 _ fun v H1 fp x1 h1 r1 => ?_
  have D1 := D.step x1 h1
  refine qu B W O σ H1 ρ g1 n g2 D1 e3 _ fun w H2 x2 h2 r2 => ?_
  have r1' := r1.mono (D1.toDen0.keep x2) x2 fun a m => (r1.inO a m).1
  dsimp only at e4
  split at e4
  · rename_i xs k l1
    obtain ⟨ys, e5, e6⟩ := Option.map_eq_some_iff.mp e4
    cases e6
    cases r2
    obtain ⟨p, vs, rfl, hl, rs⟩ := r1'.list l1
    unfold hRep at e5
    split at e5
    · rename_i hk
      cases e5
      have k1 := lenOk_lt hk.1
      have k2 := lenOk_lt hk.2
      have z : sizeLine = 16777216 := by decide
      refine ⟨p, k, vs, rfl, rfl, hl, by omega, by omega, by rw [rs.length]; omega, fun p' hp => ?_⟩
      exact new_own D (x1.trans x2) h2 hp (rs.flat _) q
    · cases e5
  · cases e4
/-- a list plus a list -/
def hCatL (xs ys : List SV) : Option (List SV) := if lenOk (xs.length + ys.length) = true then some (xs ++ ys) else none
def catF (h k : OF) : OF := fun ρ g => (h ρ g).bind fun p => (k ρ p.2).bind fun q => match p.1.lst?, q.1.lst? with
  | some xs, some ys => (hCatL xs ys).map fun zs => (.own (zs.map .sh), q.2)
  | _, _ => none
theorem do_cat {k : OF} (ha : DP X a h) (hb : DP X b k) : DO X (.BinOp a .Add b pos) (catF h k) := by
  obtain ⟨t, pt, qt⟩ := ha
  obtain ⟨u, pu, qu⟩ := hb
  refine ⟨_, pe_op op_cat pt pu, fun B W O σ H ρ g s g' D e Q q => ?_⟩
  obtain ⟨⟨d, g1⟩, e1, e2⟩ := Option.bind_eq_some_iff.mp e
  obtain ⟨⟨n, g2⟩, e3, e4⟩ := Option.bind_eq_some_iff.mp e2
  refine qt B W O σ H ρ g d g1 D e1 _ fun v H1 fp x1 h1 r1 => ?_
  have D1 := D.step x1 h1
  refine qu B W O σ H1 ρ g1 n g2 D1 e3 _ fun w H2 fp2 x2 h2 r2 => ?_
  have r1' := r1.mono (D1.toDen0.keep x2) x2 fun a m => (r1.inO a m).1
  dsimp only at e4
  split at e4
  · rename_i xs ys l1 l2
    obtain ⟨zs, e5, e6⟩ := Option.map_eq_some_iff.mp e4
    cases e6
    obtain ⟨p, vs, rfl, hl, rs⟩ := r1'.list l1
    obtain ⟨p', vs', rfl, hl', rs'⟩ := r2.list l2
    unfold hCatL at e5
    split at e5
    · rename_i hk
      cases e5
      have k1 := lenOk_lt hk
      have z : sizeLine = 16777216 := by decide
      refine ⟨p, p', vs, vs', rfl, rfl, hl, hl', by rw [rs.length, rs'.length]; omega, fun q' hp => ?_⟩
      exact new_own D (x1.trans x2) h2 hp (rs.append rs') q
    · cases e5
  · cases e4
/-- a tuple plus a tuple -/
def hCatT : SV → SV → Option SV
  | .tup xs, .tup ys => if lenOk (xs.length + ys.length) = true then some (.tup (xs ++ ys)) else none
  | _, _ => none
theorem r2_catT {K : Fg} : R2S K (rCatA K) hCatT := by
  intro W O H x y a b s ra rb e hO Q q
  unfold hCatT at e
  split at e
  · rename_i xs ys
    split at e
    · rename_i hk
      cases e
      have k1 := lenOk_lt hk
      have z : sizeLine = 16777216 := by decide
      cases ra with
      | tup h1 r1 =>
        cases rb with
        | tup h2 r2 =>
          refine ⟨_, _, _, _, rfl, rfl, sqT_mono msk_sub h1, sqT_mono msk_sub h2, by rw [r1.length, r2.length]; omega, fun z1 => ?_, fun _ z2 => ?_, fun _ _ p hp => ?_⟩
          · subst z1; cases r1; exact q _ _ (fun _ _ h => h) (.tup h2 r2)
          · subst z2; cases r2; exact q _ _ (fun _ _ h => h) (by rw [List.append_nil]; exact .tup h1 r1)
          · exact q _ _ (keep_new hp) (rep_tup hO hp (r1.append r2))
    · cases e
  · cases e
theorem de_catT (ha : DE X a fa) (hb : DE X b fb) : DE X (.BinOp a .Add b pos) (b2 hCatT fa fb) := de_op op_catA r2_catT ha hb
/-! ### slices -/
abbrev PF := Env → GS → Option (Option Int × GS)
def DPtS (K : Fg) (t : TO) (f : PF) : Prop := ∀ B W O σ H ρ g s g', Den K B W O σ H ρ g → f ρ g = some (s, g') →
  ∀ Q : Option Int → Hp → Prop, (∀ H', Ext W H H' → GOk W B.1 H' g' → Q s H') → t σ H Q
def DPt (X : Cx) (e : Option Expr) (f : PF) : Prop := ∃ t, PO X e t ∧ DPtS X.K t f
def ptN : PF := fun _ g => some (none, g)
def ptS (f : EF) : PF := fun ρ g => (f ρ g).bind fun p => match p.1 with | .int i => some (some i, p.2) | _ => none
theorem dpt_none : DPt X none ptN := ⟨_, po_none, fun B W O σ H ρ g s g' D e Q q => by cases e; exact q H Ext.refl D.gen⟩
theorem dpt_some (ha : DE X a fa) : DPt X (some a) (ptS fa) := by
  obtain ⟨t, pt, qt⟩ := ha
  refine ⟨_, po_some pt, fun B W O σ H ρ g s g' D e Q q => ?_⟩
  obtain ⟨⟨d, g1⟩, e1, e2⟩ := Option.bind_eq_some_iff.mp e
  refine qt B W O σ H ρ g d g1 D e1 _ fun v H1 x1 h1 r1 => ?_
  dsimp only at e2
  split at e2
  · cases e2
    cases r1
    exact ⟨_, rfl, q H1 x1 h1⟩
  · cases e2
def cutS {α : Type} (xs : List α) (lo hi : Option Int) : List α := (xs.drop (HT.sIx xs.length 0 lo)).take (HT.sIx xs.length xs.length hi - HT.sIx xs.length 0 lo)
theorem RepSs.drop {K : Fg} {W : Wd} {M : Hp} : ∀ (n : Nat) {vs : List V} {xs : List SV}, RepSs K W M vs xs → RepSs K W M (vs.drop n) (xs.drop n)
  | 0, _, _, r => r
  | _ + 1, _, _, .nil => .nil
  | n + 1, _, _, .cons _ t => t.drop n
theorem RepSs.take {K : Fg} {W : Wd} {M : Hp} : ∀ (n : Nat) {vs : List V} {xs : List SV}, RepSs K W M vs xs → RepSs K W M (vs.take n) (xs.take n)
  | 0, _, _, _ => by rw [List.take_zero, List.take_zero]; exact .nil
  | _ + 1, _, _, .nil => .nil
  | n + 1, _, _, .cons h t => .cons h (t.take n)
theorem RepSs.cut {K : Fg} {W : Wd} {M : Hp} {vs : List V} {xs : List SV} (r : RepSs K W M vs xs) (lo hi : Option Int) : RepSs K W M (cutV vs lo hi) (cutS xs lo hi) := by
  unfold cutV cutS
  rw [r.length]
  exact (r.drop _).take _
/-- xs[lo:hi] -/
def slP (h : OF) (lo hi : PF) : OF := fun ρ g => (h ρ g).bind fun p => (lo ρ p.2).bind fun q => (hi ρ q.2).bind fun r => match p.1 with
  | .sh (.tup xs) => some (.sh (.tup (cutS xs q.1 r.1)), r.2)
  | d => d.lst?.map fun xs => (.own ((cutS xs q.1 r.1).map .sh), r.2)
theorem cutV_whole {vs : List V} {lo hi : Option Int} (h : HT.sIx vs.length 0 lo = 0 ∧ HT.sIx vs.length vs.length hi = vs.length) : cutV vs lo hi = vs := by
  unfold cutV
  rw [h.1, h.2]
  simp
theorem do_slice {lo hi : Option Expr} {fl fh : PF} (ha : DP X a h) (hl : DPt X lo fl) (hh : DPt X hi fh) : DO X (.Subscript a (.Slice lo hi none p2) pos) (slP h fl fh) := by
  obtain ⟨t, pt, qt⟩ := ha
  obtain ⟨u, pu, qu⟩ := hl
  obtain ⟨w, pw, qw⟩ := hh
  refine ⟨_, pe_slice (sl_list.or sl_tupA) pt pu pw, fun B W O σ H ρ g s g' D e Q q => ?_⟩
  obtain ⟨⟨d, g1⟩, e1, e2⟩ := Option.bind_eq_some_iff.mp e
  obtain ⟨⟨l, g2⟩, e3, e4⟩ := Option.bind_eq_some_iff.mp e2
  obtain ⟨⟨m, g3⟩, e5, e6⟩ := Option.bind_eq_some_iff.mp e4
  refine qt B W O σ H ρ g d g1 D e1 _ fun v H1 fp x1 h1 r1 => ?_
  have D1 := D.step x1 h1
  refine qu B W O σ H1 ρ g1 l g2 D1 e3 _ fun H2 x2 h2 => ?_
  have r2 := r1.mono (D1.toDen0.keep x2) x2 fun a m => (r1.inO a m).1
  have D2 := D1.step x2 h2
  refine qw B W O σ H2 ρ g2 m g3 D2 e5 _ fun H3 x3 h3 => ?_
  have r3 := r2.mono (D2.toDen0.keep x3) x3 fun a m => (r2.inO a m).1
  have D3 := D2.step x3 h3
  have x := x1.trans (x2.trans x3)
  dsimp only at e6
  split at e6
  · rename_i xs
    cases e6
    cases r3 with
    | sh r3 =>
      cases r3 with
      | tup hq rs =>
        refine .inr ⟨_, _, rfl, sqT_mono msk_sub hq, fun z => ?_, fun _ p hp => ?_⟩
        · refine q _ H3 [] x h3 List.nodup_nil (fun a m => by simp at m) (.sh ?_)
          have rc := rs.cut l m
          rw [cutV_whole z] at rc
          exact .tup hq rc
        · refine q _ _ [] (x.trans (Same.ext (keep_new hp))) (h3.same (keep_new hp)) List.nodup_nil (fun a m => by simp at m) (.sh ?_)
          exact rep_tup D3.dom hp (rs.cut l m)
  · rename_i hd
    obtain ⟨xs, e7, e8⟩ := Option.map_eq_some_iff.mp e6
    cases e8
    obtain ⟨p, vs, rfl, hl, rs⟩ := r3.list e7
    exact .inl ⟨p, vs, rfl, .inl (.inl hl), fun p' hp => new_own D x h3 hp (rs.cut l m) q⟩
/-! ### sorted -/
def SV.i? : SV → Option Int
  | .int i => some i
  | _ => none
theorem of_mapM_i : ∀ {xs : List SV} {ns : List Int}, xs.mapM SV.i? = some ns → xs = ns.map SV.int
  | [], _, h => by cases h; rfl
  | x :: xs, ns, h => by
    rw [List.mapM_cons] at h
    obtain ⟨i, e1, h⟩ := Option.bind_eq_some_iff.mp h
    obtain ⟨js, e2, h⟩ := Option.bind_eq_some_iff.mp h
    cases h
    rw [of_mapM_i e2, List.map_cons]
    cases x <;> cases e1
    rfl
theorem mapM_i : ∀ ns : List Int, (ns.map SV.int).mapM SV.i? = some ns
  | [] => rfl
  | n :: ns => by rw [List.map_cons, List.mapM_cons, mapM_i ns]; rfl
theorem RepSs.ints {K : Fg} {W : Wd} {M : Hp} : ∀ {vs : List V} {ns : List Int}, RepSs K W M vs (ns.map SV.int) → vs = ns.map V.int
  | _, [], h => by cases h; rfl
  | _, n :: ns, h => by
    cases h with
    | cons h t => cases h; rw [RepSs.ints t]; rfl
theorem RepSs.ofInts {K : Fg} {W : Wd} {M : Hp} : ∀ (ns : List Int), RepSs K W M (ns.map V.int) (ns.map SV.int)
  | [] => .nil
  | _ :: ns => .cons .int (RepSs.ofInts ns)
def sortI (ns : List Int) : List Int := ns.mergeSort (fun a b => decide (a ≤ b))
theorem sortI_perm (ns : List Int) : (sortI ns).Perm ns := List.mergeSort_perm ns _
theorem sortI_le (ns : List Int) : (sortI ns).Pairwise (· ≤ ·) := by
  have h := List.pairwise_mergeSort (le := fun a b : Int => decide (a ≤ b)) (fun a b c h1 h2 => by simp only [decide_eq_true_eq] at *; omega) (fun a b => by simp only [Bool.or_eq_true, decide_eq_true_eq]; omega) ns
  exact h.imp fun h => of_decide_eq_true h
def sortP (h : OF) : OF := fun ρ g => (h ρ g).bind fun p => (p.1.lst?.bind fun xs => xs.mapM SV.i?).map fun ns => (.own (((sortI ns).map SV.int).map .sh), p.2)
theorem do_sorted (hg : Gl X "sorted") (hm : X.mg "sorted" = none) (ha : DP X a h) (he : starEach [a] X.env = (false, eval a X.env) :: starEach [] X.env := by rfl) (hpl : (backTo pos (starEach [] X.env)).any (·.1) = false := by rfl) :
    DO X (.Call (.Name "sorted" p) [a] [] pos) (sortP h) := by
  obtain ⟨t, pt, qt⟩ := ha
  refine ⟨_, pe_callB cr_sortedI hg hm PyProof.Rows.boot_sorted (pa_cons pt pa_nil he) (by decide) (by decide) he hpl, fun B W O σ H ρ g s g' D e Q q => ?_⟩
  obtain ⟨⟨d, g1⟩, e1, e2⟩ := Option.bind_eq_some_iff.mp e
  obtain ⟨ns, e3, e4⟩ := Option.map_eq_some_iff.mp e2
  obtain ⟨xs, e5, e6⟩ := Option.bind_eq_some_iff.mp e3
  cases e4
  refine tCons1 (qt B W O σ H ρ g d g1 D e1 _ fun v H1 fp x1 h1 r1 => ?_)
  obtain ⟨pp, vs, rfl, hs, rs⟩ := r1.list e5
  rw [of_mapM_i e6] at rs
  have ev := rs.ints
  subst ev
  refine ⟨pp, ns, rfl, .inl (.inl hs), fun ns' l hp ho hl => ?_⟩
  have e7 := List.Perm.eq_of_pairwise (fun a b _ _ h1 h2 => Int.le_antisymm h1 h2) ho (sortI_le ns) (hp.trans (sortI_perm ns).symm)
  subst e7
  exact new_own D x1 h1 hl (RepSs.ofInts _) q
/-! ### extend -/
def extD (i : Nat) (f : EF) : SF := fun ρ g => match ρ[i]? with
  | some (some (.own ds)) => (f ρ g).bind fun p => match p.1 with
    | .lst xs => if lenOk (ds.length + xs.length) = true then some (.nx (ρ.set i (some (.own (ds ++ xs.map .sh)))) p.2) else none
    | _ => none
  | _ => none
theorem own_updN {K : Fg} {B : Bs} {W : Wd} {O : List Addr} {σ : St} {H : Hp} {ρ : Env} {g : GS} {i : Nat} {ds : List DV} (D : Den K B W O σ H ρ g) (h : ρ[i]? = some (some (.own ds))) :
    ∃ a vs fq, fq.Nodup ∧ σ[i]? = some (some (.ref a)) ∧ H a = some (.lst vs) ∧ Reps K W O H vs ds fq ∧ ∀ vs' ds', (∃ fq', Reps K W O H vs' ds' fq' ∧ fq'.Nodup ∧ ∀ b ∈ fq', b ∈ fq) → Keep O H O (upd H a (.lst vs')) ∧ Den K B W O σ (upd H a (.lst vs')) (ρ.set i (some (.own ds'))) g := by
  obtain ⟨a, vs, fq, fr, eσ, ha, hw, hv', rs, rt, n, hb⟩ := D.own h
  refine ⟨a, vs, fq, (List.nodup_cons.mp (List.nodup_append.mp n).1).2, eσ, hv', rs, fun vs' ds' ⟨fq', r', nd, hs⟩ => ⟨keep_upd ha, ?_⟩⟩
  have n1 := List.nodup_append.mp n
  have n2 := List.nodup_cons.mp n1.1
  refine Den.own_put D.toDen0 (lt_of_slot h) eσ ha hw rt r' ?_ fun b m => ?_
  · rw [List.nodup_append]
    refine ⟨List.nodup_cons.mpr ⟨fun z => n2.1 (hs _ z), nd⟩, n1.2.1, fun x hx y hy z => ?_⟩
    rcases List.mem_cons.mp hx with m | m
    · exact n1.2.2 x (by rw [m]; exact List.mem_cons_self) y hy z
    · exact n1.2.2 x (List.mem_cons_of_mem _ (hs _ m)) y hy z
  · rcases List.mem_append.mp m with m | m
    · rcases List.mem_cons.mp m with m | m
      · rw [m]; exact hb _ (List.mem_append_left _ List.mem_cons_self)
      · exact hb _ (List.mem_append_left _ (List.mem_cons_of_mem _ (hs _ m)))
    · exact hb _ (List.mem_append_right _ m)
theorem Reps.snocS {K : Fg} {W : Wd} {O : List Addr} {H : Hp} {ws : List V} {xs : List SV} (r : RepSs K W (msk O H) ws xs) : ∀ {vs : List V} {ds : List DV} {fp : List Addr}, Reps K W O H vs ds fp → Reps K W O H (vs ++ ws) (ds ++ xs.map .sh) fp
  | _, _, _, .nil => Reps.ofS r
  | _, _, _, .cons h t => .cons h (Reps.snocS r t)
theorem ds_extend (i : Nat) {x : Str} {p1 p2 p3 : Pos} (he : DE X e f) (hN : X.N[i]? = some x := by rfl) (hv : Vis X.env.scope x := by first | exact Or.inl rfl | exact Or.inr (Or.inl rfl) | exact Or.inr (Or.inr rfl)) (hd : (x == ("__debug__" : Str)) = false := by decide)
    (hcd : (x == ("__classdict__" : Str)) = false := by decide)
    (hbase : attributeBase (.Name x p1) "extend" X.env (eval (.Name x p1) X.env) = eval (.Name x p1) X.env := by rfl)
    (hfew : ((backTo p3 (starEach [e] X.env)).all (fun x => !x.1) && (backToKw p3 (keywordEach [] X.env)).all (fun x => x.1.isSome)
      && decide ([e].length + ([] : List Keyword).length + (if ([] : List Keyword).isEmpty then 0 else 1) < 30)) = true := by rfl)
    (hline : (p2.endLine == p3.line) = true := by rfl) (hs : starEach [e] X.env = (false, eval e X.env) :: starEach [] X.env := by rfl) (hplain : (backTo p3 (starEach [] X.env)).any (·.1) = false := by rfl)
    (hs2 : swapsWith (.Call (.Attribute (.Name x p1) "extend" p2) [e] [] p3) none pos.line X.env = pure false := by rfl) :
    DS X (.Expr (.Call (.Attribute (.Name x p1) "extend" p2) [e] [] p3) pos) (extD i f) := by
  obtain ⟨t, pt, qt⟩ := he
  refine ⟨_, ps_expr (pe_bm PySem.F.plainAttrs_list PySem.F.slot_list_extend PySem.F.type_list_extend mt_extend (pe_var hN hv hd hcd) (pa_cons pt pa_nil hs) hbase hfew hline hs hplain) hs2, fun B W O σ H ρ g r D e E q => ?_⟩
  unfold extD at e
  split at e
  · rename_i ds h1
    obtain ⟨⟨d, g1⟩, e1, e⟩ := Option.bind_eq_some_iff.mp e
    dsimp only at e
    split at e
    · rename_i xs
      split at e
      · rename_i hl
        cases e
        obtain ⟨a, vs, fq, fr, eσ, ha, hw, hv', rs, rt, n, hb⟩ := D.own h1
        refine ⟨.ref a, eσ, .inl ⟨rfl, vs, .inl (.inl hv')⟩, ?_⟩
        refine qt B W O σ H ρ g _ g1 D e1 _ fun v H1 x1 hg1 r1 => ?_
        have D1 := D.step x1 hg1
        obtain ⟨a', vs', fq', nd, eσ', hv'', rs', k⟩ := own_updN D1 h1
        rw [eσ] at eσ'
        cases eσ'
        have hv1 : H1 a = some (.lst vs) := x1 a _ hw hv'
        rw [hv1] at hv''
        cases hv''
        have k1 := lenOk_lt hl
        have z : sizeLine = 16777216 := by decide
        cases r1 with
        | lst hq rr =>
          rename_i b ws
          refine ⟨a, b, vs, ws, rfl, rfl, hv1, (of_msk hq).1, by rw [rs.length, rr.length]; omega, ?_⟩
          obtain ⟨k2, k3⟩ := k (vs ++ ws) (ds ++ xs.map .sh) ⟨fq', Reps.snocS rr rs', nd, fun b m => m⟩
          exact q σ O _ ((D.toDen0.keep x1).trans k2) k3
      · cases e
    · cases e
  · cases e
end
end DL

/-! DL11: calls that only look and answer something without old lists in it; sorted downwards; a range downwards. -/
namespace DL
open PySem PySem.Spec L2
mutual
def SV.noL : SV → Bool
  | .lst _ => false
  | .tup xs => SV.noLs xs
  | _ => true
def SV.noLs : List SV → Bool
  | [] => true
  | x :: xs => SV.noL x && SV.noLs xs
end
mutual
def DV.noL : DV → Bool
  | .sh s => s.noL
  | .own ds => DV.noLs ds
def DV.noLs : List DV → Bool
  | [] => true
  | x :: xs => DV.noL x && DV.noLs xs
end
section
variable {K : Fg} {W : Wd} {H : Hp} {O O' fp : List Addr}
mutual
theorem Rep.isL : ∀ {v : V} {d : DV} {fp : List Addr}, Rep K W O H v d fp → ∀ a ∈ fp, ∃ vs, H a = some (.lst vs)
  | _, _, _, .sh _, a, h => by simp at h
  | _, _, _, .own ha hw h r, a, m => by
    rcases List.mem_cons.mp m with m | m
    · rw [m]; exact ⟨_, h⟩
    · exact Reps.isL r a m
theorem Reps.isL : ∀ {vs : List V} {ds : List DV} {fp : List Addr}, Reps K W O H vs ds fp → ∀ a ∈ fp, ∃ vs, H a = some (.lst vs)
  | _, _, _, .nil, a, h => by simp at h
  | _, _, _, .cons h t, a, m => by
    rcases List.mem_append.mp m with m | m
    · exact Rep.isL h a m
    · exact Reps.isL t a m
end
theorem PReps.isL : ∀ {vs : List V} {ds : List DV} {fp : List Addr}, PReps K W O H vs ds fp → ∀ a ∈ fp, ∃ vs, H a = some (.lst vs)
  | _, _, _, .nil, a, h => by simp at h
  | _, _, _, .cons h t, a, m => by
    rcases List.mem_append.mp m with m | m
    · exact h.isL a m
    · exact PReps.isL t a m
mutual
theorem RepS.thaw (hO : ∀ b, b ∈ O → b ∈ O' ∨ b ∈ fp) (hl : ∀ a ∈ fp, ∃ vs, H a = some (.lst vs)) : ∀ {v : V} {s : SV}, RepS K W (msk O' H) v s → s.noL = true → RepS K W (msk O H) v s
  | _, _, .non, _ => .non
  | _, _, .bl, _ => .bl
  | _, _, .int, _ => .int
  | _, _, .str, _ => .str
  | _, _, .raw, _ => .raw
  | _, _, .gen h, _ => .gen h
  | _, _, .lst h r, e => by unfold SV.noL at e; cases e
  | _, _, .tup (a := a) h r, e => by
    unfold SV.noL at e
    refine .tup ?_ (RepSs.thaw hO hl r e)
    have ok : ∀ o, msk O' H a = some o → (∀ vs, o ≠ .lst vs) → msk O H a = some o := fun o q n => by
      obtain ⟨q1, q2⟩ := of_msk q
      refine msk_get (fun z => ?_) q1
      rcases hO a z with z | z
      · exact q2 z
      · obtain ⟨vs, q3⟩ := hl a z
        rw [q1] at q3
        exact n vs (Option.some.inj q3)
    rcases h with (h | ⟨o, h⟩) | h
    · exact .inl (.inl (ok _ h fun vs z => by cases z))
    · exact .inl (.inr ⟨o, ok _ h fun vs z => by cases z⟩)
    · exact .inr h
theorem RepSs.thaw (hO : ∀ b, b ∈ O → b ∈ O' ∨ b ∈ fp) (hl : ∀ a ∈ fp, ∃ vs, H a = some (.lst vs)) : ∀ {vs : List V} {xs : List SV}, RepSs K W (msk O' H) vs xs → SV.noLs xs = true → RepSs K W (msk O H) vs xs
  | _, _, .nil, _ => .nil
  | _, _, .cons h t, e => by
    unfold SV.noLs at e
    obtain ⟨e1, e2⟩ := Bool.and_eq_true_iff.mp e
    exact .cons (RepS.thaw hO hl h e1) (RepSs.thaw hO hl t e2)
end
mutual
theorem Rep.thaw (hO : ∀ b, b ∈ O → b ∈ O' ∨ b ∈ fp) (hO2 : ∀ b, b ∈ O' → b ∈ O) (hl : ∀ a ∈ fp, ∃ vs, H a = some (.lst vs)) : ∀ {v : V} {d : DV} {fq : List Addr}, Rep K W O' H v d fq → d.noL = true → Rep K W O H v d fq
  | _, _, _, .sh r, e => by unfold DV.noL at e; exact .sh (r.thaw hO hl e)
  | _, _, _, .own ha hw h r, e => by unfold DV.noL at e; exact .own (hO2 _ ha) hw h (Reps.thaw hO hO2 hl r e)
theorem Reps.thaw (hO : ∀ b, b ∈ O → b ∈ O' ∨ b ∈ fp) (hO2 : ∀ b, b ∈ O' → b ∈ O) (hl : ∀ a ∈ fp, ∃ vs, H a = some (.lst vs)) : ∀ {vs : List V} {ds : List DV} {fq : List Addr}, Reps K W O' H vs ds fq → DV.noLs ds = true → Reps K W O H vs ds fq
  | _, _, _, .nil, _ => .nil
  | _, _, _, .cons h t, e => by
    unfold DV.noLs at e
    obtain ⟨e1, e2⟩ := Bool.and_eq_true_iff.mp e
    exact .cons (Rep.thaw hO hO2 hl h e1) (Reps.thaw hO hO2 hl t e2)
end
end
section
variable {X : Cx} {e a b c : Expr} {es : List Expr} {f fa fb fc : EF} {h ha' : OF} {fs : AF} {pos p p2 : Pos} {x : Str}
/-- a call that only looks at own lists, and answers something without old lists in it -/
def callBO (F : FF) (os : AOF) : OF := fun ρ g => (os ρ g).bind fun p => (F (p.1.map DV.frz) p.2).bind fun r => if r.1.noL = true then some r else none
theorem do_callB1 {F : FF} {n k : Nat} {fd : FuncData} {fa : Addr} {ps : List Str} {os : AOF} (G : FnOk X.prog X.w X.K X.mg X.base CX0 k fa fd ps (spD X.K n F)) (ar : FF.ar n F) (hr : Room k X.A) (hg : Gl X x) (hm : X.mg x = some (.ref fa)) (hk : PySem.W.keepIn X.K (.ref fa) = true) (hb : Binds X.K fd ps [])
    (ha : DAP X (e :: es) os) (hdb : (x == ("__debug__" : Str)) = false := by decide) (he : starEach (e :: es) X.env = (false, eval e X.env) :: starEach es X.env := by rfl) (hpl : (backTo pos (starEach es X.env)).any (·.1) = false := by rfl) :
    DO X (.Call (.Name x p) (e :: es) [] pos) (callBO F os) := by
  obtain ⟨t, pt, qt⟩ := ha
  refine ⟨_, pe_call G hr hg hm hk hb .nil pass0 pt hdb he hpl, fun B W O σ H ρ g d g' D e Q q => ?_⟩
  obtain ⟨⟨ds, g1⟩, e1, e2⟩ := Option.bind_eq_some_iff.mp e
  obtain ⟨⟨d1, g2⟩, e3, e4⟩ := Option.bind_eq_some_iff.mp e2
  split at e4
  · rename_i hn
    cases e4
    refine qt B W O σ H ρ g ds g1 D e1 _ fun vs H1 fp x1 h1 r => ?_
    rw [List.append_nil]
    have hl := ar _ _ _ e3
    rw [List.length_map] at hl
    have D1 := D.step x1 h1
    have sub : ∀ b, b ∈ O.filter (fun x => decide (x ∉ fp)) → b ∈ O := fun b m => (List.mem_filter.mp m).1
    have nq : ∀ b, b ∈ fp → b ∉ O.filter (fun x => decide (x ∉ fp)) := fun b m z => of_decide_eq_true (List.mem_filter.mp z).2 m
    refine ⟨W, O.filter (fun x => decide (x ∉ fp)), _, g1, d, g', by rw [r.length]; exact hl, r.freeze sub nq, fun a m => D1.dom a (sub a m), h1.re (fun a ha => List.mem_filter.mpr ⟨D1.toDen0.was a ha, decide_eq_true fun z => (r.inO a z).2.1 ha⟩), e3, fun v H' fq x2 h2 n2 f2 r2 => ?_⟩
    have isL : ∀ a ∈ fp, ∃ vs, H' a = some (.lst vs) := fun a m => by
      obtain ⟨vs, z⟩ := r.isL a m
      exact ⟨vs, x2 a _ (r.inO a m).2.1 z⟩
    refine q v H' fq (x1.trans x2) (h2.re fun a ha => (D.gen.mem a ha).1) n2 (fun a m => ?_) (r2.thaw (O := fq ++ O) (fp := fp) (fun b m => ?_) (fun b m => ?_) isL hn)
    · obtain ⟨z1, z2⟩ := f2 a m
      refine ⟨?_, z2⟩
      cases q : H a with
      | none => rfl
      | some o =>
        by_cases hw : a ∈ W.as
        · exact absurd z1 (D1.dom a (D1.toDen0.was a hw))
        · rw [x1 a o hw q] at z1; cases z1
    · rcases List.mem_append.mp m with m | m
      · exact .inl (List.mem_append_left _ m)
      · by_cases hb : b ∈ fp
        · exact .inr hb
        · exact .inl (List.mem_append_right _ (List.mem_filter.mpr ⟨m, decide_eq_true hb⟩))
    · rcases List.mem_append.mp m with m | m
      · exact List.mem_append_left _ m
      · exact List.mem_append_right _ (sub b m)
  · cases e4
/-! ### range(a, b, -1) -/
def dwnL (lo : Int) (n : Nat) : List SV := (List.range n).map fun (i : Nat) => .int (lo - (i : Int))
def iR3 (fa fb : EF) : IF := fun ρ g => (fa ρ g).bind fun p => (fb ρ p.2).bind fun q => match p.1, q.1 with
  | .int a, .int b => if rngOk a = true ∧ rngOk b = true then some (dwnL a (a - b).toNat, q.2) else none
  | _, _ => none
theorem itc_ok {K : Fg} {W : Wd} {O : List Addr} {H : Hp} {lo : Int} {n : Nat} : ItOk K W O H (Itc lo (-1) n) (dwnL lo n) := by
  intro O' H' k hd
  refine ⟨fun i x hx => ?_, fun i hi => ?_⟩
  · unfold dwnL at hx
    rw [List.getElem?_map] at hx
    obtain ⟨j, e1, e2⟩ := Option.map_eq_some_iff.mp hx
    obtain ⟨h1, h2⟩ := List.getElem?_eq_some_iff.mp e1
    rw [List.length_range] at h1
    rw [List.getElem_range] at h2
    subst h2
    subst e2
    refine ⟨h1, fun v H2 hv => ?_⟩
    obtain ⟨rfl, rfl⟩ := hv
    have e : lo + ((i : Nat) : Int) * -1 = lo - (i : Int) := by omega
    exact ⟨fun b o h => h, by rw [e]; exact .int⟩
  · unfold dwnL at hi
    rw [List.length_map, List.length_range] at hi
    exact hi
theorem di_range3 {tg : Expr} {p p1 p2 : Pos} (hg : Gl X "range") (hm : X.mg "range" = none) (ha : DE X a fa) (hb : DE X b fb) (hc : DE X c (u1 hNeg (kS (.int 1)))) (hs : starEach [a, b, c] X.env = (false, eval a X.env) :: starEach [b, c] X.env := by rfl) (hs1 : starEach [b, c] X.env = (false, eval b X.env) :: starEach [c] X.env := by rfl) (hs2 : starEach [c] X.env = (false, eval c X.env) :: starEach [] X.env := by rfl)
    (hpl : (backTo pos (starEach [b, c] X.env)).any (·.1) = false := by rfl) :
    DI X tg (.Call (.Name "range" p) [a, b, c] [] pos) (iR3 fa fb) := by
  obtain ⟨t, pt, qt⟩ := ha
  obtain ⟨u, pu, qu⟩ := hb
  obtain ⟨w, pw, qw⟩ := hc
  refine ⟨_, pi_range3 hg hm (pa_cons pt (pa_cons pu (pa_cons pw pa_nil hs2) hs1) hs) hs hpl, fun B W O σ H ρ g xs g' D e R q => ?_⟩
  obtain ⟨⟨s, g1⟩, e1, e2⟩ := Option.bind_eq_some_iff.mp e
  obtain ⟨⟨s2, g2⟩, e3, e4⟩ := Option.bind_eq_some_iff.mp e2
  refine qt B W O σ H ρ g s g1 D e1 _ fun v H1 x1 h1 r1 => ?_
  have D1 := D.step x1 h1
  refine qu B W O σ H1 ρ g1 s2 g2 D1 e3 _ fun w H2 x2 h2 r2 => ?_
  have D2 := D1.step x2 h2
  refine qw B W O σ H2 ρ g2 (.int (-1)) g2 D2 rfl _ fun w3 H3 x3 h3 r3 => ?_
  cases s with
  | int n =>
    cases s2 with
    | int n2 =>
      cases r1; cases r2; cases r3
      dsimp only at e4
      split at e4
      · rename_i hh
        cases e4
        have hz1 := rngOk_lt hh.1
        have hz2 := rngOk_lt hh.2
        exact ⟨n, n2, -1, _, rfl, RgC.neg (by omega) (by omega) (by omega) (by omega), q _ H3 (x1.trans (x2.trans x3)) h3 itc_ok⟩
      · cases e4
    | _ => cases e4
  | _ => cases e4
end
end DL

namespace DL
open L2
def B_law_chord : SF := seqD (setD 3 (oS (tupF (aC (b2 hIx (vS 1) (vS 2)) (aC (kS (.int 1)) (aN))))))
  (seqD (forD (iR1 (vS 2)) (gN 4)
  (forD (iR2 (b2 hAdd (vS 2) (kS (.int 1))) (lenP (vP 0))) (gN 5)
  (seqD (setD 6 (oS (b2 hSub (b2 hIx (vS 0) (vS 5)) (b2 hIx (vS 0) (vS 4)))))
  (seqD (setD 7 (oS (b2 hAdd (b2 hMul (b2 hIx (vS 1) (vS 4)) (b2 hSub (b2 hIx (vS 0) (vS 5)) (b2 hIx (vS 0) (vS 2)))) (b2 hMul (b2 hIx (vS 1) (vS 5)) (b2 hSub (b2 hIx (vS 0) (vS 2)) (b2 hIx (vS 0) (vS 4)))))))
  (ifD (tB1 (b2 hGt (b2 hMul (vS 7) (b2 hIx (vS 3) (kS (.int 1)))) (b2 hMul (b2 hIx (vS 3) (kS (.int 0))) (vS 6)))) (setD 3 (oS (tupF (aC (vS 7) (aC (vS 6) (aN)))))) (skipD))))))
  (retD (oS (vS 3))))
def F_law_chord : FF := fnF 3 8 B_law_chord
def B_law_gcd : SF := seqD (setD 0 (oS (c1 hAbs (aC (vS 0) (aN)))))
  (seqD (setD 1 (oS (c1 hAbs (aC (vS 1) (aN)))))
  (seqD (forD (iR1 (kS (.int 4000))) (gN 2)
  (seqD (ifD (tB1 (b2 hEq (vS 1) (kS (.int 0)))) (brkD) (skipD))
  (seqD (setD 3 (oS (b2 hMod (c1 hInt (aC (vS 0) (aN))) (vS 1))))
  (seqD (setD 0 (oS (vS 1)))
  (setD 1 (oS (vS 3)))))))
  (retD (oS (vS 0)))))
def F_law_gcd : FF := fnF 2 4 B_law_gcd
def B_law_is_integer : SF := retD (oS (vAnd (isiP "int" (vP 0)) (u1 hNot (isiP "bool" (vP 0)))))
def F_law_is_integer : FF := fnF 1 1 B_law_is_integer
def B_law_same : SF := seqD (ifD (tOr1 (tNot1 (tB1 (isiP "tuple" (vP 0)))) (tB1 (b2 hNe (lenP (vP 0)) (kS (.int 2))))) (retD (oS (kS (.bl false)))) (skipD))
  (seqD (ifD (tOr1 (tNot1 (tB1 (fz (callF F_law_is_integer (aC (b2 hIx (vS 0) (kS (.int 0))) (aN)))))) (tNot1 (tB1 (fz (callF F_law_is_integer (aC (b2 hIx (vS 0) (kS (.int 1))) (aN))))))) (retD (oS (kS (.bl false)))) (skipD))
  (seqD (ifD (tOr1 (tB1 (b2 hLt (b2 hIx (vS 0) (kS (.int 1))) (kS (.int 1)))) (tB1 (b2 hNe (fz (callF F_law_gcd (aC (b2 hIx (vS 0) (kS (.int 0))) (aC (b2 hIx (vS 0) (kS (.int 1))) (aN))))) (kS (.int 1))))) (retD (oS (kS (.bl false)))) (skipD))
  (retD (oS (b2 hEq (b2 hMul (b2 hIx (vS 0) (kS (.int 0))) (vS 2)) (b2 hMul (vS 1) (b2 hIx (vS 0) (kS (.int 1)))))))))
def F_law_same : FF := fnF 3 3 B_law_same
def B_law_chords : SF := seqD (forD (iR1 (lenP (vP 1))) (gN 4)
  (seqD (setD 5 (oS (fz (callF F_law_chord (aC (vS 1) (aC (vS 2) (aC (vS 4) (aN))))))))
  (ifD (tNot1 (tB1 (fz (callF F_law_same (aC (b2 hIx (vS 0) (vS 4)) (aC (b2 hIx (vS 5) (kS (.int 0))) (aC (b2 hMul (b2 hIx (vS 5) (kS (.int 1))) (vS 3)) (aN)))))))) (retD (oS (kS (.bl false)))) (skipD))))
  (retD (oS (kS (.bl true))))
def F_law_chords : FF := fnF 4 6 B_law_chords
def B_law_form : SF := seqD (setD 2 (oS (fz (callF F_law_gcd (aC (vS 0) (aC (vS 1) (aN)))))))
  (retD (oS (tupF (aC (b2 hDiv (vS 0) (vS 2)) (aC (b2 hDiv (vS 1) (vS 2)) (aN))))))
def F_law_form : FF := fnF 2 3 B_law_form
def B_law_handed : SF := retD (compD (iR1 (lenP (vP 0))) (wN 4) (yesT) (oS (tupF (aC (fz (callF F_law_form (aC (b2 hIx (vS 0) (vS 4)) (aC (vS 2) (aN))))) (aC (fz (callF F_law_form (aC (b2 hIx (vS 1) (vS 4)) (aC (vS 3) (aN))))) (aN))))) [4])
def F_law_handed : FF := fnF 4 5 B_law_handed
def B_law_lowered : SF := seqD (frzD 4 (setD 4 (compD (iR1 (lenP (vP 2))) (wN 7) (tB1 (b2 hGt (b2 hMul (b2 hIx (b2 hIx (vS 1) (vS 7)) (kS (.int 0))) (vS 3)) (b2 hMul (b2 hIx (vS 2) (vS 7)) (b2 hIx (b2 hIx (vS 1) (vS 7)) (kS (.int 1)))))) (oS (vS 7)) [7])))
  (seqD (ifD (tB1 (b2 hEq (vS 4) (fz (lstF (oN))))) (retD (oS (kS .non))) (skipD))
  (seqD (setD 5 (listP (vP 2)))
  (seqD (setD 6 (oS (b2 hIx (vS 4) (fz (callF drawF (aC (vS 0) (aC (lenP (vP 4)) (aN))))))))
  (seqD (asgD (oS (b2 hSub (b2 hSub (un (ixP (vP 5) (vS 6))) (kS (.int 1))) (fz (callF drawF (aC (vS 0) (aC (kS (.int 100)) (aN))))))) (gIx 5 (vS 6)))
  (retV 5)))))
def F_law_lowered : FF := fnF 4 8 B_law_lowered
def B_law_points : SF := seqD (setD 1 (oS (b2 hAdd (kS (.int 1)) (fz (callF drawF (aC (vS 0) (aC (kS (.int 7)) (aN))))))))
  (seqD (ifD (tB1 (b2 hEq (fz (callF drawF (aC (vS 0) (aC (kS (.int 4)) (aN))))) (kS (.int 0)))) (setD 1 (oS (b2 hAdd (kS (.int 1)) (fz (callF drawF (aC (vS 0) (aC (kS (.int 60)) (aN)))))))) (skipD))
  (seqD (setD 2 (oS (b2 hEq (fz (callF drawF (aC (vS 0) (aC (kS (.int 6)) (aN))))) (kS (.int 0)))))
  (seqD (setD 3 (oS (fz (callF drawF (aC (vS 0) (aC (kS (.int 6)) (aN)))))))
  (seqD (setD 4 (oS (b2 hSub (fz (callF drawF (aC (vS 0) (aC (kS (.int 21)) (aN))))) (kS (.int 10)))))
  (seqD (setD 5 (oS (b2 hSub (fz (callF drawF (aC (vS 0) (aC (kS (.int 21)) (aN))))) (kS (.int 10)))))
  (seqD (ifD (tB1 (vS 2)) (setD 4 (oS (b2 hMul (vS 4) (b2 hPow (kS (.int 10)) (kS (.int 38)))))) (skipD))
  (seqD (setD 6 (oS (b2 hSub (fz (callF drawF (aC (vS 0) (aC (kS (.int 13)) (aN))))) (kS (.int 6)))))
  (seqD (setD 7 (lstF (oN)))
  (seqD (setD 8 (lstF (oN)))
  (seqD (frzD 8 (frzD 7 (forD (iR1 (vS 1)) (gN 9)
  (seqD (appD 7 (oS (vS 4)))
  (seqD (appD 8 (oS (b2 hSub (vS 5) (b2 hMul (b2 hMul (c1 hInt (aC (b2 hEq (vS 3) (kS (.int 3))) (aN))) (fz (callF drawF (aC (vS 0) (aC (kS (.int 2)) (aN)))))) (fz (callF drawF (aC (vS 0) (aC (kS (.int 9)) (aN)))))))))
  (seqD (setD 10 (oS (b2 hAdd (kS (.int 1)) (fz (callF drawF (aC (vS 0) (aC (kS (.int 6)) (aN))))))))
  (seqD (ifD (tB1 (vS 2)) (setD 10 (oS (b2 hAdd (b2 hMul (vS 10) (b2 hPow (kS (.int 10)) (kS (.int 38)))) (fz (callF drawF (aC (vS 0) (aC (b2 hPow (kS (.int 10)) (kS (.int 8))) (aN)))))))) (skipD))
  (seqD (ifD (tB1 (b2 hEq (vS 3) (kS (.int 1)))) (setD 6 (oS (b2 hSub (vS 6) (fz (callF drawF (aC (vS 0) (aC (kS (.int 2)) (aN)))))))) (skipD))
  (seqD (ifD (tB1 (b2 hEq (vS 3) (kS (.int 2)))) (setD 6 (oS (b2 hAdd (vS 6) (fz (callF drawF (aC (vS 0) (aC (kS (.int 2)) (aN)))))))) (skipD))
  (seqD (ifD (tB1 (b2 hGt (vS 3) (kS (.int 3)))) (setD 6 (oS (b2 hSub (fz (callF drawF (aC (vS 0) (aC (kS (.int 13)) (aN))))) (kS (.int 6))))) (skipD))
  (seqD (setD 4 (oS (b2 hAdd (vS 4) (vS 10))))
  (setD 5 (oS (b2 hAdd (vS 5) (b2 hMul (vS 6) (vS 10))))))))))))))))
  (retD (oS (tupF (aC (vS 7) (aC (vS 8) (aC (b2 hAdd (kS (.int 1)) (fz (callF drawF (aC (vS 0) (aC (kS (.int 9)) (aN)))))) (aC (b2 hAdd (kS (.int 1)) (fz (callF drawF (aC (vS 0) (aC (kS (.int 9)) (aN)))))) (aN))))))))))))))))))
def F_law_points : FF := fnF 1 11 B_law_points
def B_law_right : SF := seqD (setD 4 (oS (lenP (vP 1))))
  (seqD (ifD (tOr1 (tNot1 (tB1 (isiP "list" (vP 0)))) (tB1 (b2 hNe (lenP (vP 0)) (vS 4)))) (retD (oS (kS (.bl false)))) (skipD))
  (seqD (forD (iSeq (vS 0)) (gN 5)
  (ifD (tOr1 (tNot1 (tB1 (isiP "tuple" (vP 5)))) (tOr1 (tB1 (b2 hNe (lenP (vP 5)) (kS (.int 2)))) (tNot1 (tB1 (fz (callF F_law_same (aC (vS 5) (aC (b2 hIx (vS 5) (kS (.int 0))) (aC (b2 hIx (vS 5) (kS (.int 1))) (aN)))))))))) (retD (oS (kS (.bl false)))) (skipD)))
  (seqD (forD (iR1 (vS 4)) (gN 6)
  (seqD (setD 7 (oS (b2 hIx (vS 0) (vS 6))))
  (seqD (ifD (tB1 (b2 hLt (b2 hMul (b2 hIx (vS 7) (kS (.int 0))) (vS 3)) (b2 hMul (b2 hIx (vS 2) (vS 6)) (b2 hIx (vS 7) (kS (.int 1)))))) (retD (oS (kS (.bl false)))) (skipD))
  (seqD (setD 8 (oS (kS (.bl true))))
  (seqD (ifD (tAnd1 (tB1 (b2 hLt (kS (.int 0)) (vS 6))) (tB1 (b2 hLt (b2 hAdd (vS 6) (kS (.int 1))) (vS 4)))) (seqD (setD 9 (oS (b2 hIx (vS 0) (b2 hSub (vS 6) (kS (.int 1))))))
  (seqD (setD 10 (oS (b2 hIx (vS 0) (b2 hAdd (vS 6) (kS (.int 1))))))
  (seqD (setD 11 (oS (b2 hMul (b2 hMul (b2 hSub (b2 hMul (b2 hIx (vS 7) (kS (.int 0))) (b2 hIx (vS 9) (kS (.int 1)))) (b2 hMul (b2 hIx (vS 9) (kS (.int 0))) (b2 hIx (vS 7) (kS (.int 1))))) (b2 hIx (vS 10) (kS (.int 1)))) (b2 hSub (b2 hIx (vS 1) (b2 hAdd (vS 6) (kS (.int 1)))) (b2 hIx (vS 1) (vS 6))))))
  (seqD (setD 12 (oS (b2 hMul (b2 hMul (b2 hSub (b2 hMul (b2 hIx (vS 10) (kS (.int 0))) (b2 hIx (vS 7) (kS (.int 1)))) (b2 hMul (b2 hIx (vS 7) (kS (.int 0))) (b2 hIx (vS 10) (kS (.int 1))))) (b2 hIx (vS 9) (kS (.int 1)))) (b2 hSub (b2 hIx (vS 1) (vS 6)) (b2 hIx (vS 1) (b2 hSub (vS 6) (kS (.int 1))))))))
  (seqD (ifD (tB1 (b2 hLt (vS 11) (vS 12))) (retD (oS (kS (.bl false)))) (skipD))
  (setD 8 (oS (b2 hGt (vS 11) (vS 12))))))))) (skipD))
  (ifD (tAnd1 (tB1 (vS 8)) (tB1 (b2 hNe (b2 hMul (b2 hIx (vS 7) (kS (.int 0))) (vS 3)) (b2 hMul (b2 hIx (vS 2) (vS 6)) (b2 hIx (vS 7) (kS (.int 1))))))) (retD (oS (kS (.bl false)))) (skipD)))))))
  (retD (oS (kS (.bl true)))))))
def F_law_right : FF := fnF 4 13 B_law_right
def B_is_above : SF := seqD (setD 5 (oS (b2 hMul (b2 hSub (b2 hIx (vS 1) (vS 3)) (b2 hIx (vS 1) (vS 2))) (b2 hSub (b2 hIx (vS 0) (vS 4)) (b2 hIx (vS 0) (vS 2))))))
  (retD (oS (b2 hGt (vS 5) (b2 hMul (b2 hSub (b2 hIx (vS 1) (vS 4)) (b2 hIx (vS 1) (vS 2))) (b2 hSub (b2 hIx (vS 0) (vS 3)) (b2 hIx (vS 0) (vS 2)))))))
def F_is_above : FF := fnF 5 6 B_is_above
def B_hull_places : SF := seqD (setD 2 (lstF (oN)))
  (seqD (forD (iR1 (lenP (vP 0))) (gN 3)
  (seqD (whileD (tAnd1 (tB1 (b2 hGt (lenP (vP 2)) (kS (.int 1)))) (tNot1 (tB1 (fz (callF F_is_above (aC (vS 0) (aC (vS 1) (aC (un (ixP (vP 2) (u1 hNeg (kS (.int 2))))) (aC (un (ixP (vP 2) (u1 hNeg (kS (.int 1))))) (aC (vS 3) (aN)))))))))))
  (pop0D 2))
  (appD 2 (oS (vS 3)))))
  (retV 2))
def F_hull_places : FF := fnF 2 4 B_hull_places
def B_ratio : SF := seqD (ifD (tB1 (b2 hLt (vS 1) (kS (.int 0)))) (seqD (setD 0 (oS (u1 hNeg (vS 0))))
  (setD 1 (oS (u1 hNeg (vS 1))))) (skipD))
  (seqD (setD 2 (oS (c1 hGcd (aC (vS 0) (aC (vS 1) (aN))))))
  (retD (oS (tupF (aC (b2 hDiv (vS 0) (vS 2)) (aC (b2 hDiv (vS 1) (vS 2)) (aN)))))))
def F_ratio : FF := fnF 2 3 B_ratio
def B_scaled : SF := seqD (setD 1 (oS (kS (.int 1))))
  (seqD (forD (iSeq (vS 0)) (gN 2)
  (setD 1 (oS (c1 hLcm (aC (vS 1) (aC (b2 hIx (vS 2) (kS (.int 1))) (aN)))))))
  (retD (oS (tupF (aC (fz (compD (iSeq (vS 0)) (wN 2) (yesT) (oS (b2 hMul (b2 hIx (vS 2) (kS (.int 0))) (b2 hDiv (vS 1) (b2 hIx (vS 2) (kS (.int 1)))))) [2])) (aC (vS 1) (aN)))))))
def F_scaled : FF := fnF 1 3 B_scaled
def B_upper_heights : SF := seqD (setD 1 (oS (b2 hIx (fz (callF F_scaled (aC (fz (compD (iSeq (vS 0)) (wN 11) (yesT) (oS (b2 hIx (vS 11) (kS (.int 0)))) [11])) (aN)))) (kS (.int 0)))))
  (seqD (asgD (oS (fz (callF F_scaled (aC (fz (compD (iSeq (vS 0)) (wN 11) (yesT) (oS (b2 hIx (vS 11) (kS (.int 1)))) [11])) (aN))))) (gT 2 (gLC (gN 2) (gLC (gN 3) (gLN)))))
  (seqD (setD 4 (oS (fz (callF F_hull_places (aC (vS 1) (aC (vS 2) (aN)))))))
  (seqD (setD 5 (lstF (oC (oS (b2 hIx (b2 hIx (vS 0) (kS (.int 0))) (kS (.int 1)))) (oN))))
  (seqD (forD (iZp (vS 4) (fz (slP (vP 4) (ptS (kS (.int 1))) (ptN)))) (gT 2 (gLC (gN 6) (gLC (gN 7) (gLN))))
  (seqD (setD 8 (oS (b2 hSub (b2 hIx (vS 1) (vS 7)) (b2 hIx (vS 1) (vS 6)))))
  (seqD (setD 9 (oS (b2 hSub (b2 hIx (vS 2) (vS 7)) (b2 hIx (vS 2) (vS 6)))))
  (forD (iR2 (b2 hAdd (vS 6) (kS (.int 1))) (b2 hAdd (vS 7) (kS (.int 1)))) (gN 10)
  (appD 5 (callF F_ratio (aC (b2 hAdd (b2 hMul (b2 hIx (vS 2) (vS 6)) (vS 8)) (b2 hMul (vS 9) (b2 hSub (b2 hIx (vS 1) (vS 10)) (b2 hIx (vS 1) (vS 6))))) (aC (b2 hMul (vS 8) (vS 3)) (aN)))))))))
  (retV 5)))))
def F_upper_heights : FF := fnF 1 12 B_upper_heights
def B_law : SF := seqD (asgD (oS (fz (callF F_law_points (aC (vS 1) (aN))))) (gT 4 (gLC (gN 2) (gLC (gN 3) (gLC (gN 4) (gLC (gN 5) (gLN)))))))
  (seqD (setD 6 (oS (fz (callF F_law_handed (aC (vS 2) (aC (vS 3) (aC (vS 4) (aC (vS 5) (aN)))))))))
  (seqD (setD 7 (callF F_upper_heights (aC (vS 6) (aN))))
  (seqD (ifD (tNot1 (tB1 (callB F_law_right (oC (vP 7) (oC (vP 2) (oC (vP 3) (oC (vP 5) (oN)))))))) (retD (oS (kS (.bl false)))) (skipD))
  (seqD (ifD (tAnd1 (tB1 (b2 hLe (lenP (vP 2)) (kS (.int 7)))) (tNot1 (tB1 (callB F_law_chords (oC (vP 7) (oC (vP 2) (oC (vP 3) (oC (vP 5) (oN))))))))) (retD (oS (kS (.bl false)))) (skipD))
  (seqD (setD 8 (oS (tupleP (vP 7))))
  (seqD (setD 9 (oS (fz (callBO F_law_lowered (oC (vP 1) (oC (vP 7) (oC (vP 3) (oC (vP 5) (oN)))))))))
  (seqD (appD 7 (oS (tupF (aC (kS (.int 0)) (aC (kS (.int 1)) (aN))))))
  (seqD (revD 7)
  (seqD (setD 10 (oS (fz (callF F_upper_heights (aC (fz (compD (iR1 (lenP (vP 8))) (wN 11) (yesT) (oS (tupF (aC (b2 hIx (b2 hIx (vS 6) (vS 11)) (kS (.int 0))) (aC (b2 hIx (vS 8) (vS 11)) (aN))))) [11])) (aN))))))
  (seqD (ifD (tOr1 (tNot1 (tB1 (isiP "list" (vP 10)))) (tB1 (b2 hNe (tupleP (vP 10)) (vS 8)))) (retD (oS (kS (.bl false)))) (skipD))
  (seqD (ifD (tB1 (u1P (isN fun x => !x) (vP 9))) (seqD (setD 10 (oS (fz (callF F_upper_heights (aC (fz (callF F_law_handed (aC (vS 2) (aC (vS 9) (aC (vS 4) (aC (vS 5) (aN))))))) (aN))))))
  (ifD (tOr1 (tNot1 (tB1 (fz (callF F_law_right (aC (vS 10) (aC (vS 2) (aC (vS 9) (aC (vS 5) (aN))))))))) (tB1 (b2 hNe (tupleP (vP 10)) (vS 8)))) (retD (oS (kS (.bl false)))) (skipD))) (skipD))
  (seqD (setD 10 (oS (fz (callF F_upper_heights (aC (tupleP (vP 6)) (aN))))))
  (seqD (ifD (tNot1 (tB1 (fz (callF F_law_right (aC (vS 10) (aC (vS 2) (aC (vS 3) (aC (vS 5) (aN))))))))) (retD (oS (kS (.bl false)))) (skipD))
  (retD (oS (b2 hEq (vS 6) (fz (callF F_law_handed (aC (vS 2) (aC (vS 3) (aC (vS 4) (aC (vS 5) (aN)))))))))))))))))))))))
end DL

namespace DL
open PySem PySem.Spec L2
def topS (i : Nat) : Stmt := PySem.Challenge.pw_soldtoworths_k19_upper_heights.main.body.getD i (.Pass ⟨0, 0, 0, 0⟩)
abbrev s_law_chord : Stmt := topS 18
theorem sc_law_chord : FnScope ["xs", "ys", "k", "best", "left", "right", "wide", "top"] ["xs", "ys", "k"] (defScope s_law_chord) := ⟨rfl, rfl, rfl, by decide +kernel, rfl, by decide +kernel, by decide +kernel⟩
abbrev s_law_gcd : Stmt := topS 11
theorem sc_law_gcd : FnScope ["a", "b", "k", "rest"] ["a", "b"] (defScope s_law_gcd) := ⟨rfl, rfl, rfl, by decide +kernel, rfl, by decide +kernel, by decide +kernel⟩
abbrev s_law_is_integer : Stmt := topS 12
theorem sc_law_is_integer : FnScope ["actual"] ["actual"] (defScope s_law_is_integer) := ⟨rfl, rfl, rfl, by decide +kernel, rfl, by decide +kernel, by decide +kernel⟩
abbrev s_law_same : Stmt := topS 13
theorem sc_law_same : FnScope ["actual", "n", "d"] ["actual", "n", "d"] (defScope s_law_same) := ⟨rfl, rfl, rfl, by decide +kernel, rfl, by decide +kernel, by decide +kernel⟩
abbrev s_law_chords : Stmt := topS 19
theorem sc_law_chords : FnScope ["actual", "xs", "ys", "high", "k", "due"] ["actual", "xs", "ys", "high"] (defScope s_law_chords) := ⟨rfl, rfl, rfl, by decide +kernel, rfl, by decide +kernel, by decide +kernel⟩
abbrev s_law_form : Stmt := topS 14
theorem sc_law_form : FnScope ["n", "d", "common"] ["n", "d"] (defScope s_law_form) := ⟨rfl, rfl, rfl, by decide +kernel, rfl, by decide +kernel, by decide +kernel⟩
abbrev s_law_handed : Stmt := topS 16
theorem sc_law_handed : FnScope ["xs", "ys", "wide", "high", "k"] ["xs", "ys", "wide", "high"] (defScope s_law_handed) := ⟨rfl, rfl, rfl, by decide +kernel, rfl, by decide +kernel, by decide +kernel⟩
abbrev s_law_draw : Stmt := topS 10
theorem sc_law_draw : FnScope ["state", "base", "cells", "rests", "turn", "at", "number"] ["state", "base"] (defScope s_law_draw) := ⟨rfl, rfl, rfl, by decide +kernel, rfl, by decide +kernel, by decide +kernel⟩
abbrev s_law_lowered : Stmt := topS 20
theorem sc_law_lowered : FnScope ["state", "actual", "ys", "high", "places", "lowered", "at", "k"] ["state", "actual", "ys", "high"] (defScope s_law_lowered) := ⟨rfl, rfl, rfl, by decide +kernel, rfl, by decide +kernel, by decide +kernel⟩
abbrev s_law_points : Stmt := topS 15
theorem sc_law_points : FnScope ["state", "size", "big", "kind", "x", "y", "slope", "xs", "ys", "k", "step"] ["state"] (defScope s_law_points) := ⟨rfl, rfl, rfl, by decide +kernel, rfl, by decide +kernel, by decide +kernel⟩
abbrev s_law_right : Stmt := topS 17
theorem sc_law_right : FnScope ["actual", "xs", "ys", "high", "size", "entry", "k", "here", "bends", "before", "after", "left", "right"] ["actual", "xs", "ys", "high"] (defScope s_law_right) := ⟨rfl, rfl, rfl, by decide +kernel, rfl, by decide +kernel, by decide +kernel⟩
abbrev s_law_start : Stmt := topS 9
theorem sc_law_start : FnScope ["script", "cells", "cell"] ["script"] (defScope s_law_start) := ⟨rfl, rfl, rfl, by decide +kernel, rfl, by decide +kernel, by decide +kernel⟩
abbrev s_is_above : Stmt := topS 5
theorem sc_is_above : FnScope ["xs", "ys", "start", "middle", "end", "rise"] ["xs", "ys", "start", "middle", "end"] (defScope s_is_above) := ⟨rfl, rfl, rfl, by decide +kernel, rfl, by decide +kernel, by decide +kernel⟩
abbrev s_hull_places : Stmt := topS 6
theorem sc_hull_places : FnScope ["xs", "ys", "kept", "at"] ["xs", "ys"] (defScope s_hull_places) := ⟨rfl, rfl, rfl, by decide +kernel, rfl, by decide +kernel, by decide +kernel⟩
abbrev s_ratio : Stmt := topS 2
theorem sc_ratio : FnScope ["n", "d", "common"] ["n", "d"] (defScope s_ratio) := ⟨rfl, rfl, rfl, by decide +kernel, rfl, by decide +kernel, by decide +kernel⟩
abbrev s_scaled : Stmt := topS 3
theorem sc_scaled : FnScope ["fractions", "common", "fraction"] ["fractions"] (defScope s_scaled) := ⟨rfl, rfl, rfl, by decide +kernel, rfl, by decide +kernel, by decide +kernel⟩
abbrev s_upper_heights : Stmt := topS 7
theorem sc_upper_heights : FnScope ["points", "xs", "ys", "common", "kept", "heights", "start", "end", "wide", "rise", "at", "point"] ["points"] (defScope s_upper_heights) := ⟨rfl, rfl, rfl, by decide +kernel, rfl, by decide +kernel, by decide +kernel⟩
abbrev s_law : Stmt := topS 21
theorem sc_law : FnScope ["script", "state", "xs", "ys", "wide", "high", "points", "actual", "kept", "lowered", "again", "k"] ["script"] (defScope s_law) := ⟨rfl, rfl, rfl, by decide +kernel, rfl, by decide +kernel, by decide +kernel⟩
structure Txt (K : Fg) (mg : Str → Option Value) where
  z_abs : mg "abs" = none
  z_bool : mg "bool" = none
  z_gcd : mg "gcd" = some (.builtin "math.gcd")
  z_int : mg "int" = none
  z_isinstance : mg "isinstance" = none
  z_lcm : mg "lcm" = some (.builtin "math.lcm")
  z_len : mg "len" = none
  z_list : mg "list" = none
  z_range : mg "range" = none
  z_tuple : mg "tuple" = none
  z_zip : mg "zip" = none
  a_law_chord : Addr
  d_law_chord : FuncData
  F_law_chord : Fun K "_law_chord" "_law_chord" s_law_chord a_law_chord d_law_chord
  g_law_chord : mg "_law_chord" = some (.ref a_law_chord)
  b_law_chord : Binds K d_law_chord ["xs", "ys", "k"] []
  a_law_gcd : Addr
  d_law_gcd : FuncData
  F_law_gcd : Fun K "_law_gcd" "_law_gcd" s_law_gcd a_law_gcd d_law_gcd
  g_law_gcd : mg "_law_gcd" = some (.ref a_law_gcd)
  b_law_gcd : Binds K d_law_gcd ["a", "b"] []
  a_law_is_integer : Addr
  d_law_is_integer : FuncData
  F_law_is_integer : Fun K "_law_is_integer" "_law_is_integer" s_law_is_integer a_law_is_integer d_law_is_integer
  g_law_is_integer : mg "_law_is_integer" = some (.ref a_law_is_integer)
  b_law_is_integer : Binds K d_law_is_integer ["actual"] []
  a_law_same : Addr
  d_law_same : FuncData
  F_law_same : Fun K "_law_same" "_law_same" s_law_same a_law_same d_law_same
  g_law_same : mg "_law_same" = some (.ref a_law_same)
  b_law_same : Binds K d_law_same ["actual", "n", "d"] []
  a_law_chords : Addr
  d_law_chords : FuncData
  F_law_chords : Fun K "_law_chords" "_law_chords" s_law_chords a_law_chords d_law_chords
  g_law_chords : mg "_law_chords" = some (.ref a_law_chords)
  b_law_chords : Binds K d_law_chords ["actual", "xs", "ys", "high"] []
  a_law_form : Addr
  d_law_form : FuncData
  F_law_form : Fun K "_law_form" "_law_form" s_law_form a_law_form d_law_form
  g_law_form : mg "_law_form" = some (.ref a_law_form)
  b_law_form : Binds K d_law_form ["n", "d"] []
  a_law_handed : Addr
  d_law_handed : FuncData
  F_law_handed : Fun K "_law_handed" "_law_handed" s_law_handed a_law_handed d_law_handed
  g_law_handed : mg "_law_handed" = some (.ref a_law_handed)
  b_law_handed : Binds K d_law_handed ["xs", "ys", "wide", "high"] []
  a_law_draw : Addr
  d_law_draw : FuncData
  F_law_draw : Fun K "_law_draw" "_law_draw" s_law_draw a_law_draw d_law_draw
  g_law_draw : mg "_law_draw" = some (.ref a_law_draw)
  b_law_draw : Binds K d_law_draw ["state", "base"] []
  a_law_lowered : Addr
  d_law_lowered : FuncData
  F_law_lowered : Fun K "_law_lowered" "_law_lowered" s_law_lowered a_law_lowered d_law_lowered
  g_law_lowered : mg "_law_lowered" = some (.ref a_law_lowered)
  b_law_lowered : Binds K d_law_lowered ["state", "actual", "ys", "high"] []
  a_law_points : Addr
  d_law_points : FuncData
  F_law_points : Fun K "_law_points" "_law_points" s_law_points a_law_points d_law_points
  g_law_points : mg "_law_points" = some (.ref a_law_points)
  b_law_points : Binds K d_law_points ["state"] []
  a_law_right : Addr
  d_law_right : FuncData
  F_law_right : Fun K "_law_right" "_law_right" s_law_right a_law_right d_law_right
  g_law_right : mg "_law_right" = some (.ref a_law_right)
  b_law_right : Binds K d_law_right ["actual", "xs", "ys", "high"] []
  a_law_start : Addr
  d_law_start : FuncData
  F_law_start : Fun K "_law_start" "_law_start" s_law_start a_law_start d_law_start
  g_law_start : mg "_law_start" = some (.ref a_law_start)
  b_law_start : Binds K d_law_start ["script"] []
  a_is_above : Addr
  d_is_above : FuncData
  F_is_above : Fun K "is_above" "is_above" s_is_above a_is_above d_is_above
  g_is_above : mg "is_above" = some (.ref a_is_above)
  b_is_above : Binds K d_is_above ["xs", "ys", "start", "middle", "end"] []
  a_hull_places : Addr
  d_hull_places : FuncData
  F_hull_places : Fun K "hull_places" "hull_places" s_hull_places a_hull_places d_hull_places
  g_hull_places : mg "hull_places" = some (.ref a_hull_places)
  b_hull_places : Binds K d_hull_places ["xs", "ys"] []
  a_ratio : Addr
  d_ratio : FuncData
  F_ratio : Fun K "ratio" "ratio" s_ratio a_ratio d_ratio
  g_ratio : mg "ratio" = some (.ref a_ratio)
  b_ratio : Binds K d_ratio ["n", "d"] []
  a_scaled : Addr
  d_scaled : FuncData
  F_scaled : Fun K "scaled" "scaled" s_scaled a_scaled d_scaled
  g_scaled : mg "scaled" = some (.ref a_scaled)
  b_scaled : Binds K d_scaled ["fractions"] []
  a_upper_heights : Addr
  d_upper_heights : FuncData
  F_upper_heights : Fun K "upper_heights" "upper_heights" s_upper_heights a_upper_heights d_upper_heights
  g_upper_heights : mg "upper_heights" = some (.ref a_upper_heights)
  b_upper_heights : Binds K d_upper_heights ["points"] []
  a_law : Addr
  d_law : FuncData
  F_law : Fun K "law" "law" s_law a_law d_law
  g_law : mg "law" = some (.ref a_law)
  b_law : Binds K d_law ["script"] []
end DL
namespace DL
open PySem PySem.Spec L2
theorem ok_law_draw {P : Program} {w : World} {K : Fg} {mg : Str → Option Value} {base : Heap} (T : Txt K mg) : FnOk P w K mg base CX0 1 T.a_law_draw T.d_law_draw ["state", "base"] (spD K 2 drawF) := by
  refine T.F_law_draw.ok sc_law_draw (fun vs H Q E h => ?_) (fun cdv A outer s H vs Q E hr h => ?_)
  · obtain ⟨W, O, ss, g, d, g', hl, _⟩ := h
    exact hl
  · obtain ⟨W, O, ss, g, d, g', hl, rs, hO, hg, e, q⟩ := h
    have nd := sc_law_draw.nd
    refine ⟨_, pss_cons (ps_set (i := 2) nd rfl (.inl rfl) (pe_ix ix_list (pv 0) pe_int (fun _ _ => rfl)))
      (pss_cons (ps_set (i := 3) nd rfl (.inl rfl) (pe_ix ix_list (pv 0) pe_int (fun _ _ => rfl)))
      (pss_cons (ps_set (i := 4) nd rfl (.inl rfl) (pe_ix ix_list (pv 0) pe_int (fun _ _ => rfl)))
      (pss_cons (ps_set (i := 5) nd rfl (.inl rfl) (pe_op op_mod (pe_callTy call_int1 (by rfl) T.z_int PyProof.Rows.boot_int (pa_cons (pv 4) pa_nil)) (pe_callB call_len_seq (by rfl) T.z_len PySem.boot_len (pa_cons (pv 2) pa_nil))))
      (pss_cons (ps_asg (pe_op op_add (pv 4) pe_int) (pg_sub (pv 0) pe_int set_list))
      (pss_cons (ps_if (PW.pt (pw_and (pt_cmpR op_ge (pe_ix ix_list (pv 2) (pv 5) (fun _ _ => rfl)) (pe_op op_pow pe_int pe_int) (nomark _)) (pw_and1 (pt_cmpR op_gt (pe_ix ix_list (pv 3) (pv 5) (fun _ _ => rfl)) pe_int (nomark _)))))
        (pss_cons (ps_set (i := 6) nd rfl (.inl rfl) (pe_op op_mod (pe_callTy call_int1 (by rfl) T.z_int PyProof.Rows.boot_int (pa_cons (pe_ix ix_list (pv 3) (pv 5) (fun _ _ => rfl)) pa_nil)) (pv 1)))
          (pss_cons (ps_asg (pe_op op_fdivW (pe_ix ix_list (pv 3) (pv 5) (fun _ _ => rfl)) (pv 1)) (pg_sub (pv 3) (pv 5) set_list))
          (pss_one (ps_ret (pv 6))))) pss_nil)
      (pss_cons (ps_set (i := 6) nd rfl (.inl rfl) (pe_op op_mod (pe_callTy call_int1 (by rfl) T.z_int PyProof.Rows.boot_int (pa_cons (pe_op op_add (pe_op op_add (pe_op op_mul (pe_ix ix_list (pv 2) (pv 5) (fun _ _ => rfl)) pe_int) (pe_op op_mul (pv 4) pe_int)) pe_int) pa_nil)) pe_int))
      (pss_cons (ps_set (i := 6) nd rfl (.inl rfl) (pe_op op_mod (pe_callTy call_int1 (by rfl) T.z_int PyProof.Rows.boot_int (pa_cons (pe_op op_add (pe_op op_add (pe_op op_mul (pv 6) (pv 6)) (pe_op op_mul (pv 4) pe_int)) pe_int) pa_nil)) pe_int))
      (pss_one (ps_ret (pe_op op_mod (pe_callTy call_int1 (by rfl) T.z_int PyProof.Rows.boot_int (pa_cons (pv 6) pa_nil)) (pv 1))))))))))), ?_⟩
    unfold drawF at e
    split at e
    case h_2 => cases e
    rename_i b
    split at e
    case isFalse => cases e
    rename_i hb
    cases e
    obtain ⟨v0, v1, rfl, r0, r1⟩ := reps2 rs
    cases r1
    cases r0 with
    | gen hW =>
      rename_i a c r
      subst hW
      obtain ⟨h1, h2, h3, n1, n2, n3, h4, h5, h6⟩ := hg
      have pc : 0 < g.cells.length := g.ok.1
      have pr : g.rests.length = g.cells.length := g.ok.2
      have pi : (0 : Int) < (g.cells.length : Int) := by omega
      have a0 : 0 ≤ g.turn % (g.cells.length : Int) := Int.emod_nonneg _ (by omega)
      have a1 : g.turn % (g.cells.length : Int) < (g.cells.length : Int) := Int.emod_lt_of_pos _ pi
      have at1 : ((g.at : Nat) : Int) = g.turn % (g.cells.length : Int) := by unfold GS.at; omega
      have at2 : g.at < g.cells.length := by omega
      have gc : (g.cells.map V.int)[g.at]? = some (.int (g.cells.getD g.at 0)) := by
        rw [List.getElem?_map, List.getElem?_eq_getElem at2, List.getD_eq_getElem?_getD, List.getElem?_eq_getElem at2]
        rfl
      have at3 : g.at < g.rests.length := by omega
      have gr : (g.rests.map V.int)[g.at]? = some (.int (g.rests.getD g.at 0)) := by
        rw [List.getElem?_map, List.getElem?_eq_getElem at3, List.getD_eq_getElem?_getD, List.getElem?_eq_getElem at3]
        rfl
      have e0 : atI [V.ref c, V.ref r, V.int g.turn] 0 = some (.ref c) := rfl
      have e1 : atI [V.ref c, V.ref r, V.int g.turn] 1 = some (.ref r) := rfl
      have e2 : atI [V.ref c, V.ref r, V.int g.turn] 2 = some (.int g.turn) := rfl
      refine ⟨.ref a, rfl, a, _, 0, .ref c, rfl, rfl, SqL.of h4, e0, ?_⟩
      refine ⟨.ref a, rfl, a, _, 1, .ref r, rfl, rfl, SqL.of h4, e1, ?_⟩
      refine ⟨.ref a, rfl, a, _, 2, .int g.turn, rfl, rfl, SqL.of h4, e2, ?_⟩
      refine ⟨.int g.turn, rfl, .inl ⟨g.turn, rfl, ?_⟩⟩
      refine ⟨.ref c, rfl, c, _, rfl, .inl (SqL.of h5), g.turn, _, rfl, rfl, ?_, ?_⟩
      · rw [List.length_map]; exact pi
      dsimp only
      rw [show (((g.cells.map V.int).length : Nat) : Int) = (g.cells.length : Int) from by rw [List.length_map], ← at1]
      refine ⟨.int g.turn, rfl, g.turn, 1, rfl, rfl, .ref a, rfl, a, _, 2, 2, rfl, rfl, h4, rfl, ?_⟩
      let H1 := upd H a (.lst [V.ref c, V.ref r, V.int (g.turn + 1)])
      have k5 : H1 c = some (.lst (g.cells.map V.int)) := by show upd H a _ c = _; rw [upd_ne n1.symm]; exact h5
      have k6 : H1 r = some (.lst (g.rests.map V.int)) := by show upd H a _ r = _; rw [upd_ne n2.symm]; exact h6
      have k4 : H1 a = some (.lst [V.ref c, V.ref r, V.int (g.turn + 1)]) := upd_same
      have x1 : Ext (some (a, c, r)) H H1 := fun z o nz hz => by
        show upd H a _ z = _
        rw [upd_ne fun q => nz (by rw [q]; simp [Wd.as])]
        exact hz
      have hb9 : b.natAbs.log2 < 9000 := hb.2
      have fin : ∀ H' g', Ext (some (a, c, r)) H H' → GOk (some (a, c, r)) O H' g' → (g.draw b).2 = g' → Q (.int (g.draw b).1) H' := fun H' g' x hg' eg => by
        subst eg
        exact q _ H' [] x hg' List.nodup_nil (fun z m => by simp at m) (.sh .int)
      have last : ∀ H', H' = H1 → ¬ (1000000000000000000 ≤ g.cells.getD g.at 0 ∧ 0 < g.rests.getD g.at 0) → Q (.int (g.draw b).1) H' := fun H' eh hn => by
        subst eh
        refine fin _ ⟨g.cells, g.rests, g.turn + 1, g.ok⟩ x1 ⟨h1, h2, h3, n1, n2, n3, k4, k5, k6⟩ ?_
        unfold GS.draw
        rw [if_neg hn]
      refine ⟨.ref c, rfl, .int (g.at : Nat), rfl, c, _, (g.at : Nat), .int (g.cells.getD g.at 0), rfl, rfl, SqL.of k5, atI_nat gc, 10, 18, rfl, rfl, ⟨by decide, by decide, by decide⟩, ?_⟩
      have p18 : (10 : Int) ^ (18 : Int).toNat = 1000000000000000000 := by decide
      have rest : ¬ (1000000000000000000 ≤ g.cells.getD g.at 0 ∧ 0 < g.rests.getD g.at 0) → (g.draw b).1 = (((g.cells.getD g.at 0 * 48271 + g.turn * 69621 + 11) % 2147483647 * ((g.cells.getD g.at 0 * 48271 + g.turn * 69621 + 11) % 2147483647) + g.turn * 7919 + 3) % 2147483629) % b := fun hn => by
        unfold GS.draw
        rw [if_neg hn]
      by_cases t1 : 1000000000000000000 ≤ g.cells.getD g.at 0
      · refine ⟨_, _, rfl, rfl, true, congrArg V.bl (decide_eq_true (by rw [p18]; exact t1)), iteT ?_⟩
        by_cases t2 : 0 < g.rests.getD g.at 0
        · refine ⟨.ref r, rfl, .int (g.at : Nat), rfl, r, _, (g.at : Nat), .int (g.rests.getD g.at 0), rfl, rfl, SqL.of k6, atI_nat gr, _, _, rfl, rfl, true, congrArg V.bl (decide_eq_true t2), iteT ?_⟩
          refine ⟨.ref r, rfl, .int (g.at : Nat), rfl, r, _, (g.at : Nat), .int (g.rests.getD g.at 0), rfl, rfl, SqL.of k6, atI_nat gr, .inl ⟨_, rfl, .int b, rfl, _, b, rfl, rfl, hb.1, ?_⟩⟩
          refine ⟨.ref r, rfl, .int (g.at : Nat), rfl, r, _, (g.at : Nat), .int (g.rests.getD g.at 0), rfl, rfl, SqL.of k6, atI_nat gr, .int b, rfl, _, b, rfl, rfl, ⟨hb.1, hb9⟩, .ref r, rfl, .int (g.at : Nat), rfl, r, _, (g.at : Nat), g.at, rfl, rfl, k6, ?_, ?_⟩
          · unfold ixN
            rw [List.length_map, if_pos (by omega), if_pos (by omega)]
            simp
          refine ⟨_, rfl, ?_⟩
          have ed : (g.draw b).1 = g.rests.getD g.at 0 % b := by
            unfold GS.draw
            rw [if_pos ⟨t1, t2⟩]
          have ed2 : (g.draw b).2 = ⟨g.cells, g.rests.set g.at (g.rests.getD g.at 0 / b), g.turn + 1, by rw [List.length_set]; exact g.ok⟩ := by
            unfold GS.draw
            rw [if_pos ⟨t1, t2⟩]
          have z := fin (upd H1 r (.lst ((g.rests.map V.int).set g.at (.int (g.rests.getD g.at 0 / b))))) _ ?_ ?_ ed2
          · rw [ed] at z
            exact z
          · intro y o ny hy
            rw [upd_ne fun q => ny (by rw [q]; simp [Wd.as])]
            exact x1 y o ny hy
          · refine ⟨h1, h2, h3, n1, n2, n3, ?_, ?_, ?_⟩
            · rw [upd_ne n2]; exact k4
            · rw [upd_ne n3]; exact k5
            · rw [upd_same, List.map_set]
        · refine ⟨.ref r, rfl, .int (g.at : Nat), rfl, r, _, (g.at : Nat), .int (g.rests.getD g.at 0), rfl, rfl, SqL.of k6, atI_nat gr, _, _, rfl, rfl, false, congrArg V.bl (decide_eq_false t2), iteF ?_⟩
          have hn := fun (z : 1000000000000000000 ≤ g.cells.getD g.at 0 ∧ 0 < g.rests.getD g.at 0) => t2 z.2
          refine ⟨.ref c, rfl, .int (g.at : Nat), rfl, c, _, (g.at : Nat), .int (g.cells.getD g.at 0), rfl, rfl, SqL.of k5, atI_nat gc, g.cells.getD g.at 0, 48271, rfl, rfl, .inr ⟨by decide, by decide⟩, .int g.turn, rfl, g.turn, 69621, rfl, rfl, .inr ⟨by decide, by decide⟩, _, _, rfl, rfl, _, 11, rfl, rfl, .inl ⟨_, rfl, _, 2147483647, rfl, rfl, by show (0 : Int) < 2147483647; decide, ?_⟩⟩
          have m0 : 0 ≤ (g.cells.getD g.at 0 * 48271 + g.turn * 69621 + 11) % 2147483647 := Int.emod_nonneg _ (by decide)
          have m1 : (g.cells.getD g.at 0 * 48271 + g.turn * 69621 + 11) % 2147483647 < 2147483647 := Int.emod_lt_of_pos _ (by decide)
          refine ⟨_, rfl, _, rfl, _, _, rfl, rfl, .inl ⟨Int.lt_of_lt_of_le (by decide) m0, Int.lt_trans m1 (by decide)⟩, .int g.turn, rfl, g.turn, 7919, rfl, rfl, .inr ⟨by decide, by decide⟩, _, _, rfl, rfl, _, 3, rfl, rfl, .inl ⟨_, rfl, _, 2147483629, rfl, rfl, by show (0 : Int) < 2147483629; decide, ?_⟩⟩
          refine ⟨_, rfl, .inl ⟨_, rfl, .int b, rfl, _, b, rfl, rfl, hb.1, ?_⟩⟩
          have := last H1 rfl hn
          rw [rest hn] at this
          exact this
      · refine ⟨_, _, rfl, rfl, false, congrArg V.bl (decide_eq_false (by rw [p18]; exact t1)), iteF (iteF ?_)⟩
        have hn := fun (z : 1000000000000000000 ≤ g.cells.getD g.at 0 ∧ 0 < g.rests.getD g.at 0) => t1 z.1
        refine ⟨.ref c, rfl, .int (g.at : Nat), rfl, c, _, (g.at : Nat), .int (g.cells.getD g.at 0), rfl, rfl, SqL.of k5, atI_nat gc, g.cells.getD g.at 0, 48271, rfl, rfl, .inr ⟨by decide, by decide⟩, .int g.turn, rfl, g.turn, 69621, rfl, rfl, .inr ⟨by decide, by decide⟩, _, _, rfl, rfl, _, 11, rfl, rfl, .inl ⟨_, rfl, _, 2147483647, rfl, rfl, by show (0 : Int) < 2147483647; decide, ?_⟩⟩
        have m0 : 0 ≤ (g.cells.getD g.at 0 * 48271 + g.turn * 69621 + 11) % 2147483647 := Int.emod_nonneg _ (by decide)
        have m1 : (g.cells.getD g.at 0 * 48271 + g.turn * 69621 + 11) % 2147483647 < 2147483647 := Int.emod_lt_of_pos _ (by decide)
        refine ⟨_, rfl, _, rfl, _, _, rfl, rfl, .inl ⟨Int.lt_of_lt_of_le (by decide) m0, Int.lt_trans m1 (by decide)⟩, .int g.turn, rfl, g.turn, 7919, rfl, rfl, .inr ⟨by decide, by decide⟩, _, _, rfl, rfl, _, 3, rfl, rfl, .inl ⟨_, rfl, _, 2147483629, rfl, rfl, by show (0 : Int) < 2147483629; decide, ?_⟩⟩
        refine ⟨_, rfl, .inl ⟨_, rfl, .int b, rfl, _, b, rfl, rfl, hb.1, ?_⟩⟩
        have := last H1 rfl hn
        rw [rest hn] at this
        exact this
theorem ok_law_start {P : Program} {w : World} {K : Fg} {mg : Str → Option Value} {base : Heap} (T : Txt K mg) : FnOk P w K mg base CX0 1 T.a_law_start T.d_law_start ["script"] (spStart K) := by
  refine T.F_law_start.ok sc_law_start (fun vs H Q E h => ?_) (fun cdv A outer s H vs Q E hr h => ?_)
  · obtain ⟨a, ns, rfl, _⟩ := h
    rfl
  · obtain ⟨a, ns, rfl, hS, hlen, q⟩ := h
    have nd := sc_law_start.nd
    refine ⟨_, pss_cons (ps_setLc (i := 1) (own := [("cell", 2)]) rfl nd rfl rfl (sw_true rfl rfl rfl (by decide +kernel)) (pi_list (pe_slice sl_list (pv 0) po_none (po_some pe_int))) (blkOk_by (N := ["script", "cells", "cell"]) (sc := defScope s_law_start) (by decide +kernel)) (fun _ _ _ _ _ => pg_name (i := 2) nd rfl (Or.inl rfl)) (fun _ _ _ _ _ => pts_nil)
        (fun _ _ _ _ _ => pe_callB call_abs (by rfl) T.z_abs PyProof.Rows.boot_abs (pa_cons (pe_callTy call_int1 (by rfl) T.z_int PyProof.Rows.boot_int (pa_cons (pv 2) pa_nil)) pa_nil)))
      (pss_cons (ps_if (pt_cmpR (op_eqD hr.units) (pv 1) (pe_lst pa_nil) (nomark _)) (pss_one (ps_set (i := 1) nd rfl (.inl rfl) (pe_lst (pa_cons pe_int pa_nil)))) pss_nil)
      (pss_one (ps_ret (pe_lst (pa_cons (pv 1) (pa_cons (pe_callTy call_list_of (by rfl) T.z_list PyProof.Rows.boot_list (pa_cons (pv 1) pa_nil)) (pa_cons pe_int pa_nil))))))), ?_⟩
    refine ⟨.ref a, rfl, 63, rfl, a, _, rfl, hS, fun p hp => ?_⟩
    let cut := ns.take (HT.sIx ns.length ns.length (some 63))
    have ecut : cutV (ns.map V.int) none (some 63) = cut.map V.int := by
      unfold cutV
      rw [HT.sIx_none, List.length_map, List.drop_zero, Nat.sub_zero, ← List.map_take]
    rw [ecut]
    have hp1 : upd H p (.lst (cut.map V.int)) p = some (.lst (cut.map V.int)) := upd_same
    have lcut : cut.length ≤ 63 := by
      show (ns.take _).length ≤ 63
      rw [List.length_take]
      omega
    refine ⟨p, rfl, ⟨_, .inl (.inl hp1)⟩, fun D hD => ?_⟩
    have Dp' : D ≠ p := fun z => by rw [z, upd_same] at hD; cases hD
    have HD : H D = none := by rw [upd_ne Dp'] at hD; exact hD
    let ab := fun i : Int => if i < 0 then -i else i
    refine lc_list (K := K) (a := p) (xs := cut.map V.int) (fun i H' => H' = upd (upd H p (.lst (cut.map V.int))) D (.lst ((cut.take i).map fun i => V.int (ab i)))) ?_ ?_ ?_ ?_
    · rfl
    · rintro i H' hi rfl
      refine .inl (.inl ?_)
      rw [upd_ne Dp'.symm]
      exact hp1
    · rintro i x H' hx rfl
      rw [List.getElem?_map] at hx
      obtain ⟨y, hy, rfl⟩ := Option.map_eq_some_iff.mp hx
      refine ⟨rfl, ?_⟩
      refine ⟨.int y, rfl, .inl ⟨y, rfl, y, rfl, _, upd_same, ?_, ?_⟩⟩
      · rw [List.length_map, List.length_take]
        exact Nat.lt_of_le_of_lt (Nat.min_le_left _ _) (small1000 (by have := (List.getElem?_eq_some_iff.mp hy).1; omega))
      · rw [upd_upd, List.take_add_one, hy, List.map_append]
        rfl
    · rintro H' rfl
      rw [List.length_map, List.take_length]
      refine ⟨.ref D, rfl, Nat.zero_le _, fun E0' hE => ?_⟩
      let H2 := upd (upd H p (.lst (cut.map V.int))) D (.lst (cut.map fun i => V.int (ab i)))
      have dD : Dp K (upd H2 E0' (.lst [])) (.ref D) (.list ((cut.map ab).map PyData.int)) := by
        refine .lst (xs := cut.map fun i => V.int (ab i)) (.inl (.inl ?_)) ?_
        · rw [upd_ne (ne_of_none upd_same hE)]
          exact upd_same
        · have : ∀ l : List Int, DpAll K (upd H2 E0' (.lst [])) (l.map fun i => V.int (ab i)) ((l.map ab).map PyData.int) := fun l => by
            induction l with
            | nil => exact .nil
            | cons x l ih => exact .cons (.int _) ih
          exact this cut
      have dE : Dp K (upd H2 E0' (.lst [])) (.ref E0') (.list []) := .lst (xs := []) (.inl (.inl upd_same)) .nil
      have sh : SeqAt.shaped (.list ((cut.map ab).map PyData.int)) = true := by
        have h1 : ∀ l : List Int, PyData.canLayAll0 (l.map PyData.int) = true ∧ PyData.depthAll (l.map PyData.int) = 0 := fun l => by
          induction l with
          | nil => exact ⟨by simp only [List.map_nil, PyData.canLayAll0], by simp only [List.map_nil, PyData.depthAll]⟩
          | cons x l ih => exact ⟨by simp only [List.map_cons, PyData.canLayAll0, PyData.canLay0, ih.1]; rfl, by simp only [List.map_cons, PyData.depthAll, PyData.depth, ih.2]; rfl⟩
        unfold SeqAt.shaped
        simp only [PyData.canLay0, PyData.depth, (h1 _).1, (h1 _).2]
        rfl
      have shE : SeqAt.shaped (.list []) = true := by unfold SeqAt.shaped; simp only [PyData.canLay0, PyData.canLayAll0, PyData.depth, PyData.depthAll]; rfl
      have ED : E0' ≠ D := fun z => by rw [z, upd_same] at hE; cases hE
      have Ep : E0' ≠ p := fun z => by rw [z, upd_ne Dp'.symm, upd_same] at hE; cases hE
      have HE : H E0' = none := by rw [upd_ne ED, upd_ne Ep] at hE; exact hE
      have finish : ∀ (cs : List Int) (hc : 0 < cs.length) (c : Addr) (H3 : Hp), Same H H3 → H c = none → H3 c = some (.lst (cs.map V.int)) → cs.length ≤ 63 →
          (tRet (tLst (tCons (tVar 1) (tCons (tCB (fun xs H Q => ∃ p ys, xs = [V.ref p] ∧ (SqL K H p ys ∨ SqT K H p ys) ∧ ∀ l, H l = none → Q (.ref l) (upd H l (.lst ys))) (tCons (tVar 1) tNil)) (tCons (tC (.int 0)) tNil))))) { nx := fun _ H' => Q .non H', rt := Q } [some (.ref a), some (.ref c), none] H3 := fun cs hc c H3 sm hcn hcl hlen => by
        refine ⟨V.ref c, rfl, V.ref c, rfl, c, cs.map V.int, rfl, Or.inl (.inl (.inl hcl)), fun r hr => ?_⟩
        refine ⟨show 3 ≤ sizeLine by decide, fun s' hs => ?_⟩
        have rc : c ≠ r := ne_of_none hcl hr
        have sr : r ≠ s' := fun z => by rw [← z, upd_same] at hs; cases hs
        have sc : c ≠ s' := fun z => by rw [← z, upd_ne rc, hcl] at hs; cases hs
        have hs3 : H3 s' = none := by rw [upd_ne sr.symm] at hs; exact hs
        have bk : ∀ x, H3 x = none → H x = none := fun x hx => by
          cases q : H x with
          | none => rfl
          | some o => rw [sm x o q] at hx; cases hx
        refine q ⟨cs, cs, 0, hc, rfl⟩ s' c r _ ?_ (bk _ hs3) hcn (bk _ hr) ?_
        · intro x o hx
          have := sm x o hx
          rw [upd_ne (ne_of_none this hs3), upd_ne (ne_of_none this hr)]
          exact this
        · refine ⟨by simp, by simp, by simp, sc.symm, sr.symm, rc, upd_same, ?_, ?_⟩
          · rw [upd_ne sc, upd_ne rc]; exact hcl
          · rw [upd_ne sr, upd_same]
      by_cases hne : cut = []
      · have e0 : PyData.eqv (.list ((cut.map ab).map PyData.int)) (.list []) = true := by rw [hne]; simp only [List.map_nil, PyData.eqv, PyData.eqvAll]
        refine ⟨_, _, dD, dE, sh, shE, true, congrArg V.bl e0, iteT ?_⟩
        refine ⟨by show 1 ≤ sizeLine; decide, fun c hc => ?_⟩
        have cE : c ≠ E0' := fun z => by rw [z, upd_same] at hc; cases hc
        have cD : c ≠ D := fun z => by rw [z, upd_ne ED.symm, upd_same] at hc; cases hc
        have cp : c ≠ p := fun z => by rw [z, upd_ne Ep.symm, upd_ne Dp'.symm, upd_same] at hc; cases hc
        have Hc : H c = none := by rw [upd_ne cE, upd_ne cD, upd_ne cp] at hc; exact hc
        refine finish [0] (by decide) c _ ?_ Hc upd_same (by decide)
        intro x o hx
        rw [upd_ne (ne_of_none hx Hc), upd_ne (ne_of_none hx HE), upd_ne (ne_of_none hx HD), upd_ne (ne_of_none hx hp)]
        exact hx
      · have e0 : PyData.eqv (.list ((cut.map ab).map PyData.int)) (.list []) = false := by
          cases hcut : cut with
          | nil => exact absurd hcut hne
          | cons x l => simp only [List.map_cons, PyData.eqv, PyData.eqvAll]
        refine ⟨_, _, dD, dE, sh, shE, false, congrArg V.bl e0, iteF ?_⟩
        refine finish (cut.map ab) (by rw [List.length_map]; exact List.length_pos_iff.mpr hne) D _ ?_ HD ?_ (by rw [List.length_map]; exact lcut)
        · intro x o hx
          rw [upd_ne (ne_of_none hx HE), upd_ne (ne_of_none hx HD), upd_ne (ne_of_none hx hp)]
          exact hx
        · rw [upd_ne ED.symm, upd_same, List.map_map]
          rfl

theorem ok_law_chord {P : Program} {w : World} {K : Fg} {mg : Str → Option Value} {base : Heap} (T : Txt K mg) : FnOk P w K mg base CX0 1 T.a_law_chord T.d_law_chord ["xs", "ys", "k"] (spD K 3 F_law_chord) :=
  fn_ok T.F_law_chord sc_law_chord fun cdv A outer s H E hr =>
  (dss_cons (ds_set (i := 3) sc_law_chord.nd rfl (.inl rfl) (de_tup (da_cons (de_ix (de_var 1) (de_var 2)) (da_cons de_int da_nil))).o)
  (dss_cons (ds_for rfl PassesOwn.never (di_range1 (by rfl) T.z_range (de_var 2)) (dg_name (i := 4) sc_law_chord.nd rfl (.inl rfl))
  (dss_one (ds_for rfl PassesOwn.never (di_range2 (by rfl) T.z_range (de_add (de_var 2) de_int) (de_len (by rfl) T.z_len (dp_var 0))) (dg_name (i := 5) sc_law_chord.nd rfl (.inl rfl))
  (dss_cons (ds_set (i := 6) sc_law_chord.nd rfl (.inl rfl) (de_sub (de_ix (de_var 0) (de_var 5)) (de_ix (de_var 0) (de_var 4))).o)
  (dss_cons (ds_set (i := 7) sc_law_chord.nd rfl (.inl rfl) (de_add (de_mul (de_ix (de_var 1) (de_var 4)) (de_sub (de_ix (de_var 0) (de_var 5)) (de_ix (de_var 0) (de_var 2)))) (de_mul (de_ix (de_var 1) (de_var 5)) (de_sub (de_ix (de_var 0) (de_var 2)) (de_ix (de_var 0) (de_var 4))))).o)
  (dss_one (ds_if (dt_gt (de_mul (de_var 7) (de_ix (de_var 3) de_int)) (de_mul (de_ix (de_var 3) de_int) (de_var 6))) (dss_one (ds_set (i := 3) sc_law_chord.nd rfl (.inl rfl) (de_tup (da_cons (de_var 7) (da_cons (de_var 6) da_nil))).o)) dss_nil)))))))
  (dss_one (ds_ret (de_var 3).o))))
theorem ok_law_gcd {P : Program} {w : World} {K : Fg} {mg : Str → Option Value} {base : Heap} (T : Txt K mg) : FnOk P w K mg base CX0 1 T.a_law_gcd T.d_law_gcd ["a", "b"] (spD K 2 F_law_gcd) :=
  fn_ok T.F_law_gcd sc_law_gcd fun cdv A outer s H E hr =>
  (dss_cons (ds_set (i := 0) sc_law_gcd.nd rfl (.inl rfl) (de_callB call_abs rl_abs (by rfl) T.z_abs PyProof.Rows.boot_abs (da_cons (de_var 0) da_nil)).o)
  (dss_cons (ds_set (i := 1) sc_law_gcd.nd rfl (.inl rfl) (de_callB call_abs rl_abs (by rfl) T.z_abs PyProof.Rows.boot_abs (da_cons (de_var 1) da_nil)).o)
  (dss_cons (ds_for rfl PassesOwn.never (di_range1 (by rfl) T.z_range de_int) (dg_name (i := 2) sc_law_gcd.nd rfl (.inl rfl))
  (dss_cons (ds_if (dt_eq hr.units (de_var 1) de_int) (dss_one ds_break) dss_nil)
  (dss_cons (ds_set (i := 3) sc_law_gcd.nd rfl (.inl rfl) (de_mod (de_callTy call_int1 rl_int (by rfl) T.z_int PyProof.Rows.boot_int (da_cons (de_var 0) da_nil)) (de_var 1)).o)
  (dss_cons (ds_set (i := 0) sc_law_gcd.nd rfl (.inl rfl) (de_var 1).o)
  (dss_one (ds_set (i := 1) sc_law_gcd.nd rfl (.inl rfl) (de_var 3).o))))))
  (dss_one (ds_ret (de_var 0).o)))))
theorem ok_law_is_integer {P : Program} {w : World} {K : Fg} {mg : Str → Option Value} {base : Heap} (T : Txt K mg) : FnOk P w K mg base CX0 1 T.a_law_is_integer T.d_law_is_integer ["actual"] (spD K 1 F_law_is_integer) :=
  fn_ok T.F_law_is_integer sc_law_is_integer fun cdv A outer s H E hr =>
  (dss_one (ds_ret (de_and (de_isi (by rfl) T.z_isinstance (dp_var 0) (by rfl) T.z_int PyProof.Rows.boot_int) (de_one (de_not (de_isi (by rfl) T.z_isinstance (dp_var 0) (by rfl) T.z_bool PyProof.Rows.boot_bool)))).o))
theorem ok_law_same {P : Program} {w : World} {K : Fg} {mg : Str → Option Value} {base : Heap} (T : Txt K mg) : FnOk P w K mg base CX0 2 T.a_law_same T.d_law_same ["actual", "n", "d"] (spD K 3 F_law_same) :=
  fn_ok T.F_law_same sc_law_same fun cdv A outer s H E hr =>
  (dss_cons (ds_if (dw_or (dt_not (dt_val (de_isi (by rfl) T.z_isinstance (dp_var 0) (by rfl) T.z_tuple PyProof.Rows.boot_tuple))) (dw_or1 (dt_ne hr.units (de_len (by rfl) T.z_len (dp_var 0)) de_int))).t (dss_one (ds_ret de_bl.o)) dss_nil)
  (dss_cons (ds_if (dw_or (dt_not (dt_val (do_call (ok_law_is_integer T) fnF_ar (hr.mono (by decide)) (by rfl) T.g_law_is_integer T.F_law_is_integer.kp T.b_law_is_integer (da_cons (de_ix (de_var 0) de_int) da_nil)).s)) (dw_or1 (dt_not (dt_val (do_call (ok_law_is_integer T) fnF_ar (hr.mono (by decide)) (by rfl) T.g_law_is_integer T.F_law_is_integer.kp T.b_law_is_integer (da_cons (de_ix (de_var 0) de_int) da_nil)).s)))).t (dss_one (ds_ret de_bl.o)) dss_nil)
  (dss_cons (ds_if (dw_or (dt_lt (de_ix (de_var 0) de_int) de_int) (dw_or1 (dt_ne hr.units (do_call (ok_law_gcd T) fnF_ar (hr.mono (by decide)) (by rfl) T.g_law_gcd T.F_law_gcd.kp T.b_law_gcd (da_cons (de_ix (de_var 0) de_int) (da_cons (de_ix (de_var 0) de_int) da_nil))).s de_int))).t (dss_one (ds_ret de_bl.o)) dss_nil)
  (dss_one (ds_ret (de_eq hr.units (de_mul (de_ix (de_var 0) de_int) (de_var 2)) (de_mul (de_var 1) (de_ix (de_var 0) de_int))).o)))))
theorem ok_law_chords {P : Program} {w : World} {K : Fg} {mg : Str → Option Value} {base : Heap} (T : Txt K mg) : FnOk P w K mg base CX0 3 T.a_law_chords T.d_law_chords ["actual", "xs", "ys", "high"] (spD K 4 F_law_chords) :=
  fn_ok T.F_law_chords sc_law_chords fun cdv A outer s H E hr =>
  (dss_cons (ds_for rfl PassesOwn.never (di_range1 (by rfl) T.z_range (de_len (by rfl) T.z_len (dp_var 1))) (dg_name (i := 4) sc_law_chords.nd rfl (.inl rfl))
  (dss_cons (ds_set (i := 5) sc_law_chords.nd rfl (.inl rfl) (do_call (ok_law_chord T) fnF_ar (hr.mono (by decide)) (by rfl) T.g_law_chord T.F_law_chord.kp T.b_law_chord (da_cons (de_var 1) (da_cons (de_var 2) (da_cons (de_var 4) da_nil)))).s.o)
  (dss_one (ds_if (dt_not (dt_val (do_call (ok_law_same T) fnF_ar (hr.mono (by decide)) (by rfl) T.g_law_same T.F_law_same.kp T.b_law_same (da_cons (de_ix (de_var 0) (de_var 4)) (da_cons (de_ix (de_var 5) de_int) (da_cons (de_mul (de_ix (de_var 5) de_int) (de_var 3)) da_nil)))).s)) (dss_one (ds_ret de_bl.o)) dss_nil))))
  (dss_one (ds_ret de_bl.o)))
theorem ok_law_form {P : Program} {w : World} {K : Fg} {mg : Str → Option Value} {base : Heap} (T : Txt K mg) : FnOk P w K mg base CX0 2 T.a_law_form T.d_law_form ["n", "d"] (spD K 2 F_law_form) :=
  fn_ok T.F_law_form sc_law_form fun cdv A outer s H E hr =>
  (dss_cons (ds_set (i := 2) sc_law_form.nd rfl (.inl rfl) (do_call (ok_law_gcd T) fnF_ar (hr.mono (by decide)) (by rfl) T.g_law_gcd T.F_law_gcd.kp T.b_law_gcd (da_cons (de_var 0) (da_cons (de_var 1) da_nil))).s.o)
  (dss_one (ds_ret (de_tup (da_cons (de_div (de_var 0) (de_var 2)) (da_cons (de_div (de_var 1) (de_var 2)) da_nil))).o)))
theorem ok_law_handed {P : Program} {w : World} {K : Fg} {mg : Str → Option Value} {base : Heap} (T : Txt K mg) : FnOk P w K mg base CX0 3 T.a_law_handed T.d_law_handed ["xs", "ys", "wide", "high"] (spD K 4 F_law_handed) :=
  fn_ok T.F_law_handed sc_law_handed fun cdv A outer s H E hr =>
  (dss_one (ds_ret (do_lc (own := [("k", 4)]) rfl sc_law_handed.nd (di_range1 (by rfl) T.z_range (de_len (by rfl) T.z_len (dp_var 0))) (blkOk_by (N := ["xs", "ys", "wide", "high", "k"]) (sc := defScope s_law_handed) (by decide +kernel)) (fun _ _ _ _ _ => (pg_name (i := 4) sc_law_handed.nd rfl (by first | exact Or.inl rfl | exact Or.inr rfl))) (dgw_name (by decide)) (fun _ _ _ _ _ => dts_nil) (fun _ _ _ _ _ => (de_tup (da_cons (do_call (ok_law_form T) fnF_ar (hr.mono (by decide)) (by rfl) T.g_law_form T.F_law_form.kp T.b_law_form (da_cons (de_ix (de_var 0) (de_var 4)) (da_cons (de_var 2) da_nil))).s (da_cons (do_call (ok_law_form T) fnF_ar (hr.mono (by decide)) (by rfl) T.g_law_form T.F_law_form.kp T.b_law_form (da_cons (de_ix (de_var 1) (de_var 4)) (da_cons (de_var 3) da_nil))).s da_nil))).o))))
theorem ok_law_lowered {P : Program} {w : World} {K : Fg} {mg : Str → Option Value} {base : Heap} (T : Txt K mg) : FnOk P w K mg base CX0 2 T.a_law_lowered T.d_law_lowered ["state", "actual", "ys", "high"] (spD K 4 F_law_lowered) :=
  fn_ok T.F_law_lowered sc_law_lowered fun cdv A outer s H E hr =>
  (dss_cons (ds_frz 4 (ds_setLc (i := 4) (own := [("k", 7)]) rfl sc_law_lowered.nd rfl rfl (sw_true rfl rfl rfl (by decide +kernel)) (di_range1 (by rfl) T.z_range (de_len (by rfl) T.z_len (dp_var 2))) (blkOk_by (N := ["state", "actual", "ys", "high", "places", "lowered", "at", "k"]) (sc := defScope s_law_lowered) (by decide +kernel)) (fun _ _ _ _ _ => (pg_name (i := 7) sc_law_lowered.nd rfl (by first | exact Or.inl rfl | exact Or.inr rfl))) (dgw_name (by decide)) (fun _ _ _ _ _ => (dts_one (dt_gt (de_mul (de_ix (de_ix (de_var 1) (de_var 7)) de_int) (de_var 3)) (de_mul (de_ix (de_var 2) (de_var 7)) (de_ix (de_ix (de_var 1) (de_var 7)) de_int))))) (fun _ _ _ _ _ => (de_var 7).o)))
  (dss_cons (ds_if (dt_eq hr.units (de_var 4) (do_lst dao_nil).s) (dss_one (ds_ret de_non.o)) dss_nil)
  (dss_cons (ds_set (i := 5) sc_law_lowered.nd rfl (.inl rfl) (do_list (by rfl) T.z_list (dp_var 2)))
  (dss_cons (ds_set (i := 6) sc_law_lowered.nd rfl (.inl rfl) (de_ix (de_var 4) (do_call (ok_law_draw T) drawF_ar (hr.mono (by decide)) (by rfl) T.g_law_draw T.F_law_draw.kp T.b_law_draw (da_cons (de_var 0) (da_cons (de_len (by rfl) T.z_len (dp_var 4)) da_nil))).s).o)
  (dss_cons (ds_asg (de_sub (de_sub (dp_ix (dp_var 5) (de_var 6)).s de_int) (do_call (ok_law_draw T) drawF_ar (hr.mono (by decide)) (by rfl) T.g_law_draw T.F_law_draw.kp T.b_law_draw (da_cons (de_var 0) (da_cons de_int da_nil))).s).o (dg_ix 5 (de_var 6)))
  (dss_one (ds_retv 5)))))))
theorem ok_law_points {P : Program} {w : World} {K : Fg} {mg : Str → Option Value} {base : Heap} (T : Txt K mg) : FnOk P w K mg base CX0 2 T.a_law_points T.d_law_points ["state"] (spD K 1 F_law_points) :=
  fn_ok T.F_law_points sc_law_points fun cdv A outer s H E hr =>
  (dss_cons (ds_set (i := 1) sc_law_points.nd rfl (.inl rfl) (de_add de_int (do_call (ok_law_draw T) drawF_ar (hr.mono (by decide)) (by rfl) T.g_law_draw T.F_law_draw.kp T.b_law_draw (da_cons (de_var 0) (da_cons de_int da_nil))).s).o)
  (dss_cons (ds_if (dt_eq hr.units (do_call (ok_law_draw T) drawF_ar (hr.mono (by decide)) (by rfl) T.g_law_draw T.F_law_draw.kp T.b_law_draw (da_cons (de_var 0) (da_cons de_int da_nil))).s de_int) (dss_one (ds_set (i := 1) sc_law_points.nd rfl (.inl rfl) (de_add de_int (do_call (ok_law_draw T) drawF_ar (hr.mono (by decide)) (by rfl) T.g_law_draw T.F_law_draw.kp T.b_law_draw (da_cons (de_var 0) (da_cons de_int da_nil))).s).o)) dss_nil)
  (dss_cons (ds_set (i := 2) sc_law_points.nd rfl (.inl rfl) (de_eq hr.units (do_call (ok_law_draw T) drawF_ar (hr.mono (by decide)) (by rfl) T.g_law_draw T.F_law_draw.kp T.b_law_draw (da_cons (de_var 0) (da_cons de_int da_nil))).s de_int).o)
  (dss_cons (ds_set (i := 3) sc_law_points.nd rfl (.inl rfl) (do_call (ok_law_draw T) drawF_ar (hr.mono (by decide)) (by rfl) T.g_law_draw T.F_law_draw.kp T.b_law_draw (da_cons (de_var 0) (da_cons de_int da_nil))).s.o)
  (dss_cons (ds_set (i := 4) sc_law_points.nd rfl (.inl rfl) (de_sub (do_call (ok_law_draw T) drawF_ar (hr.mono (by decide)) (by rfl) T.g_law_draw T.F_law_draw.kp T.b_law_draw (da_cons (de_var 0) (da_cons de_int da_nil))).s de_int).o)
  (dss_cons (ds_set (i := 5) sc_law_points.nd rfl (.inl rfl) (de_sub (do_call (ok_law_draw T) drawF_ar (hr.mono (by decide)) (by rfl) T.g_law_draw T.F_law_draw.kp T.b_law_draw (da_cons (de_var 0) (da_cons de_int da_nil))).s de_int).o)
  (dss_cons (ds_if (dt_val (de_var 2)) (dss_one (ds_set (i := 4) sc_law_points.nd rfl (.inl rfl) (de_mul (de_var 4) (de_pow de_int de_int)).o)) dss_nil)
  (dss_cons (ds_set (i := 6) sc_law_points.nd rfl (.inl rfl) (de_sub (do_call (ok_law_draw T) drawF_ar (hr.mono (by decide)) (by rfl) T.g_law_draw T.F_law_draw.kp T.b_law_draw (da_cons (de_var 0) (da_cons de_int da_nil))).s de_int).o)
  (dss_cons (ds_set (i := 7) sc_law_points.nd rfl (.inl rfl) (do_lst dao_nil))
  (dss_cons (ds_set (i := 8) sc_law_points.nd rfl (.inl rfl) (do_lst dao_nil))
  (dss_cons (ds_frz 8 (ds_frz 7 (ds_for rfl PassesOwn.never (di_range1 (by rfl) T.z_range (de_var 1)) (dg_name (i := 9) sc_law_points.nd rfl (.inl rfl))
  (dss_cons (ds_append 7 (de_var 4).o)
  (dss_cons (ds_append 8 (de_sub (de_var 5) (de_mul (de_mul (de_callTy call_int1 rl_int (by rfl) T.z_int PyProof.Rows.boot_int (da_cons (de_eq hr.units (de_var 3) de_int) da_nil)) (do_call (ok_law_draw T) drawF_ar (hr.mono (by decide)) (by rfl) T.g_law_draw T.F_law_draw.kp T.b_law_draw (da_cons (de_var 0) (da_cons de_int da_nil))).s) (do_call (ok_law_draw T) drawF_ar (hr.mono (by decide)) (by rfl) T.g_law_draw T.F_law_draw.kp T.b_law_draw (da_cons (de_var 0) (da_cons de_int da_nil))).s)).o)
  (dss_cons (ds_set (i := 10) sc_law_points.nd rfl (.inl rfl) (de_add de_int (do_call (ok_law_draw T) drawF_ar (hr.mono (by decide)) (by rfl) T.g_law_draw T.F_law_draw.kp T.b_law_draw (da_cons (de_var 0) (da_cons de_int da_nil))).s).o)
  (dss_cons (ds_if (dt_val (de_var 2)) (dss_one (ds_set (i := 10) sc_law_points.nd rfl (.inl rfl) (de_add (de_mul (de_var 10) (de_pow de_int de_int)) (do_call (ok_law_draw T) drawF_ar (hr.mono (by decide)) (by rfl) T.g_law_draw T.F_law_draw.kp T.b_law_draw (da_cons (de_var 0) (da_cons (de_pow de_int de_int) da_nil))).s).o)) dss_nil)
  (dss_cons (ds_if (dt_eq hr.units (de_var 3) de_int) (dss_one (ds_set (i := 6) sc_law_points.nd rfl (.inl rfl) (de_sub (de_var 6) (do_call (ok_law_draw T) drawF_ar (hr.mono (by decide)) (by rfl) T.g_law_draw T.F_law_draw.kp T.b_law_draw (da_cons (de_var 0) (da_cons de_int da_nil))).s).o)) dss_nil)
  (dss_cons (ds_if (dt_eq hr.units (de_var 3) de_int) (dss_one (ds_set (i := 6) sc_law_points.nd rfl (.inl rfl) (de_add (de_var 6) (do_call (ok_law_draw T) drawF_ar (hr.mono (by decide)) (by rfl) T.g_law_draw T.F_law_draw.kp T.b_law_draw (da_cons (de_var 0) (da_cons de_int da_nil))).s).o)) dss_nil)
  (dss_cons (ds_if (dt_gt (de_var 3) de_int) (dss_one (ds_set (i := 6) sc_law_points.nd rfl (.inl rfl) (de_sub (do_call (ok_law_draw T) drawF_ar (hr.mono (by decide)) (by rfl) T.g_law_draw T.F_law_draw.kp T.b_law_draw (da_cons (de_var 0) (da_cons de_int da_nil))).s de_int).o)) dss_nil)
  (dss_cons (ds_set (i := 4) sc_law_points.nd rfl (.inl rfl) (de_add (de_var 4) (de_var 10)).o)
  (dss_one (ds_set (i := 5) sc_law_points.nd rfl (.inl rfl) (de_add (de_var 5) (de_mul (de_var 6) (de_var 10))).o)))))))))))))
  (dss_one (ds_ret (de_tup (da_cons (de_var 7) (da_cons (de_var 8) (da_cons (de_add de_int (do_call (ok_law_draw T) drawF_ar (hr.mono (by decide)) (by rfl) T.g_law_draw T.F_law_draw.kp T.b_law_draw (da_cons (de_var 0) (da_cons de_int da_nil))).s) (da_cons (de_add de_int (do_call (ok_law_draw T) drawF_ar (hr.mono (by decide)) (by rfl) T.g_law_draw T.F_law_draw.kp T.b_law_draw (da_cons (de_var 0) (da_cons de_int da_nil))).s) da_nil))))).o)))))))))))))
theorem ok_law_right {P : Program} {w : World} {K : Fg} {mg : Str → Option Value} {base : Heap} (T : Txt K mg) : FnOk P w K mg base CX0 3 T.a_law_right T.d_law_right ["actual", "xs", "ys", "high"] (spD K 4 F_law_right) :=
  fn_ok T.F_law_right sc_law_right fun cdv A outer s H E hr =>
  (dss_cons (ds_set (i := 4) sc_law_right.nd rfl (.inl rfl) (de_len (by rfl) T.z_len (dp_var 1)).o)
  (dss_cons (ds_if (dw_or (dt_not (dt_val (de_isi (by rfl) T.z_isinstance (dp_var 0) (by rfl) T.z_list PyProof.Rows.boot_list))) (dw_or1 (dt_ne hr.units (de_len (by rfl) T.z_len (dp_var 0)) (de_var 4)))).t (dss_one (ds_ret de_bl.o)) dss_nil)
  (dss_cons (ds_for rfl PassesOwn.never (di_seq (de_var 0)) (dg_name (i := 5) sc_law_right.nd rfl (.inl rfl))
  (dss_one (ds_if (dw_or (dt_not (dt_val (de_isi (by rfl) T.z_isinstance (dp_var 5) (by rfl) T.z_tuple PyProof.Rows.boot_tuple))) (dw_or (dt_ne hr.units (de_len (by rfl) T.z_len (dp_var 5)) de_int) (dw_or1 (dt_not (dt_val (do_call (ok_law_same T) fnF_ar (hr.mono (by decide)) (by rfl) T.g_law_same T.F_law_same.kp T.b_law_same (da_cons (de_var 5) (da_cons (de_ix (de_var 5) de_int) (da_cons (de_ix (de_var 5) de_int) da_nil)))).s))))).t (dss_one (ds_ret de_bl.o)) dss_nil)))
  (dss_cons (ds_for rfl PassesOwn.never (di_range1 (by rfl) T.z_range (de_var 4)) (dg_name (i := 6) sc_law_right.nd rfl (.inl rfl))
  (dss_cons (ds_set (i := 7) sc_law_right.nd rfl (.inl rfl) (de_ix (de_var 0) (de_var 6)).o)
  (dss_cons (ds_if (dt_lt (de_mul (de_ix (de_var 7) de_int) (de_var 3)) (de_mul (de_ix (de_var 2) (de_var 6)) (de_ix (de_var 7) de_int))) (dss_one (ds_ret de_bl.o)) dss_nil)
  (dss_cons (ds_set (i := 8) sc_law_right.nd rfl (.inl rfl) de_bl.o)
  (dss_cons (ds_if (dw_and (dt_lt de_int (de_var 6)) (dw_and1 (dt_lt (de_add (de_var 6) de_int) (de_var 4)))).t (dss_cons (ds_set (i := 9) sc_law_right.nd rfl (.inl rfl) (de_ix (de_var 0) (de_sub (de_var 6) de_int)).o)
  (dss_cons (ds_set (i := 10) sc_law_right.nd rfl (.inl rfl) (de_ix (de_var 0) (de_add (de_var 6) de_int)).o)
  (dss_cons (ds_set (i := 11) sc_law_right.nd rfl (.inl rfl) (de_mul (de_mul (de_sub (de_mul (de_ix (de_var 7) de_int) (de_ix (de_var 9) de_int)) (de_mul (de_ix (de_var 9) de_int) (de_ix (de_var 7) de_int))) (de_ix (de_var 10) de_int)) (de_sub (de_ix (de_var 1) (de_add (de_var 6) de_int)) (de_ix (de_var 1) (de_var 6)))).o)
  (dss_cons (ds_set (i := 12) sc_law_right.nd rfl (.inl rfl) (de_mul (de_mul (de_sub (de_mul (de_ix (de_var 10) de_int) (de_ix (de_var 7) de_int)) (de_mul (de_ix (de_var 7) de_int) (de_ix (de_var 10) de_int))) (de_ix (de_var 9) de_int)) (de_sub (de_ix (de_var 1) (de_var 6)) (de_ix (de_var 1) (de_sub (de_var 6) de_int)))).o)
  (dss_cons (ds_if (dt_lt (de_var 11) (de_var 12)) (dss_one (ds_ret de_bl.o)) dss_nil)
  (dss_one (ds_set (i := 8) sc_law_right.nd rfl (.inl rfl) (de_gt (de_var 11) (de_var 12)).o))))))) dss_nil)
  (dss_one (ds_if (dw_and (dt_val (de_var 8)) (dw_and1 (dt_ne hr.units (de_mul (de_ix (de_var 7) de_int) (de_var 3)) (de_mul (de_ix (de_var 2) (de_var 6)) (de_ix (de_var 7) de_int))))).t (dss_one (ds_ret de_bl.o)) dss_nil)))))))
  (dss_one (ds_ret de_bl.o))))))
theorem ok_is_above {P : Program} {w : World} {K : Fg} {mg : Str → Option Value} {base : Heap} (T : Txt K mg) : FnOk P w K mg base CX0 1 T.a_is_above T.d_is_above ["xs", "ys", "start", "middle", "end"] (spD K 5 F_is_above) :=
  fn_ok T.F_is_above sc_is_above fun cdv A outer s H E hr =>
  (dss_cons (ds_set (i := 5) sc_is_above.nd rfl (.inl rfl) (de_mul (de_sub (de_ix (de_var 1) (de_var 3)) (de_ix (de_var 1) (de_var 2))) (de_sub (de_ix (de_var 0) (de_var 4)) (de_ix (de_var 0) (de_var 2)))).o)
  (dss_one (ds_ret (de_gt (de_var 5) (de_mul (de_sub (de_ix (de_var 1) (de_var 4)) (de_ix (de_var 1) (de_var 2))) (de_sub (de_ix (de_var 0) (de_var 3)) (de_ix (de_var 0) (de_var 2))))).o)))
theorem ok_hull_places {P : Program} {w : World} {K : Fg} {mg : Str → Option Value} {base : Heap} (T : Txt K mg) : FnOk P w K mg base CX0 2 T.a_hull_places T.d_hull_places ["xs", "ys"] (spD K 2 F_hull_places) :=
  fn_ok T.F_hull_places sc_hull_places fun cdv A outer s H E hr =>
  (dss_cons (ds_set (i := 2) sc_hull_places.nd rfl (.inl rfl) (do_lst dao_nil))
  (dss_cons (ds_for rfl PassesOwn.never (di_range1 (by rfl) T.z_range (de_len (by rfl) T.z_len (dp_var 0))) (dg_name (i := 3) sc_hull_places.nd rfl (.inl rfl))
  (dss_cons (ds_while PassesOwn.never (dw_and (dt_gt (de_len (by rfl) T.z_len (dp_var 2)) de_int) (dw_and1 (dt_not (dt_val (do_call (ok_is_above T) fnF_ar (hr.mono (by decide)) (by rfl) T.g_is_above T.F_is_above.kp T.b_is_above (da_cons (de_var 0) (da_cons (de_var 1) (da_cons (dp_ix (dp_var 2) (de_neg de_int)).s (da_cons (dp_ix (dp_var 2) (de_neg de_int)).s (da_cons (de_var 3) da_nil)))))).s)))).t
  (dss_one (ds_pop 2)))
  (dss_one (ds_append 2 (de_var 3).o))))
  (dss_one (ds_retv 2))))
theorem ok_ratio {P : Program} {w : World} {K : Fg} {mg : Str → Option Value} {base : Heap} (T : Txt K mg) : FnOk P w K mg base CX0 1 T.a_ratio T.d_ratio ["n", "d"] (spD K 2 F_ratio) :=
  fn_ok T.F_ratio sc_ratio fun cdv A outer s H E hr =>
  (dss_cons (ds_if (dt_lt (de_var 1) de_int) (dss_cons (ds_set (i := 0) sc_ratio.nd rfl (.inl rfl) (de_neg (de_var 0)).o)
  (dss_one (ds_set (i := 1) sc_ratio.nd rfl (.inl rfl) (de_neg (de_var 1)).o))) dss_nil)
  (dss_cons (ds_set (i := 2) sc_ratio.nd rfl (.inl rfl) (de_callBfun cr_gcd rl_gcd (by rfl) T.z_gcd (da_cons (de_var 0) (da_cons (de_var 1) da_nil))).o)
  (dss_one (ds_ret (de_tup (da_cons (de_div (de_var 0) (de_var 2)) (da_cons (de_div (de_var 1) (de_var 2)) da_nil))).o))))
theorem ok_scaled {P : Program} {w : World} {K : Fg} {mg : Str → Option Value} {base : Heap} (T : Txt K mg) : FnOk P w K mg base CX0 1 T.a_scaled T.d_scaled ["fractions"] (spD K 1 F_scaled) :=
  fn_ok T.F_scaled sc_scaled fun cdv A outer s H E hr =>
  (dss_cons (ds_set (i := 1) sc_scaled.nd rfl (.inr rfl) de_int.o)
  (dss_cons (ds_for rfl PassesOwn.never (di_seq (de_var 0)) (dg_name (i := 2) sc_scaled.nd rfl (.inl rfl))
  (dss_one (ds_set (i := 1) sc_scaled.nd rfl (.inr rfl) (de_callBfun cr_lcm rl_lcm (by rfl) T.z_lcm (da_cons (de_var 1) (da_cons (de_ix (de_var 2) de_int) da_nil))).o)))
  (dss_one (ds_ret (de_tup (da_cons (do_lc (own := [("fraction", 2)]) rfl sc_scaled.nd (di_seq (de_var 0)) (blkOk_by (N := ["fractions", "common", "fraction"]) (sc := defScope s_scaled) (by decide +kernel)) (fun _ _ _ _ _ => (pg_name (i := 2) sc_scaled.nd rfl (by first | exact Or.inl rfl | exact Or.inr rfl))) (dgw_name (by decide)) (fun _ _ _ _ _ => dts_nil) (fun _ _ _ _ _ => (de_mul (de_ix (de_var 2) de_int) (de_div (de_var 1) (de_ix (de_var 2) de_int))).o)).s (da_cons (de_var 1) da_nil))).o))))
theorem ok_upper_heights {P : Program} {w : World} {K : Fg} {mg : Str → Option Value} {base : Heap} (T : Txt K mg) : FnOk P w K mg base CX0 3 T.a_upper_heights T.d_upper_heights ["points"] (spD K 1 F_upper_heights) :=
  fn_ok T.F_upper_heights sc_upper_heights fun cdv A outer s H E hr =>
  (dss_cons (ds_set (i := 1) sc_upper_heights.nd rfl (.inl rfl) (de_ix (do_call (ok_scaled T) fnF_ar (hr.mono (by decide)) (by rfl) T.g_scaled T.F_scaled.kp T.b_scaled (da_cons (do_lc (own := [("point", 11)]) rfl sc_upper_heights.nd (di_seq (de_var 0)) (blkOk_by (N := ["points", "xs", "ys", "common", "kept", "heights", "start", "end", "wide", "rise", "at", "point"]) (sc := defScope s_upper_heights) (by decide +kernel)) (fun _ _ _ _ _ => (pg_name (i := 11) sc_upper_heights.nd rfl (by first | exact Or.inl rfl | exact Or.inr rfl))) (dgw_name (by decide)) (fun _ _ _ _ _ => dts_nil) (fun _ _ _ _ _ => (de_ix (de_var 11) de_int).o)).s da_nil)).s de_int).o)
  (dss_cons (ds_asg (do_call (ok_scaled T) fnF_ar (hr.mono (by decide)) (by rfl) T.g_scaled T.F_scaled.kp T.b_scaled (da_cons (do_lc (own := [("point", 11)]) rfl sc_upper_heights.nd (di_seq (de_var 0)) (blkOk_by (N := ["points", "xs", "ys", "common", "kept", "heights", "start", "end", "wide", "rise", "at", "point"]) (sc := defScope s_upper_heights) (by decide +kernel)) (fun _ _ _ _ _ => (pg_name (i := 11) sc_upper_heights.nd rfl (by first | exact Or.inl rfl | exact Or.inr rfl))) (dgw_name (by decide)) (fun _ _ _ _ _ => dts_nil) (fun _ _ _ _ _ => (de_ix (de_var 11) de_int).o)).s da_nil)).s.o (dg_tup rfl (dgl_cons (dg_name (i := 2) sc_upper_heights.nd rfl (.inl rfl)) (dgl_cons (dg_name (i := 3) sc_upper_heights.nd rfl (.inl rfl)) dgl_nil))))
  (dss_cons (ds_set (i := 4) sc_upper_heights.nd rfl (.inl rfl) (do_call (ok_hull_places T) fnF_ar (hr.mono (by decide)) (by rfl) T.g_hull_places T.F_hull_places.kp T.b_hull_places (da_cons (de_var 1) (da_cons (de_var 2) da_nil))).s.o)
  (dss_cons (ds_set (i := 5) sc_upper_heights.nd rfl (.inl rfl) (do_lst (dao_cons (de_ix (de_ix (de_var 0) de_int) de_int).o dao_nil)))
  (dss_cons (ds_for rfl PassesOwn.never (di_zip (by rfl) T.z_zip (de_var 4) (do_slice (dp_var 4) (dpt_some de_int) dpt_none).s) (dg_tup rfl (dgl_cons (dg_name (i := 6) sc_upper_heights.nd rfl (.inl rfl)) (dgl_cons (dg_name (i := 7) sc_upper_heights.nd rfl (.inl rfl)) dgl_nil)))
  (dss_cons (ds_set (i := 8) sc_upper_heights.nd rfl (.inl rfl) (de_sub (de_ix (de_var 1) (de_var 7)) (de_ix (de_var 1) (de_var 6))).o)
  (dss_cons (ds_set (i := 9) sc_upper_heights.nd rfl (.inl rfl) (de_sub (de_ix (de_var 2) (de_var 7)) (de_ix (de_var 2) (de_var 6))).o)
  (dss_one (ds_for rfl PassesOwn.never (di_range2 (by rfl) T.z_range (de_add (de_var 6) de_int) (de_add (de_var 7) de_int)) (dg_name (i := 10) sc_upper_heights.nd rfl (.inl rfl))
  (dss_one (ds_append 5 (do_call (ok_ratio T) fnF_ar (hr.mono (by decide)) (by rfl) T.g_ratio T.F_ratio.kp T.b_ratio (da_cons (de_add (de_mul (de_ix (de_var 2) (de_var 6)) (de_var 8)) (de_mul (de_var 9) (de_sub (de_ix (de_var 1) (de_var 10)) (de_ix (de_var 1) (de_var 6))))) (da_cons (de_mul (de_var 8) (de_var 3)) da_nil))))))))))
  (dss_one (ds_retv 5)))))))
theorem ok_law {P : Program} {w : World} {K : Fg} {mg : Str → Option Value} {base : Heap} (T : Txt K mg) (main : ∀ g : GS, ∃ g', B_law ((List.replicate 12 none).set 1 (some (.sh .gen))) g = some (.rt (.sh (.bl true)) g')) :
    FnOk P w K mg base CX0 4 T.a_law T.d_law ["script"] (spLaw K) := by
  refine T.F_law.ok sc_law (fun vs H Q E h => ?_) (fun cdv A outer s H vs Q E hr h => ?_)
  · obtain ⟨a, ns, rfl, _⟩ := h
    rfl
  · obtain ⟨a, ns, rfl, hS, hlen, q⟩ := h
    have body : DSs (cxOf CX0 P w K mg base ["script", "state", "xs", "ys", "wide", "high", "points", "actual", "kept", "lowered", "again", "k"] "law" (defScope s_law) T.a_law cdv A outer s H E).nox ((defBody s_law).drop 1) B_law :=
  (dss_cons (ds_asg (do_call (ok_law_points T) fnF_ar (hr.mono (by decide)) (by rfl) T.g_law_points T.F_law_points.kp T.b_law_points (da_cons (de_var 1) da_nil)).s.o (dg_tup rfl (dgl_cons (dg_name (i := 2) sc_law.nd rfl (.inl rfl)) (dgl_cons (dg_name (i := 3) sc_law.nd rfl (.inl rfl)) (dgl_cons (dg_name (i := 4) sc_law.nd rfl (.inl rfl)) (dgl_cons (dg_name (i := 5) sc_law.nd rfl (.inl rfl)) dgl_nil))))))
  (dss_cons (ds_set (i := 6) sc_law.nd rfl (.inr rfl) (do_call (ok_law_handed T) fnF_ar (hr.mono (by decide)) (by rfl) T.g_law_handed T.F_law_handed.kp T.b_law_handed (da_cons (de_var 2) (da_cons (de_var 3) (da_cons (de_var 4) (da_cons (de_var 5) da_nil))))).s.o)
  (dss_cons (ds_set (i := 7) sc_law.nd rfl (.inl rfl) (do_call (ok_upper_heights T) fnF_ar (hr.mono (by decide)) (by rfl) T.g_upper_heights T.F_upper_heights.kp T.b_upper_heights (da_cons (de_var 6) da_nil)))
  (dss_cons (ds_if (dt_not (dt_val (de_callB1 (ok_law_right T) fnF_ar (hr.mono (by decide)) (by rfl) T.g_law_right T.F_law_right.kp T.b_law_right (dap_cons (dp_var 7) (dap_cons (dp_var 2) (dap_cons (dp_var 3) (dap_cons (dp_var 5) dap_nil))))))) (dss_one (ds_ret de_bl.o)) dss_nil)
  (dss_cons (ds_if (dw_and (dt_le (de_len (by rfl) T.z_len (dp_var 2)) de_int) (dw_and1 (dt_not (dt_val (de_callB1 (ok_law_chords T) fnF_ar (hr.mono (by decide)) (by rfl) T.g_law_chords T.F_law_chords.kp T.b_law_chords (dap_cons (dp_var 7) (dap_cons (dp_var 2) (dap_cons (dp_var 3) (dap_cons (dp_var 5) dap_nil))))))))).t (dss_one (ds_ret de_bl.o)) dss_nil)
  (dss_cons (ds_set (i := 8) sc_law.nd rfl (.inr rfl) (de_tuple (by rfl) T.z_tuple (dp_var 7)).o)
  (dss_cons (ds_set (i := 9) sc_law.nd rfl (.inl rfl) (do_callB1 (ok_law_lowered T) fnF_ar (hr.mono (by decide)) (by rfl) T.g_law_lowered T.F_law_lowered.kp T.b_law_lowered (dap_cons (dp_var 1) (dap_cons (dp_var 7) (dap_cons (dp_var 3) (dap_cons (dp_var 5) dap_nil))))).s.o)
  (dss_cons (ds_append 7 (de_tup (da_cons de_int (da_cons de_int da_nil))).o)
  (dss_cons (ds_reverse 7)
  (dss_cons (ds_set (i := 10) sc_law.nd rfl (.inl rfl) (do_call (ok_upper_heights T) fnF_ar (hr.mono (by decide)) (by rfl) T.g_upper_heights T.F_upper_heights.kp T.b_upper_heights (da_cons (do_lc (own := [("k", 11)]) rfl sc_law.nd (di_range1 (by rfl) T.z_range (de_len (by rfl) T.z_len (dp_var 8))) (blkOk_by (N := ["script", "state", "xs", "ys", "wide", "high", "points", "actual", "kept", "lowered", "again", "k"]) (sc := defScope s_law) (by decide +kernel)) (fun _ _ _ _ _ => (pg_name (i := 11) sc_law.nd rfl (by first | exact Or.inl rfl | exact Or.inr rfl))) (dgw_name (by decide)) (fun _ _ _ _ _ => dts_nil) (fun _ _ _ _ _ => (de_tup (da_cons (de_ix (de_ix (de_var 6) (de_var 11)) de_int) (da_cons (de_ix (de_var 8) (de_var 11)) da_nil))).o)).s da_nil)).s.o)
  (dss_cons (ds_if (dw_or (dt_not (dt_val (de_isi (by rfl) T.z_isinstance (dp_var 10) (by rfl) T.z_list PyProof.Rows.boot_list))) (dw_or1 (dt_ne hr.units (de_tuple (by rfl) T.z_tuple (dp_var 10)) (de_var 8)))).t (dss_one (ds_ret de_bl.o)) dss_nil)
  (dss_cons (ds_if (dt_notN (dp_var 9)) (dss_cons (ds_set (i := 10) sc_law.nd rfl (.inl rfl) (do_call (ok_upper_heights T) fnF_ar (hr.mono (by decide)) (by rfl) T.g_upper_heights T.F_upper_heights.kp T.b_upper_heights (da_cons (do_call (ok_law_handed T) fnF_ar (hr.mono (by decide)) (by rfl) T.g_law_handed T.F_law_handed.kp T.b_law_handed (da_cons (de_var 2) (da_cons (de_var 9) (da_cons (de_var 4) (da_cons (de_var 5) da_nil))))).s da_nil)).s.o)
  (dss_one (ds_if (dw_or (dt_not (dt_val (do_call (ok_law_right T) fnF_ar (hr.mono (by decide)) (by rfl) T.g_law_right T.F_law_right.kp T.b_law_right (da_cons (de_var 10) (da_cons (de_var 2) (da_cons (de_var 9) (da_cons (de_var 5) da_nil))))).s)) (dw_or1 (dt_ne hr.units (de_tuple (by rfl) T.z_tuple (dp_var 10)) (de_var 8)))).t (dss_one (ds_ret de_bl.o)) dss_nil))) dss_nil)
  (dss_cons (ds_set (i := 10) sc_law.nd rfl (.inl rfl) (do_call (ok_upper_heights T) fnF_ar (hr.mono (by decide)) (by rfl) T.g_upper_heights T.F_upper_heights.kp T.b_upper_heights (da_cons (de_tuple (by rfl) T.z_tuple (dp_var 6)) da_nil)).s.o)
  (dss_cons (ds_if (dt_not (dt_val (do_call (ok_law_right T) fnF_ar (hr.mono (by decide)) (by rfl) T.g_law_right T.F_law_right.kp T.b_law_right (da_cons (de_var 10) (da_cons (de_var 2) (da_cons (de_var 3) (da_cons (de_var 5) da_nil))))).s)) (dss_one (ds_ret de_bl.o)) dss_nil)
  (dss_one (ds_ret (de_eq hr.units (de_var 6) (do_call (ok_law_handed T) fnF_ar (hr.mono (by decide)) (by rfl) T.g_law_handed T.F_law_handed.kp T.b_law_handed (da_cons (de_var 2) (da_cons (de_var 3) (da_cons (de_var 4) (da_cons (de_var 5) da_nil))))).s).o))))))))))))))))
    obtain ⟨t, pt, qt⟩ := body
    refine ⟨_, pss_cons (ps_set (i := 1) sc_law.nd rfl (.inl rfl) (pe_call (ok_law_start T) (hr.mono (by decide)) (by rfl) T.g_law_start T.F_law_start.kp T.b_law_start .nil pass0 (pa_cons (pv 0) pa_nil))) pt, ?_⟩
    refine ⟨.ref a, rfl, a, ns, rfl, hS, hlen, fun g s' c r H' sm n1 n2 n3 hg => ?_⟩
    exact law_body (K := K) (t := t) (i := 1) qt rfl rfl hg (main g) q
end DL

/-! DLE: how the functions are reckoned (plain Lean). -/
namespace DL
section
variable {ρ : Env} {g : GS} {i j n : Nat} {f fa fb : EF} {h : OF} {fs : AF} {os : AOF} {c c2 : TF} {s t : SF} {F : FF} {k : SV → SV → Option SV}
@[simp] theorem ev_oS : oS f ρ g = (f ρ g).map fun p => (.sh p.1, p.2) := rfl
@[simp] theorem ev_fz : fz h ρ g = (h ρ g).map fun p => (p.1.frz, p.2) := rfl
@[simp] theorem ev_un : un h ρ g = (h ρ g).bind fun p => p.1.sh?.map fun s => (s, p.2) := rfl
@[simp] theorem ev_shq (s : SV) : (DV.sh s).sh? = some s := rfl
@[simp] theorem ev_kS (s : SV) : kS s ρ g = some (s, g) := rfl
@[simp] theorem ev_vS0 (s : SV) : vS 0 (some (.sh s) :: ρ) g = some (s, g) := rfl
@[simp] theorem ev_vSs (x : Option DV) : vS (i + 1) (x :: ρ) g = vS i ρ g := rfl
@[simp] theorem ev_vP0 (s : DV) : vP 0 (some s :: ρ) g = some (s, g) := rfl
@[simp] theorem ev_vPs (x : Option DV) : vP (i + 1) (x :: ρ) g = vP i ρ g := rfl
@[simp] theorem ev_b2 : b2 k fa fb ρ g = (fa ρ g).bind fun p => (fb ρ p.2).bind fun q => (k p.1 q.1).map fun s => (s, q.2) := rfl
@[simp] theorem ev_u1 (k : SV → Option SV) : u1 k fa ρ g = (fa ρ g).bind fun p => (k p.1).map fun s => (s, p.2) := rfl
@[simp] theorem ev_u1P (k : DV → Option SV) : u1P k h ρ g = (h ρ g).bind fun p => (k p.1).map fun s => (s, p.2) := rfl
@[simp] theorem ev_add (a b : Int) : hAdd (.int a) (.int b) = some (.int (a + b)) := rfl
@[simp] theorem ev_sub (a b : Int) : hSub (.int a) (.int b) = some (.int (a - b)) := rfl
@[simp] theorem ev_mul (a b : Int) : hMul (.int a) (.int b) = if mulOk a b then some (.int (a * b)) else none := rfl
@[simp] theorem ev_div (a b : Int) : hDiv (.int a) (.int b) = if divOk a b then some (.int (a / b)) else none := rfl
@[simp] theorem ev_mod (a b : Int) : hMod (.int a) (.int b) = if modOk a b then some (.int (a % b)) else none := rfl
@[simp] theorem ev_pow (a b : Int) : hPow (.int a) (.int b) = if powOk a b then some (.int (a ^ b.toNat)) else none := rfl
@[simp] theorem ev_lt (a b : Int) : hLt (.int a) (.int b) = some (.bl (decide (a < b))) := rfl
@[simp] theorem ev_le (a b : Int) : hLe (.int a) (.int b) = some (.bl (decide (a ≤ b))) := rfl
@[simp] theorem ev_gt (a b : Int) : hGt (.int a) (.int b) = some (.bl (decide (b < a))) := rfl
@[simp] theorem ev_ge (a b : Int) : hGe (.int a) (.int b) = some (.bl (decide (b ≤ a))) := rfl
@[simp] theorem ev_eqi (a b : Int) : hEq (.int a) (.int b) = some (.bl (decide (a = b))) := rfl
@[simp] theorem ev_nei (a b : Int) : hNe (.int a) (.int b) = some (.bl (!decide (a = b))) := rfl
@[simp] theorem ev_eqb (a b : Bool) : hEq (.bl a) (.bl b) = some (.bl (decide (a = b))) := rfl
@[simp] theorem ev_neg (a : Int) : hNeg (.int a) = some (.int (-a)) := rfl
@[simp] theorem ev_not (a : Bool) : hNot (.bl a) = some (.bl (!a)) := rfl
@[simp] theorem ev_tB1 : tB1 f ρ g = (f ρ g).bind fun p => match p.1 with | .bl b => some (b, p.2) | _ => none := rfl
@[simp] theorem ev_tAnd : tAnd1 c c2 ρ g = (c ρ g).bind fun p => if p.1 = true then c2 ρ p.2 else some (false, p.2) := rfl
@[simp] theorem ev_tOr : tOr1 c c2 ρ g = (c ρ g).bind fun p => if p.1 = true then some (true, p.2) else c2 ρ p.2 := rfl
@[simp] theorem ev_tNot : tNot1 c ρ g = (c ρ g).map fun p => (!p.1, p.2) := rfl
@[simp] theorem ev_ifV : ifV c fa fb ρ g = (c ρ g).bind fun p => if p.1 = true then fa ρ p.2 else fb ρ p.2 := rfl
@[simp] theorem ev_vAnd : vAnd fa fb ρ g = (fa ρ g).bind fun p => match p.1 with | .bl true => fb ρ p.2 | .bl false => some (.bl false, p.2) | _ => none := rfl
@[simp] theorem ev_vOr : vOr fa fb ρ g = (fa ρ g).bind fun p => match p.1 with | .bl false => fb ρ p.2 | .bl true => some (.bl true, p.2) | _ => none := rfl
@[simp] theorem ev_ixt (xs : List SV) (a : Int) : hIx (.tup xs) (.int a) = L2.atI xs a := rfl
@[simp] theorem ev_ixl (xs : List SV) (a : Int) : hIx (.lst xs) (.int a) = L2.atI xs a := rfl
@[simp] theorem ev_ixP : ixP h fb ρ g = (h ρ g).bind fun p => (fb ρ p.2).bind fun q => match q.1 with | .int i => (p.1.at i).map fun d => (d, q.2) | _ => none := rfl
@[simp] theorem ev_at (ds : List DV) (i : Int) : (DV.own ds).at i = L2.atI ds i := rfl
@[simp] theorem at0 {α : Type} (x : α) (xs : List α) : L2.atI (x :: xs) 0 = some x := L2.atI_nat (j := 0) rfl
@[simp] theorem at1 {α : Type} (x y : α) (xs : List α) : L2.atI (x :: y :: xs) 1 = some y := L2.atI_nat (j := 1) rfl
@[simp] theorem at2 {α : Type} (x y z : α) (xs : List α) : L2.atI (x :: y :: z :: xs) 2 = some z := L2.atI_nat (j := 2) rfl
@[simp] theorem at3 {α : Type} (x y z w : α) (xs : List α) : L2.atI (x :: y :: z :: w :: xs) 3 = some w := L2.atI_nat (j := 3) rfl
@[simp] theorem ev_aN : aN ρ g = some ([], g) := rfl
@[simp] theorem ev_aC : aC f fs ρ g = (f ρ g).bind fun p => (fs ρ p.2).map fun q => (p.1 :: q.1, q.2) := rfl
@[simp] theorem ev_oN : oN ρ g = some ([], g) := rfl
@[simp] theorem ev_oC : oC h os ρ g = (h ρ g).bind fun p => (os ρ p.2).map fun q => (p.1 :: q.1, q.2) := rfl
@[simp] theorem ev_tupF : tupF fs ρ g = (fs ρ g).bind fun p => if p.1.length ≤ 1000 then some (.tup p.1, p.2) else none := rfl
@[simp] theorem ev_lstF : lstF os ρ g = (os ρ g).bind fun p => if p.1.length ≤ 1000 then some (.own p.1, p.2) else none := rfl
@[simp] theorem ev_callF : callF F fs ρ g = (fs ρ g).bind fun p => F p.1 p.2 := rfl
@[simp] theorem ev_c1 (k : List SV → Option SV) : c1 k fs ρ g = (fs ρ g).bind fun p => (k p.1).map fun s => (s, p.2) := rfl
@[simp] theorem ev_abs (a : Int) : hAbs [.int a] = some (.int (if a < 0 then -a else a)) := rfl
@[simp] theorem ev_int (a : Int) : hInt [.int a] = some (.int a) := rfl
@[simp] theorem ev_intb (a : Bool) : hInt [.bl a] = some (.int (if a then 1 else 0)) := rfl
@[simp] theorem ev_gcd (a b : Int) : hGcd [.int a, .int b] = some (.int ((Nat.gcd a.natAbs b.natAbs : Nat) : Int)) := rfl
@[simp] theorem ev_lcm (a b : Int) : hLcm [.int a, .int b] = if a.natAbs.log2 < 9000 ∧ b.natAbs.log2 < 9000 then some (.int ((Nat.lcm a.natAbs b.natAbs : Nat) : Int)) else none := rfl
@[simp] theorem ev_max (a b : Int) : hMax [.int a, .int b] = some (.int (if b > a then b else a)) := rfl
@[simp] theorem ev_min (a b : Int) : hMin [.int a, .int b] = some (.int (if b < a then b else a)) := rfl
@[simp] theorem ev_setD : setD i h ρ g = (h ρ g).map fun p => .nx (ρ.set i (some p.1)) p.2 := rfl
@[simp] theorem ev_retD : retD h ρ g = (h ρ g).map fun p => .rt p.1 p.2 := rfl
@[simp] theorem ev_exprD : exprD f ρ g = (f ρ g).map fun p => .nx ρ p.2 := rfl
@[simp] theorem ev_skip : skipD ρ g = some (.nx ρ g) := rfl
@[simp] theorem ev_brk : brkD ρ g = some (.bk ρ g) := rfl
@[simp] theorem ev_cnt : cntD ρ g = some (.ct ρ g) := rfl
@[simp] theorem ev_seq : seqD s t ρ g = (s ρ g).bind fun r => match r with
  | .nx ρ' g' => t ρ' g'
  | .rt d g' => some (.rt d g')
  | .bk ρ' g' => some (.bk ρ' g')
  | .ct ρ' g' => some (.ct ρ' g') := rfl
@[simp] theorem ev_if : ifD c s t ρ g = (c ρ g).bind fun p => if p.1 = true then s ρ p.2 else t ρ p.2 := rfl
@[simp] theorem ev_asg {gf : GF} : asgD h gf ρ g = (h ρ g).bind fun p => (gf p.1 ρ p.2).map fun q => .nx q.1 q.2 := rfl
@[simp] theorem ev_gN (d : DV) : gN i d ρ g = some (ρ.set i (some d), g) := rfl
@[simp] theorem ev_gT {fs : GLF} (xs : List SV) : gT n fs (.sh (.tup xs)) ρ g = if xs.length = n then fs xs ρ g else none := rfl
@[simp] theorem ev_gLN : gLN [] ρ g = some (ρ, g) := rfl
@[simp] theorem ev_gLC {gf : GF} {fs : GLF} (x : SV) (xs : List SV) : gLC gf fs (x :: xs) ρ g = (gf (.sh x) ρ g).bind fun p => fs xs p.1 p.2 := rfl
@[simp] theorem ev_for {fi : IF} {gf : GF} : forD fi gf s ρ g = (fi ρ g).bind fun p => loopD gf s p.1 ρ p.2 := rfl
@[simp] theorem ev_iSeq : iSeq f ρ g = (f ρ g).bind fun p => p.1.seq?.map fun xs => (xs, p.2) := rfl
@[simp] theorem ev_seqt (xs : List SV) : (SV.tup xs).seq? = some xs := rfl
@[simp] theorem ev_seql (xs : List SV) : (SV.lst xs).seq? = some xs := rfl
@[simp] theorem ev_iR1 : iR1 f ρ g = (f ρ g).bind fun p => match p.1 with
  | .int n => if rngOk n = true then some (rngL 0 n.toNat, p.2) else none
  | _ => none := rfl
@[simp] theorem ev_iR2 : iR2 fa fb ρ g = (fa ρ g).bind fun p => (fb ρ p.2).bind fun q => match p.1, q.1 with
  | .int a, .int b => if rngOk a = true ∧ rngOk b = true then some (rngL a (b - a).toNat, q.2) else none
  | _, _ => none := rfl
@[simp] theorem ev_iNum : iNum f ρ g = (f ρ g).bind fun p => p.1.l?.map fun xs => (numL xs, p.2) := rfl
@[simp] theorem ev_lq (xs : List SV) : (SV.lst xs).l? = some xs := rfl
@[simp] theorem ev_iZp : iZp fa fb ρ g = (fa ρ g).bind fun p => (fb ρ p.2).bind fun q => (hZip p.1 q.1).map fun xs => (xs, q.2) := rfl
@[simp] theorem ev_zl (xs ys : List SV) : hZip (.lst xs) (.lst ys) = some (zipL xs ys) := rfl
@[simp] theorem ev_zt (xs ys : List SV) : hZip (.tup xs) (.tup ys) = some (zipL xs ys) := rfl
@[simp] theorem ev_lenP : lenP h ρ g = (h ρ g).bind fun p => p.1.len?.map fun n => (.int (n : Nat), p.2) := rfl
@[simp] theorem ev_lno (ds : List DV) : (DV.own ds).len? = some ds.length := rfl
@[simp] theorem ev_lnt (xs : List SV) : (DV.sh (.tup xs)).len? = some xs.length := rfl
@[simp] theorem ev_lnl (xs : List SV) : (DV.sh (.lst xs)).len? = some xs.length := rfl
@[simp] theorem ev_listP : listP h ρ g = (h ρ g).bind fun p => p.1.items?.map fun xs => (.own (xs.map .sh), p.2) := rfl
@[simp] theorem ev_tupleP : tupleP h ρ g = (h ρ g).bind fun p => p.1.items?.map fun xs => (.tup xs, p.2) := rfl
@[simp] theorem ev_ito (xs : List SV) : (DV.own (xs.map .sh)).items? = some xs := mapM_sh xs
@[simp] theorem ev_itt (xs : List SV) : (DV.sh (.tup xs)).items? = some xs := rfl
@[simp] theorem ev_itl (xs : List SV) : (DV.sh (.lst xs)).items? = some xs := rfl
@[simp] theorem ev_isi (T : String) : isiP T h ρ g = (h ρ g).bind fun p => p.1.ty?.bind fun t => (L2.kitB t T).map fun b => (.bl b, p.2) := rfl
@[simp] theorem ev_tyo (ds : List DV) : (DV.own ds).ty? = some "list" := rfl
@[simp] theorem ev_tyi (i : Int) : (DV.sh (.int i)).ty? = some "int" := rfl
@[simp] theorem ev_tyb (b : Bool) : (DV.sh (.bl b)).ty? = some "bool" := rfl
@[simp] theorem ev_tyt (xs : List SV) : (DV.sh (.tup xs)).ty? = some "tuple" := rfl
@[simp] theorem ev_tyl (xs : List SV) : (DV.sh (.lst xs)).ty? = some "list" := rfl
@[simp] theorem ev_tyn : (DV.sh .non).ty? = some "NoneType" := rfl
@[simp] theorem kit_ii : L2.kitB "int" "int" = some true := by decide +kernel
@[simp] theorem kit_ib : L2.kitB "int" "bool" = some false := by decide +kernel
@[simp] theorem kit_it : L2.kitB "int" "tuple" = some false := by decide +kernel
@[simp] theorem kit_il : L2.kitB "int" "list" = some false := by decide +kernel
@[simp] theorem kit_bi : L2.kitB "bool" "int" = some true := by decide +kernel
@[simp] theorem kit_bb : L2.kitB "bool" "bool" = some true := by decide +kernel
@[simp] theorem kit_tt : L2.kitB "tuple" "tuple" = some true := by decide +kernel
@[simp] theorem kit_tl : L2.kitB "tuple" "list" = some false := by decide +kernel
@[simp] theorem kit_ll : L2.kitB "list" "list" = some true := by decide +kernel
@[simp] theorem kit_lt : L2.kitB "list" "tuple" = some false := by decide +kernel
@[simp] theorem kit_nt : L2.kitB "NoneType" "tuple" = some false := by decide +kernel
@[simp] theorem ev_frzs (s : SV) : (DV.sh s).frz = s := by unfold DV.frz; rfl
@[simp] theorem ev_frzo (xs : List SV) : (DV.own (xs.map .sh)).frz = .lst xs := by unfold DV.frz; rw [frzs_sh]
@[simp] theorem ev_frz0 : (DV.own []).frz = .lst [] := by unfold DV.frz DV.frzs; rfl
@[simp] theorem ev_comp {fi : IF} {wf : WF} {vs : List Nat} : compD fi wf c h vs ρ g = (fi ρ g).bind fun p => if lenOk p.1.length = true then (compL wf c h (wipeE ρ vs) p.1 p.2).map fun q => (.own q.1, q.2) else none := rfl
@[simp] theorem ev_yes : yesT ρ g = some (true, g) := rfl
@[simp] theorem ev_wN (s : SV) : wN i s ρ = some (ρ.set i (some (.sh s))) := rfl
@[simp] theorem ev_wipe0 : wipeE ρ [] = ρ := rfl
@[simp] theorem ev_wipe1 (v : Nat) (vs : List Nat) : wipeE ρ (v :: vs) = (wipeE ρ vs).set v none := rfl
@[simp] theorem ev_frzD : frzD i s ρ g = (s ρ g).map fun r => match r with
  | .nx ρ' g' => .nx (frzEnv i ρ') g'
  | r => r := rfl
theorem frz_get {d : DV} (h : ρ[i]? = some (some d)) : frzEnv i ρ = ρ.set i (some (.sh d.frz)) := by unfold frzEnv; rw [h]
theorem frz_none (h : ρ[i]? = some none) : frzEnv i ρ = ρ := by unfold frzEnv; rw [h]
@[simp] theorem ev_retV : retV i ρ g = match ρ[i]? with
  | some (some d) => some (.rt d g)
  | _ => none := rfl
@[simp] theorem ev_app : appD i h ρ g = match ρ[i]? with
  | some (some (.own ds)) => (h ρ g).bind fun p => if lenOk ds.length = true then some (.nx (ρ.set i (some (.own (ds ++ [p.1])))) p.2) else none
  | _ => none := rfl
@[simp] theorem ev_gIx (d : DV) : gIx i f d ρ g = match ρ[i]? with
  | some (some (.own ds)) => (f ρ g).bind fun p => match p.1 with
    | .int k => (L2.ixN ds.length k).map fun j => (ρ.set i (some (.own (ds.set j d))), p.2)
    | _ => none
  | _ => none := rfl
end
@[simp] theorem ev_fn {n N : Nat} {b : SF} {ss : List SV} {g : GS} : fnF n N b ss g = if ss.length = n then (b (env0 N ss) g).bind fun r => match r with
  | .rt d g' => some (d, g')
  | .nx _ g' => some (.sh .non, g')
  | _ => none
else none := rfl
@[simp] theorem ev_env0 {N : Nat} {ss : List SV} : env0 N ss = ss.map (fun s => some (.sh s)) ++ List.replicate (N - ss.length) none := rfl
@[simp] theorem ev_callD {F : FF} {fs : AF} {ρ : Env} {g : GS} (ds : List SV) : callD F fs ds ρ g = (fs ρ g).bind fun p => F (p.1 ++ ds) p.2 := rfl
@[simp] theorem ev_callN {F : FF} {fs ks : AF} {ρ : Env} {g : GS} (m : Nat) : callN F m fs ks ρ g = (fs ρ g).bind fun p => (ks ρ p.2).bind fun q => if q.1.length = m then F (p.1 ++ q.1) q.2 else none := rfl
@[simp] theorem ev_callB {F : FF} {os : AOF} {ρ : Env} {g : GS} : callB F os ρ g = (os ρ g).bind fun p => (F (p.1.map DV.frz) p.2).bind fun r => r.1.atom?.map fun s => (s, r.2) := rfl
@[simp] theorem ev_callBO {F : FF} {os : AOF} {ρ : Env} {g : GS} : callBO F os ρ g = (os ρ g).bind fun p => (F (p.1.map DV.frz) p.2).bind fun r => if r.1.noL = true then some r else none := rfl
@[simp] theorem ev_nl_i (b : Int) : (DV.sh (.int b)).noL = true := rfl
@[simp] theorem ev_nl_b (b : Bool) : (DV.sh (.bl b)).noL = true := rfl
@[simp] theorem ev_nl_n : (DV.sh .non).noL = true := rfl
@[simp] theorem ev_atb (b : Bool) : (DV.sh (.bl b)).atom? = some (.bl b) := rfl
@[simp] theorem ev_ati (b : Int) : (DV.sh (.int b)).atom? = some (.int b) := rfl
@[simp] theorem ev_atn : (DV.sh .non).atom? = some .non := rfl
@[simp] theorem ev_repF {h : OF} {f : EF} {ρ : Env} {g : GS} : repF h f ρ g = (h ρ g).bind fun p => (f ρ p.2).bind fun q => match p.1.lst?, q.1 with
  | some xs, .int k => (hRep xs k).map fun ys => (.own (ys.map .sh), q.2)
  | _, _ => none := rfl
@[simp] theorem ev_catF {h k : OF} {ρ : Env} {g : GS} : catF h k ρ g = (h ρ g).bind fun p => (k ρ p.2).bind fun q => match p.1.lst?, q.1.lst? with
  | some xs, some ys => (hCatL xs ys).map fun zs => (.own (zs.map .sh), q.2)
  | _, _ => none := rfl
@[simp] theorem ev_lsl (xs : List SV) : (DV.sh (.lst xs)).lst? = some xs := rfl
@[simp] theorem ev_lso (xs : List SV) : (DV.own (xs.map .sh)).lst? = some xs := mapM_sh xs
@[simp] theorem ev_lso1 (x : SV) : (DV.own [.sh x]).lst? = some [x] := rfl
@[simp] theorem ev_frz1 (x : SV) : (DV.own [.sh x]).frz = .lst [x] := ev_frzo [x]
theorem hRep_one {x : SV} {n : Nat} (h : n ≤ 1000) : hRep [x] (n : Int) = some (List.replicate n x) := by
  unfold hRep
  rw [if_pos ⟨by rw [Int.natAbs_natCast]; exact lenOk_of (by omega), by exact lenOk_of (by show 1 * ((n : Nat) : Int).toNat ≤ _; rw [Int.toNat_natCast]; omega)⟩]
  congr 1
  rw [Int.toNat_natCast]
  induction n with
  | zero => rfl
  | succ n ih => rw [List.replicate_succ, List.flatten_cons, ih (by omega), List.replicate_succ]; rfl
@[simp] theorem ev_slP {h : OF} {lo hi : PF} {ρ : Env} {g : GS} : slP h lo hi ρ g = (h ρ g).bind fun p => (lo ρ p.2).bind fun q => (hi ρ q.2).bind fun r => match p.1 with
  | .sh (.tup xs) => some (.sh (.tup (cutS xs q.1 r.1)), r.2)
  | d => d.lst?.map fun xs => (.own ((cutS xs q.1 r.1).map .sh), r.2) := rfl
@[simp] theorem ev_ptN {ρ : Env} {g : GS} : ptN ρ g = some (none, g) := rfl
@[simp] theorem ev_ptS {f : EF} {ρ : Env} {g : GS} : ptS f ρ g = (f ρ g).bind fun p => match p.1 with | .int i => some (some i, p.2) | _ => none := rfl
@[simp] theorem ev_sortP {h : OF} {ρ : Env} {g : GS} : sortP h ρ g = (h ρ g).bind fun p => (p.1.lst?.bind fun xs => xs.mapM SV.i?).map fun ns => (.own (((sortI ns).map SV.int).map .sh), p.2) := rfl
@[simp] theorem ev_mapi (ns : List Int) : (ns.map SV.int).mapM SV.i? = some ns := mapM_i ns
@[simp] theorem ev_extD {i : Nat} {f : EF} {ρ : Env} {g : GS} : extD i f ρ g = match ρ[i]? with
  | some (some (.own ds)) => (f ρ g).bind fun p => match p.1 with
    | .lst xs => if lenOk (ds.length + xs.length) = true then some (.nx (ρ.set i (some (.own (ds ++ xs.map .sh)))) p.2) else none
    | _ => none
  | _ => none := rfl
@[simp] theorem ev_popD {j i : Nat} {ρ : Env} {g : GS} : popD j i ρ g = match ρ[i]? with
  | some (some (.own ds)) => (lastS ds).map fun s => .nx ((ρ.set i (some (.own ds.dropLast))).set j (some (.sh s))) g
  | _ => none := rfl
@[simp] theorem ev_pop0D {i : Nat} {ρ : Env} {g : GS} : pop0D i ρ g = match ρ[i]? with
  | some (some (.own ds)) => (lastS ds).map fun _ => .nx (ρ.set i (some (.own ds.dropLast))) g
  | _ => none := rfl
theorem lastS_snoc : ∀ (ds : List DV) (s : SV), lastS (ds ++ [.sh s]) = some s
  | [], _ => rfl
  | [d], s => rfl
  | _ :: d :: ds, s => by show lastS (d :: (ds ++ [.sh s])) = _; exact lastS_snoc (d :: ds) s
@[simp] theorem ev_revD {i : Nat} {ρ : Env} {g : GS} : revD i ρ g = match ρ[i]? with
  | some (some (.own ds)) => (ds.mapM DV.sh?).map fun xs => .nx (ρ.set i (some (.own (xs.reverse.map .sh)))) g
  | _ => none := rfl
@[simp] theorem ev_mapsh (xs : List SV) : (xs.map DV.sh).mapM DV.sh? = some xs := mapM_sh xs
@[simp] theorem ev_clrD {i : Nat} {ρ : Env} {g : GS} : clrD i ρ g = match ρ[i]? with
  | some (some (.own _)) => some (.nx (ρ.set i (some (.own []))) g)
  | _ => none := rfl
theorem while_step {c : TF} {sb : SF} {n : Nat} {ρ ρ' : Env} {g g1 g' : GS} (h : c ρ g = some (true, g1)) (h2 : sb ρ g1 = some (.nx ρ' g')) : whileN c sb (n + 1) ρ g = whileN c sb n ρ' g' := by
  conv => lhs; unfold whileN
  rw [h, Option.bind_some, if_pos rfl, h2, Option.bind_some]
theorem while_end {c : TF} {sb : SF} {n : Nat} {ρ : Env} {g g1 : GS} (h : c ρ g = some (false, g1)) : whileN c sb (n + 1) ρ g = some (.nx ρ g1) := by
  conv => lhs; unfold whileN
  rw [h, Option.bind_some, if_neg Bool.false_ne_true]
theorem at_last {α : Type} (xs : List α) (x : α) : L2.atI (xs ++ [x]) (-1) = some x := by
  unfold L2.atI L2.ixN
  rw [if_neg (by omega), if_pos (by simp; omega)]
  have e : (-1 + ((xs ++ [x]).length : Int)).toNat = xs.length := by rw [List.length_append]; simp; omega
  rw [Option.bind_some, e, List.getElem?_append_right (Nat.le_refl _)]
  simp
/-- a loop by an invariant -/
theorem loop_inv {α : Type} {gf : GF} {sb : SF} (enc : α → SV) (I : Nat → Env → GS → Prop) : ∀ (xs : List α) (ρ : Env) (g : GS) (k : Nat), I k ρ g →
    (∀ i x ρ g, xs[i]? = some x → I (k + i) ρ g → ∃ ρ' g', ((gf (.sh (enc x)) ρ g).bind fun p => sb p.1 p.2) = some (.nx ρ' g') ∧ I (k + i + 1) ρ' g') →
    ∃ ρ' g', loopD gf sb (xs.map enc) ρ g = some (.nx ρ' g') ∧ I (k + xs.length) ρ' g'
  | [], ρ, g, k, h0, _ => ⟨ρ, g, rfl, h0⟩
  | x :: xs, ρ, g, k, h0, hs => by
    obtain ⟨ρ1, g1, e, h1⟩ := hs 0 x ρ g rfl h0
    obtain ⟨ρ2, g2, e2, h2⟩ := loop_inv enc I xs ρ1 g1 (k + 1) h1 (fun i y ρ g hy hI => by
      obtain ⟨a, b, c, d⟩ := hs (i + 1) y ρ g (by simpa using hy) (by rw [show k + (i + 1) = k + 1 + i by omega]; exact hI)
      exact ⟨a, b, c, by rw [show k + 1 + i + 1 = k + (i + 1) + 1 by omega]; exact d⟩)
    refine ⟨ρ2, g2, ?_, by rw [List.length_cons, show k + (xs.length + 1) = k + 1 + xs.length by omega]; exact h2⟩
    rw [List.map_cons]
    unfold loopD
    obtain ⟨p, e3, e4⟩ := Option.bind_eq_some_iff.mp e
    rw [e3, Option.bind_some, e4, Option.bind_some]
    exact e2
theorem range_map (lo : Int) (n : Nat) : rngL lo n = (List.range n).map fun (i : Nat) => SV.int (lo + (i : Int)) := rfl
/-- a loop over range -/
theorem loop_rng {gf : GF} {sb : SF} {lo : Int} {n : Nat} (I : Nat → Env → GS → Prop) {ρ : Env} {g : GS} (h0 : I 0 ρ g) (hs : ∀ i ρ g, i < n → I i ρ g → ∃ ρ' g', ((gf (.sh (.int (lo + (i : Nat)))) ρ g).bind fun p => sb p.1 p.2) = some (.nx ρ' g') ∧ I (i + 1) ρ' g') :
    ∃ ρ' g', loopD gf sb (rngL lo n) ρ g = some (.nx ρ' g') ∧ I n ρ' g' := by
  have := loop_inv (gf := gf) (sb := sb) (fun (i : Nat) => SV.int (lo + (i : Int))) I (List.range n) ρ g 0 h0 (fun i x ρ g hx hI => by
    obtain ⟨h1, h2⟩ := List.getElem?_eq_some_iff.mp hx
    rw [List.getElem_range] at h2
    subst h2
    rw [List.length_range] at h1
    rw [Nat.zero_add] at hI ⊢
    exact hs i ρ g h1 hI)
  rw [List.length_range, Nat.zero_add] at this
  exact this
/-- a loop over a list -/
theorem loop_lst {α : Type} {gf : GF} {sb : SF} (enc : α → SV) {xs : List α} (I : Nat → Env → GS → Prop) {ρ : Env} {g : GS} (h0 : I 0 ρ g)
    (hs : ∀ i x ρ g, xs[i]? = some x → I i ρ g → ∃ ρ' g', ((gf (.sh (enc x)) ρ g).bind fun p => sb p.1 p.2) = some (.nx ρ' g') ∧ I (i + 1) ρ' g') :
    ∃ ρ' g', loopD gf sb (xs.map enc) ρ g = some (.nx ρ' g') ∧ I xs.length ρ' g' := by
  have := loop_inv (gf := gf) (sb := sb) enc I xs ρ g 0 h0 (fun i x ρ g hx hI => by
    rw [Nat.zero_add] at hI ⊢
    exact hs i x ρ g hx hI)
  rw [Nat.zero_add] at this
  exact this
/-- a comprehension without condition -/
theorem comp_map {α β : Type} {wf : WF} {f : OF} {ρ : Env} (enc : α → SV) (res : α → DV) : ∀ (xs : List α) (g : GS), (∀ x ∈ xs, ∀ g, ((wf (enc x) ρ).bind fun ρ' => f ρ' g) = some (res x, g)) → compL wf yesT f ρ (xs.map enc) g = some (xs.map res, g)
  | [], g, _ => rfl
  | x :: xs, g, h => by
    have h1 := h x List.mem_cons_self g
    obtain ⟨ρ', e1, e2⟩ := Option.bind_eq_some_iff.mp h1
    rw [List.map_cons, List.map_cons]
    unfold compL
    rw [e1, Option.bind_some, ev_yes, Option.bind_some, if_pos rfl, e2, Option.bind_some, comp_map (β := β) enc res xs g fun y hy g => h y (List.mem_cons_of_mem _ hy) g]
    rfl
theorem loop_nx {gf : GF} {sb : SF} {x : SV} {xs : List SV} {ρ ρ' : Env} {g g' : GS} (h : ((gf (.sh x) ρ g).bind fun p => sb p.1 p.2) = some (.nx ρ' g')) : loopD gf sb (x :: xs) ρ g = loopD gf sb xs ρ' g' := by
  obtain ⟨p, e1, e2⟩ := Option.bind_eq_some_iff.mp h
  conv => lhs; unfold loopD
  rw [e1, Option.bind_some, e2, Option.bind_some]
theorem loop_bk {gf : GF} {sb : SF} {x : SV} {xs : List SV} {ρ ρ' : Env} {g g' : GS} (h : ((gf (.sh x) ρ g).bind fun p => sb p.1 p.2) = some (.bk ρ' g')) : loopD gf sb (x :: xs) ρ g = some (.nx ρ' g') := by
  obtain ⟨p, e1, e2⟩ := Option.bind_eq_some_iff.mp h
  conv => lhs; unfold loopD
  rw [e1, Option.bind_some, e2, Option.bind_some]
@[simp] theorem loop_nil {gf : GF} {sb : SF} {ρ : Env} {g : GS} : loopD gf sb [] ρ g = some (.nx ρ g) := rfl

@[simp] theorem toNat_c (n : Nat) : ((n : Nat) : Int).toNat = n := rfl
end DL

namespace DL
/-! ratios -/
def fr (q : Int × Int) : SV := .tup [.int q.1, .int q.2]
def Sz (k : Nat) (x : Int) : Prop := x.natAbs < 2 ^ k
theorem Sz.mono {k l : Nat} {x : Int} (h : Sz k x) (hl : k ≤ l) : Sz l x := Nat.lt_of_lt_of_le h (Nat.pow_le_pow_right (by decide) hl)
theorem Sz.log {k l : Nat} {x : Int} (h : Sz k x) (hl : k ≤ l) (h0 : 0 < l) : x.natAbs.log2 < l := log2_of_lt h0 (h.mono hl)
theorem Sz.mul {k l : Nat} {x y : Int} (h : Sz k x) (h' : Sz l y) : Sz (k + l) (x * y) := by
  unfold Sz at *
  rw [Int.natAbs_mul, Nat.pow_add]
  exact Nat.mul_lt_mul'' h h'
theorem Sz.add {k l : Nat} {x y : Int} (h : Sz k x) (h' : Sz l y) : Sz (max k l + 1) (x + y) := by
  have h1 := h.mono (Nat.le_max_left k l)
  have h2 := h'.mono (Nat.le_max_right k l)
  unfold Sz at *
  rw [Nat.pow_succ]
  omega
theorem Sz.neg {k : Nat} {x : Int} (h : Sz k x) : Sz k (-x) := by unfold Sz at *; omega
theorem Sz.sub {k l : Nat} {x y : Int} (h : Sz k x) (h' : Sz l y) : Sz (max k l + 1) (x - y) := by rw [Int.sub_eq_add_neg]; exact h.add h'.neg
theorem mulOk_of {k l : Nat} {x y : Int} (h : Sz k x) (h' : Sz l y) (hk : k ≤ 60000000) (hl : l ≤ 60000000) : mulOk x y = true := by
  unfold mulOk
  exact decide_eq_true ⟨h.log hk (by decide), h'.log hl (by decide)⟩
theorem divOk_of {k : Nat} {x y : Int} (h0 : 0 < y) (h : Sz k y) (hk : k ≤ 9000) : divOk x y = true := by
  unfold divOk
  exact decide_eq_true ⟨h0, h.log hk (by decide)⟩
/-- n / d in lowest terms -/
def rat (n d : Int) : Int × Int :=
  if d < 0 then (-n / (Nat.gcd n.natAbs d.natAbs : Int), -d / (Nat.gcd n.natAbs d.natAbs : Int)) else (n / (Nat.gcd n.natAbs d.natAbs : Int), d / (Nat.gcd n.natAbs d.natAbs : Int))

/-- a fraction -/
def Fr (q : Int × Int) : Prop := 0 < q.2 ∧ Nat.gcd q.1.natAbs q.2.natAbs = 1
structure FrS (k : Nat) (q : Int × Int) : Prop where
  fr : Fr q
  n : Sz k q.1
  d : Sz k q.2
theorem FrS.mono {k l : Nat} {q : Int × Int} (h : FrS k q) (hl : k ≤ l) : FrS l q := ⟨h.fr, h.n.mono hl, h.d.mono hl⟩
theorem gcdI_dvd_left (n d : Int) : ((Nat.gcd n.natAbs d.natAbs : Nat) : Int) ∣ n := Int.ofNat_dvd_left.mpr (Nat.gcd_dvd_left _ _)
theorem gcdI_dvd_right (n d : Int) : ((Nat.gcd n.natAbs d.natAbs : Nat) : Int) ∣ d := Int.ofNat_dvd_left.mpr (Nat.gcd_dvd_right _ _)
theorem natAbs_ediv_dvd {n c : Int} (h : c ∣ n) : (n / c).natAbs = n.natAbs / c.natAbs := Int.natAbs_ediv_of_dvd h
theorem gcd_div_self {a b : Nat} (h : 0 < Nat.gcd a b) : Nat.gcd (a / Nat.gcd a b) (b / Nat.gcd a b) = 1 := by
  rw [Nat.gcd_div (Nat.gcd_dvd_left a b) (Nat.gcd_dvd_right a b), Nat.div_self h]
/-- the quotients by the gcd -/
theorem quo_facts {n d : Int} (hd : 0 < d) : Fr (n / (Nat.gcd n.natAbs d.natAbs : Int), d / (Nat.gcd n.natAbs d.natAbs : Int)) ∧ (n / (Nat.gcd n.natAbs d.natAbs : Int)) * d = n * (d / (Nat.gcd n.natAbs d.natAbs : Int)) ∧
    (n / (Nat.gcd n.natAbs d.natAbs : Int)).natAbs ≤ n.natAbs ∧ (d / (Nat.gcd n.natAbs d.natAbs : Int)).natAbs ≤ d.natAbs := by
  have hg : 0 < Nat.gcd n.natAbs d.natAbs := Nat.gcd_pos_of_pos_right _ (by omega)
  obtain ⟨x, hx⟩ := gcdI_dvd_left n d
  obtain ⟨y, hy⟩ := gcdI_dvd_right n d
  have hgi : (Nat.gcd n.natAbs d.natAbs : Int) ≠ 0 := by omega
  have ex : n / (Nat.gcd n.natAbs d.natAbs : Int) = x := Int.ediv_eq_of_eq_mul_right hgi hx
  have ey : d / (Nat.gcd n.natAbs d.natAbs : Int) = y := Int.ediv_eq_of_eq_mul_right hgi hy
  refine ⟨⟨?_, ?_⟩, ?_, ?_, ?_⟩
  · show 0 < d / (Nat.gcd n.natAbs d.natAbs : Int)
    exact Int.ediv_pos_of_pos_of_dvd hd (by omega) (gcdI_dvd_right n d)
  · show Nat.gcd (n / (Nat.gcd n.natAbs d.natAbs : Int)).natAbs (d / (Nat.gcd n.natAbs d.natAbs : Int)).natAbs = 1
    rw [natAbs_ediv_dvd (gcdI_dvd_left n d), natAbs_ediv_dvd (gcdI_dvd_right n d), Int.natAbs_natCast]
    exact gcd_div_self hg
  · rw [ex, ey]
    conv => lhs; rw [hy]
    conv => rhs; rw [hx]
    rw [← Int.mul_assoc, Int.mul_comm x]
  · rw [natAbs_ediv_dvd (gcdI_dvd_left n d)]; exact Nat.div_le_self _ _
  · rw [natAbs_ediv_dvd (gcdI_dvd_right n d)]; exact Nat.div_le_self _ _
theorem rat_pos {n d : Int} (hd : 0 < d) : rat n d = (n / (Nat.gcd n.natAbs d.natAbs : Int), d / (Nat.gcd n.natAbs d.natAbs : Int)) := by
  unfold rat; rw [if_neg (by omega)]
theorem rat_neg {n d : Int} (hd : d < 0) : rat n d = rat (-n) (-d) := by
  rw [rat_pos (by omega : 0 < -d), Int.natAbs_neg, Int.natAbs_neg]
  unfold rat; rw [if_pos hd]
theorem rat_facts {n d : Int} (hd : d ≠ 0) : Fr (rat n d) ∧ (rat n d).1 * d = n * (rat n d).2 ∧ (rat n d).1.natAbs ≤ n.natAbs ∧ (rat n d).2.natAbs ≤ d.natAbs := by
  by_cases h : 0 < d
  · rw [rat_pos h]; exact quo_facts h
  · have h' : d < 0 := by omega
    rw [rat_neg h']
    have z := quo_facts (n := -n) (d := -d) (by omega)
    rw [rat_pos (by omega)]
    refine ⟨z.1, ?_, by have := z.2.2.1; omega, by have := z.2.2.2; omega⟩
    have z2 := z.2.1
    rw [Int.mul_neg, Int.neg_mul] at z2
    exact Int.neg_inj.mp z2
theorem rat_fr {n d : Int} (hd : d ≠ 0) : Fr (rat n d) := (rat_facts hd).1
theorem rat_eq {n d : Int} (hd : d ≠ 0) : (rat n d).1 * d = n * (rat n d).2 := (rat_facts hd).2.1
theorem rat_szs {n d : Int} {k : Nat} (hd : d ≠ 0) (h1 : Sz k n) (h2 : Sz k d) : FrS k (rat n d) :=
  ⟨rat_fr hd, Nat.lt_of_le_of_lt (rat_facts hd).2.2.1 h1, Nat.lt_of_le_of_lt (rat_facts hd).2.2.2 h2⟩
theorem ratio_eq {n d : Int} {k : Nat} {g : GS} (hd : d ≠ 0) (hs : Sz k d) (hk : k ≤ 9000) : F_ratio [.int n, .int d] g = some (.sh (fr (rat n d)), g) := by
  have hg0 : 0 < (Nat.gcd n.natAbs d.natAbs : Int) := by
    have := Nat.gcd_pos_of_pos_right n.natAbs (Int.natAbs_pos.mpr hd)
    omega
  have hgs : Sz k (Nat.gcd n.natAbs d.natAbs : Int) := by
    have h1 := Nat.le_of_dvd (Int.natAbs_pos.mpr hd) (Nat.gcd_dvd_right n.natAbs d.natAbs)
    unfold Sz at *
    omega
  have e1 : ∀ x, divOk x (Nat.gcd n.natAbs d.natAbs : Int) = true := fun x => divOk_of hg0 hgs hk
  unfold F_ratio rat fr
  by_cases h : d < 0
  · simp [B_ratio, h, e1, Int.natAbs_neg]
  · simp [B_ratio, h, e1]

/-! Euclid in 4000 turns -/
def fib2 : Nat → Nat × Nat
  | 0 => (0, 1)
  | n + 1 => ((fib2 n).2, (fib2 n).1 + (fib2 n).2)
def fib (n : Nat) : Nat := (fib2 n).1
theorem fib_ss (n : Nat) : fib (n + 2) = fib n + fib (n + 1) := rfl
theorem fib_mono (n : Nat) : fib (n + 1) ≤ fib (n + 2) := by rw [fib_ss]; omega
theorem fib_mono' : ∀ n : Nat, fib n ≤ fib (n + 1)
  | 0 => by decide
  | n + 1 => fib_mono n
def gcdBody : SF := seqD (ifD (tB1 (b2 hEq (vS 1) (kS (.int 0)))) (brkD) (skipD))
  (seqD (setD 3 (oS (b2 hMod (c1 hInt (aC (vS 0) (aN))) (vS 1))))
  (seqD (setD 0 (oS (vS 1)))
  (setD 1 (oS (vS 3)))))
theorem gcd_loop : ∀ (n : Nat) (xs : List SV), xs.length = n → ∀ (a b : Nat), b < fib (n + 2) → ∀ (x y : Option DV) (g : GS), ∃ x' y',
    loopD (gN 2) gcdBody xs [some (.sh (.int a)), some (.sh (.int b)), x, y] g = some (.nx [some (.sh (.int (Nat.gcd a b : Nat))), some (.sh (.int 0)), x', y'] g) := by
  intro n
  induction n using Nat.strongRecOn with
  | ind n ih =>
    intro xs hl a b hb x y g
    by_cases h0 : b = 0
    · subst h0
      cases xs with
      | nil => exact ⟨x, y, by simp [loopD]⟩
      | cons z zs => exact ⟨some (.sh z), y, by simp [loopD, gcdBody]⟩
    · cases xs with
      | nil =>
        subst hl
        have : fib (0 + 2) = 1 := rfl
        simp only [List.length_nil] at hb
        omega
      | cons z zs =>
        have step : ∀ (a b : Nat) (z : SV) (zs : List SV) (x y : Option DV), b ≠ 0 → loopD (gN 2) gcdBody (z :: zs) [some (.sh (.int a)), some (.sh (.int b)), x, y] g = loopD (gN 2) gcdBody zs [some (.sh (.int b)), some (.sh (.int ((a % b : Nat) : Int))), some (.sh z), some (.sh (.int ((a % b : Nat) : Int)))] g := fun a b z zs x y h0 => by
          have hm : modOk (a : Int) (b : Int) = true := by unfold modOk; exact decide_eq_true (by omega)
          exact loop_nx (by simp [gcdBody, h0, hm])
        have gs : ∀ a b : Nat, Nat.gcd b (a % b) = Nat.gcd a b := fun a b => by rw [Nat.gcd_comm b, ← Nat.gcd_rec, Nat.gcd_comm]
        rw [step a b z zs x y h0]
        have hg := gs a b
        have hlt : a % b < b := Nat.mod_lt _ (by omega)
        generalize a % b = r at *
        simp only [List.length_cons] at hl
        subst hl
        by_cases h1 : r < fib (zs.length + 2)
        · obtain ⟨x', y', e⟩ := ih zs.length (by omega) zs rfl b r h1 (some (.sh z)) (some (.sh (.int (r : Int)))) g
          rw [hg] at e
          exact ⟨x', y', e⟩
        · cases zs with
          | nil =>
            exfalso
            simp only [List.length_nil] at hb h1
            have e2 : fib (0 + 1 + 2) = 2 := rfl
            have e3 : fib (0 + 2) = 1 := rfl
            omega
          | cons z2 zs =>
            simp only [List.length_cons] at hb h1 ⊢
            have f1 : fib (zs.length + 1 + 1 + 2) = fib (zs.length + 2) + fib (zs.length + 1 + 2) := fib_ss _
            have f2 : fib (zs.length + 2) ≤ fib (zs.length + 1 + 2) := fib_mono' (zs.length + 2)
            have hr0 : r ≠ 0 := by
              have h3 : 0 < fib (zs.length + 1 + 2) := by
                have : ∀ n, 0 < fib (n + 1) := fun n => by
                  induction n with
                  | zero => decide
                  | succ n ih => exact Nat.lt_of_lt_of_le ih (fib_mono' (n + 1))
                exact this _
              omega
            rw [step b r z2 zs _ _ hr0]
            have hg2 := gs b r
            have hlt2 : b % r < fib (zs.length + 2) := by
              rw [Nat.mod_eq_sub_mod (Nat.le_of_lt hlt), Nat.mod_eq_of_lt (by omega)]
              omega
            obtain ⟨x', y', e⟩ := ih zs.length (by simp only [List.length_cons]; omega) zs rfl r (b % r) hlt2 (some (.sh z2)) (some (.sh (.int ((b % r : Nat) : Int)))) g
            rw [hg2, hg] at e
            exact ⟨x', y', e⟩
theorem fib_big : 2 ^ 2700 ≤ fib 4002 := by decide +kernel
theorem law_gcd_eq {a b : Int} {g : GS} (hb : Sz 2700 b) : F_law_gcd [.int a, .int b] g = some (.sh (.int (Nat.gcd a.natAbs b.natAbs : Nat)), g) := by
  have ea : ∀ x : Int, (if x < 0 then -x else x) = (x.natAbs : Int) := fun x => by split <;> omega
  obtain ⟨x', y', e⟩ := gcd_loop 4000 (rngL 0 4000) (by unfold rngL; simp) a.natAbs b.natAbs (Nat.lt_of_lt_of_le hb fib_big) none none g
  unfold gcdBody at e
  simp [F_law_gcd, B_law_gcd, ea, e, show rngOk 4000 = true by decide]
theorem isint_eq (a : Int) (g : GS) : F_law_is_integer [.int a] g = some (.sh (.bl true), g) := by simp [F_law_is_integer, B_law_is_integer]
theorem same_eq {q : Int × Int} {n d : Int} {k l : Nat} {g : GS} (hq : FrS k q) (hk : k ≤ 2700) (hn : Sz l n) (hd : Sz l d) (hl : l ≤ 60000000) (e : q.1 * d = n * q.2) : F_law_same [fr q, .int n, .int d] g = some (.sh (.bl true), g) := by
  have h1 : ¬ q.2 < 1 := by have := hq.fr.1; omega
  have hg : F_law_gcd [.int q.1, .int q.2] g = some (.sh (.int 1), g) := by rw [law_gcd_eq (hq.d.mono hk), hq.fr.2]; rfl
  have m1 : mulOk q.1 d = true := mulOk_of hq.n hd (by omega) hl
  have m2 : mulOk n q.2 = true := mulOk_of hn hq.d hl (by omega)
  simp [F_law_same, B_law_same, fr, isint_eq, h1, hg, m1, m2, e]
theorem law_form_eq {n d : Int} {g : GS} (h0 : 0 < d) (hd : Sz 2700 d) : F_law_form [.int n, .int d] g = some (.sh (fr (rat n d)), g) := by
  have hg := law_gcd_eq (a := n) (g := g) hd
  have hg0 : 0 < (Nat.gcd n.natAbs d.natAbs : Int) := by
    have := Nat.gcd_pos_of_pos_right n.natAbs (Int.natAbs_pos.mpr (Int.ne_of_gt h0))
    omega
  have hgs : Sz 2700 (Nat.gcd n.natAbs d.natAbs : Int) := by
    have h1 := Nat.le_of_dvd (Int.natAbs_pos.mpr (Int.ne_of_gt h0)) (Nat.gcd_dvd_right n.natAbs d.natAbs)
    unfold Sz at *
    omega
  have e1 : ∀ x, divOk x (Nat.gcd n.natAbs d.natAbs : Int) = true := fun x => divOk_of hg0 hgs (by decide)
  rw [rat_pos h0]
  unfold fr
  simp [F_law_form, B_law_form, hg, e1]
theorem draw_eq {b : Int} (g : GS) (h0 : 0 < b) (h1 : b < 1000000000000) : ∃ r g', drawF [.gen, .int b] g = some (.sh (.int r), g') ∧ 0 ≤ r ∧ r < b := by
  have hl : b.natAbs.log2 < 9000 := log2_of_lt (by decide) (Nat.lt_of_lt_of_le (show b.natAbs < 2 ^ 40 by omega) (Nat.pow_le_pow_right (by decide) (by decide)))
  exact ⟨(g.draw b).1, (g.draw b).2, by unfold drawF; simp [h0, hl], g.draw_lt h0⟩
def Good (o : Option Fl) : Prop := ∃ g', o = some (.rt (.sh (.bl true)) g')
theorem good_seq {s t : SF} {ρ ρ' : Env} {g g' : GS} (h : s ρ g = some (.nx ρ' g')) (k : Good (t ρ' g')) : Good (seqD s t ρ g) := by
  obtain ⟨g2, e⟩ := k
  exact ⟨g2, by rw [ev_seq, h]; exact e⟩
theorem comp_ex {β : Type} {wf : WF} {f : OF} {ρ : Env} (P : β → Prop) (res : β → DV) : ∀ (xs : List SV) (g : GS), (∀ x ∈ xs, ∀ g, ∃ b g', ((wf x ρ).bind fun ρ' => f ρ' g) = some (res b, g') ∧ P b) →
    ∃ (bs : List β) (g' : GS), compL wf yesT f ρ xs g = some (bs.map res, g') ∧ bs.length = xs.length ∧ ∀ b ∈ bs, P b
  | [], g, _ => ⟨[], g, rfl, rfl, fun b h => absurd h List.not_mem_nil⟩
  | x :: xs, g, h => by
    obtain ⟨b, g1, e, hb⟩ := h x List.mem_cons_self g
    obtain ⟨bs, g2, e2, hl, hbs⟩ := comp_ex P res xs g1 fun y hy => h y (List.mem_cons_of_mem _ hy)
    obtain ⟨ρ', e3, e4⟩ := Option.bind_eq_some_iff.mp e
    refine ⟨b :: bs, g2, ?_, by rw [List.length_cons, List.length_cons, hl], fun c hc => ?_⟩
    · unfold compL
      rw [e3, Option.bind_some, ev_yes, Option.bind_some, if_pos rfl, e4, Option.bind_some, e2]
      rfl
    · rcases List.mem_cons.mp hc with z | z
      · subst z; exact hb
      · exact hbs c z
theorem rngL_len (lo : Int) (n : Nat) : (rngL lo n).length = n := by unfold rngL; simp

/-! data: equality, membership -/
mutual
theorem pd_refl : ∀ (s : SV) (d : PySem.PyData), s.pd = some d → SV.eq s s = some true := by
  intro s d h
  cases s <;> simp only [SV.pd, reduceCtorEq, Option.map_eq_some_iff] at h
  case tup xs => obtain ⟨p, hp, _⟩ := h; simp only [SV.eq]; exact pds_refl xs p hp
  case lst xs => obtain ⟨p, hp, _⟩ := h; simp only [SV.eq]; exact pds_refl xs p hp
  all_goals simp [SV.eq]
theorem pds_refl : ∀ (xs : List SV) (ds : List PySem.PyData), SV.pds xs = some ds → SV.eqs xs xs = some true := by
  intro xs ds h
  cases xs with
  | nil => simp [SV.eqs]
  | cons x xs =>
    simp only [SV.pds, Option.bind_eq_some_iff, Option.map_eq_some_iff] at h
    obtain ⟨p, hp, q, hq, _⟩ := h
    simp only [SV.eqs]
    rw [pd_refl x p hp, pds_refl xs q hq]
    rfl
end
theorem hEqD_refl {s : SV} {d : PySem.PyData} {k : Bool → Bool} (h : s.pd = some d) (hd : s.dep ≤ 64) : hEqD k s s = some (.bl (k true)) := by
  unfold hEqD
  rw [h, pd_refl s d h]
  simp [hd]
theorem hEq_tup {xs : List SV} {d : PySem.PyData} (h : (SV.tup xs).pd = some d) (hd : (SV.tup xs).dep ≤ 64) : hEq (.tup xs) (.tup xs) = some (.bl true) := by
  have := hEqD_refl (k := fun x => x) h hd
  unfold hEq
  exact this
theorem hNe_tup {xs : List SV} {d : PySem.PyData} (h : (SV.tup xs).pd = some d) (hd : (SV.tup xs).dep ≤ 64) : hNe (.tup xs) (.tup xs) = some (.bl false) := by
  have := hEqD_refl (k := fun x => !x) h hd
  unfold hNe
  exact this
theorem pds_map {α : Type} {f : α → SV} {p : α → PySem.PyData} : ∀ (xs : List α), (∀ x ∈ xs, (f x).pd = some (p x)) → SV.pds (xs.map f) = some (xs.map p)
  | [], _ => by simp [SV.pds]
  | x :: xs, h => by
    rw [List.map_cons, List.map_cons, SV.pds, h x List.mem_cons_self, Option.bind_some, pds_map xs fun y hy => h y (List.mem_cons_of_mem _ hy)]
    rfl
theorem deps_map {α : Type} {f : α → SV} {n : Nat} : ∀ (xs : List α), (∀ x ∈ xs, (f x).dep ≤ n) → SV.deps (xs.map f) ≤ n
  | [], _ => by simp [SV.deps]
  | x :: xs, h => by
    rw [List.map_cons, SV.deps]
    exact Nat.max_le.mpr ⟨h x List.mem_cons_self, deps_map xs fun y hy => h y (List.mem_cons_of_mem _ hy)⟩
theorem fr_pd (q : Int × Int) : (fr q).pd = some (.tuple [.int q.1, .int q.2]) := by simp [fr, SV.pd, SV.pds]
theorem fr_dep (q : Int × Int) : (fr q).dep ≤ 1 := by simp [fr, SV.dep, SV.deps]
theorem frs_pd (qs : List (Int × Int)) : (SV.lst (qs.map fr)).pd = some (.list (qs.map fun q => .tuple [.int q.1, .int q.2])) := by
  rw [SV.pd, pds_map (p := fun q => .tuple [.int q.1, .int q.2]) qs fun q _ => fr_pd q]; rfl
theorem frs_dep (qs : List (Int × Int)) : (SV.lst (qs.map fr)).dep ≤ 2 := by
  rw [SV.dep]
  have := deps_map (f := fr) (n := 1) qs fun q _ => fr_dep q
  omega
theorem fr_eq (a b : Int × Int) : SV.eq (fr a) (fr b) = some (decide (a = b)) := by
  simp only [fr, SV.eq, SV.eqs, Bool.and_true]
  congr 1
  rw [Bool.eq_iff_iff]
  simp [Prod.ext_iff]
theorem mapM_some {α β : Type} {f : α → Option β} {r : α → β} : ∀ (xs : List α), (∀ x ∈ xs, f x = some (r x)) → xs.mapM f = some (xs.map r)
  | [], _ => rfl
  | x :: xs, h => by
    rw [List.mapM_cons, h x List.mem_cons_self, mapM_some xs fun y hy => h y (List.mem_cons_of_mem _ hy)]
    rfl
theorem notIn_mem {q : Int × Int} {qs : List (Int × Int)} (h : q ∈ qs) : hInD (fun x => !x) (fr q) (.lst (qs.map fr)) = some (.bl false) := by
  have hp : SV.pds (qs.map fr) = some (qs.map fun q => .tuple [.int q.1, .int q.2]) := pds_map (p := fun q => .tuple [.int q.1, .int q.2]) qs fun q _ => fr_pd q
  have hm : (qs.map fr).mapM (fun z => SV.eq z (fr q)) = some ((qs.map fr).map fun z => (SV.eq z (fr q)).getD false) := mapM_some _ fun z hz => by
    obtain ⟨y, _, rfl⟩ := List.mem_map.mp hz
    rw [fr_eq]; rfl
  have h1 := fr_dep q
  have h2 := frs_dep qs
  have ha : (((qs.map fr).map fun z => (SV.eq z (fr q)).getD false).any fun r => r) = true := by
    rw [List.any_map, List.any_map, List.any_eq_true]
    exact ⟨q, h, by simp [fr_eq]⟩
  unfold hInD
  simp only [fr_pd, hp, hm]
  rw [if_pos ⟨by omega, by omega⟩, ha]
  rfl

def lcmL : List (Int × Int) → Nat → Nat
  | [], c => c
  | q :: qs, c => lcmL qs (Nat.lcm c q.2.natAbs)
theorem lcmL_pos : ∀ (qs : List (Int × Int)) (c : Nat), 0 < c → (∀ q ∈ qs, Fr q) → 0 < lcmL qs c
  | [], c, h, _ => h
  | q :: qs, c, h, hq => lcmL_pos qs _ (Nat.lcm_pos h (by have := (hq q List.mem_cons_self).1; omega)) fun x hx => hq x (List.mem_cons_of_mem _ hx)
theorem lcmL_dvd0 : ∀ (qs : List (Int × Int)) (c : Nat), c ∣ lcmL qs c
  | [], c => Nat.dvd_refl c
  | q :: qs, c => Nat.dvd_trans (Nat.dvd_lcm_left _ _) (lcmL_dvd0 qs _)
theorem lcmL_dvd : ∀ (qs : List (Int × Int)) (c : Nat), ∀ q ∈ qs, q.2.natAbs ∣ lcmL qs c
  | q :: qs, c, x, hx => by
    rcases List.mem_cons.mp hx with e | e
    · subst e; exact Nat.dvd_trans (Nat.dvd_lcm_right c _) (lcmL_dvd0 qs _)
    · exact lcmL_dvd qs _ x e
theorem lcm_le (a b : Nat) : Nat.lcm a b ≤ a * b := by unfold Nat.lcm; exact Nat.div_le_self _ _
theorem scaled_loop {k : Nat} {g : GS} {y0 : DV} : ∀ (qs : List (Int × Int)) (c l : Nat), (∀ q ∈ qs, FrS k q) → 0 < c → c < 2 ^ l → l + qs.length * k ≤ 9000 → ∀ x : Option DV, ∃ x',
    loopD (gN 2) (setD 1 (oS (c1 hLcm (aC (vS 1) (aC (b2 hIx (vS 2) (kS (.int 1))) (aN)))))) (qs.map fr) [some y0, some (.sh (.int (c : Nat))), x] g = some (.nx [some y0, some (.sh (.int (lcmL qs c : Nat))), x'] g) ∧ lcmL qs c < 2 ^ (l + qs.length * k)
  | [], c, l, _, _, hc, hl, x => ⟨x, rfl, by simpa [lcmL] using hc⟩
  | q :: qs, c, l, hq, h0, hc, hl, x => by
    have hq1 := hq q List.mem_cons_self
    have hd : q.2.natAbs < 2 ^ k := hq1.d
    have d0 : 0 < q.2.natAbs := by have := hq1.fr.1; omega
    rw [List.length_cons, Nat.succ_mul] at hl
    have e1 : (c : Int).natAbs.log2 < 9000 := by rw [Int.natAbs_natCast]; exact log2_of_lt (by decide) (Nat.lt_of_lt_of_le hc (Nat.pow_le_pow_right (by decide) (by omega)))
    have e2 : q.2.natAbs.log2 < 9000 := log2_of_lt (by decide) (Nat.lt_of_lt_of_le hd (Nat.pow_le_pow_right (by decide) (by omega)))
    rw [Int.natAbs_natCast] at e1
    have hn : Nat.lcm c q.2.natAbs < 2 ^ (l + k) := Nat.lt_of_le_of_lt (lcm_le _ _) (by rw [Nat.pow_add]; exact Nat.mul_lt_mul'' hc hd)
    obtain ⟨x', e, hb⟩ := scaled_loop (k := k) (g := g) (y0 := y0) qs (Nat.lcm c q.2.natAbs) (l + k) (fun y hy => hq y (List.mem_cons_of_mem _ hy)) (Nat.lcm_pos h0 d0) hn (by omega) (some (.sh (fr q)))
    refine ⟨x', ?_, by rw [List.length_cons, Nat.succ_mul]; rw [show l + (qs.length * k + k) = l + k + qs.length * k by omega]; exact hb⟩
    rw [List.map_cons, loop_nx (ρ' := [some y0, some (.sh (.int (Nat.lcm c q.2.natAbs : Nat))), some (.sh (fr q))]) (g' := g)]
    · exact e
    · simp [fr, e1, e2]
theorem ediv_sz {L k : Nat} {d : Int} (hd : 0 < d) (h : L < 2 ^ k) : Sz k ((L : Int) / d) := by
  have e : (L : Int) / d = ((L / d.natAbs : Nat) : Int) := by
    rw [Int.natCast_ediv]
    congr 1
    omega
  unfold Sz
  rw [e, Int.natAbs_natCast]
  exact Nat.lt_of_le_of_lt (Nat.div_le_self _ _) h
/-- the numbers over the common denominator -/
def nums (qs : List (Int × Int)) : List Int := qs.map fun q => q.1 * ((lcmL qs 1 : Nat) / q.2)
theorem scaled_eq {qs : List (Int × Int)} {k : Nat} {g : GS} (hq : ∀ q ∈ qs, FrS k q) (hk : 1 + qs.length * k ≤ 9000) (hk2 : k ≤ 9000) (hlen : qs.length ≤ 1000) :
    F_scaled [.lst (qs.map fr)] g = some (.sh (.tup [.lst ((nums qs).map .int), .int (lcmL qs 1 : Nat)]), g) := by
  obtain ⟨x', e, hb⟩ := scaled_loop (g := g) (y0 := .sh (.lst (qs.map fr))) qs 1 1 hq (by decide) (by decide) hk none
  have ec := comp_map (β := Int) (wf := wN 2) (f := oS (b2 hMul (b2 hIx (vS 2) (kS (.int 0))) (b2 hDiv (vS 1) (b2 hIx (vS 2) (kS (.int 1)))))) (ρ := [some (.sh (.lst (qs.map fr))), some (.sh (.int (lcmL qs 1 : Nat))), none]) fr
    (fun q => DV.sh (.int (q.1 * ((lcmL qs 1 : Nat) / q.2)))) qs g (fun q hm g => by
      have h := hq q hm
      have d1 : divOk (lcmL qs 1 : Nat) q.2 = true := divOk_of h.fr.1 h.d hk2
      have sl := ediv_sz h.fr.1 hb
      have m1 : mulOk q.1 ((lcmL qs 1 : Nat) / q.2) = true := mulOk_of h.n sl (by omega) (by omega)
      simp [fr, d1, m1])
  have er : (qs.map fun q => DV.sh (.int (q.1 * ((lcmL qs 1 : Nat) / q.2)))) = ((nums qs).map SV.int).map DV.sh := by unfold nums; rw [List.map_map, List.map_map]; rfl
  rw [er] at ec
  have hl2 : lenOk (qs.map fr).length = true := lenOk_of (by rw [List.length_map]; omega)
  generalize (nums qs).map SV.int = N at *
  generalize qs.map fr = R at *
  simp at e
  simp [F_scaled, B_scaled, e, ec, hl2]
theorem scaled_eqS {S : SV} {qs : List (Int × Int)} {k : Nat} {g : GS} (hS : S.seq? = some (qs.map fr)) (hq : ∀ q ∈ qs, FrS k q) (hk : 1 + qs.length * k ≤ 9000) (hk2 : k ≤ 9000) (hlen : qs.length ≤ 1000) :
    F_scaled [S] g = some (.sh (.tup [.lst ((nums qs).map .int), .int (lcmL qs 1 : Nat)]), g) := by
  obtain ⟨x', e, hb⟩ := scaled_loop (g := g) (y0 := .sh S) qs 1 1 hq (by decide) (by decide) hk none
  have ec := comp_map (β := Int) (wf := wN 2) (f := oS (b2 hMul (b2 hIx (vS 2) (kS (.int 0))) (b2 hDiv (vS 1) (b2 hIx (vS 2) (kS (.int 1)))))) (ρ := [some (.sh S), some (.sh (.int (lcmL qs 1 : Nat))), none]) fr
    (fun q => DV.sh (.int (q.1 * ((lcmL qs 1 : Nat) / q.2)))) qs g (fun q hm g => by
      have h := hq q hm
      have d1 : divOk (lcmL qs 1 : Nat) q.2 = true := divOk_of h.fr.1 h.d hk2
      have sl := ediv_sz h.fr.1 hb
      have m1 : mulOk q.1 ((lcmL qs 1 : Nat) / q.2) = true := mulOk_of h.n sl (by omega) (by omega)
      simp [fr, d1, m1])
  have er : (qs.map fun q => DV.sh (.int (q.1 * ((lcmL qs 1 : Nat) / q.2)))) = ((nums qs).map SV.int).map DV.sh := by unfold nums; rw [List.map_map, List.map_map]; rfl
  rw [er] at ec
  have hl2 : lenOk (qs.map fr).length = true := lenOk_of (by rw [List.length_map]; omega)
  generalize (nums qs).map SV.int = N at *
  generalize qs.map fr = R at *
  simp at e
  simp [F_scaled, B_scaled, e, ec, hl2, hS]
theorem lcmL_dvd_of {m : Nat} : ∀ (qs : List (Int × Int)) (c : Nat), c ∣ m → (∀ q ∈ qs, q.2.natAbs ∣ m) → lcmL qs c ∣ m
  | [], c, h, _ => h
  | q :: qs, c, h, hq => lcmL_dvd_of qs _ (Nat.lcm_dvd h (hq q List.mem_cons_self)) fun r hr => hq r (List.mem_cons_of_mem _ hr)
/-- fractions over one denominator h -/
def over (h : Int) (ns : List Int) : List (Int × Int) := ns.map fun x => rat x h
theorem rat_den_dvd {x h : Int} (hh : 0 < h) : (rat x h).2 ∣ h := by
  rw [rat_pos hh]
  have g0 := gcdI_dvd_right x h
  obtain ⟨c, hc⟩ := g0
  refine ⟨(Nat.gcd x.natAbs h.natAbs : Nat), ?_⟩
  rw [Int.mul_comm]
  exact (Int.mul_ediv_cancel' ⟨c, hc⟩).symm
theorem lcm_over {h : Int} (hh : 0 < h) (ns : List Int) : ((lcmL (over h ns) 1 : Nat) : Int) ∣ h := by
  have := lcmL_dvd_of (m := h.natAbs) (over h ns) 1 (Nat.one_dvd _) fun q hq => by
    obtain ⟨x, _, rfl⟩ := List.mem_map.mp hq
    exact Int.natAbs_dvd_natAbs.mpr (rat_den_dvd hh)
  exact Int.ofNat_dvd_left.mpr this
theorem over_fr {k : Nat} {h : Int} (hh : 0 < h) (h1 : Sz k h) {ns : List Int} (h2 : ∀ x ∈ ns, Sz k x) : ∀ q ∈ over h ns, FrS k q := fun q hq => by
  obtain ⟨x, m, rfl⟩ := List.mem_map.mp hq
  exact rat_szs (Int.ne_of_gt hh) (h2 x m) h1
theorem nums_over {h : Int} (hh : 0 < h) (ns : List Int) {i : Nat} (hi : i < ns.length) :
    (nums (over h ns)).getD i 0 * h = ns.getD i 0 * (lcmL (over h ns) 1 : Nat) := by
  have e : (nums (over h ns)).getD i 0 = (rat ns[i] h).1 * ((lcmL (over h ns) 1 : Nat) / (rat ns[i] h).2) := by
    simp [nums, over, List.getD, hi]
  have e2 : ns.getD i 0 = ns[i] := by simp [List.getD, hi]
  have hd : (rat ns[i] h).2 ∣ ((lcmL (over h ns) 1 : Nat) : Int) := Int.natAbs_dvd.mp (Int.ofNat_dvd.mpr (lcmL_dvd (over h ns) 1 _ (List.mem_map.mpr ⟨ns[i], List.getElem_mem _, rfl⟩)))
  have hr := rat_eq (n := ns[i]) (Int.ne_of_gt hh)
  rw [e, e2]
  obtain ⟨c, hc⟩ := hd
  have h0 : (rat ns[i] h).2 ≠ 0 := Int.ne_of_gt (rat_fr (Int.ne_of_gt hh)).1
  rw [hc, Int.mul_ediv_cancel_left _ h0]
  generalize (rat ns[i] h).1 = a at *
  generalize (rat ns[i] h).2 = b at *
  generalize ns[i] = n at *
  calc a * c * h = (a * h) * c := by grind
    _ = n * (b * c) := by rw [hr]; grind
theorem scaled_loopG {k : Nat} {g : GS} {y0 : DV} : ∀ (qs : List (Int × Int)) (c l : Nat), (∀ q ∈ qs, Fr q ∧ Sz k q.2) → 0 < c → c < 2 ^ l → l + qs.length * k ≤ 9000 → ∀ x : Option DV, ∃ x',
    loopD (gN 2) (setD 1 (oS (c1 hLcm (aC (vS 1) (aC (b2 hIx (vS 2) (kS (.int 1))) (aN)))))) (qs.map fr) [some y0, some (.sh (.int (c : Nat))), x] g = some (.nx [some y0, some (.sh (.int (lcmL qs c : Nat))), x'] g) ∧ lcmL qs c < 2 ^ (l + qs.length * k)
  | [], c, l, _, _, hc, hl, x => ⟨x, rfl, by simpa [lcmL] using hc⟩
  | q :: qs, c, l, hq, h0, hc, hl, x => by
    have hq1 := hq q List.mem_cons_self
    have hd : q.2.natAbs < 2 ^ k := hq1.2
    have d0 : 0 < q.2.natAbs := by have := hq1.1.1; omega
    rw [List.length_cons, Nat.succ_mul] at hl
    have e1 : (c : Int).natAbs.log2 < 9000 := by rw [Int.natAbs_natCast]; exact log2_of_lt (by decide) (Nat.lt_of_lt_of_le hc (Nat.pow_le_pow_right (by decide) (by omega)))
    have e2 : q.2.natAbs.log2 < 9000 := log2_of_lt (by decide) (Nat.lt_of_lt_of_le hd (Nat.pow_le_pow_right (by decide) (by omega)))
    rw [Int.natAbs_natCast] at e1
    have hn : Nat.lcm c q.2.natAbs < 2 ^ (l + k) := Nat.lt_of_le_of_lt (lcm_le _ _) (by rw [Nat.pow_add]; exact Nat.mul_lt_mul'' hc hd)
    obtain ⟨x', e, hb⟩ := scaled_loopG (k := k) (g := g) (y0 := y0) qs (Nat.lcm c q.2.natAbs) (l + k) (fun y hy => hq y (List.mem_cons_of_mem _ hy)) (Nat.lcm_pos h0 d0) hn (by omega) (some (.sh (fr q)))
    refine ⟨x', ?_, by rw [List.length_cons, Nat.succ_mul]; rw [show l + (qs.length * k + k) = l + k + qs.length * k by omega]; exact hb⟩
    rw [List.map_cons, loop_nx (ρ' := [some y0, some (.sh (.int (Nat.lcm c q.2.natAbs : Nat))), some (.sh (fr q))]) (g' := g)]
    · exact e
    · simp [fr, e1, e2]
theorem scaled_eqG {S : SV} {qs : List (Int × Int)} {a k : Nat} {g : GS} (hS : S.seq? = some (qs.map fr)) (hq : ∀ q ∈ qs, Fr q ∧ Sz k q.2) (ha : ∀ q ∈ qs, Sz a q.1) (ha2 : a ≤ 1000000) (hk : 1 + qs.length * k ≤ 9000) (hk2 : k ≤ 9000) (hlen : qs.length ≤ 1000) :
    F_scaled [S] g = some (.sh (.tup [.lst ((nums qs).map .int), .int (lcmL qs 1 : Nat)]), g) ∧ lcmL qs 1 < 2 ^ (1 + qs.length * k) := by
  obtain ⟨x', e, hb⟩ := scaled_loopG (g := g) (y0 := .sh S) qs 1 1 hq (by decide) (by decide) hk none
  refine ⟨?_, hb⟩
  have ec := comp_map (β := Int) (wf := wN 2) (f := oS (b2 hMul (b2 hIx (vS 2) (kS (.int 0))) (b2 hDiv (vS 1) (b2 hIx (vS 2) (kS (.int 1)))))) (ρ := [some (.sh S), some (.sh (.int (lcmL qs 1 : Nat))), none]) fr
    (fun q => DV.sh (.int (q.1 * ((lcmL qs 1 : Nat) / q.2)))) qs g (fun q hm g => by
      have h := hq q hm
      have d1 : divOk (lcmL qs 1 : Nat) q.2 = true := divOk_of h.1.1 h.2 hk2
      have sl := ediv_sz h.1.1 hb
      have m1 : mulOk q.1 ((lcmL qs 1 : Nat) / q.2) = true := mulOk_of (ha q hm) sl (by omega) (by omega)
      simp [fr, d1, m1])
  have er : (qs.map fun q => DV.sh (.int (q.1 * ((lcmL qs 1 : Nat) / q.2)))) = ((nums qs).map SV.int).map DV.sh := by unfold nums; rw [List.map_map, List.map_map]; rfl
  rw [er] at ec
  have hl2 : lenOk (qs.map fr).length = true := lenOk_of (by rw [List.length_map]; omega)
  generalize (nums qs).map SV.int = N at *
  generalize qs.map fr = R at *
  simp at e
  simp [F_scaled, B_scaled, e, ec, hl2, hS]
theorem nums_length (qs : List (Int × Int)) : (nums qs).length = qs.length := by simp [nums]
theorem nums_rel {qs : List (Int × Int)} (hq : ∀ q ∈ qs, Fr q) {i : Nat} {q : Int × Int} (h : qs[i]? = some q) : (nums qs).getD i 0 * q.2 = q.1 * (lcmL qs 1 : Nat) := by
  obtain ⟨hi, e⟩ := List.getElem?_eq_some_iff.mp h
  have hm : q ∈ qs := by rw [← e]; exact List.getElem_mem _
  have e1 : (nums qs).getD i 0 = q.1 * ((lcmL qs 1 : Nat) / q.2) := by simp [nums, List.getD, hi, e]
  obtain ⟨c, hc⟩ : q.2 ∣ ((lcmL qs 1 : Nat) : Int) := Int.natAbs_dvd.mp (Int.ofNat_dvd.mpr (lcmL_dvd qs 1 _ hm))
  rw [e1, hc, Int.mul_ediv_cancel_left _ (Int.ne_of_gt (hq q hm).1)]
  grind
theorem nums_szG {qs : List (Int × Int)} {a b : Nat} (hq : ∀ q ∈ qs, Fr q) (ha : ∀ q ∈ qs, Sz a q.1) (hb : lcmL qs 1 < 2 ^ b) : ∀ x ∈ nums qs, Sz (a + b) x := fun x hx => by
  obtain ⟨q, m, rfl⟩ := List.mem_map.mp hx
  exact (ha q m).mul (ediv_sz (hq q m).1 hb)
/-! upper hulls over whole numbers: the pure part -/
theorem cancelL {p a b : Int} (hp : 0 < p) (h : a * p ≤ b * p) : a ≤ b := Int.le_of_mul_le_mul_right h hp
def Inc (x : Nat → Int) (n : Nat) : Prop := ∀ i, i + 1 < n → x i < x (i + 1)
theorem Inc.lt {x : Nat → Int} {n : Nat} (h : Inc x n) {i j : Nat} (h1 : i < j) (h2 : j < n) : x i < x j := by
  induction j with
  | zero => omega
  | succ j ih =>
    have := h j h2
    by_cases e : i = j
    · rw [e]; exact this
    · have := ih (by omega) (by omega)
      omega
def Conc (x H : Nat → Int) (n : Nat) : Prop := ∀ k, k + 2 < n → (H (k + 2) - H (k + 1)) * (x (k + 1) - x k) ≤ (H (k + 1) - H k) * (x (k + 2) - x (k + 1))
theorem Conc.adj {x H : Nat → Int} {n : Nat} (C : Conc x H n) (I : Inc x n) {i j : Nat} (h1 : i ≤ j) (h2 : j + 1 < n) : (H (j + 1) - H j) * (x (i + 1) - x i) ≤ (H (i + 1) - H i) * (x (j + 1) - x j) := by
  induction j with
  | zero =>
    have : i = 0 := by omega
    subst this
    exact Int.le_refl _
  | succ j ih =>
    by_cases e : i = j + 1
    · subst e; exact Int.le_refl _
    · have a1 := ih (by omega) (by omega)
      have a2 := C j (by omega)
      have p1 := I i (by omega)
      have p2 := I j (by omega)
      have p3 := I (j + 1) (by omega)
      show (H (j + 2) - H (j + 1)) * (x (i + 1) - x i) ≤ (H (i + 1) - H i) * (x (j + 2) - x (j + 1))
      change x (j + 1) < x (j + 2) at p3
      generalize hu : H (j + 2) - H (j + 1) = u at *
      generalize hv : H (j + 1) - H j = v at *
      generalize hw : H (i + 1) - H i = w at *
      generalize hp : x (i + 1) - x i = p at *
      generalize hq : x (j + 1) - x j = q at *
      generalize hr : x (j + 2) - x (j + 1) = r at *
      have b1 := Int.mul_le_mul_of_nonneg_right a2 (show 0 ≤ p by omega)
      have b2 := Int.mul_le_mul_of_nonneg_right a1 (show 0 ≤ r by omega)
      refine cancelL (p := q) (by omega) ?_
      calc u * p * q = u * q * p := by grind
        _ ≤ v * r * p := b1
        _ = v * p * r := by grind
        _ ≤ w * q * r := b2
        _ = w * r * q := by grind
/-- left of a step: at or above its line -/
theorem Conc.left {x H : Nat → Int} {n : Nat} (C : Conc x H n) (I : Inc x n) {j : Nat} (h2 : j + 1 < n) : ∀ (d a : Nat), a + d = j + 1 → (H (j + 1) - H j) * (x (j + 1) - x a) ≤ (H (j + 1) - H a) * (x (j + 1) - x j)
  | 0, a, h => by
    have : a = j + 1 := by omega
    subst this
    simp
  | d + 1, a, h => by
    have a1 := Conc.left C I h2 d (a + 1) (by omega)
    have a2 := C.adj I (i := a) (j := j) (by omega) h2
    generalize hm : H (j + 1) - H j = m at *
    generalize hq : x (j + 1) - x j = q at *
    calc m * (x (j + 1) - x a) = m * (x (j + 1) - x (a + 1)) + m * (x (a + 1) - x a) := by grind
      _ ≤ (H (j + 1) - H (a + 1)) * q + (H (a + 1) - H a) * q := by omega
      _ = _ := by grind
theorem Conc.right {x H : Nat → Int} {n : Nat} (C : Conc x H n) (I : Inc x n) {j : Nat} : ∀ (d : Nat), j + d < n → (H (j + d) - H j) * (x (j + 1) - x j) ≤ (H (j + 1) - H j) * (x (j + d) - x j)
  | 0, _ => by simp
  | d + 1, h => by
    have a1 := Conc.right C I (j := j) d (by omega)
    have a2 := C.adj I (i := j) (j := j + d) (by omega) (by omega)
    show (H (j + d + 1) - H j) * (x (j + 1) - x j) ≤ (H (j + 1) - H j) * (x (j + d + 1) - x j)
    generalize hm : H (j + 1) - H j = m at *
    generalize hq : x (j + 1) - x j = q at *
    calc (H (j + d + 1) - H j) * q = (H (j + d) - H j) * q + (H (j + d + 1) - H (j + d)) * q := by grind
      _ ≤ m * (x (j + d) - x j) + m * (x (j + d + 1) - x (j + d)) := by omega
      _ = _ := by grind
/-- three points -/
theorem Conc.three {x H : Nat → Int} {n : Nat} (C : Conc x H n) (I : Inc x n) {a k b : Nat} (h1 : a < k) (h2 : k < b) (h3 : b < n) : (H b - H k) * (x k - x a) ≤ (H k - H a) * (x b - x k) := by
  obtain ⟨j, rfl⟩ : ∃ j, k = j + 1 := ⟨k - 1, by omega⟩
  have a1 := C.left I (j := j) (by omega) (j + 1 - a) a (by omega)
  have a2 := C.right I (j := j) (b - j) (by omega)
  rw [show j + (b - j) = b by omega] at a2
  have q0 := I j (by omega)
  have p1 := I.lt h1 (show j + 1 < n by omega)
  have p2 := I.lt h2 h3
  generalize hm : H (j + 1) - H j = m at *
  generalize hq : x (j + 1) - x j = q at *
  have a3 : (H b - H (j + 1)) * q ≤ m * (x b - x (j + 1)) := by
    have e1 : (H b - H j) * q = (H b - H (j + 1)) * q + m * q := by rw [← hm]; grind
    have e2 : m * (x b - x j) = m * (x b - x (j + 1)) + m * q := by rw [← hq]; grind
    omega
  have b1 := Int.mul_le_mul_of_nonneg_right a3 (show 0 ≤ x (j + 1) - x a by omega)
  have b2 := Int.mul_le_mul_of_nonneg_right a1 (show 0 ≤ x b - x (j + 1) by omega)
  refine cancelL (p := q) (by omega) ?_
  calc (H b - H (j + 1)) * (x (j + 1) - x a) * q = (H b - H (j + 1)) * q * (x (j + 1) - x a) := by grind
    _ ≤ m * (x b - x (j + 1)) * (x (j + 1) - x a) := b1
    _ = m * (x (j + 1) - x a) * (x b - x (j + 1)) := by grind
    _ ≤ (H (j + 1) - H a) * q * (x b - x (j + 1)) := b2
    _ = (H (j + 1) - H a) * (x b - x (j + 1)) * q := by grind
theorem Conc.chord {x H : Nat → Int} {n : Nat} (C : Conc x H n) (I : Inc x n) {a k b : Nat} (h1 : a < k) (h2 : k < b) (h3 : b < n) : H a * (x b - x k) + H b * (x k - x a) ≤ H k * (x b - x a) := by
  have := C.three I h1 h2 h3
  have e : H k * (x b - x a) - (H a * (x b - x k) + H b * (x k - x a)) = (H k - H a) * (x b - x k) - (H b - H k) * (x k - x a) := by grind
  omega
/-- at each place the height is the point's, or on the chord of two such places -/
def Touch (x H y : Nat → Int) (n : Nat) : Prop := ∀ k, k < n → H k = y k ∨ ∃ l r, l < k ∧ k < r ∧ r < n ∧ H l = y l ∧ H r = y r ∧ H k * (x r - x l) = H l * (x r - x k) + H r * (x k - x l)
structure Char (x H y : Nat → Int) (n : Nat) : Prop where
  ge : ∀ k, k < n → y k ≤ H k
  conc : Conc x H n
  touch : Touch x H y n
theorem Char.le {x H H' y : Nat → Int} {n : Nat} (I : Inc x n) (T : Touch x H y n) (C : Char x H' y n) : ∀ k, k < n → H k ≤ H' k := fun k hk => by
  rcases T k hk with e | ⟨l, r, h1, h2, h3, e1, e2, e3⟩
  · rw [e]; exact C.ge k hk
  · have p1 := I.lt h1 hk
    have p2 := I.lt h2 h3
    have c := C.conc.chord I h1 h2 h3
    have g1 := C.ge l (by omega)
    have g2 := C.ge r h3
    rw [e1, e2] at e3
    have b1 := Int.mul_le_mul_of_nonneg_right g1 (show 0 ≤ x r - x k by omega)
    have b2 := Int.mul_le_mul_of_nonneg_right g2 (show 0 ≤ x k - x l by omega)
    refine cancelL (p := x r - x l) (by omega) ?_
    omega
/-- one answer alone -/
theorem Char.uniq {x H H' y : Nat → Int} {n : Nat} (I : Inc x n) (C : Char x H y n) (C' : Char x H' y n) : ∀ k, k < n → H k = H' k := fun k hk =>
  Int.le_antisymm (Char.le I C.touch C' k hk) (Char.le I C'.touch C k hk)
theorem Char.self {x H y : Nat → Int} {n : Nat} (C : Char x H y n) : Char x H H n := ⟨fun k _ => Int.le_refl _, C.conc, fun k _ => .inl rfl⟩
/-- a point under the hull may sink -/
theorem Char.lower {x H y y' : Nat → Int} {n m : Nat} (C : Char x H y n) (hm : y m < H m) (h1 : y' m ≤ y m) (h2 : ∀ k, k ≠ m → y' k = y k) : Char x H y' n where
  ge := fun k hk => by
    by_cases e : k = m
    · rw [e]; omega
    · rw [h2 k e]; exact C.ge k hk
  conc := C.conc
  touch := fun k hk => by
    have ne : ∀ l, H l = y l → l ≠ m := fun l e z => by rw [z] at e; omega
    rcases C.touch k hk with e | ⟨l, r, q1, q2, q3, e1, e2, e3⟩
    · exact .inl (by rw [h2 k (ne k e)]; exact e)
    · exact .inr ⟨l, r, q1, q2, q3, by rw [h2 l (ne l e1)]; exact e1, by rw [h2 r (ne r e2)]; exact e2, e3⟩
/-- a bend touches its point -/
theorem Char.bend {x H y : Nat → Int} {n : Nat} (I : Inc x n) (C : Char x H y n) {k : Nat} (hk : k + 2 < n) (hb : (H (k + 2) - H (k + 1)) * (x (k + 1) - x k) < (H (k + 1) - H k) * (x (k + 2) - x (k + 1))) : H (k + 1) = y (k + 1) := by
  rcases C.touch (k + 1) (by omega) with e | ⟨l, r, q1, q2, q3, e1, e2, e3⟩
  · exact e
  · exfalso
    have p1 := I k (by omega)
    have p2 : x (k + 1) < x (k + 2) := I (k + 1) (by omega)
    have p3 := I.lt q1 (show k + 1 < n by omega)
    have p4 := I.lt q2 q3
    -- the step to the left is at or under the chord's slope, the step to the right at or over it
    have a1 : (H (k + 1) - H k) * (x (k + 1) - x l) ≤ (H (k + 1) - H l) * (x (k + 1) - x k) := C.conc.left I (j := k) (by omega) (k + 1 - l) l (by omega)
    have a2 : (H r - H (k + 1)) * (x (k + 2) - x (k + 1)) ≤ (H (k + 2) - H (k + 1)) * (x r - x (k + 1)) := by
      have := C.conc.right I (j := k + 1) (r - (k + 1)) (by omega)
      rw [show k + 1 + (r - (k + 1)) = r by omega] at this
      exact this
    have e4 : (H r - H (k + 1)) * (x (k + 1) - x l) = (H (k + 1) - H l) * (x r - x (k + 1)) := by grind
    generalize hA : H (k + 1) - H k = A at *
    generalize hB : H (k + 2) - H (k + 1) = B at *
    generalize hL : H (k + 1) - H l = L at *
    generalize hR : H r - H (k + 1) = R at *
    generalize hp : x (k + 1) - x k = p at *
    generalize hq : x (k + 2) - x (k + 1) = q at *
    generalize hs : x (k + 1) - x l = s at *
    generalize ht : x r - x (k + 1) = t at *
    have s0 : 0 < s := by omega
    have t0 : 0 < t := by omega
    -- A s ≤ L p, R q ≤ B t, R s = L t, B p < A q
    have b1 := Int.mul_le_mul_of_nonneg_right a1 (show 0 ≤ q * t by exact Int.mul_nonneg (by omega) (by omega))
    have b2 := Int.mul_le_mul_of_nonneg_right a2 (show 0 ≤ p * s by exact Int.mul_nonneg (by omega) (by omega))
    have b3 := Int.mul_lt_mul_of_pos_right hb (show 0 < s * t from Int.mul_pos s0 t0)
    have f1 : A * s * (q * t) = A * q * (s * t) := by grind
    have f2 : L * p * (q * t) = L * t * (p * q) := by grind
    have f3 : R * q * (p * s) = R * s * (p * q) := by grind
    have f4 : B * t * (p * s) = B * p * (s * t) := by grind
    rw [f1, f2] at b1
    rw [f3, f4, e4] at b2
    omega
/-! upper hulls: the stack of places -/
def Under (x y : Nat → Int) (a b j : Nat) : Prop := (y j - y a) * (x b - x a) ≤ (y b - y a) * (x j - x a)
def Above (x y : Nat → Int) (s m e : Nat) : Prop := (y e - y s) * (x m - x s) < (y m - y s) * (x e - x s)
instance (x y : Nat → Int) (s m e : Nat) : Decidable (Above x y s m e) := by unfold Above; exact inferInstance
inductive HStk (x y : Nat → Int) : List Nat → Prop
  | one : HStk x y [0]
  | cons {t k : Nat} {rs : List Nat} (h : HStk x y (t :: rs)) (lt : t < k) (u : ∀ j, t < j → j < k → Under x y t k j) (a : ∀ s, rs.head? = some s → Above x y s t k) : HStk x y (k :: t :: rs)
theorem HStk.asc {x y : Nat → Int} {s t : Nat} {rs : List Nat} (h : HStk x y (t :: s :: rs)) : s < t := by cases h; assumption
theorem HStk.tail {x y : Nat → Int} {s t : Nat} {rs : List Nat} (h : HStk x y (t :: s :: rs)) : HStk x y (s :: rs) := by cases h; assumption
theorem undA {fj ft fe uj ut ue : Int} (h0 : 0 < ut) (hj : 0 ≤ uj) (he : 0 ≤ ue) (h1 : fj * ut ≤ ft * uj) (h2 : ft * ue ≤ fe * ut) : fj * ue ≤ fe * uj := by
  refine cancelL (p := ut) h0 ?_
  have b1 := Int.mul_le_mul_of_nonneg_right h1 he
  have b2 := Int.mul_le_mul_of_nonneg_right h2 hj
  calc fj * ue * ut = fj * ut * ue := by grind
    _ ≤ ft * uj * ue := b1
    _ = ft * ue * uj := by grind
    _ ≤ fe * ut * uj := b2
    _ = fe * uj * ut := by grind
theorem undB {fj ft fe uj ut ue : Int} (h0 : ut < ue) (he : 0 ≤ ue) (hj : uj ≤ ue) (h1 : (fj - ft) * (ue - ut) ≤ (fe - ft) * (uj - ut)) (h2 : ft * ue ≤ fe * ut) : fj * ue ≤ fe * uj := by
  refine cancelL (p := ue - ut) (by omega) ?_
  have b1 := Int.mul_le_mul_of_nonneg_right h1 he
  have b2 := Int.mul_le_mul_of_nonneg_right h2 (show 0 ≤ ue - uj by omega)
  have e1 : (fj - ft) * (ue - ut) * ue = fj * ue * (ue - ut) - ft * ue * (ue - ut) := by grind
  have e2 : (fe - ft) * (uj - ut) * ue = fe * ue * (uj - ut) - ft * ue * (uj - ut) := by grind
  have e3 : fe * uj * (ue - ut) = fe * ue * (uj - ut) + fe * ut * (ue - uj) := by grind
  have e4 : ft * ue * (ue - ut) - ft * ue * (uj - ut) = ft * ue * (ue - uj) := by grind
  rw [e1, e2] at b1
  rw [e3]
  omega
/-- the middle one goes -/
theorem under_pop {x y : Nat → Int} {n s t k : Nat} (I : Inc x n) (h1 : s < t) (h2 : t < k) (hk : k < n) (u1 : ∀ j, s < j → j < t → Under x y s t j) (u2 : ∀ j, t < j → j < k → Under x y t k j) (na : ¬ Above x y s t k) : ∀ j, s < j → j < k → Under x y s k j := fun j j1 j2 => by
  unfold Above at na
  have na := Int.not_lt.mp na
  have p1 := I.lt h1 (show t < n by omega)
  have p2 := I.lt h2 hk
  have p3 := I.lt j1 (show j < n by omega)
  have p4 := I.lt j2 hk
  unfold Under
  rcases Nat.lt_trichotomy j t with h | h | h
  · exact undA (ut := x t - x s) (ft := y t - y s) (by omega) (by omega) (by omega) (u1 j j1 h) na
  · rw [h]; exact na
  · have := u2 j h j2
    unfold Under at this
    refine undB (ut := x t - x s) (ft := y t - y s) (by omega) (by omega) (by omega) ?_ na
    rw [show y j - y s - (y t - y s) = y j - y t by omega, show x k - x s - (x t - x s) = x k - x t by omega, show y k - y s - (y t - y s) = y k - y t by omega, show x j - x s - (x t - x s) = x j - x t by omega]
    exact this
/-- the line through the places of the stack -/
structure Line (x y : Nat → Int) (ks : List Nat) (t : Nat) (D : Int) (H : Nat → Int) : Prop where
  pos : 0 < D
  bot : ks = [] → t = 0
  ge : ∀ k, k ≤ t → D * y k ≤ H k
  conc : Conc x H (t + 1)
  touch : Touch x H (fun k => D * y k) (t + 1)
  top : H t = D * y t
  last : ∀ s, ks.head? = some s → s < t ∧ ∀ j, s ≤ j → j < t → (H (j + 1) - H j) * (x t - x s) = D * (y t - y s) * (x (j + 1) - x j)
  chord : ∀ s e, (s, e) ∈ ((t :: ks).zip ks).map (fun p => (p.2, p.1)) → s < e ∧ e ≤ t ∧ ∀ j, s ≤ j → j ≤ e → H j * (x e - x s) = D * (y s * (x e - x j) + y e * (x j - x s))
theorem line_one (x y : Nat → Int) : Line x y [] 0 1 (fun k => 1 * y k) where
  pos := by decide
  bot := fun _ => rfl
  ge := fun k _ => Int.le_refl _
  conc := fun k hk => by omega
  touch := fun k _ => .inl rfl
  top := rfl
  last := fun s h => by cases h
  chord := fun s e h => by simp at h
theorem line_cons {x y : Nat → Int} {n : Nat} (I : Inc x n) {t k : Nat} {rs : List Nat} {D : Int} {H : Nat → Int} (L : Line x y rs t D H) (lt : t < k) (hk : k < n) (u : ∀ j, t < j → j < k → Under x y t k j) (a : ∀ s, rs.head? = some s → Above x y s t k) :
    ∃ D' H', Line x y (t :: rs) k D' H' := by
  obtain ⟨w, hw⟩ : ∃ w, x k - x t = w := ⟨_, rfl⟩
  have w0 : 0 < w := by have := I.lt lt hk; omega
  have D0 := L.pos
  let H' : Nat → Int := fun j => if j ≤ t then H j * w else D * (y t * (x k - x j) + y k * (x j - x t))
  have hl : ∀ j, j ≤ t → H' j = H j * w := fun j h => by simp only [H']; rw [if_pos h]
  have hr : ∀ j, t ≤ j → H' j = D * (y t * (x k - x j) + y k * (x j - x t)) := fun j h => by
    by_cases e : j = t
    · subst e
      rw [hl j (Nat.le_refl _), L.top, hw, Int.sub_self, Int.mul_zero, Int.add_zero, Int.mul_assoc]
    · simp only [H']; rw [if_neg (by omega)]
  clear_value H'
  have stepR : ∀ j, t ≤ j → H' (j + 1) - H' j = D * (y k - y t) * (x (j + 1) - x j) := fun j h => by
    rw [hr j h, hr (j + 1) (by omega)]; grind
  have stepL : ∀ j, j + 1 ≤ t → H' (j + 1) - H' j = (H (j + 1) - H j) * w := fun j h => by
    rw [hl j (by omega), hl (j + 1) h]; grind
  refine ⟨D * w, H', ⟨Int.mul_pos D0 w0, fun h => (by cases h), fun j hj => ?_, fun j hj => ?_, fun j hj => ?_, ?_, fun s hs => ?_, fun s e hs => ?_⟩⟩
  · by_cases h : j ≤ t
    · rw [hl j h]
      have := Int.mul_le_mul_of_nonneg_right (L.ge j h) (show 0 ≤ w by omega)
      calc D * w * y j = D * y j * w := by grind
        _ ≤ _ := this
    · rw [hr j (by omega)]
      have key : y j * w ≤ y t * (x k - x j) + y k * (x j - x t) := by
        by_cases e : j = k
        · subst e; rw [Int.sub_self, hw]; omega
        · have := u j (by omega) (by omega)
          unfold Under at this
          rw [hw] at this
          have e1 : y t * (x k - x j) + y k * (x j - x t) = y t * w + (y k - y t) * (x j - x t) := by rw [← hw]; grind
          have e2 : (y j - y t) * w = y j * w - y t * w := by grind
          omega
      have := Int.mul_le_mul_of_nonneg_left key (show 0 ≤ D by omega)
      calc D * w * y j = D * (y j * w) := by grind
        _ ≤ _ := this
  · by_cases h : j + 2 ≤ t
    · have c := L.conc j (by omega)
      have e1 : H' (j + 2) - H' (j + 1) = (H (j + 2) - H (j + 1)) * w := stepL (j + 1) h
      rw [stepL j (by omega), e1]
      have := Int.mul_le_mul_of_nonneg_right c (show 0 ≤ w by omega)
      calc (H (j + 2) - H (j + 1)) * w * (x (j + 1) - x j) = (H (j + 2) - H (j + 1)) * (x (j + 1) - x j) * w := by grind
        _ ≤ _ := this
        _ = _ := by grind
    · have e1 : H' (j + 2) - H' (j + 1) = D * (y k - y t) * (x (j + 2) - x (j + 1)) := stepR (j + 1) (by omega)
      by_cases h2 : t ≤ j
      · rw [stepR j h2, e1]
        exact Int.le_of_eq (by grind)
      · have et : t = j + 1 := by omega
        rw [stepL j (by omega), e1]
        cases hs : rs.head? with
        | none =>
          exfalso
          cases rs with
          | nil =>
            have := L.bot rfl
            omega
          | cons => cases hs
        | some s =>
          obtain ⟨l1, l2⟩ := L.last s hs
          have l3 := l2 j (by omega) (by omega)
          have ab := a s hs
          unfold Above at ab
          have p1 := I.lt l1 (show t < n by omega)
          have p2 := I j (by omega)
          have p3 : x (j + 1) < x (j + 2) := I (j + 1) (by omega)
          refine cancelL (p := x t - x s) (by omega) ?_
          generalize hdH : H (j + 1) - H j = dH at *
          generalize hp : x (j + 1) - x j = p at *
          generalize hq : x (j + 2) - x (j + 1) = q at *
          have key : (y k - y t) * (x t - x s) ≤ (y t - y s) * w := by
            have e3 : (y k - y s) * (x t - x s) = (y k - y t) * (x t - x s) + (y t - y s) * (x t - x s) := by grind
            have e4 : (y t - y s) * (x k - x s) = (y t - y s) * w + (y t - y s) * (x t - x s) := by rw [← hw]; grind
            omega
          have := Int.mul_le_mul_of_nonneg_right key (show 0 ≤ D * (p * q) from Int.mul_nonneg (by omega) (Int.mul_nonneg (by omega) (by omega)))
          calc D * (y k - y t) * q * p * (x t - x s) = (y k - y t) * (x t - x s) * (D * (p * q)) := by grind
            _ ≤ (y t - y s) * w * (D * (p * q)) := this
            _ = (D * (y t - y s) * p) * (w * q) := by grind
            _ = dH * w * q * (x t - x s) := by rw [← l3]; grind
  · have top : H' k = D * w * y k := by rw [hr k (by omega), Int.sub_self, hw]; grind
    have bot : H' t = D * w * y t := by rw [hl t (Nat.le_refl _), L.top]; grind
    by_cases h : j ≤ t
    · rcases L.touch j (by omega) with e | ⟨l, r, q1, q2, q3, e1, e2, e3⟩
      · exact .inl (by rw [hl j h, e]; grind)
      · refine .inr ⟨l, r, q1, q2, by omega, ?_, ?_, ?_⟩
        · rw [hl l (by omega), e1]; grind
        · rw [hl r (by omega), e2]; grind
        · rw [hl l (by omega), hl r (by omega), hl j h]
          calc H j * w * (x r - x l) = H j * (x r - x l) * w := by grind
            _ = (H l * (x r - x j) + H r * (x j - x l)) * w := by rw [e3]
            _ = _ := by grind
    · by_cases e : j = k
      · exact .inl (by rw [e]; exact top)
      · refine .inr ⟨t, k, by omega, by omega, by omega, bot, top, ?_⟩
        rw [hr j (by omega), top, bot, hw]
        grind
  · rw [hr k (by omega), Int.sub_self, hw]; grind
  · cases hs
    exact ⟨lt, fun j j1 j2 => by rw [stepR j j1, hw]; grind⟩
  · rw [List.zip_cons_cons, List.map_cons] at hs
    rcases List.mem_cons.mp hs with e | hs
    · cases e
      refine ⟨lt, Nat.le_refl _, fun j j1 j2 => ?_⟩
      rw [hr j j1, hw]
      grind
    · obtain ⟨c1, c2, c3⟩ := L.chord s e hs
      refine ⟨c1, by omega, fun j j1 j2 => ?_⟩
      have := c3 j j1 j2
      rw [hl j (by omega)]
      calc H j * w * (x e - x s) = H j * (x e - x s) * w := by grind
        _ = _ := by rw [this]; grind
theorem HStk.line {x y : Nat → Int} {n : Nat} (I : Inc x n) : ∀ {ks : List Nat} {t : Nat}, HStk x y (t :: ks) → t < n → ∃ D H, Line x y ks t D H
  | [], t, h, ht => by cases h; exact ⟨1, _, line_one x y⟩
  | s :: ks, t, h, ht => by
    cases h with
    | cons h lt u a =>
      obtain ⟨D, H, L⟩ := HStk.line I h (by omega)
      exact line_cons I L lt ht u a
/-! hull_places -/
abbrev gL (ns : List Int) (i : Nat) : Int := ns.getD i 0
theorem ixL {ns : List Int} {i : Nat} (hi : i < ns.length) : L2.atI (ns.map SV.int) (i : Int) = some (.int (gL ns i)) := L2.atI_nat (by
  rw [List.getElem?_map, List.getElem?_eq_getElem hi]
  simp [gL, List.getD, hi])
theorem gL_sz {k : Nat} {ns : List Int} (h : ∀ x ∈ ns, Sz k x) {i : Nat} (hi : i < ns.length) : Sz k (gL ns i) := by
  have : gL ns i = ns[i] := by simp [gL, List.getD, hi]
  rw [this]
  exact h _ (List.getElem_mem _)
theorem at_last2 {α : Type} (xs : List α) (x y : α) : L2.atI (xs ++ [x, y]) (-2) = some x := by
  unfold L2.atI L2.ixN
  rw [if_neg (by omega), if_pos (by simp; omega)]
  have e : (-2 + ((xs ++ [x, y]).length : Int)).toNat = xs.length := by rw [List.length_append]; simp; omega
  rw [Option.bind_some, e, List.getElem?_append_right (Nat.le_refl _)]
  simp
theorem is_above_eq {X Y : List Int} {k : Nat} {s m e : Nat} {g : GS} (hX : ∀ x ∈ X, Sz k x) (hY : ∀ x ∈ Y, Sz k x) (hk : k ≤ 1000000) (h1 : s < X.length) (h2 : m < X.length) (h3 : e < X.length) (hl : Y.length = X.length) :
    F_is_above [.lst (X.map .int), .lst (Y.map .int), .int s, .int m, .int e] g = some (.sh (.bl (decide (Above (gL X) (gL Y) s m e))), g) := by
  have a1 := ixL h1
  have a2 := ixL h2
  have a3 := ixL h3
  have b1 := ixL (ns := Y) (i := s) (by omega)
  have b2 := ixL (ns := Y) (i := m) (by omega)
  have b3 := ixL (ns := Y) (i := e) (by omega)
  have s1 := gL_sz hX h1
  have s2 := gL_sz hX h2
  have s3 := gL_sz hX h3
  have t1 := gL_sz (i := s) hY (by omega)
  have t2 := gL_sz (i := m) hY (by omega)
  have t3 := gL_sz (i := e) hY (by omega)
  have m1 : mulOk (gL Y m - gL Y s) (gL X e - gL X s) = true := mulOk_of (t2.sub t1) (s3.sub s1) (by omega) (by omega)
  have m2 : mulOk (gL Y e - gL Y s) (gL X m - gL X s) = true := mulOk_of (t3.sub t1) (s2.sub s1) (by omega) (by omega)
  have hd : decide (Above (gL X) (gL Y) s m e) = decide ((gL Y e - gL Y s) * (gL X m - gL X s) < (gL Y m - gL Y s) * (gL X e - gL X s)) := decide_eq_decide.mpr Iff.rfl
  rw [hd]
  generalize X.map SV.int = XX at *
  generalize Y.map SV.int = YY at *
  generalize gL X s = c1 at *
  generalize gL X m = c2 at *
  generalize gL X e = c3 at *
  generalize gL Y s = d1 at *
  generalize gL Y m = d2 at *
  generalize gL Y e = d3 at *
  simp [F_is_above, B_is_above, a1, a2, a3, b1, b2, b3, m1, m2]
def hullC : TF := tAnd1 (tB1 (b2 hGt (lenP (vP 2)) (kS (.int 1)))) (tNot1 (tB1 (fz (callF F_is_above (aC (vS 0) (aC (vS 1) (aC (un (ixP (vP 2) (u1 hNeg (kS (.int 2))))) (aC (un (ixP (vP 2) (u1 hNeg (kS (.int 1))))) (aC (vS 3) (aN))))))))))
abbrev hE (X Y : List Int) (rs : List Nat) (x3 : Option DV) : Env := [some (.sh (.lst (X.map .int))), some (.sh (.lst (Y.map .int))), some (.own ((rs.reverse.map fun k => SV.int (k : Nat)).map .sh)), x3]
theorem while_hull {X Y : List Int} {k : Nat} {g : GS} (hX : ∀ x ∈ X, Sz k x) (hY : ∀ x ∈ Y, Sz k x) (hk : k ≤ 1000000) (hl : Y.length = X.length) (I : Inc (gL X) X.length) {e : Nat} (he : e < X.length) :
    ∀ (rs : List Nat) (t m : Nat), rs.length < m → HStk (gL X) (gL Y) (t :: rs) → t < e → (∀ j, t < j → j < e → Under (gL X) (gL Y) t e j) →
    ∃ rs', whileN hullC (pop0D 2) m (hE X Y (t :: rs) (some (.sh (.int e)))) g = some (.nx (hE X Y rs' (some (.sh (.int e)))) g) ∧ HStk (gL X) (gL Y) (e :: rs') ∧ rs'.length ≤ rs.length + 1
  | [], t, m, hm, h, ht, u => by
    cases m with
    | zero => exact absurd hm (by simp)
    | succ m =>
      refine ⟨[t], while_end (g1 := g) ?_, .cons h ht u (fun s hs => by cases hs), Nat.le_refl _⟩
      simp [hullC]
  | s :: rs, t, m, hm, h, ht, u => by
    cases m with
    | zero => exact absurd hm (by simp)
    | succ m =>
      have st := h.asc
      have ha := is_above_eq (g := g) (s := s) (m := t) (e := e) hX hY hk (by omega) (by omega) he hl
      have eL : ((((t :: s :: rs).reverse.map fun k => SV.int ((k : Nat) : Int))).map DV.sh) = ((rs.reverse.map fun k => SV.int ((k : Nat) : Int)).map DV.sh) ++ [.sh (.int s), .sh (.int t)] := by simp
      have eL2 : ((((s :: rs).reverse.map fun k => SV.int ((k : Nat) : Int))).map DV.sh) = ((rs.reverse.map fun k => SV.int ((k : Nat) : Int)).map DV.sh) ++ [.sh (.int s)] := by simp
      have hc : hullC (hE X Y (t :: s :: rs) (some (.sh (.int e)))) g = some (!decide (Above (gL X) (gL Y) s t e), g) := by
        unfold hE
        rw [eL]
        generalize (rs.reverse.map fun k => SV.int ((k : Nat) : Int)).map DV.sh = L
        generalize X.map SV.int = XX at *
        generalize Y.map SV.int = YY at *
        have q1 := at_last2 L (.sh (.int s)) (.sh (.int t))
        have q2 : L2.atI (L ++ [DV.sh (.int s), .sh (.int t)]) (-1) = some (.sh (.int t)) := by
          have := at_last (L ++ [DV.sh (.int s)]) (.sh (.int t))
          rw [List.append_assoc] at this
          exact this
        have q3 : decide ((1 : Int) < ((L ++ [DV.sh (SV.int s), DV.sh (SV.int t)]).length : Nat)) = true := decide_eq_true (by rw [List.length_append]; simp; omega)
        simp only [hullC, ev_tAnd, ev_tB1, ev_b2, ev_lenP, ev_vPs, ev_vP0, ev_lno, Option.bind_some, Option.map_some, ev_kS, ev_gt, ev_ixP, ev_u1, ev_neg, ev_at, q1, q2, q3, ev_un, ev_shq, ev_callF, ev_aC, ev_vSs, ev_vS0, ev_aN, ev_fz, ha, ev_frzs, ev_tNot, if_true]
      by_cases hA : Above (gL X) (gL Y) s t e
      · refine ⟨t :: s :: rs, while_end (g1 := g) (by rw [hc, decide_eq_true hA]; rfl), .cons h ht u (fun s' hs => by cases hs; exact hA), by simp⟩
      · have h' := h.tail
        have u1 : ∀ j, s < j → j < t → Under (gL X) (gL Y) s t j := by cases h; assumption
        obtain ⟨rs', r1, r2, r3⟩ := while_hull hX hY hk hl I he (g := g) rs s m (by simp at hm; omega) h' (by omega) (under_pop I st ht he u1 u hA)
        refine ⟨rs', ?_, r2, by simp; omega⟩
        rw [while_step (g1 := g) (ρ' := hE X Y (s :: rs) (some (.sh (.int e)))) (g' := g) (by rw [hc, decide_eq_false hA]; rfl) ?_]
        · exact r1
        · unfold hE
          rw [eL, eL2]
          generalize (rs.reverse.map fun k => SV.int ((k : Nat) : Int)).map DV.sh = L
          have q : lastS (L ++ [DV.sh (.int s), .sh (.int t)]) = some (.int t) := by
            have := lastS_snoc (L ++ [DV.sh (.int s)]) (.int t)
            rw [List.append_assoc] at this
            exact this
          have q2 : (L ++ [DV.sh (.int s), .sh (.int t)]).dropLast = L ++ [.sh (.int s)] := by
            have := List.dropLast_concat (l₁ := L ++ [DV.sh (.int s)]) (b := DV.sh (.int t))
            rw [List.append_assoc] at this
            exact this
          simp [q, q2]
theorem hull_places_eq {X Y : List Int} {k : Nat} {g : GS} (hX : ∀ x ∈ X, Sz k x) (hY : ∀ x ∈ Y, Sz k x) (hk : k ≤ 1000000) (hl : Y.length = X.length) (I : Inc (gL X) X.length) (h0 : 0 < X.length) (h60 : X.length ≤ 60) :
    ∃ rs, HStk (gL X) (gL Y) ((X.length - 1) :: rs) ∧ rs.length < X.length ∧ F_hull_places [.lst (X.map .int), .lst (Y.map .int)] g = some (.own ((((X.length - 1) :: rs).reverse.map fun k => SV.int (k : Nat)).map .sh), g) := by
  obtain ⟨ρ', g', e, rfl, rs, x3, rfl, c1, c2, c3⟩ := loop_rng (gf := gN 3) (sb := seqD (whileD hullC (pop0D 2)) (appD 2 (oS (vS 3)))) (lo := 0) (n := X.length)
    (fun i ρ g' => g' = g ∧ ∃ rs x3, ρ = hE X Y rs x3 ∧ rs.length ≤ i ∧ (i = 0 → rs = []) ∧ (0 < i → HStk (gL X) (gL Y) rs ∧ rs.head? = some (i - 1)))
    (ρ := hE X Y [] none) (g := g) ⟨rfl, [], none, rfl, Nat.le_refl _, fun _ => rfl, fun h => absurd h (Nat.lt_irrefl _)⟩ (fun i ρ g' hi hI => by
      obtain ⟨rfl, rs, x3, rfl, c1, c2, c3⟩ := hI
      have ei : (0 : Int) + (i : Nat) = i := by omega
      rw [ei]
      have fin : ∀ rs', whileN hullC (pop0D 2) FUEL (hE X Y rs (some (.sh (.int i)))) g' = some (.nx (hE X Y rs' (some (.sh (.int i)))) g') → HStk (gL X) (gL Y) (i :: rs') → rs'.length ≤ i →
          ∃ ρ' g'', ((gN 3 (.sh (.int i)) (hE X Y rs x3) g').bind fun p => seqD (whileD hullC (pop0D 2)) (appD 2 (oS (vS 3))) p.1 p.2) = some (.nx ρ' g'') ∧ g'' = g' ∧ ∃ rs x3, ρ' = hE X Y rs x3 ∧ rs.length ≤ i + 1 ∧ (i + 1 = 0 → rs = []) ∧ (0 < i + 1 → HStk (gL X) (gL Y) rs ∧ rs.head? = some (i + 1 - 1)) := fun rs' hw hs hlen => by
        refine ⟨hE X Y (i :: rs') (some (.sh (.int i))), g', ?_, rfl, i :: rs', _, rfl, by simp; omega, fun h => by omega, fun _ => ⟨hs, rfl⟩⟩
        have eL : ((((i :: rs').reverse.map fun k => SV.int ((k : Nat) : Int))).map DV.sh) = ((rs'.reverse.map fun k => SV.int ((k : Nat) : Int)).map DV.sh) ++ [.sh (.int i)] := by simp
        have hL : lenOk ((rs'.reverse.map fun k => SV.int ((k : Nat) : Int)).map DV.sh).length = true := lenOk_of (by simp; omega)
        unfold hE at *
        rw [eL]
        have hw' : whileD hullC (pop0D 2) _ g' = _ := hw
        generalize (rs'.reverse.map fun k => SV.int ((k : Nat) : Int)).map DV.sh = L at *
        generalize (rs.reverse.map fun k => SV.int ((k : Nat) : Int)).map DV.sh = L0 at *
        generalize X.map SV.int = XX at *
        generalize Y.map SV.int = YY at *
        clear hw
        simp [hw', hL]
      by_cases hi0 : i = 0
      · subst hi0
        have := c2 rfl
        subst this
        refine fin [] (while_end (g1 := g') ?_) .one (Nat.le_refl _)
        simp [hullC]
      · obtain ⟨d1, d2⟩ := c3 (by omega)
        cases rs with
        | nil => cases d2
        | cons t rs =>
          simp at d2
          subst d2
          obtain ⟨rs', r1, r2, r3⟩ := while_hull hX hY hk hl I hi (g := g') rs (i - 1) FUEL (by unfold FUEL; simp at c1; omega) d1 (by omega) (fun j j1 j2 => by omega)
          exact fin rs' r1 r2 (by simp at c1; omega))
  obtain ⟨d1, d2⟩ := c3 h0
  cases rs with
  | nil => cases d2
  | cons t rs =>
    simp at d2
    subst d2
    refine ⟨rs, d1, by simp at c1; omega, ?_⟩
    have r1 : rngOk ((X.length : Nat) : Int) = true := rngOk_of (by omega)
    unfold hullC hE at e
    have hlx : (X.map SV.int).length = X.length := List.length_map _
    generalize ((((X.length - 1) :: rs).reverse.map fun k => SV.int ((k : Nat) : Int))).map DV.sh = L at *
    rw [show ((([] : List Nat).reverse.map fun k => SV.int ((k : Nat) : Int))).map DV.sh = [] from rfl] at e
    generalize hXX : X.map SV.int = XX at *
    generalize Y.map SV.int = YY at *
    simp [F_hull_places, B_hull_places, hlx, r1, e]
/-! upper_heights -/
abbrev encPt (p : (Int × Int) × (Int × Int)) : SV := .tup [fr p.1, fr p.2]
def hgtI : SF := appD 5 (callF F_ratio (aC (b2 hAdd (b2 hMul (b2 hIx (vS 2) (vS 6)) (vS 8)) (b2 hMul (vS 9) (b2 hSub (b2 hIx (vS 1) (vS 10)) (b2 hIx (vS 1) (vS 6))))) (aC (b2 hMul (vS 8) (vS 3)) (aN))))
def hgtB : SF := seqD (setD 8 (oS (b2 hSub (b2 hIx (vS 1) (vS 7)) (b2 hIx (vS 1) (vS 6)))))
  (seqD (setD 9 (oS (b2 hSub (b2 hIx (vS 2) (vS 7)) (b2 hIx (vS 2) (vS 6)))))
  (forD (iR2 (b2 hAdd (vS 6) (kS (.int 1))) (b2 hAdd (vS 7) (kS (.int 1)))) (gN 10) hgtI))
/-- the heights so far -/
def HOk (H : Nat → Int) (α : Int) (hs : List (Int × Int)) : Prop := ∀ k q, hs[k]? = some q → Fr q ∧ q.1 * α = H k * q.2
theorem HOk.snoc {H : Nat → Int} {α : Int} {hs : List (Int × Int)} {q : Int × Int} (h : HOk H α hs) (f : Fr q) (e : q.1 * α = H hs.length * q.2) : HOk H α (hs ++ [q]) := fun k r hr => by
  by_cases hk : k < hs.length
  · rw [List.getElem?_append_left hk] at hr
    exact h k r hr
  · rw [List.getElem?_append_right (by omega)] at hr
    have : k = hs.length := by
      cases hz : k - hs.length with
      | zero => omega
      | succ n => rw [hz] at hr; simp at hr
    subst this
    simp at hr
    subst hr
    exact ⟨f, e⟩
theorem hgt_in {X Y : List Int} {C D : Int} {H : Nat → Int} {n s e : Nat} {v0 v4 : DV} {x11 : Option DV} {g : GS} (hX : ∀ x ∈ X, Sz 150 x) (hY : ∀ x ∈ Y, Sz 100000 x) (hC : 0 < C) (hC2 : Sz 8500 C) (hl : Y.length = X.length) (hn : X.length ≤ 60) (I : Inc (gL X) X.length)
    (h1 : s < e) (h2 : e < X.length) (hch : ∀ j, s ≤ j → j ≤ e → H j * (gL X e - gL X s) = D * (gL Y s * (gL X e - gL X j) + gL Y e * (gL X j - gL X s))) (acc : List (Int × Int)) (ha : acc.length = s + 1) (hok : HOk H (D * C) acc) (x10 : Option DV) :
    ∃ acc' x10', loopD (gN 10) hgtI (rngL ((s : Int) + 1) (e - s)) [some v0, some (.sh (.lst (X.map .int))), some (.sh (.lst (Y.map .int))), some (.sh (.int C)), some v4, some (.own ((acc.map fr).map .sh)), some (.sh (.int s)), some (.sh (.int e)), some (.sh (.int (gL X e - gL X s))), some (.sh (.int (gL Y e - gL Y s))), x10, x11] g =
      some (.nx [some v0, some (.sh (.lst (X.map .int))), some (.sh (.lst (Y.map .int))), some (.sh (.int C)), some v4, some (.own ((acc'.map fr).map .sh)), some (.sh (.int s)), some (.sh (.int e)), some (.sh (.int (gL X e - gL X s))), some (.sh (.int (gL Y e - gL Y s))), x10', x11] g) ∧ acc'.length = e + 1 ∧ HOk H (D * C) acc' := by
  have w0 : 0 < gL X e - gL X s := by have := I.lt h1 h2; omega
  have sx := gL_sz hX (show s < X.length by omega)
  have ex := gL_sz hX h2
  have sy := gL_sz (i := s) hY (by omega)
  have ey := gL_sz (i := e) hY (by omega)
  obtain ⟨ρ', g', el, rfl, acc', x', rfl, hl', hok'⟩ := loop_rng (gf := gN 10) (sb := hgtI) (lo := (s : Int) + 1) (n := e - s) (fun i ρ g' => g' = g ∧ ∃ acc' x10', ρ = [some v0, some (.sh (.lst (X.map .int))), some (.sh (.lst (Y.map .int))), some (.sh (.int C)), some v4, some (.own ((acc'.map fr).map .sh)), some (.sh (.int s)), some (.sh (.int e)), some (.sh (.int (gL X e - gL X s))), some (.sh (.int (gL Y e - gL Y s))), x10', x11] ∧ acc'.length = s + 1 + i ∧ HOk H (D * C) acc')
    (ρ := [some v0, some (.sh (.lst (X.map .int))), some (.sh (.lst (Y.map .int))), some (.sh (.int C)), some v4, some (.own ((acc.map fr).map .sh)), some (.sh (.int s)), some (.sh (.int e)), some (.sh (.int (gL X e - gL X s))), some (.sh (.int (gL Y e - gL Y s))), x10, x11]) (g := g)
    ⟨rfl, acc, x10, rfl, by omega, hok⟩ (fun i ρ g' hi hI => by
      obtain ⟨rfl, acc', x, rfl, hl', hok'⟩ := hI
      have ek : (s : Int) + 1 + (i : Nat) = ((s + 1 + i : Nat) : Int) := by omega
      rw [ek]
      have hk : s + 1 + i < X.length := by omega
      have a1 := ixL (show s < X.length by omega)
      have a2 := ixL hk
      have b1 := ixL (ns := Y) (i := s) (by omega)
      have kx := gL_sz hX hk
      have m1 : mulOk (gL Y s) (gL X e - gL X s) = true := mulOk_of sy (ex.sub sx) (by decide) (by decide)
      have m2 : mulOk (gL Y e - gL Y s) (gL X (s + 1 + i) - gL X s) = true := mulOk_of (ey.sub sy) (kx.sub sx) (by decide) (by decide)
      have m3 : mulOk (gL X e - gL X s) C = true := mulOk_of (ex.sub sx) hC2 (by decide) (by decide)
      have d0 : (gL X e - gL X s) * C ≠ 0 := Int.ne_of_gt (Int.mul_pos w0 hC)
      have er := ratio_eq (n := gL Y s * (gL X e - gL X s) + (gL Y e - gL Y s) * (gL X (s + 1 + i) - gL X s)) (g := g') d0 ((ex.sub sx).mul hC2) (by decide)
      have hq := rat_fr (n := gL Y s * (gL X e - gL X s) + (gL Y e - gL Y s) * (gL X (s + 1 + i) - gL X s)) d0
      have hqe := rat_eq (n := gL Y s * (gL X e - gL X s) + (gL Y e - gL Y s) * (gL X (s + 1 + i) - gL X s)) d0
      have hc := hch (s + 1 + i) (by omega) (by omega)
      refine ⟨_, g', ?_, rfl, acc' ++ [rat (gL Y s * (gL X e - gL X s) + (gL Y e - gL Y s) * (gL X (s + 1 + i) - gL X s)) ((gL X e - gL X s) * C)], some (.sh (.int ((s + 1 + i : Nat) : Int))), rfl, by rw [List.length_append, List.length_singleton]; omega, hok'.snoc hq ?_⟩
      · have hL : lenOk ((acc'.map fr).map DV.sh).length = true := lenOk_of (by rw [List.length_map, List.length_map]; omega)
        rw [List.map_append, List.map_append]
        generalize (acc'.map fr).map DV.sh = L at *
        clear hc hq hqe hch
        generalize X.map SV.int = XX at *
        generalize Y.map SV.int = YY at *
        clear ek hk
        generalize ((s + 1 + i : Nat) : Int) = kk at *
        generalize gL X (s + 1 + i) = c1 at *
        generalize gL Y e - gL Y s = c2 at *
        generalize gL X e - gL X s = c3 at *
        generalize gL Y s = c4 at *
        generalize gL X s = c5 at *
        simp [hgtI, a1, a2, b1, m1, m2, m3, er, hL]
      · rw [hl']
        generalize rat (gL Y s * (gL X e - gL X s) + (gL Y e - gL Y s) * (gL X (s + 1 + i) - gL X s)) ((gL X e - gL X s) * C) = Q at *
        generalize gL X (s + 1 + i) = c1 at *
        generalize gL Y e = d2 at *
        generalize gL Y s = d1 at *
        generalize gL X s = c5 at *
        generalize gL X e = c6 at *
        generalize H (s + 1 + i) = h at *
        refine Int.eq_of_mul_eq_mul_right (Int.ne_of_gt w0) ?_
        calc Q.1 * (D * C) * (c6 - c5) = (Q.1 * ((c6 - c5) * C)) * D := by grind
          _ = (d1 * (c6 - c5) + (d2 - d1) * (c1 - c5)) * Q.2 * D := by rw [hqe]
          _ = (D * (d1 * (c6 - c1) + d2 * (c1 - c5))) * Q.2 := by grind
          _ = (h * (c6 - c5)) * Q.2 := by rw [hc]
          _ = h * Q.2 * (c6 - c5) := by grind)
  exact ⟨acc', x', el, by omega, hok'⟩
theorem hgt_loop {X Y : List Int} {C D : Int} {H : Nat → Int} {v0 v4 : DV} {x11 : Option DV} {g : GS} (hX : ∀ x ∈ X, Sz 150 x) (hY : ∀ x ∈ Y, Sz 100000 x) (hC : 0 < C) (hC2 : Sz 8500 C) (hl : Y.length = X.length) (hn : X.length ≤ 60) (I : Inc (gL X) X.length) :
    ∀ (as : List Nat) (s : Nat), (∀ a b, (a, b) ∈ (s :: as).zip as → a < b ∧ b < X.length ∧ ∀ j, a ≤ j → j ≤ b → H j * (gL X b - gL X a) = D * (gL Y a * (gL X b - gL X j) + gL Y b * (gL X j - gL X a))) →
    ∀ (acc : List (Int × Int)), acc.length = s + 1 → HOk H (D * C) acc → ∀ x6 x7 x8 x9 x10, ∃ acc' x6' x7' x8' x9' x10',
    loopD (gT 2 (gLC (gN 6) (gLC (gN 7) (gLN)))) hgtB (zipL ((s :: as).map fun k => SV.int (k : Nat)) (as.map fun k => SV.int (k : Nat))) [some v0, some (.sh (.lst (X.map .int))), some (.sh (.lst (Y.map .int))), some (.sh (.int C)), some v4, some (.own ((acc.map fr).map .sh)), x6, x7, x8, x9, x10, x11] g =
      some (.nx [some v0, some (.sh (.lst (X.map .int))), some (.sh (.lst (Y.map .int))), some (.sh (.int C)), some v4, some (.own ((acc'.map fr).map .sh)), x6', x7', x8', x9', x10', x11] g) ∧ acc'.length = (s :: as).getLast (by simp) + 1 ∧ HOk H (D * C) acc'
  | [], s, hp, acc, ha, hok, x6, x7, x8, x9, x10 => ⟨acc, x6, x7, x8, x9, x10, rfl, ha, hok⟩
  | e :: as, s, hp, acc, ha, hok, x6, x7, x8, x9, x10 => by
    obtain ⟨h1, h2, h3⟩ := hp s e (by rw [List.zip_cons_cons]; exact List.mem_cons_self)
    obtain ⟨acc1, x10a, e1, l1, ok1⟩ := hgt_in (v0 := v0) (v4 := v4) (x11 := x11) (g := g) (n := 0) hX hY hC hC2 hl hn I h1 h2 h3 acc ha hok x10
    obtain ⟨acc2, y6, y7, y8, y9, y10, e2, l2, ok2⟩ := hgt_loop (v0 := v0) (v4 := v4) (x11 := x11) (g := g) hX hY hC hC2 hl hn I as e (fun a b m => hp a b (by rw [List.zip_cons_cons]; exact List.mem_cons_of_mem _ m)) acc1 l1 ok1 (some (.sh (.int s))) (some (.sh (.int e))) (some (.sh (.int (gL X e - gL X s)))) (some (.sh (.int (gL Y e - gL Y s)))) x10a
    refine ⟨acc2, y6, y7, y8, y9, y10, ?_, by rw [l2]; simp, ok2⟩
    have ez : zipL ((s :: e :: as).map fun k => SV.int ((k : Nat) : Int)) ((e :: as).map fun k => SV.int ((k : Nat) : Int)) = .tup [.int s, .int e] :: zipL ((e :: as).map fun k => SV.int ((k : Nat) : Int)) (as.map fun k => SV.int ((k : Nat) : Int)) := by
      simp [zipL]
    rw [ez, loop_nx (ρ' := [some v0, some (.sh (.lst (X.map .int))), some (.sh (.lst (Y.map .int))), some (.sh (.int C)), some v4, some (.own ((acc1.map fr).map .sh)), some (.sh (.int s)), some (.sh (.int e)), some (.sh (.int (gL X e - gL X s))), some (.sh (.int (gL Y e - gL Y s))), x10a, x11]) (g' := g)]
    · exact e2
    · have a1 := ixL (show s < X.length by omega)
      have a2 := ixL h2
      have b1 := ixL (ns := Y) (i := s) (by omega)
      have b2 := ixL (ns := Y) (i := e) (by omega)
      have r1 : rngOk ((s : Int) + 1) = true := rngOk_of (n := s + 1) (by omega)
      have r2 : rngOk ((e : Int) + 1) = true := rngOk_of (n := e + 1) (by omega)
      have er : ((e : Int) + 1 - (s + 1)).toNat = e - s := by omega
      generalize (acc1.map fr).map DV.sh = A1 at *
      generalize (acc.map fr).map DV.sh = A0 at *
      clear h3 hp e2
      generalize X.map SV.int = XX at *
      generalize Y.map SV.int = YY at *
      generalize gL X e = c1 at *
      generalize gL X s = c2 at *
      generalize gL Y e = d1 at *
      generalize gL Y s = d2 at *
      simp [hgtB, a1, a2, b1, b2, r1, r2, er, e1]
theorem zip_rev {as : List Nat} {a b : Nat} : ∀ {t : Nat} {rs : List Nat} {s : Nat}, (t :: rs).reverse = s :: as → (a, b) ∈ (s :: as).zip as → (b, a) ∈ (t :: rs).zip rs := by
  intro t rs s he hm
  obtain ⟨i, hi, e⟩ := List.mem_iff_getElem.mp hm
  rw [List.getElem_zip] at e
  simp only [List.length_zip, List.length_cons] at hi
  have hlen : rs.length = as.length := by
    have := congrArg List.length he
    simp at this
    exact this
  have key : ∀ k, k < as.length + 1 → (s :: as)[k]? = (t :: rs)[as.length - k]? := fun k hk => by
    rw [← he, List.getElem?_reverse (by simp; omega)]
    congr 1
    simp
    omega
  have e1 : (s :: as)[i]? = some a := by
    rw [List.getElem?_eq_getElem (by simp; omega)]
    exact congrArg some (Prod.ext_iff.mp e).1
  have e2 : (s :: as)[i + 1]? = some b := by
    rw [List.getElem?_cons_succ, List.getElem?_eq_getElem (by omega)]
    exact congrArg some (Prod.ext_iff.mp e).2
  rw [key i (by omega)] at e1
  rw [key (i + 1) (by omega)] at e2
  rw [show as.length - i = (as.length - (i + 1)) + 1 by omega, List.getElem?_cons_succ] at e1
  have hz : ((t :: rs).zip rs)[as.length - (i + 1)]? = some (b, a) := by
    rw [List.getElem?_zip_eq_some]
    exact ⟨e2, e1⟩
  exact List.mem_of_getElem? hz
theorem cut1 {α : Type} (x : α) (xs : List α) : cutS (x :: xs) (some 1) none = xs := by
  unfold cutS
  have e1 : HT.sIx (x :: xs).length 0 (some 1) = 1 := (HT.sIx_nat (x :: xs).length 0 1).trans (by simp)
  rw [e1, HT.sIx_none]
  simp
theorem upper_heights_eq {S : SV} {pts : List ((Int × Int) × (Int × Int))} {g : GS} (hS : S.seq? = some (pts.map encPt)) (hx : ∀ p ∈ pts, Fr p.1 ∧ Sz 140 p.1.2) (hx1 : ∀ p ∈ pts, Sz 140 p.1.1) (hX : ∀ x ∈ nums (pts.map (·.1)), Sz 150 x)
    (hy : ∀ p ∈ pts, Fr p.2 ∧ Sz 140 p.2.2) (hy1 : ∀ p ∈ pts, Sz 400 p.2.1) (h0 : 0 < pts.length) (h60 : pts.length ≤ 60) (I : Inc (gL (nums (pts.map (·.1)))) pts.length) :
    ∃ hs D H, F_upper_heights [S] g = some (.own ((hs.map fr).map .sh), g) ∧ hs.length = pts.length ∧ 0 < D ∧ Char (gL (nums (pts.map (·.1)))) H (fun k => D * gL (nums (pts.map (·.2))) k) pts.length ∧ HOk H (D * (lcmL (pts.map (·.2)) 1 : Nat)) hs := by
  have fx : ∀ q ∈ pts.map (·.1), Fr q ∧ Sz 140 q.2 := fun q hq => by obtain ⟨p, m, rfl⟩ := List.mem_map.mp hq; exact hx p m
  have fx1 : ∀ q ∈ pts.map (·.1), Sz 140 q.1 := fun q hq => by obtain ⟨p, m, rfl⟩ := List.mem_map.mp hq; exact hx1 p m
  have fy : ∀ q ∈ pts.map (·.2), Fr q ∧ Sz 140 q.2 := fun q hq => by obtain ⟨p, m, rfl⟩ := List.mem_map.mp hq; exact hy p m
  have fy1 : ∀ q ∈ pts.map (·.2), Sz 400 q.1 := fun q hq => by obtain ⟨p, m, rfl⟩ := List.mem_map.mp hq; exact hy1 p m
  have lx : (pts.map (·.1)).length = pts.length := List.length_map _
  have ly : (pts.map (·.2)).length = pts.length := List.length_map _
  obtain ⟨sx, bx⟩ := scaled_eqG (S := .lst ((pts.map (·.1)).map fr)) (g := g) rfl fx fx1 (by decide) (by rw [lx]; omega) (by decide) (by rw [lx]; omega)
  obtain ⟨sy, by_⟩ := scaled_eqG (S := .lst ((pts.map (·.2)).map fr)) (g := g) rfl fy fy1 (by decide) (by rw [ly]; omega) (by decide) (by rw [ly]; omega)
  have c0 : 0 < lcmL (pts.map (·.2)) 1 := lcmL_pos _ 1 (by decide) fun q hq => (fy q hq).1
  have cb : lcmL (pts.map (·.2)) 1 < 2 ^ 8500 := Nat.lt_of_lt_of_le by_ (Nat.pow_le_pow_right (by decide) (by rw [ly]; omega))
  have hY : ∀ x ∈ nums (pts.map (·.2)), Sz 100000 x := fun x h => (nums_szG (fun q hq => (fy q hq).1) fy1 cb x h).mono (by decide)
  have cx : ∀ (ρ1 ρ2 ρ3 ρ4 ρ5 ρ6 ρ7 ρ8 ρ9 ρ10 : Option DV) g, compL (wN 11) yesT (oS (b2 hIx (vS 11) (kS (.int 0)))) [some (.sh S), ρ1, ρ2, ρ3, ρ4, ρ5, ρ6, ρ7, ρ8, ρ9, ρ10, none] (pts.map encPt) g = some (((pts.map (·.1)).map fr).map .sh, g) := fun _ _ _ _ _ _ _ _ _ _ g => by
    rw [comp_map (β := Int × Int) encPt (fun p => DV.sh (fr p.1)) pts g (fun p _ g => by simp [encPt])]
    rw [List.map_map, List.map_map]; rfl
  have cy : ∀ (ρ1 ρ2 ρ3 ρ4 ρ5 ρ6 ρ7 ρ8 ρ9 ρ10 : Option DV) g, compL (wN 11) yesT (oS (b2 hIx (vS 11) (kS (.int 1)))) [some (.sh S), ρ1, ρ2, ρ3, ρ4, ρ5, ρ6, ρ7, ρ8, ρ9, ρ10, none] (pts.map encPt) g = some (((pts.map (·.2)).map fr).map .sh, g) := fun _ _ _ _ _ _ _ _ _ _ g => by
    rw [comp_map (β := Int × Int) encPt (fun p => DV.sh (fr p.2)) pts g (fun p _ g => by simp [encPt])]
    rw [List.map_map, List.map_map]; rfl
  cases hpts : pts with
  | nil => rw [hpts] at h0; simp at h0
  | cons p0 pt =>
  rw [← hpts]
  have hix : hIx S (.int 0) = some (encPt p0) := by
    unfold hIx
    rw [hS, hpts]
    exact L2.atI_nat (j := 0) rfl
  have hLp : lenOk (pts.map encPt).length = true := lenOk_of (by rw [List.length_map]; omega)
  have first : (pts.map (·.2))[0]? = some p0.2 := by rw [hpts]; rfl
  have hn0 := nums_rel (fun q hq => (fy q hq).1) first
  have hq0 := (fy p0.2 (by rw [hpts]; simp)).1
  generalize hXX : nums (pts.map (·.1)) = X at *
  generalize hYY : nums (pts.map (·.2)) = Y at *
  have lX : X.length = pts.length := by rw [← hXX, nums_length, lx]
  have lY : Y.length = X.length := by rw [lX, ← hYY, nums_length, ly]
  generalize hCC : lcmL (pts.map (·.2)) 1 = C at *
  obtain ⟨rs, hst, hrl, eh⟩ := hull_places_eq (g := g) (fun x h => (hX x h).mono (show 150 ≤ 100000 by decide)) hY (by decide) lY (by rw [lX]; exact I) (by omega) (by omega)
  obtain ⟨D, H, L⟩ := HStk.line (by rw [← lX] at I; exact I) hst (by omega)
  have I' : Inc (gL X) X.length := by rw [lX]; exact I
  have hn1 : X.length - 1 + 1 = X.length := by omega
  have Ch : Char (gL X) H (fun k => D * gL Y k) X.length := ⟨fun k hk => L.ge k (by omega), by rw [← hn1]; exact L.conc, by rw [← hn1]; exact L.touch⟩
  cases hrev : ((X.length - 1) :: rs).reverse with
  | nil => simp at hrev
  | cons s as =>
  rw [hrev] at eh
  have hH0 : H 0 = D * gL Y 0 := by
    rcases L.touch 0 (by omega) with e | ⟨l, r, q1, _⟩
    · exact e
    · omega
  have s0 : s = 0 := by
    have : ∀ {ks : List Nat}, HStk (gL X) (gL Y) ks → ks.getLast? = some 0 := fun h => by
      induction h with
      | one => rfl
      | cons h lt u a ih => rw [List.getLast?_cons_cons]; exact ih
    have h1 := this hst
    rw [← List.head?_reverse, hrev] at h1
    exact Option.some.inj h1
  subst s0
  have hok0 : HOk H (D * (C : Nat)) [p0.2] := fun k q hq => by
    cases k with
    | zero =>
      simp at hq
      subst hq
      refine ⟨hq0, ?_⟩
      rw [hH0]
      have hn0' : gL Y 0 * p0.2.2 = p0.2.1 * (C : Nat) := hn0
      calc p0.2.1 * (D * (C : Nat)) = (p0.2.1 * (C : Nat)) * D := by grind
        _ = D * gL Y 0 * p0.2.2 := by rw [← hn0']; grind
    | succ k => simp at hq
  obtain ⟨hs, y6, y7, y8, y9, y10, el, ll, ok⟩ := hgt_loop (v0 := .sh S) (v4 := .sh (.lst ((0 :: as).map fun k => SV.int (k : Nat)))) (x11 := none) (g := g) hX hY (C := (C : Nat)) (D := D) (H := H) (by omega) (by unfold Sz; rw [Int.natAbs_natCast]; exact cb) lY (by omega) I' as 0 (fun a b m => by
    have m2 := zip_rev hrev m
    obtain ⟨c1, c2, c3⟩ := L.chord a b (List.mem_map.mpr ⟨(b, a), m2, rfl⟩)
    exact ⟨c1, by omega, c3⟩) [p0.2] rfl hok0 none none none none none
  have hlast : (0 :: as).getLast (by simp) = X.length - 1 := by
    have : (0 :: as).getLast? = some (X.length - 1) := by rw [← hrev, List.getLast?_reverse]; rfl
    rw [List.getLast?_eq_some_getLast (by simp)] at this
    exact Option.some.inj this
  refine ⟨hs, D, H, ?_, by rw [ll, hlast]; omega, L.pos, by rw [← lX]; exact Ch, ok⟩
  have zc := cut1 (SV.int ((0 : Nat) : Int)) (as.map fun k => SV.int ((k : Nat) : Int))
  clear first hn0 fx fx1 fy fy1 hx hx1 hy hy1 bx by_ cb hX hY L Ch ok hok0
  rw [hpts] at hS cx cy hLp sx sy
  rw [List.map_cons] at eh el
  generalize hP : List.map encPt (p0 :: pt) = P at *
  generalize as.map (fun k => SV.int ((k : Nat) : Int)) = AS at *
  generalize SV.int ((0 : Nat) : Int) :: AS = KS at *
  generalize (hs.map fr).map DV.sh = HS at *
  generalize ((p0 :: pt).map (·.1)).map fr = PX at *
  generalize ((p0 :: pt).map (·.2)).map fr = PY at *
  generalize X.map SV.int = XX at *
  generalize Y.map SV.int = YY at *
  rw [List.map_cons, List.map_cons, List.map_nil, List.map_nil] at el
  unfold hgtB hgtI at el
  unfold encPt at hix
  simp [F_upper_heights, B_upper_heights, hS, hix, cx, cy, hLp, sx, sy, eh, zc, el]
/-! hulls over fractions -/
theorem fr_unique {p q : Int × Int} (hp : Fr p) (hq : Fr q) (e : p.1 * q.2 = q.1 * p.2) : p = q := by
  have h1 : p.2.natAbs ∣ q.2.natAbs := by
    have : p.2.natAbs ∣ p.1.natAbs * q.2.natAbs := by
      rw [← Int.natAbs_mul, e, Int.natAbs_mul]
      exact Nat.dvd_mul_left _ _
    exact Nat.Coprime.dvd_of_dvd_mul_left (by rw [Nat.Coprime, Nat.gcd_comm]; exact hp.2) this
  have h2 : q.2.natAbs ∣ p.2.natAbs := by
    have : q.2.natAbs ∣ q.1.natAbs * p.2.natAbs := by
      rw [← Int.natAbs_mul, ← e, Int.natAbs_mul]
      exact Nat.dvd_mul_left _ _
    exact Nat.Coprime.dvd_of_dvd_mul_left (by rw [Nat.Coprime, Nat.gcd_comm]; exact hq.2) this
  have h3 := Nat.dvd_antisymm h1 h2
  have hp0 := hp.1
  have hq0 := hq.1
  have e2 : p.2 = q.2 := by omega
  rw [e2] at e
  have e1 : p.1 = q.1 := Int.eq_of_mul_eq_mul_right (Int.ne_of_gt hq0) e
  exact Prod.ext e1 e2
theorem Char.scale {x H y : Nat → Int} {n : Nat} {c : Int} (hc : 0 < c) (C : Char x H y n) : Char x (fun k => c * H k) (fun k => c * y k) n where
  ge := fun k hk => Int.mul_le_mul_of_nonneg_left (C.ge k hk) (by omega)
  conc := fun k hk => by
    have := Int.mul_le_mul_of_nonneg_left (C.conc k hk) (show 0 ≤ c by omega)
    calc (c * H (k + 2) - c * H (k + 1)) * (x (k + 1) - x k) = c * ((H (k + 2) - H (k + 1)) * (x (k + 1) - x k)) := by grind
      _ ≤ _ := this
      _ = _ := by grind
  touch := fun k hk => by
    rcases C.touch k hk with e | ⟨l, r, q1, q2, q3, e1, e2, e3⟩
    · exact .inl (by show c * H k = c * y k; rw [e])
    · refine .inr ⟨l, r, q1, q2, q3, by show c * H l = c * y l; rw [e1], by show c * H r = c * y r; rw [e2], ?_⟩
      calc c * H k * (x r - x l) = c * (H k * (x r - x l)) := by grind
        _ = c * (H l * (x r - x k) + H r * (x k - x l)) := by rw [e3]
        _ = _ := by grind
theorem Char.congr {x H y y' : Nat → Int} {n : Nat} (C : Char x H y n) (h : ∀ k, k < n → y k = y' k) : Char x H y' n where
  ge := fun k hk => by rw [← h k hk]; exact C.ge k hk
  conc := C.conc
  touch := fun k hk => by
    rcases C.touch k hk with e | ⟨l, r, q1, q2, q3, e1, e2, e3⟩
    · exact .inl (by rw [← h k hk]; exact e)
    · exact .inr ⟨l, r, q1, q2, q3, by rw [← h l (by omega)]; exact e1, by rw [← h r q3]; exact e2, e3⟩
/-- the places' scale does not matter -/
theorem Char.rescale {x X H y : Nat → Int} {n : Nat} {a w : Int} (ha : 0 < a) (hw : 0 < w) (h : ∀ k, k < n → X k * w = x k * a) (C : Char X H y n) : Char x H y n where
  ge := C.ge
  conc := fun k hk => by
    have h0 := h k (by omega)
    have h1 := h (k + 1) (by omega)
    have h2 := h (k + 2) hk
    have c := Int.mul_le_mul_of_nonneg_right (C.conc k hk) (show 0 ≤ w by omega)
    refine cancelL ha ?_
    generalize H (k + 2) - H (k + 1) = A at *
    generalize H (k + 1) - H k = B at *
    calc A * (x (k + 1) - x k) * a = A * (x (k + 1) * a - x k * a) := by grind
      _ = A * (X (k + 1) - X k) * w := by rw [← h1, ← h0]; grind
      _ ≤ B * (X (k + 2) - X (k + 1)) * w := c
      _ = B * (X (k + 2) * w - X (k + 1) * w) := by grind
      _ = B * (x (k + 2) - x (k + 1)) * a := by rw [h2, h1]; grind
  touch := fun k hk => by
    rcases C.touch k hk with e | ⟨l, r, q1, q2, q3, e1, e2, e3⟩
    · exact .inl e
    · refine .inr ⟨l, r, q1, q2, q3, e1, e2, ?_⟩
      have hl := h l (by omega)
      have hr := h r q3
      have hk' := h k hk
      refine Int.eq_of_mul_eq_mul_right (Int.ne_of_gt ha) ?_
      calc H k * (x r - x l) * a = H k * (x r * a - x l * a) := by grind
        _ = H k * (X r - X l) * w := by rw [← hr, ← hl]; grind
        _ = (H l * (X r - X k) + H r * (X k - X l)) * w := by rw [e3]
        _ = H l * (X r * w - X k * w) + H r * (X k * w - X l * w) := by grind
        _ = _ := by rw [hr, hk', hl]; grind
structure HullQ (x : Nat → Int) (n : Nat) (ps hs : List (Int × Int)) : Prop where
  lp : ps.length = n
  lh : hs.length = n
  ex : ∃ (α : Int) (H y : Nat → Int), 0 < α ∧ Char x H y n ∧ HOk H α hs ∧ HOk y α ps
theorem HOk.mul {H : Nat → Int} {α c : Int} {hs : List (Int × Int)} (h : HOk H α hs) : HOk (fun k => c * H k) (c * α) hs := fun k q hq => by
  obtain ⟨f, e⟩ := h k q hq
  refine ⟨f, ?_⟩
  calc q.1 * (c * α) = c * (q.1 * α) := by grind
    _ = _ := by rw [e]; grind
theorem getq {α : Type} {l : List α} {n k : Nat} (h : l.length = n) (hk : k < n) : ∃ p, l[k]? = some p := ⟨l[k]'(by omega), List.getElem?_eq_getElem (by omega)⟩
theorem HullQ.uniq {x : Nat → Int} {n : Nat} {ps hs hs' : List (Int × Int)} (I : Inc x n) (h : HullQ x n ps hs) (h' : HullQ x n ps hs') : hs = hs' := by
  obtain ⟨α, H, y, a0, C, o1, o2⟩ := h.ex
  obtain ⟨β, H', y', b0, C', o1', o2'⟩ := h'.ex
  have D1 := C.scale b0
  have D2 := C'.scale a0
  have ey : ∀ k, k < n → β * y k = α * y' k := fun k hk => by
    obtain ⟨p, hp⟩ := getq h.lp hk
    obtain ⟨f, e1⟩ := o2 k _ hp
    obtain ⟨_, e2⟩ := o2' k _ hp
    refine Int.eq_of_mul_eq_mul_right (Int.ne_of_gt f.1) ?_
    calc β * y k * p.2 = β * (y k * p.2) := by grind
      _ = β * (p.1 * α) := by rw [e1]
      _ = α * (p.1 * β) := by grind
      _ = _ := by rw [e2]; grind
  have u := Char.uniq I (D1.congr ey) D2
  refine List.ext_getElem? fun k => ?_
  by_cases hk : k < n
  · obtain ⟨p, q1⟩ := getq h.lh hk
    obtain ⟨q, q2⟩ := getq h'.lh hk
    obtain ⟨f1, e1⟩ := o1 k _ q1
    obtain ⟨f2, e2⟩ := o1' k _ q2
    rw [q1, q2]
    congr 1
    refine fr_unique f1 f2 ?_
    have hu : β * H k = α * H' k := u k hk
    refine Int.eq_of_mul_eq_mul_right (Int.ne_of_gt (Int.mul_pos a0 b0)) ?_
    calc p.1 * q.2 * (α * β) = (p.1 * α) * β * q.2 := by grind
      _ = β * H k * p.2 * q.2 := by rw [e1]; grind
      _ = (H' k * q.2) * α * p.2 := by rw [hu]; grind
      _ = q.1 * p.2 * (α * β) := by rw [← e2]; grind
  · rw [List.getElem?_eq_none (by rw [h.lh]; omega), List.getElem?_eq_none (by rw [h'.lh]; omega)]
theorem HullQ.self {x : Nat → Int} {n : Nat} {ps hs : List (Int × Int)} (h : HullQ x n ps hs) : HullQ x n hs hs := by
  obtain ⟨α, H, y, a0, C, o1, o2⟩ := h.ex
  exact ⟨h.lh, h.lh, α, H, H, a0, C.self, o1, o1⟩
/-- a point under the hull may sink -/
theorem HullQ.lower {x : Nat → Int} {n m : Nat} {ps ps' hs : List (Int × Int)} (h : HullQ x n ps hs) (hm : m < n) (hl : ps'.length = n) (hf : ∀ p ∈ ps', Fr p) (he : ∀ k, k ≠ m → ps'[k]? = ps[k]?)
    (h1 : ∀ p q, ps'[m]? = some p → ps[m]? = some q → p.1 * q.2 ≤ q.1 * p.2) (h2 : ∀ p q, ps[m]? = some p → hs[m]? = some q → p.1 * q.2 < q.1 * p.2) : HullQ x n ps' hs := by
  obtain ⟨α, H, y, a0, C, o1, o2⟩ := h.ex
  obtain ⟨P', hp'⟩ := getq hl hm
  obtain ⟨P, hp⟩ := getq h.lp hm
  obtain ⟨R, hh⟩ := getq h.lh hm
  have fp' := hf P' (List.mem_of_getElem? hp')
  -- all over one more denominator
  have c0 : 0 < P'.2 := fp'.1
  let y' : Nat → Int := fun k => if k = m then P'.1 * α else P'.2 * y k
  have C1 := C.scale c0
  obtain ⟨f1, e1⟩ := o1 m _ hh
  obtain ⟨f2, e2⟩ := o2 m _ hp
  have g1 := h1 _ _ hp' hp
  have g2 := h2 _ _ hp hh
  have ym : y' m = P'.1 * α := by simp only [y', if_true]
  have yk : ∀ k, k ≠ m → y' k = P'.2 * y k := fun k hk => by simp only [y']; rw [if_neg hk]
  clear_value y'
  refine ⟨hl, h.lh, P'.2 * α, fun k => P'.2 * H k, y', Int.mul_pos c0 a0, C1.lower (m := m) ?_ ?_ yk, o1.mul, fun k q hq => ?_⟩
  · -- y m < H m
    have hlt : y m < H m := by
      have : y m * (P.2 * R.2) < H m * (P.2 * R.2) := by
        calc y m * (P.2 * R.2) = (y m * P.2) * R.2 := by grind
          _ = (P.1 * R.2) * α := by rw [← e2]; grind
          _ < (R.1 * P.2) * α := Int.mul_lt_mul_of_pos_right g2 a0
          _ = (H m * R.2) * P.2 := by rw [← e1]; grind
          _ = _ := by grind
      exact Int.lt_of_mul_lt_mul_right this (Int.le_of_lt (Int.mul_pos f2.1 f1.1))
    exact Int.mul_lt_mul_of_pos_left hlt c0
  · show y' m ≤ P'.2 * y m
    rw [ym]
    refine cancelL (p := P.2) f2.1 ?_
    have := Int.mul_le_mul_of_nonneg_right g1 (show 0 ≤ α by omega)
    calc P'.1 * α * P.2 = P'.1 * P.2 * α := by grind
      _ ≤ P.1 * P'.2 * α := this
      _ = (P.1 * α) * P'.2 := by grind
      _ = _ := by rw [e2]; grind
  · by_cases hk : k = m
    · subst hk
      rw [hp'] at hq
      cases hq
      exact ⟨fp', by rw [ym]; grind⟩
    · rw [he k hk] at hq
      obtain ⟨f, e⟩ := o2 k q hq
      refine ⟨f, ?_⟩
      rw [yk k hk]
      calc q.1 * (P'.2 * α) = P'.2 * (q.1 * α) := by grind
        _ = _ := by rw [e]; grind
/-! k19: the hull of given points -/
structure PtsH (xs : List Int) (wide : Int) : Prop where
  n0 : 0 < xs.length
  n60 : xs.length ≤ 60
  inc : Inc (gL xs) xs.length
  w0 : 0 < wide
  w9 : wide ≤ 9
  sx : ∀ x ∈ xs, Sz 135 x
theorem gL_over {h : Int} (hh : 0 < h) {ns : List Int} {i : Nat} (hi : i < ns.length) : gL (nums (over h ns)) i * h = gL ns i * (lcmL (over h ns) 1 : Nat) := nums_over hh ns hi
theorem lcm_over_pos {h : Int} (hh : 0 < h) (ns : List Int) : (0 : Int) < (lcmL (over h ns) 1 : Nat) := by
  have := lcmL_pos (over h ns) 1 (by decide) fun q hq => by
    obtain ⟨x, _, rfl⟩ := List.mem_map.mp hq
    exact rat_fr (Int.ne_of_gt hh)
  omega
theorem upper_hull {xs : List Int} {wide : Int} (P : PtsH xs wide) {S : SV} {pts : List ((Int × Int) × (Int × Int))} {g : GS} (hS : S.seq? = some (pts.map encPt)) (hx : pts.map (·.1) = over wide xs) (hy : ∀ q ∈ pts.map (·.2), Fr q ∧ Sz 140 q.2 ∧ Sz 400 q.1) :
    ∃ hs, F_upper_heights [S] g = some (.own ((hs.map fr).map .sh), g) ∧ HullQ (gL xs) xs.length (pts.map (·.2)) hs := by
  have ln : pts.length = xs.length := by
    have := congrArg List.length hx
    simpa [over] using this
  have sw : Sz 4 wide := by have := P.w0; have := P.w9; unfold Sz; omega
  have fo := over_fr P.w0 (sw.mono (show 4 ≤ 135 by decide)) P.sx
  have A0 := lcm_over_pos P.w0 xs
  have fx : ∀ p ∈ pts, FrS 135 p.1 := fun p hp => fo p.1 (by rw [← hx]; exact List.mem_map.mpr ⟨p, hp, rfl⟩)
  have fy : ∀ p ∈ pts, Fr p.2 ∧ Sz 140 p.2.2 ∧ Sz 400 p.2.1 := fun p hp => hy p.2 (List.mem_map.mpr ⟨p, hp, rfl⟩)
  have cb : lcmL (over wide xs) 1 < 2 ^ 4 := by
    have := Int.le_of_dvd P.w0 (lcm_over P.w0 xs)
    have := P.w9
    omega
  have hX : ∀ x ∈ nums (pts.map (·.1)), Sz 150 x := fun x m => by
    rw [hx] at m
    exact (nums_szG (fun q hq => (fo q hq).fr) (fun q hq => (fo q hq).n) cb x m).mono (by decide)
  have rel : ∀ k, k < xs.length → gL (nums (pts.map (·.1))) k * wide = gL xs k * (lcmL (over wide xs) 1 : Nat) := fun k hk => by rw [hx]; exact gL_over P.w0 hk
  have I : Inc (gL (nums (pts.map (·.1)))) pts.length := fun i hi => by
    rw [ln] at hi
    have h1 := rel i (by omega)
    have h2 := rel (i + 1) hi
    have := Int.mul_lt_mul_of_pos_right (P.inc i hi) A0
    rw [← h1, ← h2] at this
    exact Int.lt_of_mul_lt_mul_right this (Int.le_of_lt P.w0)
  obtain ⟨hs, D, H, e, l, D0, C, ok⟩ := upper_heights_eq (g := g) hS (fun p hp => ⟨(fx p hp).fr, (fx p hp).d.mono (by decide)⟩) (fun p hp => (fx p hp).n.mono (by decide)) hX (fun p hp => ⟨(fy p hp).1, (fy p hp).2.1⟩) (fun p hp => (fy p hp).2.2) (by rw [ln]; exact P.n0) (by rw [ln]; exact P.n60) I
  rw [ln] at C
  have fyq : ∀ q ∈ pts.map (·.2), Fr q := fun q hq => (hy q hq).1
  have C0 : 0 < lcmL (pts.map (·.2)) 1 := lcmL_pos _ 1 (by decide) fyq
  refine ⟨hs, e, by rw [List.length_map, ln], by rw [l, ln], D * (lcmL (pts.map (·.2)) 1 : Nat), H, fun k => D * gL (nums (pts.map (·.2))) k, Int.mul_pos D0 (by omega), C.rescale A0 P.w0 rel, ok, fun k q hq => ?_⟩
  refine ⟨fyq q (List.mem_of_getElem? hq), ?_⟩
  have := nums_rel fyq hq
  have this' : gL (nums (pts.map (·.2))) k * q.2 = q.1 * (lcmL (pts.map (·.2)) 1 : Nat) := this
  show q.1 * (D * _) = D * gL (nums (pts.map (·.2))) k * q.2
  calc q.1 * (D * (lcmL (pts.map (·.2)) 1 : Nat)) = D * (q.1 * (lcmL (pts.map (·.2)) 1 : Nat)) := by grind
    _ = _ := by rw [← this']; grind
/-- what a told height is: a point's, or one on the chord of two points -/
theorem hull_form {xs ys : List Int} {high : Int} {hs : List (Int × Int)} (I : Inc (gL xs) xs.length) (hh : 0 < high) (hl : ys.length = xs.length) (h : HullQ (gL xs) xs.length (over high ys) hs) {k : Nat} {q : Int × Int} (hk : hs[k]? = some q) :
    q = rat (gL ys k) high ∨ ∃ l r, l < k ∧ k < r ∧ r < xs.length ∧ q = rat (gL ys l * (gL xs r - gL xs k) + gL ys r * (gL xs k - gL xs l)) ((gL xs r - gL xs l) * high) := by
  obtain ⟨α, H, y, a0, C, o1, o2⟩ := h.ex
  obtain ⟨f, e⟩ := o1 k q hk
  have kn : k < xs.length := by rw [← h.lh]; exact (List.getElem?_eq_some_iff.mp hk).1
  have hy : ∀ i, i < xs.length → y i * high = gL ys i * α := fun i hi => by
    have hp : (over high ys)[i]? = some (rat (gL ys i) high) := by
      have : i < ys.length := by omega
      simp [over, gL, List.getD, this]
    obtain ⟨f1, e1⟩ := o2 i _ hp
    have e2 := rat_eq (n := gL ys i) (Int.ne_of_gt hh)
    generalize rat (gL ys i) high = p at *
    refine Int.eq_of_mul_eq_mul_right (Int.ne_of_gt f1.1) ?_
    calc y i * high * p.2 = (y i * p.2) * high := by grind
      _ = (p.1 * high) * α := by rw [← e1]; grind
      _ = _ := by rw [e2]; grind
  rcases C.touch k kn with t | ⟨l, r, q1, q2, q3, t1, t2, t3⟩
  · left
    have e2 := rat_eq (n := gL ys k) (Int.ne_of_gt hh)
    refine fr_unique f (rat_fr (Int.ne_of_gt hh)) ?_
    have e3 := hy k kn
    rw [t] at e
    generalize rat (gL ys k) high = p at *
    refine Int.eq_of_mul_eq_mul_right (Int.ne_of_gt (Int.mul_pos a0 hh)) ?_
    calc q.1 * p.2 * (α * high) = (q.1 * α) * p.2 * high := by grind
      _ = (y k * high) * q.2 * p.2 := by rw [e]; grind
      _ = (gL ys k * p.2) * α * q.2 := by rw [e3]; grind
      _ = _ := by rw [← e2]; grind
  · right
    refine ⟨l, r, q1, q2, q3, ?_⟩
    have w0 : 0 < gL xs r - gL xs l := by have := I.lt (show l < r by omega) q3; omega
    have M0 : 0 < (gL xs r - gL xs l) * high := Int.mul_pos w0 hh
    have e2 := rat_eq (n := gL ys l * (gL xs r - gL xs k) + gL ys r * (gL xs k - gL xs l)) (Int.ne_of_gt M0)
    refine fr_unique f (rat_fr (Int.ne_of_gt M0)) ?_
    have yl := hy l (by omega)
    have yr := hy r q3
    rw [t1, t2] at t3
    generalize rat (gL ys l * (gL xs r - gL xs k) + gL ys r * (gL xs k - gL xs l)) ((gL xs r - gL xs l) * high) = p at *
    generalize gL xs r - gL xs k = u at *
    generalize gL xs k - gL xs l = v at *
    generalize gL xs r - gL xs l = w at *
    have key : q.1 * (w * high) = (gL ys l * u + gL ys r * v) * q.2 := by
      refine Int.eq_of_mul_eq_mul_right (Int.ne_of_gt a0) ?_
      calc q.1 * (w * high) * α = (q.1 * α) * w * high := by grind
        _ = (H k * w) * high * q.2 := by rw [e]; grind
        _ = (y l * high) * u * q.2 + (y r * high) * v * q.2 := by rw [t3]; grind
        _ = _ := by rw [yl, yr]; grind
    refine Int.eq_of_mul_eq_mul_right (Int.ne_of_gt M0) ?_
    calc q.1 * p.2 * (w * high) = (q.1 * (w * high)) * p.2 := by grind
      _ = (gL ys l * u + gL ys r * v) * p.2 * q.2 := by rw [key]; grind
      _ = _ := by rw [← e2]; grind
/-! k19: what the law looks at, of a hull over fractions -/
theorem hull_y {xs ys : List Int} {high α : Int} {y : Nat → Int} (hh : 0 < high) (hl : ys.length = xs.length) (o2 : HOk y α (over high ys)) : ∀ i, i < xs.length → y i * high = gL ys i * α := fun i hi => by
  have hp : (over high ys)[i]? = some (rat (gL ys i) high) := by
    have : i < ys.length := by omega
    simp [over, gL, List.getD, this]
  obtain ⟨f1, e1⟩ := o2 i _ hp
  have e2 := rat_eq (n := gL ys i) (Int.ne_of_gt hh)
  generalize rat (gL ys i) high = p at *
  refine Int.eq_of_mul_eq_mul_right (Int.ne_of_gt f1.1) ?_
  calc y i * high * p.2 = (y i * p.2) * high := by grind
    _ = (p.1 * high) * α := by rw [← e1]; grind
    _ = _ := by rw [e2]; grind
theorem frac_le {α : Int} (a0 : 0 < α) {h y yy high : Int} {q : Int × Int} (fq : 0 < q.2) (e : q.1 * α = h * q.2) (hh : 0 < high) (ey : y * high = yy * α) (hge : y ≤ h) : yy * q.2 ≤ q.1 * high := by
  refine cancelL a0 ?_
  have := Int.mul_le_mul_of_nonneg_right hge (show 0 ≤ q.2 * high from Int.mul_nonneg (by omega) (by omega))
  calc yy * q.2 * α = (yy * α) * q.2 := by grind
    _ = y * (q.2 * high) := by rw [← ey]; grind
    _ ≤ h * (q.2 * high) := this
    _ = (h * q.2) * high := by grind
    _ = q.1 * high * α := by rw [← e]; grind
theorem frac_eq {α : Int} (a0 : 0 < α) {h y yy high : Int} {q : Int × Int} (e : q.1 * α = h * q.2) (ey : y * high = yy * α) (hge : h = y) : q.1 * high = yy * q.2 := by
  refine Int.eq_of_mul_eq_mul_right (Int.ne_of_gt a0) ?_
  calc q.1 * high * α = (q.1 * α) * high := by grind
    _ = (y * high) * q.2 := by rw [e, hge]; grind
    _ = yy * q.2 * α := by rw [ey]; grind
theorem right_ge {xs ys : List Int} {high : Int} {hs : List (Int × Int)} (hh : 0 < high) (hl : ys.length = xs.length) (h : HullQ (gL xs) xs.length (over high ys) hs) {k : Nat} {q : Int × Int} (hk : hs[k]? = some q) : gL ys k * q.2 ≤ q.1 * high := by
  obtain ⟨α, H, y, a0, C, o1, o2⟩ := h.ex
  obtain ⟨f, e⟩ := o1 k q hk
  have kn : k < xs.length := by rw [← h.lh]; exact (List.getElem?_eq_some_iff.mp hk).1
  exact frac_le a0 f.1 e hh (hull_y hh hl o2 k kn) (C.ge k kn)
theorem right_end {xs ys : List Int} {high : Int} {hs : List (Int × Int)} (hh : 0 < high) (hl : ys.length = xs.length) (h : HullQ (gL xs) xs.length (over high ys) hs) {k : Nat} {q : Int × Int} (hk : hs[k]? = some q) (he : k = 0 ∨ k + 1 = xs.length) : q.1 * high = gL ys k * q.2 := by
  obtain ⟨α, H, y, a0, C, o1, o2⟩ := h.ex
  obtain ⟨f, e⟩ := o1 k q hk
  have kn : k < xs.length := by rw [← h.lh]; exact (List.getElem?_eq_some_iff.mp hk).1
  refine frac_eq a0 e (hull_y hh hl o2 k kn) ?_
  rcases C.touch k kn with t | ⟨l, r, q1, q2, q3, _⟩
  · exact t
  · omega
/-- the cross products of three neighbours, told over the common denominator -/
theorem cross_id {α a1 a2 b1 b2 ha hb : Int} (ea : a1 * α = ha * a2) (eb : b1 * α = hb * b2) : (b1 * a2 - a1 * b2) * α = (hb - ha) * (a2 * b2) := by
  calc (b1 * a2 - a1 * b2) * α = (b1 * α) * a2 - (a1 * α) * b2 := by grind
    _ = _ := by rw [ea, eb]; grind
theorem right_in19 {xs ys : List Int} {high : Int} {hs : List (Int × Int)} (I : Inc (gL xs) xs.length) (hh : 0 < high) (hl : ys.length = xs.length) (h : HullQ (gL xs) xs.length (over high ys) hs) {k : Nat} {a q b : Int × Int} (ka : hs[k]? = some a) (kq : hs[k + 1]? = some q) (kb : hs[k + 2]? = some b) :
    (b.1 * q.2 - q.1 * b.2) * a.2 * (gL xs (k + 1) - gL xs k) ≤ (q.1 * a.2 - a.1 * q.2) * b.2 * (gL xs (k + 2) - gL xs (k + 1)) ∧
    ((b.1 * q.2 - q.1 * b.2) * a.2 * (gL xs (k + 1) - gL xs k) < (q.1 * a.2 - a.1 * q.2) * b.2 * (gL xs (k + 2) - gL xs (k + 1)) → q.1 * high = gL ys (k + 1) * q.2) := by
  obtain ⟨α, H, y, a0, C, o1, o2⟩ := h.ex
  obtain ⟨fa, ea⟩ := o1 k a ka
  obtain ⟨fq, eq⟩ := o1 (k + 1) q kq
  obtain ⟨fb, eb⟩ := o1 (k + 2) b kb
  have kn : k + 2 < xs.length := by rw [← h.lh]; exact (List.getElem?_eq_some_iff.mp kb).1
  have i1 := cross_id ea eq
  have i2 := cross_id eq eb
  have m0 : 0 < a.2 * q.2 * b.2 := Int.mul_pos (Int.mul_pos fa.1 fq.1) fb.1
  have L : (q.1 * a.2 - a.1 * q.2) * b.2 * (gL xs (k + 2) - gL xs (k + 1)) * α = (H (k + 1) - H k) * (gL xs (k + 2) - gL xs (k + 1)) * (a.2 * q.2 * b.2) := by
    calc _ = ((q.1 * a.2 - a.1 * q.2) * α) * b.2 * (gL xs (k + 2) - gL xs (k + 1)) := by grind
      _ = _ := by rw [i1]; grind
  have R : (b.1 * q.2 - q.1 * b.2) * a.2 * (gL xs (k + 1) - gL xs k) * α = (H (k + 2) - H (k + 1)) * (gL xs (k + 1) - gL xs k) * (a.2 * q.2 * b.2) := by
    calc _ = ((b.1 * q.2 - q.1 * b.2) * α) * a.2 * (gL xs (k + 1) - gL xs k) := by grind
      _ = _ := by rw [i2]; grind
  constructor
  · refine cancelL a0 ?_
    rw [L, R]
    exact Int.mul_le_mul_of_nonneg_right (C.conc k kn) (Int.le_of_lt m0)
  · intro hlt
    have := Int.mul_lt_mul_of_pos_right hlt a0
    rw [L, R] at this
    have hb := Int.lt_of_mul_lt_mul_right this (Int.le_of_lt m0)
    exact frac_eq a0 eq (hull_y hh hl o2 (k + 1) (by omega)) (C.bend I kn hb)
/-! k19: law_right -/
def entB : SF := ifD (tOr1 (tNot1 (tB1 (isiP "tuple" (vP 5)))) (tOr1 (tB1 (b2 hNe (lenP (vP 5)) (kS (.int 2)))) (tNot1 (tB1 (fz (callF F_law_same (aC (vS 5) (aC (b2 hIx (vS 5) (kS (.int 0))) (aC (b2 hIx (vS 5) (kS (.int 1))) (aN)))))))))) (retD (oS (kS (.bl false)))) (skipD)
def plcB : SF := seqD (setD 7 (oS (b2 hIx (vS 0) (vS 6))))
  (seqD (ifD (tB1 (b2 hLt (b2 hMul (b2 hIx (vS 7) (kS (.int 0))) (vS 3)) (b2 hMul (b2 hIx (vS 2) (vS 6)) (b2 hIx (vS 7) (kS (.int 1)))))) (retD (oS (kS (.bl false)))) (skipD))
  (seqD (setD 8 (oS (kS (.bl true))))
  (seqD (ifD (tAnd1 (tB1 (b2 hLt (kS (.int 0)) (vS 6))) (tB1 (b2 hLt (b2 hAdd (vS 6) (kS (.int 1))) (vS 4)))) (seqD (setD 9 (oS (b2 hIx (vS 0) (b2 hSub (vS 6) (kS (.int 1))))))
  (seqD (setD 10 (oS (b2 hIx (vS 0) (b2 hAdd (vS 6) (kS (.int 1))))))
  (seqD (setD 11 (oS (b2 hMul (b2 hMul (b2 hSub (b2 hMul (b2 hIx (vS 7) (kS (.int 0))) (b2 hIx (vS 9) (kS (.int 1)))) (b2 hMul (b2 hIx (vS 9) (kS (.int 0))) (b2 hIx (vS 7) (kS (.int 1))))) (b2 hIx (vS 10) (kS (.int 1)))) (b2 hSub (b2 hIx (vS 1) (b2 hAdd (vS 6) (kS (.int 1)))) (b2 hIx (vS 1) (vS 6))))))
  (seqD (setD 12 (oS (b2 hMul (b2 hMul (b2 hSub (b2 hMul (b2 hIx (vS 10) (kS (.int 0))) (b2 hIx (vS 7) (kS (.int 1)))) (b2 hMul (b2 hIx (vS 7) (kS (.int 0))) (b2 hIx (vS 10) (kS (.int 1))))) (b2 hIx (vS 9) (kS (.int 1)))) (b2 hSub (b2 hIx (vS 1) (vS 6)) (b2 hIx (vS 1) (b2 hSub (vS 6) (kS (.int 1))))))))
  (seqD (ifD (tB1 (b2 hLt (vS 11) (vS 12))) (retD (oS (kS (.bl false)))) (skipD))
  (setD 8 (oS (b2 hGt (vS 11) (vS 12))))))))) (skipD))
  (ifD (tAnd1 (tB1 (vS 8)) (tB1 (b2 hNe (b2 hMul (b2 hIx (vS 7) (kS (.int 0))) (vS 3)) (b2 hMul (b2 hIx (vS 2) (vS 6)) (b2 hIx (vS 7) (kS (.int 1))))))) (retD (oS (kS (.bl false)))) (skipD)))))
theorem ix_fr {hs : List (Int × Int)} {i : Nat} {q : Int × Int} (h : hs[i]? = some q) : L2.atI (hs.map fr) (i : Int) = some (fr q) := L2.atI_nat (by rw [List.getElem?_map, h]; rfl)
theorem law_right_eq19 {xs ys : List Int} {high : Int} {hs : List (Int × Int)} {g : GS} (I : Inc (gL xs) xs.length) (n60 : xs.length ≤ 60) (hh : 0 < high) (h9 : high ≤ 9) (sx : ∀ x ∈ xs, Sz 135 x) (sy : ∀ y ∈ ys, Sz 145 y) (hl : ys.length = xs.length)
    (hsz : ∀ q ∈ hs, FrS 400 q) (h : HullQ (gL xs) xs.length (over high ys) hs) : F_law_right [.lst (hs.map fr), .lst (xs.map .int), .lst (ys.map .int), .int high] g = some (.sh (.bl true), g) := by
  have sh : Sz 4 high := by unfold Sz; omega
  obtain ⟨ρ1, g1, e1, rfl, x5, rfl⟩ := loop_lst (gf := gN 5) (sb := entB) fr (xs := hs) (fun i ρ g' => g' = g ∧ ∃ x5, ρ = [some (.sh (.lst (hs.map fr))), some (.sh (.lst (xs.map .int))), some (.sh (.lst (ys.map .int))), some (.sh (.int high)), some (.sh (.int (xs.length : Nat))), x5, none, none, none, none, none, none, none])
    (ρ := [some (.sh (.lst (hs.map fr))), some (.sh (.lst (xs.map .int))), some (.sh (.lst (ys.map .int))), some (.sh (.int high)), some (.sh (.int (xs.length : Nat))), none, none, none, none, none, none, none, none]) (g := g) ⟨rfl, none, rfl⟩ (fun i q ρ g' hq hI => by
      obtain ⟨rfl, x5, rfl⟩ := hI
      have hf := hsz q (List.mem_of_getElem? hq)
      have es := same_eq (g := g') hf (by decide) hf.n hf.d (by decide) rfl
      refine ⟨_, _, ?_, rfl, some (.sh (fr q)), rfl⟩
      unfold fr at *
      simp [entB, es])
  obtain ⟨ρ2, g2, e2, rfl, y6, y7, y8, y9, y10, y11, y12, rfl⟩ := loop_rng (gf := gN 6) (sb := plcB) (lo := 0) (n := xs.length) (fun i ρ g' => g' = g1 ∧ ∃ y6 y7 y8 y9 y10 y11 y12, ρ = [some (.sh (.lst (hs.map fr))), some (.sh (.lst (xs.map .int))), some (.sh (.lst (ys.map .int))), some (.sh (.int high)), some (.sh (.int (xs.length : Nat))), x5, y6, y7, y8, y9, y10, y11, y12])
    (ρ := [some (.sh (.lst (hs.map fr))), some (.sh (.lst (xs.map .int))), some (.sh (.lst (ys.map .int))), some (.sh (.int high)), some (.sh (.int (xs.length : Nat))), x5, none, none, none, none, none, none, none]) (g := g1) ⟨rfl, none, none, none, none, none, none, none, rfl⟩ (fun i ρ g' hi hI => by
      obtain ⟨rfl, y6, y7, y8, y9, y10, y11, y12, rfl⟩ := hI
      have ei : (0 : Int) + (i : Nat) = i := by omega
      rw [ei]
      obtain ⟨q, hq⟩ := getq h.lh hi
      have fq := hsz q (List.mem_of_getElem? hq)
      have aq := ix_fr hq
      have by_ := ixL (ns := ys) (i := i) (by omega)
      have sy1 := gL_sz (i := i) sy (by omega)
      have ge := right_ge hh hl h hq
      have ge' : ¬ q.1 * high < gL ys i * q.2 := by omega
      have m1 : mulOk q.1 high = true := mulOk_of fq.n sh (by decide) (by decide)
      have m2 : mulOk (gL ys i) q.2 = true := mulOk_of sy1 fq.d (by decide) (by decide)
      by_cases hin : 0 < i ∧ i + 1 < xs.length
      · obtain ⟨k, rfl⟩ : ∃ k, i = k + 1 := ⟨i - 1, by omega⟩
        obtain ⟨a, ha⟩ := getq h.lh (show k < xs.length by omega)
        obtain ⟨b, hb⟩ := getq h.lh (show k + 2 < xs.length by omega)
        obtain ⟨r1, r2⟩ := right_in19 I hh hl h ha hq hb
        have fa := hsz a (List.mem_of_getElem? ha)
        have fb := hsz b (List.mem_of_getElem? hb)
        have aa := ix_fr ha
        have ab := ix_fr hb
        have c0 := ixL (ns := xs) (i := k) (by omega)
        have c1 := ixL (ns := xs) (i := k + 1) (by omega)
        have c2 := ixL (ns := xs) (i := k + 2) (by omega)
        have s0 := gL_sz (i := k) sx (by omega)
        have s1 := gL_sz (i := k + 1) sx (by omega)
        have s2 := gL_sz (i := k + 2) sx (by omega)
        have k1 : ((k + 1 : Nat) : Int) - 1 = k := by omega
        have k2 : ((k + 1 : Nat) : Int) + 1 = ((k + 2 : Nat) : Int) := by omega
        have k3 : (0 : Int) < ((k + 1 : Nat) : Int) := by omega
        have k4 : ((k + 2 : Nat) : Int) < (xs.length : Nat) := by omega
        have n1 : mulOk q.1 a.2 = true := mulOk_of fq.n fa.d (by decide) (by decide)
        have n2 : mulOk a.1 q.2 = true := mulOk_of fa.n fq.d (by decide) (by decide)
        have n3 : mulOk (q.1 * a.2 - a.1 * q.2) b.2 = true := mulOk_of ((fq.n.mul fa.d).sub (fa.n.mul fq.d)) fb.d (by decide) (by decide)
        have n4 : mulOk ((q.1 * a.2 - a.1 * q.2) * b.2) (gL xs (k + 2) - gL xs (k + 1)) = true := mulOk_of (((fq.n.mul fa.d).sub (fa.n.mul fq.d)).mul fb.d) (s2.sub s1) (by decide) (by decide)
        have n5 : mulOk b.1 q.2 = true := mulOk_of fb.n fq.d (by decide) (by decide)
        have n6 : mulOk q.1 b.2 = true := mulOk_of fq.n fb.d (by decide) (by decide)
        have n7 : mulOk (b.1 * q.2 - q.1 * b.2) a.2 = true := mulOk_of ((fb.n.mul fq.d).sub (fq.n.mul fb.d)) fa.d (by decide) (by decide)
        have n8 : mulOk ((b.1 * q.2 - q.1 * b.2) * a.2) (gL xs (k + 1) - gL xs k) = true := mulOk_of (((fb.n.mul fq.d).sub (fq.n.mul fb.d)).mul fa.d) (s1.sub s0) (by decide) (by decide)
        have r1' : ¬ (q.1 * a.2 - a.1 * q.2) * b.2 * (gL xs (k + 2) - gL xs (k + 1)) < (b.1 * q.2 - q.1 * b.2) * a.2 * (gL xs (k + 1) - gL xs k) := by omega
        clear r1 e1 ge
        unfold fr at *
        refine ⟨_, _, ?_, rfl, some (.sh (.int ((k + 1 : Nat) : Int))), some (.sh (.tup [.int q.1, .int q.2])), some (.sh (.bl (decide ((b.1 * q.2 - q.1 * b.2) * a.2 * (gL xs (k + 1) - gL xs k) < (q.1 * a.2 - a.1 * q.2) * b.2 * (gL xs (k + 2) - gL xs (k + 1)))))), some (.sh (.tup [.int a.1, .int a.2])), some (.sh (.tup [.int b.1, .int b.2])), some (.sh (.int ((q.1 * a.2 - a.1 * q.2) * b.2 * (gL xs (k + 2) - gL xs (k + 1))))), some (.sh (.int ((b.1 * q.2 - q.1 * b.2) * a.2 * (gL xs (k + 1) - gL xs k)))), rfl⟩
        · skip
          generalize hs.map (fun q => SV.tup [.int q.1, .int q.2]) = HS at *
          generalize xs.map SV.int = XX at *
          generalize ys.map SV.int = YY at *
          generalize ((k + 1 : Nat) : Int) = kk at *
          generalize ((k + 2 : Nat) : Int) = kk2 at *
          generalize gL xs (k + 2) = z2 at *
          generalize gL xs (k + 1) = z1 at *
          generalize gL xs k = z0 at *
          generalize gL ys (k + 1) = w1 at *
          by_cases hbd : (b.1 * q.2 - q.1 * b.2) * a.2 * (z1 - z0) < (q.1 * a.2 - a.1 * q.2) * b.2 * (z2 - z1)
          · have r3 := r2 hbd
            simp [plcB, aq, by_, m1, m2, ge', k1, k2, k3, k4, aa, ab, c0, c1, c2, n1, n2, n3, n4, n5, n6, n7, n8, r1', hbd, r3]
          · simp [plcB, aq, by_, m1, m2, ge', k1, k2, k3, k4, aa, ab, c0, c1, c2, n1, n2, n3, n4, n5, n6, n7, n8, r1', hbd]
      · have he := right_end hh hl h hq (by omega)
        clear e1 ge
        unfold fr at *
        refine ⟨_, _, ?_, rfl, some (.sh (.int (i : Nat))), some (.sh (.tup [.int q.1, .int q.2])), some (.sh (.bl true)), y9, y10, y11, y12, rfl⟩
        generalize hs.map (fun q => SV.tup [.int q.1, .int q.2]) = HS at *
        generalize xs.map SV.int = XX at *
        generalize ys.map SV.int = YY at *
        by_cases h0 : (0 : Int) < (i : Nat)
        · have h1 : ¬ ((i : Nat) : Int) + 1 < (xs.length : Nat) := by omega
          generalize ((i : Nat) : Int) = kk at *
          generalize ((xs.length : Nat) : Int) = nn at *
          generalize gL ys i = w1 at *
          simp [plcB, aq, by_, m1, m2, ge', h0, h1, he]
        · generalize ((i : Nat) : Int) = kk at *
          generalize gL ys i = w1 at *
          simp [plcB, aq, by_, m1, m2, ge', h0, he])
  have r1 : rngOk ((xs.length : Nat) : Int) = true := rngOk_of (by omega)
  have q1 : (((xs.map SV.int).length : Nat) : Int) = (xs.length : Nat) := by rw [List.length_map]
  have q2 : (((hs.map fr).length : Nat) : Int) = (xs.length : Nat) := by rw [List.length_map, h.lh]
  unfold entB at e1
  unfold plcB at e2
  generalize hs.map fr = HS at *
  generalize xs.map SV.int = XX at *
  generalize ys.map SV.int = YY at *
  have q3 : rngL 0 (Int.toNat ((xs.length : Nat) : Int)) = rngL 0 xs.length := by rw [Int.toNat_natCast]
  generalize rngL 0 xs.length = R at *
  generalize ((xs.length : Nat) : Int) = nn at *
  simp [F_law_right, B_law_right, q1, q2, r1, q3, e1, e2]
/-! k19: law_handed, sizes -/
abbrev ptsOf (xs ys : List Int) (wide high : Int) : List ((Int × Int) × (Int × Int)) := (List.range xs.length).map fun k => (rat (gL xs k) wide, rat (gL ys k) high)
theorem handed_eq {xs ys : List Int} {wide high : Int} {g : GS} (hl : ys.length = xs.length) (n60 : xs.length ≤ 60) (w0 : 0 < wide) (h0 : 0 < high) (w9 : wide ≤ 9) (h9 : high ≤ 9) :
    F_law_handed [.lst (xs.map .int), .lst (ys.map .int), .int wide, .int high] g = some (.own (((ptsOf xs ys wide high).map encPt).map .sh), g) := by
  have sw : Sz 2700 wide := (show Sz 4 wide by unfold Sz; omega).mono (by decide)
  have sh : Sz 2700 high := (show Sz 4 high by unfold Sz; omega).mono (by decide)
  have ec := comp_map (β := Nat) (wf := wN 4) (f := oS (tupF (aC (fz (callF F_law_form (aC (b2 hIx (vS 0) (vS 4)) (aC (vS 2) (aN))))) (aC (fz (callF F_law_form (aC (b2 hIx (vS 1) (vS 4)) (aC (vS 3) (aN))))) (aN))))) (ρ := [some (.sh (.lst (xs.map .int))), some (.sh (.lst (ys.map .int))), some (.sh (.int wide)), some (.sh (.int high)), none])
    (fun (i : Nat) => SV.int (0 + (i : Int))) (fun i => DV.sh (encPt (rat (gL xs i) wide, rat (gL ys i) high))) (List.range xs.length) g (fun i hi g => by
      have hi' := List.mem_range.mp hi
      have a1 := ixL hi'
      have a2 := ixL (ns := ys) (i := i) (by omega)
      have f1 := law_form_eq (n := gL xs i) (g := g) w0 sw
      have f2 := law_form_eq (n := gL ys i) (g := g) h0 sh
      have ei : (0 : Int) + (i : Nat) = i := by omega
      rw [ei]
      generalize xs.map SV.int = XX at *
      generalize ys.map SV.int = YY at *
      generalize gL xs i = c1 at *
      generalize gL ys i = c2 at *
      simp [a1, a2, f1, f2, encPt])
  rw [← range_map] at ec
  have r1 : rngOk ((xs.length : Nat) : Int) = true := rngOk_of (by omega)
  have q1 : (((xs.map SV.int).length : Nat) : Int) = (xs.length : Nat) := by rw [List.length_map]
  have er : ((List.range xs.length).map fun i => DV.sh (encPt (rat (gL xs i) wide, rat (gL ys i) high))) = ((ptsOf xs ys wide high).map encPt).map .sh := by unfold ptsOf; rw [List.map_map, List.map_map]; rfl
  rw [er] at ec
  have hL : lenOk (rngL 0 xs.length).length = true := lenOk_of (by unfold rngL; simp; omega)
  have q3 : rngL 0 (Int.toNat ((xs.length : Nat) : Int)) = rngL 0 xs.length := by rw [Int.toNat_natCast]
  generalize (ptsOf xs ys wide high).map encPt = PP at *
  generalize rngL 0 xs.length = R at *
  generalize ((xs.length : Nat) : Int) = nn at *
  generalize xs.map SV.int = XX at *
  generalize ys.map SV.int = YY at *
  simp [F_law_handed, B_law_handed, q1, r1, q3, hL, ec]
theorem range_over {h : Int} {ns : List Int} : ((List.range ns.length).map fun k => rat (gL ns k) h) = over h ns := by
  refine List.ext_getElem? fun k => ?_
  by_cases hk : k < ns.length
  · simp [over, gL, List.getD, hk]
  · rw [List.getElem?_eq_none (by simp; omega), List.getElem?_eq_none (by simp [over]; omega)]
theorem pts_fst {xs ys : List Int} {wide high : Int} : (ptsOf xs ys wide high).map (·.1) = over wide xs := by
  unfold ptsOf
  rw [List.map_map]
  exact range_over
theorem pts_snd {xs ys : List Int} {wide high : Int} (hl : ys.length = xs.length) : (ptsOf xs ys wide high).map (·.2) = over high ys := by
  unfold ptsOf
  rw [List.map_map, ← hl]
  exact range_over
/-- the told heights are no larger than this -/
theorem hull_sz {xs ys : List Int} {high : Int} {hs : List (Int × Int)} (I : Inc (gL xs) xs.length) (hh : 0 < high) (h9 : high ≤ 9) (sx : ∀ x ∈ xs, Sz 135 x) (sy : ∀ y ∈ ys, Sz 145 y) (hl : ys.length = xs.length) (h : HullQ (gL xs) xs.length (over high ys) hs) : ∀ q ∈ hs, Fr q ∧ Sz 140 q.2 ∧ Sz 400 q.1 := fun q hq => by
  obtain ⟨k, hk⟩ := List.getElem?_of_mem hq
  have kn : k < xs.length := by rw [← h.lh]; exact (List.getElem?_eq_some_iff.mp hk).1
  have s4 : Sz 4 high := by unfold Sz; omega
  rcases hull_form I hh hl h hk with rfl | ⟨l, r, q1, q2, q3, rfl⟩
  · obtain ⟨f1, _, f3, f4⟩ := rat_facts (n := gL ys k) (Int.ne_of_gt hh)
    have sk := gL_sz (i := k) sy (by omega)
    refine ⟨f1, Nat.lt_of_le_of_lt f4 (s4.mono (show 4 ≤ 140 by decide)), Nat.lt_of_le_of_lt f3 (sk.mono (show 145 ≤ 400 by decide))⟩
  · have w0 : 0 < gL xs r - gL xs l := by have := I.lt (show l < r by omega) q3; omega
    have M0 : (gL xs r - gL xs l) * high ≠ 0 := Int.ne_of_gt (Int.mul_pos w0 hh)
    obtain ⟨f1, _, f3, f4⟩ := rat_facts (n := gL ys l * (gL xs r - gL xs k) + gL ys r * (gL xs k - gL xs l)) M0
    have s1 := gL_sz (i := l) sx (by omega)
    have s2 := gL_sz (i := r) sx q3
    have s3 := gL_sz (i := k) sx kn
    have t1 := gL_sz (i := l) sy (by omega)
    have t2 := gL_sz (i := r) sy (by omega)
    refine ⟨f1, Nat.lt_of_le_of_lt f4 (((s2.sub s1).mul s4).mono (by decide)), Nat.lt_of_le_of_lt f3 (((t1.mul (s2.sub s3)).add (t2.mul (s3.sub s1))).mono (by decide))⟩
/-! k19: law_chord -/
abbrev top3 (xs ys : List Int) (k l r : Nat) : Int := gL ys l * (gL xs r - gL xs k) + gL ys r * (gL xs k - gL xs l)
/-- the best so far: at or over the point and the walked chords, at or under the told height q -/
structure Best (xs ys : List Int) (high : Int) (k : Nat) (q : Int × Int) (N M : Int) (P : Nat → Nat → Prop) : Prop where
  pos : 0 < M
  sn : Sz 290 N
  sm : Sz 140 M
  le : N * q.2 ≤ q.1 * (M * high)
  pt : gL ys k * M ≤ N
  ch : ∀ l r, P l r → l < k → k < r → r < xs.length → top3 xs ys k l r * M ≤ N * (gL xs r - gL xs l)
theorem top_le {xs ys : List Int} {high : Int} {hs : List (Int × Int)} (I : Inc (gL xs) xs.length) (hh : 0 < high) (hl : ys.length = xs.length) (h : HullQ (gL xs) xs.length (over high ys) hs) {k l r : Nat} {q : Int × Int} (hk : hs[k]? = some q) (h1 : l < k) (h2 : k < r) (h3 : r < xs.length) :
    top3 xs ys k l r * q.2 ≤ q.1 * ((gL xs r - gL xs l) * high) := by
  obtain ⟨α, H, y, a0, C, o1, o2⟩ := h.ex
  obtain ⟨f, e⟩ := o1 k q hk
  have c := C.conc.chord I h1 h2 h3
  have yl := hull_y hh hl o2 l (by omega)
  have yr := hull_y hh hl o2 r h3
  have gl := C.ge l (by omega)
  have gr := C.ge r h3
  have pu : 0 ≤ gL xs r - gL xs k := by have := I.lt h2 h3; omega
  have pv : 0 ≤ gL xs k - gL xs l := by have := I.lt h1 (show k < xs.length by omega); omega
  have b1 := Int.mul_le_mul_of_nonneg_right gl pu
  have b2 := Int.mul_le_mul_of_nonneg_right gr pv
  show (gL ys l * (gL xs r - gL xs k) + gL ys r * (gL xs k - gL xs l)) * q.2 ≤ q.1 * ((gL xs r - gL xs l) * high)
  generalize gL xs r - gL xs k = u at *
  generalize gL xs k - gL xs l = v at *
  generalize gL xs r - gL xs l = w at *
  refine cancelL a0 ?_
  have m0 : 0 ≤ high * q.2 := Int.mul_nonneg (by omega) (Int.le_of_lt f.1)
  have b3 := Int.mul_le_mul_of_nonneg_right (show y l * u + y r * v ≤ H k * w by omega) m0
  calc (gL ys l * u + gL ys r * v) * q.2 * α = (gL ys l * α) * u * q.2 + (gL ys r * α) * v * q.2 := by grind
    _ = (y l * u + y r * v) * (high * q.2) := by rw [← yl, ← yr]; grind
    _ ≤ H k * w * (high * q.2) := b3
    _ = (H k * q.2) * w * high := by grind
    _ = q.1 * (w * high) * α := by rw [← e]; grind
theorem Best.done {xs ys : List Int} {high : Int} {hs : List (Int × Int)} (I : Inc (gL xs) xs.length) (hh : 0 < high) (hl : ys.length = xs.length) (h : HullQ (gL xs) xs.length (over high ys) hs) {k : Nat} {q : Int × Int} (hk : hs[k]? = some q) {N M : Int} (B : Best xs ys high k q N M (fun _ _ => True)) : q.1 * (M * high) = N * q.2 := by
  have fq : Fr q := by
    obtain ⟨α, H, y, a0, C, o1, o2⟩ := h.ex
    exact (o1 k q hk).1
  refine Int.le_antisymm ?_ B.le
  rcases hull_form I hh hl h hk with e | ⟨l, r, q1, q2, q3, e⟩
  · have er := rat_eq (n := gL ys k) (Int.ne_of_gt hh)
    rw [← e] at er
    have := Int.mul_le_mul_of_nonneg_right B.pt (Int.le_of_lt fq.1)
    calc q.1 * (M * high) = (q.1 * high) * M := by grind
      _ = gL ys k * M * q.2 := by rw [er]; grind
      _ ≤ _ := this
  · have w0 : 0 < gL xs r - gL xs l := by have := I.lt (show l < r by omega) q3; omega
    have er := rat_eq (n := top3 xs ys k l r) (Int.ne_of_gt (Int.mul_pos w0 hh))
    have e' : q = rat (top3 xs ys k l r) ((gL xs r - gL xs l) * high) := e
    rw [← e'] at er
    have c := Int.mul_le_mul_of_nonneg_right (B.ch l r trivial q1 q2 q3) (Int.le_of_lt fq.1)
    generalize gL xs r - gL xs l = w at *
    generalize top3 xs ys k l r = t at *
    refine cancelL w0 ?_
    calc q.1 * (M * high) * w = (q.1 * (w * high)) * M := by grind
      _ = t * M * q.2 := by rw [er]; grind
      _ ≤ N * w * q.2 := c
      _ = N * q.2 * w := by grind
def chdI : SF := seqD (setD 6 (oS (b2 hSub (b2 hIx (vS 0) (vS 5)) (b2 hIx (vS 0) (vS 4)))))
  (seqD (setD 7 (oS (b2 hAdd (b2 hMul (b2 hIx (vS 1) (vS 4)) (b2 hSub (b2 hIx (vS 0) (vS 5)) (b2 hIx (vS 0) (vS 2)))) (b2 hMul (b2 hIx (vS 1) (vS 5)) (b2 hSub (b2 hIx (vS 0) (vS 2)) (b2 hIx (vS 0) (vS 4)))))))
  (ifD (tB1 (b2 hGt (b2 hMul (vS 7) (b2 hIx (vS 3) (kS (.int 1)))) (b2 hMul (b2 hIx (vS 3) (kS (.int 0))) (vS 6)))) (setD 3 (oS (tupF (aC (vS 7) (aC (vS 6) (aN)))))) (skipD)))
abbrev cE (xs ys : List Int) (k : Nat) (N M : Int) (x4 x5 x6 x7 : Option DV) : Env := [some (.sh (.lst (xs.map .int))), some (.sh (.lst (ys.map .int))), some (.sh (.int k)), some (.sh (.tup [.int N, .int M])), x4, x5, x6, x7]
theorem chord_step {xs ys : List Int} {high : Int} {hs : List (Int × Int)} (I : Inc (gL xs) xs.length) (hh : 0 < high) (sx : ∀ x ∈ xs, Sz 135 x) (sy : ∀ y ∈ ys, Sz 145 y) (hl : ys.length = xs.length) (h : HullQ (gL xs) xs.length (over high ys) hs) {k l r : Nat} {q : Int × Int} (hk : hs[k]? = some q) (h1 : l < k) (h2 : k < r) (h3 : r < xs.length)
    {N M : Int} {P : Nat → Nat → Prop} (B : Best xs ys high k q N M P) {x5 x6 x7 : Option DV} {g : GS} : ∃ N' M' x6' x7', chdI (cE xs ys k N M (some (.sh (.int l))) (some (.sh (.int r))) x6 x7) g = some (.nx (cE xs ys k N' M' (some (.sh (.int l))) (some (.sh (.int r))) x6' x7') g) ∧ Best xs ys high k q N' M' (fun a b => P a b ∨ a = l ∧ b = r) := by
  have a0 := ixL (ns := xs) (i := l) (by omega)
  have a1 := ixL (ns := xs) (i := k) (by omega)
  have a2 := ixL h3
  have b0 := ixL (ns := ys) (i := l) (by omega)
  have b2_ := ixL (ns := ys) (i := r) (by omega)
  have s0 := gL_sz (i := l) sx (by omega)
  have s1 := gL_sz (i := k) sx (by omega)
  have s2 := gL_sz (i := r) sx h3
  have t0 := gL_sz (i := l) sy (by omega)
  have t2 := gL_sz (i := r) sy (by omega)
  have w0 : 0 < gL xs r - gL xs l := by have := I.lt (show l < r by omega) h3; omega
  have m1 : mulOk (gL ys l) (gL xs r - gL xs k) = true := mulOk_of t0 (s2.sub s1) (by decide) (by decide)
  have m2 : mulOk (gL ys r) (gL xs k - gL xs l) = true := mulOk_of t2 (s1.sub s0) (by decide) (by decide)
  have sT : Sz 290 (top3 xs ys k l r) := ((t0.mul (s2.sub s1)).add (t2.mul (s1.sub s0))).mono (by decide)
  have sW : Sz 140 (gL xs r - gL xs l) := (s2.sub s0).mono (by decide)
  have m3 : mulOk (top3 xs ys k l r) M = true := mulOk_of sT B.sm (by decide) (by decide)
  have m4 : mulOk N (gL xs r - gL xs l) = true := mulOk_of B.sn sW (by decide) (by decide)
  have tl := top_le I hh hl h hk h1 h2 h3
  by_cases hb : N * (gL xs r - gL xs l) < top3 xs ys k l r * M
  · refine ⟨top3 xs ys k l r, gL xs r - gL xs l, some (.sh (.int (gL xs r - gL xs l))), some (.sh (.int (top3 xs ys k l r))), ?_, ⟨w0, sT, sW, tl, ?_, fun a b hab c1 c2 c3 => ?_⟩⟩
    · clear tl sT
      unfold cE
      unfold top3 at *
      generalize xs.map SV.int = XX at *
      generalize ys.map SV.int = YY at *
      generalize gL xs r = z2 at *
      generalize gL xs k = z1 at *
      generalize gL xs l = z0 at *
      generalize gL ys r = y2 at *
      generalize gL ys l = y0 at *
      simp [chdI, a0, a1, a2, b0, b2_, m1, m2, m3, m4, hb]
    · -- the point stays at or under
      have := B.pt
      refine cancelL B.pos ?_
      have c := Int.mul_le_mul_of_nonneg_right B.pt (Int.le_of_lt w0)
      calc gL ys k * (gL xs r - gL xs l) * M = gL ys k * M * (gL xs r - gL xs l) := by grind
        _ ≤ N * (gL xs r - gL xs l) := c
        _ ≤ top3 xs ys k l r * M := Int.le_of_lt hb
    · rcases hab with hab | ⟨rfl, rfl⟩
      · have c := B.ch a b hab c1 c2 c3
        have w1 : 0 < gL xs b - gL xs a := by have := I.lt (show a < b by omega) c3; omega
        refine cancelL B.pos ?_
        have d1 := Int.mul_le_mul_of_nonneg_right c (Int.le_of_lt w0)
        have d2 := Int.mul_le_mul_of_nonneg_right (Int.le_of_lt hb) (Int.le_of_lt w1)
        generalize gL xs r - gL xs l = w at *
        generalize gL xs b - gL xs a = v at *
        generalize top3 xs ys k l r = T at *
        generalize top3 xs ys k a b = U at *
        calc U * w * M = U * M * w := by grind
          _ ≤ N * v * w := d1
          _ = N * w * v := by grind
          _ ≤ T * M * v := d2
          _ = T * v * M := by grind
      · exact Int.le_refl _
  · refine ⟨N, M, some (.sh (.int (gL xs r - gL xs l))), some (.sh (.int (top3 xs ys k l r))), ?_, ⟨B.pos, B.sn, B.sm, B.le, B.pt, fun a b hab c1 c2 c3 => ?_⟩⟩
    · clear tl sT
      unfold cE
      unfold top3 at *
      generalize xs.map SV.int = XX at *
      generalize ys.map SV.int = YY at *
      generalize gL xs r = z2 at *
      generalize gL xs k = z1 at *
      generalize gL xs l = z0 at *
      generalize gL ys r = y2 at *
      generalize gL ys l = y0 at *
      simp [chdI, a0, a1, a2, b0, b2_, m1, m2, m3, m4, hb]
    · rcases hab with hab | ⟨rfl, rfl⟩
      · exact B.ch a b hab c1 c2 c3
      · omega
theorem Best.mono {xs ys : List Int} {high : Int} {k : Nat} {q : Int × Int} {N M : Int} {P Q : Nat → Nat → Prop} (B : Best xs ys high k q N M P) (h : ∀ l r, l < k → k < r → r < xs.length → Q l r → P l r) : Best xs ys high k q N M Q :=
  ⟨B.pos, B.sn, B.sm, B.le, B.pt, fun l r hq c1 c2 c3 => B.ch l r (h l r c1 c2 c3 hq) c1 c2 c3⟩
theorem law_chord_eq {xs ys : List Int} {high : Int} {hs : List (Int × Int)} (I : Inc (gL xs) xs.length) (n60 : xs.length ≤ 60) (hh : 0 < high) (sx : ∀ x ∈ xs, Sz 135 x) (sy : ∀ y ∈ ys, Sz 145 y) (hl : ys.length = xs.length) (h : HullQ (gL xs) xs.length (over high ys) hs) {k : Nat} {q : Int × Int} (hk : hs[k]? = some q) {g : GS} :
    ∃ N M, F_law_chord [.lst (xs.map .int), .lst (ys.map .int), .int k] g = some (.sh (.tup [.int N, .int M]), g) ∧ Best xs ys high k q N M (fun _ _ => True) := by
  have kn : k < xs.length := by rw [← h.lh]; exact (List.getElem?_eq_some_iff.mp hk).1
  have by_ := ixL (ns := ys) (i := k) (by omega)
  have B0 : Best xs ys high k q (gL ys k) 1 (fun l _ => l < 0) := ⟨by decide, (gL_sz sy (by omega)).mono (by decide), by unfold Sz; decide, by have := right_ge hh hl h hk; rw [Int.one_mul]; exact this, by omega, fun l r hp => absurd hp (Nat.not_lt_zero _)⟩
  have r1 : rngOk ((k : Nat) : Int) = true := rngOk_of (by omega)
  have r2 : rngOk ((k : Int) + 1) = true := rngOk_of (n := k + 1) (by omega)
  have r3 : rngOk ((xs.length : Nat) : Int) = true := rngOk_of (by omega)
  have er : (((xs.length : Nat) : Int) - (k + 1)).toNat = xs.length - (k + 1) := by omega
  obtain ⟨ρ', g', e, rfl, N, M, x4, x5, x6, x7, rfl, B⟩ := loop_rng (gf := gN 4) (sb := forD (iR2 (b2 hAdd (vS 2) (kS (.int 1))) (lenP (vP 0))) (gN 5) chdI) (lo := 0) (n := k)
    (fun i ρ g' => g' = g ∧ ∃ N M x4 x5 x6 x7, ρ = cE xs ys k N M x4 x5 x6 x7 ∧ Best xs ys high k q N M (fun l _ => l < i)) (ρ := cE xs ys k (gL ys k) 1 none none none none) (g := g) ⟨rfl, _, _, none, none, none, none, rfl, B0⟩ (fun i ρ g' hi hI => by
      obtain ⟨rfl, N, M, x4, x5, x6, x7, rfl, B⟩ := hI
      have ei : (0 : Int) + (i : Nat) = i := by omega
      rw [ei]
      obtain ⟨ρ2, g2, e2, rfl, N2, M2, y5, y6, y7, rfl, B2⟩ := loop_rng (gf := gN 5) (sb := chdI) (lo := (k : Int) + 1) (n := xs.length - (k + 1))
        (fun j ρ g'' => g'' = g' ∧ ∃ N M x5 x6 x7, ρ = cE xs ys k N M (some (.sh (.int i))) x5 x6 x7 ∧ Best xs ys high k q N M (fun l r => l < i ∨ l = i ∧ r < k + 1 + j)) (ρ := cE xs ys k N M (some (.sh (.int i))) x5 x6 x7) (g := g') ⟨rfl, N, M, x5, x6, x7, rfl, B.mono fun l r c1 c2 c3 hp => by omega⟩ (fun j ρ g'' hj hJ => by
          obtain ⟨rfl, N, M, x5, x6, x7, rfl, B⟩ := hJ
          have ej : (k : Int) + 1 + (j : Nat) = ((k + 1 + j : Nat) : Int) := by omega
          rw [ej]
          obtain ⟨N', M', x6', x7', e', B'⟩ := chord_step I hh sx sy hl h hk hi (show k < k + 1 + j by omega) (by omega) B (x5 := x5) (x6 := x6) (x7 := x7) (g := g'')
          exact ⟨_, g'', e', rfl, N', M', _, x6', x7', rfl, B'.mono fun l r c1 c2 c3 hp => by omega⟩)
      refine ⟨_, g2, ?_, rfl, N2, M2, some (.sh (.int i)), y5, y6, y7, rfl, B2.mono fun l r c1 c2 c3 hp => by omega⟩
      have q1 : (((xs.map SV.int).length : Nat) : Int) = (xs.length : Nat) := by rw [List.length_map]
      unfold cE at *
      generalize xs.map SV.int = XX at *
      generalize ys.map SV.int = YY at *
      generalize ((xs.length : Nat) : Int) = nn at *
      simp [r2, q1, r3, er, e2])
  refine ⟨N, M, ?_, B.mono fun l r c1 c2 c3 _ => c1⟩
  have q3 : rngL 0 (Int.toNat ((k : Nat) : Int)) = rngL 0 k := by rw [Int.toNat_natCast]
  unfold chdI cE at e
  generalize xs.map SV.int = XX at *
  generalize ys.map SV.int = YY at *
  clear B B0
  generalize gL ys k = yk at *
  simp [F_law_chord, B_law_chord, by_, r1, q3, e]
theorem law_chords_eq {xs ys : List Int} {high : Int} {hs : List (Int × Int)} (I : Inc (gL xs) xs.length) (n60 : xs.length ≤ 60) (hh : 0 < high) (h9 : high ≤ 9) (sx : ∀ x ∈ xs, Sz 135 x) (sy : ∀ y ∈ ys, Sz 145 y) (hl : ys.length = xs.length) (hsz : ∀ q ∈ hs, FrS 400 q) (h : HullQ (gL xs) xs.length (over high ys) hs) {g : GS} :
    F_law_chords [.lst (hs.map fr), .lst (xs.map .int), .lst (ys.map .int), .int high] g = some (.sh (.bl true), g) := by
  have s4 : Sz 4 high := by unfold Sz; omega
  obtain ⟨ρ', g', e, rfl, x4, x5, rfl⟩ := loop_rng (gf := gN 4) (sb := seqD (setD 5 (oS (fz (callF F_law_chord (aC (vS 1) (aC (vS 2) (aC (vS 4) (aN))))))))
      (ifD (tNot1 (tB1 (fz (callF F_law_same (aC (b2 hIx (vS 0) (vS 4)) (aC (b2 hIx (vS 5) (kS (.int 0))) (aC (b2 hMul (b2 hIx (vS 5) (kS (.int 1))) (vS 3)) (aN)))))))) (retD (oS (kS (.bl false)))) (skipD))) (lo := 0) (n := xs.length)
    (fun i ρ g' => g' = g ∧ ∃ x4 x5, ρ = [some (.sh (.lst (hs.map fr))), some (.sh (.lst (xs.map .int))), some (.sh (.lst (ys.map .int))), some (.sh (.int high)), x4, x5])
    (ρ := [some (.sh (.lst (hs.map fr))), some (.sh (.lst (xs.map .int))), some (.sh (.lst (ys.map .int))), some (.sh (.int high)), none, none]) (g := g) ⟨rfl, none, none, rfl⟩ (fun i ρ g' hi hI => by
      obtain ⟨rfl, x4, x5, rfl⟩ := hI
      have ei : (0 : Int) + (i : Nat) = i := by omega
      rw [ei]
      obtain ⟨q, hq⟩ := getq h.lh hi
      obtain ⟨N, M, ec, B⟩ := law_chord_eq I n60 hh sx sy hl h hq (g := g')
      have fq := hsz q (List.mem_of_getElem? hq)
      have aq := ix_fr hq
      have es := same_eq (g := g') fq (by decide) (B.sn) (((B.sm).mul s4).mono (show 144 ≤ 290 by decide)) (by decide) (B.done I hh hl h hq)
      have m1 : mulOk M high = true := mulOk_of B.sm s4 (by decide) (by decide)
      refine ⟨_, _, ?_, rfl, some (.sh (.int (i : Nat))), some (.sh (.tup [.int N, .int M])), rfl⟩
      generalize hs.map fr = HS at *
      generalize xs.map SV.int = XX at *
      generalize ys.map SV.int = YY at *
      generalize ((i : Nat) : Int) = ii at *
      generalize fr q = qq at *
      simp [ec, aq, es, m1])
  have r1 : rngOk ((xs.length : Nat) : Int) = true := rngOk_of (by omega)
  have q1 : (((xs.map SV.int).length : Nat) : Int) = (xs.length : Nat) := by rw [List.length_map]
  generalize hs.map fr = HS at *
  generalize xs.map SV.int = XX at *
  generalize ys.map SV.int = YY at *
  simp [F_law_chords, B_law_chords, q1, r1, e]
/-! k19: law_points -/
def ptsB : SF := seqD (appD 7 (oS (vS 4)))
  (seqD (appD 8 (oS (b2 hSub (vS 5) (b2 hMul (b2 hMul (c1 hInt (aC (b2 hEq (vS 3) (kS (.int 3))) (aN))) (fz (callF drawF (aC (vS 0) (aC (kS (.int 2)) (aN)))))) (fz (callF drawF (aC (vS 0) (aC (kS (.int 9)) (aN)))))))))
  (seqD (setD 10 (oS (b2 hAdd (kS (.int 1)) (fz (callF drawF (aC (vS 0) (aC (kS (.int 6)) (aN))))))))
  (seqD (ifD (tB1 (vS 2)) (setD 10 (oS (b2 hAdd (b2 hMul (vS 10) (b2 hPow (kS (.int 10)) (kS (.int 38)))) (fz (callF drawF (aC (vS 0) (aC (b2 hPow (kS (.int 10)) (kS (.int 8))) (aN)))))))) (skipD))
  (seqD (ifD (tB1 (b2 hEq (vS 3) (kS (.int 1)))) (setD 6 (oS (b2 hSub (vS 6) (fz (callF drawF (aC (vS 0) (aC (kS (.int 2)) (aN)))))))) (skipD))
  (seqD (ifD (tB1 (b2 hEq (vS 3) (kS (.int 2)))) (setD 6 (oS (b2 hAdd (vS 6) (fz (callF drawF (aC (vS 0) (aC (kS (.int 2)) (aN)))))))) (skipD))
  (seqD (ifD (tB1 (b2 hGt (vS 3) (kS (.int 3)))) (setD 6 (oS (b2 hSub (fz (callF drawF (aC (vS 0) (aC (kS (.int 13)) (aN))))) (kS (.int 6))))) (skipD))
  (seqD (setD 4 (oS (b2 hAdd (vS 4) (vS 10))))
  (setD 5 (oS (b2 hAdd (vS 5) (b2 hMul (vS 6) (vS 10))))))))))))
theorem seq_nx {s t : SF} {ρ ρ' : Env} {g g' : GS} (h : s ρ g = some (.nx ρ' g')) : seqD s t ρ g = t ρ' g' := by rw [ev_seq, h]; rfl
abbrev ptE (n : Nat) (big : Bool) (kind x y sl : Int) (xs ys : List Int) (x9 x10 : Option DV) : Env :=
  [some (.sh .gen), some (.sh (.int n)), some (.sh (.bl big)), some (.sh (.int kind)), some (.sh (.int x)), some (.sh (.int y)), some (.sh (.int sl)), some (.own ((xs.map SV.int).map .sh)), some (.own ((ys.map SV.int).map .sh)), x9, x10]
/-- what holds ahead of turn i -/
structure PtI (i : Nat) (x y sl : Int) (xs ys : List Int) : Prop where
  lx : xs.length = i
  ly : ys.length = i
  inc : ∀ k, k + 1 < i → gL xs k < gL xs (k + 1)
  last : 0 < i → gL xs (i - 1) < x
  bx : x.natAbs ≤ 10 ^ 39 + i * (6 * 10 ^ 38 + 10 ^ 8)
  by_ : y.natAbs ≤ 10 + i * (70 * (6 * 10 ^ 38 + 10 ^ 8))
  bs : sl.natAbs ≤ 6 + i
  sx : ∀ z ∈ xs, Sz 135 z
  sy : ∀ z ∈ ys, Sz 144 z
theorem gL_app {xs : List Int} {z : Int} {k : Nat} (h : k < xs.length) : gL (xs ++ [z]) k = gL xs k := by
  simp [gL, List.getD, List.getElem?_append_left h]
theorem gL_last {xs : List Int} {z : Int} : gL (xs ++ [z]) xs.length = z := by
  simp [gL, List.getD]
theorem PtI.next {i : Nat} {x y sl : Int} {xs ys : List Int} (h : PtI i x y sl xs ys) (hi : i < 60) {w st sl' : Int} (hw : w.natAbs ≤ 8) (h1 : 0 < st) (h2 : st ≤ 6 * 10 ^ 38 + 10 ^ 8) (hs : sl'.natAbs ≤ 6 + (i + 1)) :
    PtI (i + 1) (x + st) (y + sl' * st) sl' (xs ++ [x]) (ys ++ [y - w]) where
  lx := by rw [List.length_append, h.lx]; rfl
  ly := by rw [List.length_append, h.ly]; rfl
  inc := fun k hk => by
    have lx := h.lx
    by_cases e : k + 1 < i
    · rw [gL_app (by omega), gL_app (by omega)]; exact h.inc k e
    · have e1 : k + 1 = xs.length := by omega
      have e2 := h.last (by omega)
      rw [e1, gL_last, gL_app (by omega)]
      rw [show i - 1 = k by omega] at e2
      exact e2
  last := fun _ => by
    have e : i + 1 - 1 = xs.length := by have := h.lx; omega
    rw [e, gL_last]; omega
  bx := by have := h.bx; omega
  by_ := by
    have b := h.by_
    have m : (sl' * st).natAbs ≤ 70 * (6 * 10 ^ 38 + 10 ^ 8) := by
      rw [Int.natAbs_mul]
      exact Nat.mul_le_mul (by omega) (by omega)
    omega
  bs := hs
  sx := fun z hz => by
    rcases List.mem_append.mp hz with hz | hz
    · exact h.sx z hz
    · have e : z = x := by simpa using hz
      have b := h.bx
      subst e
      unfold Sz
      omega
  sy := fun z hz => by
    rcases List.mem_append.mp hz with hz | hz
    · exact h.sy z hz
    · have e : z = y - w := by simpa using hz
      have b := h.by_
      subst e
      unfold Sz
      omega
theorem pts_step {n : Nat} {big : Bool} {kind : Int} {i : Nat} (hi : i < 60) {x y sl : Int} {xs ys : List Int} (h : PtI i x y sl xs ys) {x9 x10 : Option DV} {g : GS} :
    ∃ x' y' sl' xs' ys' x10' g', ptsB (ptE n big kind x y sl xs ys x9 x10) g = some (.nx (ptE n big kind x' y' sl' xs' ys' x9 x10') g') ∧ PtI (i + 1) x' y' sl' xs' ys' := by
  have L1 : lenOk (xs.length) = true := lenOk_of (by have := h.lx; omega)
  have L2 : lenOk (ys.length) = true := lenOk_of (by have := h.ly; omega)
  have q1 : ((xs.map SV.int).map DV.sh).length = xs.length := by simp
  have q2 : ((ys.map SV.int).map DV.sh).length = ys.length := by simp
  obtain ⟨r1, g1, e1, p1, q1'⟩ := draw_eq g (b := 2) (by decide) (by decide)
  obtain ⟨r2, g2, e2, p2, q2'⟩ := draw_eq g1 (b := 9) (by decide) (by decide)
  obtain ⟨r3, g3, e3, p3, q3⟩ := draw_eq g2 (b := 6) (by decide) (by decide)
  -- what is put under the point
  obtain ⟨c, hc, hc0⟩ : ∃ c : Int, (if kind = 3 then (1 : Int) else 0) = c ∧ (c = 0 ∨ c = 1) := by
    by_cases hk : kind = 3
    · exact ⟨1, by simp [hk], .inr rfl⟩
    · exact ⟨0, by simp [hk], .inl rfl⟩
  have sc : Sz 4 c := by unfold Sz; omega
  have s1 : Sz 4 r1 := by unfold Sz; omega
  have s2 : Sz 4 r2 := by unfold Sz; omega
  have m1 : mulOk c r1 = true := mulOk_of sc s1 (by decide) (by decide)
  have m2 : mulOk (c * r1) r2 = true := mulOk_of (sc.mul s1) s2 (by decide) (by decide)
  have hw : (c * r1 * r2).natAbs ≤ 8 := by
    have a1 : (c * r1).natAbs ≤ 1 * 1 := by rw [Int.natAbs_mul]; exact Nat.mul_le_mul (by omega) (by omega)
    rw [Int.natAbs_mul]
    exact Nat.mul_le_mul (show _ ≤ 1 by omega) (show _ ≤ 8 by omega)
  -- the step
  obtain ⟨st, g4, e4, st0, st1⟩ : ∃ (st : Int) (g4 : GS), (∀ (x7 x8 : Option DV), ifD (tB1 (vS 2)) (setD 10 (oS (b2 hAdd (b2 hMul (vS 10) (b2 hPow (kS (.int 10)) (kS (.int 38)))) (fz (callF drawF (aC (vS 0) (aC (b2 hPow (kS (.int 10)) (kS (.int 8))) (aN)))))))) (skipD)
      [some (.sh .gen), some (.sh (.int n)), some (.sh (.bl big)), some (.sh (.int kind)), some (.sh (.int x)), some (.sh (.int y)), some (.sh (.int sl)), x7, x8, x9, some (.sh (.int (1 + r3)))] g3 = some (.nx [some (.sh .gen), some (.sh (.int n)), some (.sh (.bl big)), some (.sh (.int kind)), some (.sh (.int x)), some (.sh (.int y)), some (.sh (.int sl)), x7, x8, x9, some (.sh (.int st))] g4)) ∧ 0 < st ∧ st ≤ 6 * 10 ^ 38 + 10 ^ 8 := by
    cases big with
    | false => exact ⟨1 + r3, g3, fun x7 x8 => by simp, by omega, by omega⟩
    | true =>
      obtain ⟨r4, g4, e4, p4, q4⟩ := draw_eq g3 (b := 100000000) (by decide) (by decide)
      have hp : powOk 10 38 = true := by decide
      have hp8 : powOk 10 8 = true := by decide
      have m3 : mulOk (1 + r3) 100000000000000000000000000000000000000 = true := mulOk_of (show Sz 4 (1 + r3) by unfold Sz; omega) (show Sz 130 100000000000000000000000000000000000000 by unfold Sz; omega) (by decide) (by decide)
      exact ⟨(1 + r3) * 100000000000000000000000000000000000000 + r4, g4, fun x7 x8 => by simp [hp, hp8, m3, e4], by omega, by omega⟩
  -- the slope
  obtain ⟨sl', g5, e5, hsl⟩ : ∃ (sl' : Int) (g5 : GS), (∀ (x7 x8 : Option DV) (t : SF), seqD (ifD (tB1 (b2 hEq (vS 3) (kS (.int 1)))) (setD 6 (oS (b2 hSub (vS 6) (fz (callF drawF (aC (vS 0) (aC (kS (.int 2)) (aN)))))))) (skipD))
      (seqD (ifD (tB1 (b2 hEq (vS 3) (kS (.int 2)))) (setD 6 (oS (b2 hAdd (vS 6) (fz (callF drawF (aC (vS 0) (aC (kS (.int 2)) (aN)))))))) (skipD))
      (seqD (ifD (tB1 (b2 hGt (vS 3) (kS (.int 3)))) (setD 6 (oS (b2 hSub (fz (callF drawF (aC (vS 0) (aC (kS (.int 13)) (aN))))) (kS (.int 6))))) (skipD)) t))
      [some (.sh .gen), some (.sh (.int n)), some (.sh (.bl big)), some (.sh (.int kind)), some (.sh (.int x)), some (.sh (.int y)), some (.sh (.int sl)), x7, x8, x9, some (.sh (.int st))] g4 = t [some (.sh .gen), some (.sh (.int n)), some (.sh (.bl big)), some (.sh (.int kind)), some (.sh (.int x)), some (.sh (.int y)), some (.sh (.int sl')), x7, x8, x9, some (.sh (.int st))] g5) ∧ sl'.natAbs ≤ 6 + (i + 1) := by
    have hb := h.bs
    by_cases k1 : kind = 1
    · obtain ⟨r, g5, e, p, q⟩ := draw_eq g4 (b := 2) (by decide) (by decide)
      exact ⟨sl - r, g5, fun x7 x8 t => by subst k1; simp [e], by omega⟩
    · by_cases k2 : kind = 2
      · obtain ⟨r, g5, e, p, q⟩ := draw_eq g4 (b := 2) (by decide) (by decide)
        exact ⟨sl + r, g5, fun x7 x8 t => by subst k2; simp [e], by omega⟩
      · by_cases k3 : 3 < kind
        · obtain ⟨r, g5, e, p, q⟩ := draw_eq g4 (b := 13) (by decide) (by decide)
          exact ⟨r - 6, g5, fun x7 x8 t => by simp [k1, k2, k3, e], by omega⟩
        · exact ⟨sl, g4, fun x7 x8 t => by simp [k1, k2, k3], by omega⟩
  have m4 : mulOk sl' st = true := mulOk_of (show Sz 10 sl' by unfold Sz; omega) (show Sz 140 st by unfold Sz; omega) (by decide) (by decide)
  refine ⟨x + st, y + sl' * st, sl', xs ++ [x], ys ++ [y - c * r1 * r2], some (.sh (.int st)), g5, ?_, h.next hi hw st0 st1 hsl⟩
  unfold ptsB ptE
  rw [List.map_append, List.map_append, List.map_append, List.map_append]
  generalize (xs.map SV.int).map DV.sh = XX at *
  generalize (ys.map SV.int).map DV.sh = YY at *
  rw [seq_nx (ρ' := [some (.sh .gen), some (.sh (.int n)), some (.sh (.bl big)), some (.sh (.int kind)), some (.sh (.int x)), some (.sh (.int y)), some (.sh (.int sl)), some (.own (XX ++ [.sh (.int x)])), some (.own YY), x9, x10]) (g' := g) (by simp [q1, L1])]
  rw [seq_nx (ρ' := [some (.sh .gen), some (.sh (.int n)), some (.sh (.bl big)), some (.sh (.int kind)), some (.sh (.int x)), some (.sh (.int y)), some (.sh (.int sl)), some (.own (XX ++ [.sh (.int x)])), some (.own (YY ++ [.sh (.int (y - c * r1 * r2))])), x9, x10]) (g' := g2) (by
    simp [e1, e2, q2, L2, hc, m1, m2])]
  rw [seq_nx (ρ' := [some (.sh .gen), some (.sh (.int n)), some (.sh (.bl big)), some (.sh (.int kind)), some (.sh (.int x)), some (.sh (.int y)), some (.sh (.int sl)), some (.own (XX ++ [.sh (.int x)])), some (.own (YY ++ [.sh (.int (y - c * r1 * r2))])), x9, some (.sh (.int (1 + r3)))]) (g' := g3) (by simp [e3])]
  rw [seq_nx (e4 _ _), e5]
  simp [m4]
theorem law_points_eq (g : GS) : ∃ (xs ys : List Int) (wide high : Int) (g' : GS), F_law_points [.gen] g = some (.sh (.tup [.lst (xs.map .int), .lst (ys.map .int), .int wide, .int high]), g') ∧ PtsH xs wide ∧ ys.length = xs.length ∧ 0 < high ∧ high ≤ 9 ∧ ∀ y ∈ ys, Sz 144 y := by
  obtain ⟨r1, g1, e1, p1, q1⟩ := draw_eq g (b := 7) (by decide) (by decide)
  obtain ⟨r2, g2, e2, p2, q2⟩ := draw_eq g1 (b := 4) (by decide) (by decide)
  obtain ⟨n, g3, e3, n1, n2⟩ : ∃ (n : Nat) (g3 : GS), ifD (tB1 (b2 hEq (fz (callF drawF (aC (vS 0) (aC (kS (.int 4)) (aN))))) (kS (.int 0)))) (setD 1 (oS (b2 hAdd (kS (.int 1)) (fz (callF drawF (aC (vS 0) (aC (kS (.int 60)) (aN)))))))) (skipD)
      [some (.sh .gen), some (.sh (.int (1 + r1))), none, none, none, none, none, none, none, none, none] g1 = some (.nx [some (.sh .gen), some (.sh (.int (n : Nat))), none, none, none, none, none, none, none, none, none] g3) ∧ 1 ≤ n ∧ n ≤ 60 := by
    by_cases h0 : r2 = 0
    · obtain ⟨r4, g4, e4, p4, q4⟩ := draw_eq g2 (b := 60) (by decide) (by decide)
      obtain ⟨n, hn⟩ : ∃ n : Nat, 1 + r4 = ((n : Nat) : Int) := ⟨(1 + r4).toNat, by omega⟩
      exact ⟨n, g4, by simp [e2, h0, e4, hn], by omega, by omega⟩
    · obtain ⟨n, hn⟩ : ∃ n : Nat, 1 + r1 = ((n : Nat) : Int) := ⟨(1 + r1).toNat, by omega⟩
      exact ⟨n, g2, by simp [e2, h0, hn], by omega, by omega⟩
  obtain ⟨r4, g4, e4, p4, q4⟩ := draw_eq g3 (b := 6) (by decide) (by decide)
  obtain ⟨big, hbig⟩ : ∃ big : Bool, decide (r4 = 0) = big := ⟨_, rfl⟩
  obtain ⟨kind, g5, e5, p5, q5⟩ := draw_eq g4 (b := 6) (by decide) (by decide)
  obtain ⟨r6, g6, e6, p6, q6⟩ := draw_eq g5 (b := 21) (by decide) (by decide)
  obtain ⟨r7, g7, e7, p7, q7⟩ := draw_eq g6 (b := 21) (by decide) (by decide)
  obtain ⟨x0, hx0, bx0⟩ : ∃ x0 : Int, (∀ (ρ : Env) (g : GS), ifD (tB1 (vS 2)) (setD 4 (oS (b2 hMul (vS 4) (b2 hPow (kS (.int 10)) (kS (.int 38)))))) (skipD)
      [some (.sh .gen), some (.sh (.int n)), some (.sh (.bl big)), some (.sh (.int kind)), some (.sh (.int (r6 - 10))), some (.sh (.int (r7 - 10))), none, none, none, none, none] g = some (.nx [some (.sh .gen), some (.sh (.int n)), some (.sh (.bl big)), some (.sh (.int kind)), some (.sh (.int x0)), some (.sh (.int (r7 - 10))), none, none, none, none, none] g)) ∧ x0.natAbs ≤ 10 ^ 39 := by
    cases big with
    | false => exact ⟨r6 - 10, fun ρ g => by simp, by omega⟩
    | true =>
      have hp : powOk 10 38 = true := by decide
      have m3 : mulOk (r6 - 10) 100000000000000000000000000000000000000 = true := mulOk_of (show Sz 6 (r6 - 10) by unfold Sz; omega) (show Sz 130 100000000000000000000000000000000000000 by unfold Sz; omega) (by decide) (by decide)
      exact ⟨(r6 - 10) * 100000000000000000000000000000000000000, fun ρ g => by simp [hp, m3], by omega⟩
  obtain ⟨r8, g8, e8, p8, q8⟩ := draw_eq g7 (b := 13) (by decide) (by decide)
  obtain ⟨ρ', g9, e9, x, y, sl, xs, ys, x9, x10, rfl, hI⟩ := loop_rng (gf := gN 9) (sb := ptsB) (lo := 0) (n := n)
    (fun i ρ g' => ∃ x y sl xs ys x9 x10, ρ = ptE n big kind x y sl xs ys x9 x10 ∧ PtI i x y sl xs ys) (ρ := ptE n big kind x0 (r7 - 10) (r8 - 6) [] [] none none) (g := g8)
    ⟨x0, r7 - 10, r8 - 6, [], [], none, none, rfl, rfl, rfl, fun k hk => by omega, fun h => by omega, by omega, by omega, by omega, fun z hz => absurd hz List.not_mem_nil, fun z hz => absurd hz List.not_mem_nil⟩
    (fun i ρ g' hi hI => by
      obtain ⟨x, y, sl, xs, ys, x9, x10, rfl, hI⟩ := hI
      obtain ⟨x', y', sl', xs', ys', x10', g2, e, hI'⟩ := pts_step (n := n) (big := big) (kind := kind) (by omega) hI (x9 := some (.sh (.int (0 + (i : Nat))))) (x10 := x10) (g := g')
      exact ⟨_, g2, e, x', y', sl', xs', ys', _, x10', rfl, hI'⟩)
  obtain ⟨ra, ga, ea, pa, qa⟩ := draw_eq g9 (b := 9) (by decide) (by decide)
  obtain ⟨rb, gb, eb, pb, qb⟩ := draw_eq ga (b := 9) (by decide) (by decide)
  have lx := hI.lx
  have ly := hI.ly
  refine ⟨xs, ys, 1 + ra, 1 + rb, gb, ?_, ⟨by omega, by omega, fun k hk => hI.inc k (by omega), by omega, by omega, hI.sx⟩, by omega, by omega, by omega, hI.sy⟩
  have r9 : rngOk ((n : Nat) : Int) = true := rngOk_of (by omega)
  have q9 : rngL 0 (Int.toNat ((n : Nat) : Int)) = rngL 0 n := by rw [Int.toNat_natCast]
  have e9' : forD (iR1 (vS 1)) (gN 9) ptsB (ptE n big kind x0 (r7 - 10) (r8 - 6) [] [] none none) g8 = some (.nx (ptE n big kind x y sl xs ys x9 x10) g9) := by
    unfold ptE at *
    simpa [-List.map_map, r9, q9] using e9
  clear e9
  unfold ptE at e9'
  rw [List.map_nil, List.map_nil] at e9'
  have eF : F_law_points [.gen] g = (B_law_points [some (.sh .gen), none, none, none, none, none, none, none, none, none, none] g).bind fun r => match r with
    | .rt d g' => some (d, g')
    | .nx _ g' => some (.sh .non, g')
    | _ => none := rfl
  rw [eF]
  unfold B_law_points
  rw [seq_nx (ρ' := [some (.sh .gen), some (.sh (.int (1 + r1))), none, none, none, none, none, none, none, none, none]) (g' := g1) (by simp [e1])]
  rw [seq_nx e3]
  rw [seq_nx (ρ' := [some (.sh .gen), some (.sh (.int n)), some (.sh (.bl big)), none, none, none, none, none, none, none, none]) (g' := g4) (by simp [e4, hbig])]
  rw [seq_nx (ρ' := [some (.sh .gen), some (.sh (.int n)), some (.sh (.bl big)), some (.sh (.int kind)), none, none, none, none, none, none, none]) (g' := g5) (by simp [e5])]
  rw [seq_nx (ρ' := [some (.sh .gen), some (.sh (.int n)), some (.sh (.bl big)), some (.sh (.int kind)), some (.sh (.int (r6 - 10))), none, none, none, none, none, none]) (g' := g6) (by simp [e6])]
  rw [seq_nx (ρ' := [some (.sh .gen), some (.sh (.int n)), some (.sh (.bl big)), some (.sh (.int kind)), some (.sh (.int (r6 - 10))), some (.sh (.int (r7 - 10))), none, none, none, none, none]) (g' := g7) (by simp [e7])]
  rw [seq_nx (hx0 [] g7)]
  rw [seq_nx (ρ' := [some (.sh .gen), some (.sh (.int n)), some (.sh (.bl big)), some (.sh (.int kind)), some (.sh (.int x0)), some (.sh (.int (r7 - 10))), some (.sh (.int (r8 - 6))), none, none, none, none]) (g' := g8) (by simp [e8])]
  rw [seq_nx (ρ' := [some (.sh .gen), some (.sh (.int n)), some (.sh (.bl big)), some (.sh (.int kind)), some (.sh (.int x0)), some (.sh (.int (r7 - 10))), some (.sh (.int (r8 - 6))), some (.own []), none, none, none]) (g' := g8) (by simp)]
  rw [seq_nx (ρ' := [some (.sh .gen), some (.sh (.int n)), some (.sh (.bl big)), some (.sh (.int kind)), some (.sh (.int x0)), some (.sh (.int (r7 - 10))), some (.sh (.int (r8 - 6))), some (.own []), some (.own []), none, none]) (g' := g8) (by simp)]
  change ((seqD (frzD 8 (frzD 7 (forD (iR1 (vS 1)) (gN 9) ptsB))) _ _ _).bind _) = _
  have fX := ev_frzo (xs.map SV.int)
  have fY := ev_frzo (ys.map SV.int)
  generalize xs.map SV.int = XX at *
  generalize ys.map SV.int = YY at *
  rw [seq_nx (ρ' := [some (.sh .gen), some (.sh (.int n)), some (.sh (.bl big)), some (.sh (.int kind)), some (.sh (.int x)), some (.sh (.int y)), some (.sh (.int sl)), some (.sh (.lst XX)), some (.sh (.lst YY)), x9, x10]) (g' := g9) (by
    rw [ev_frzD, ev_frzD, e9']
    simp [frzEnv, fX, fY])]
  simp [ea, eb]
/-! k19: law_lowered -/
/-- a comprehension with a condition -/
theorem comp_filter {α : Type} {wf : WF} {c : TF} {f : OF} {ρ : Env} (enc : α → SV) (p : α → Bool) (res : α → DV) : ∀ (xs : List α) (g : GS),
    (∀ x ∈ xs, ∀ g, ∃ ρ', wf (enc x) ρ = some ρ' ∧ c ρ' g = some (p x, g) ∧ f ρ' g = some (res x, g)) → compL wf c f ρ (xs.map enc) g = some ((xs.filter p).map res, g)
  | [], g, _ => rfl
  | x :: xs, g, h => by
    obtain ⟨ρ', e1, e2, e3⟩ := h x List.mem_cons_self g
    have ih := comp_filter (wf := wf) (c := c) (f := f) (ρ := ρ) enc p res xs g fun y hy g => h y (List.mem_cons_of_mem _ hy) g
    rw [List.map_cons]
    unfold compL
    rw [e1, Option.bind_some, e2, Option.bind_some]
    cases hp : p x with
    | true => rw [if_pos rfl, e3, Option.bind_some, ih, List.filter_cons_of_pos hp]; rfl
    | false => rw [if_neg Bool.false_ne_true, ih, List.filter_cons_of_neg (by rw [hp]; exact Bool.false_ne_true)]
theorem ints_pd : ∀ ns : List Int, SV.pds (ns.map .int) = some (ns.map PySem.PyData.int) := fun ns => pds_map (p := PySem.PyData.int) ns fun _ _ => rfl
theorem ints_dep (ns : List Int) : (SV.lst (ns.map .int)).dep ≤ 1 := by
  have := deps_map (f := SV.int) (n := 0) ns fun _ _ => Nat.le_refl 0
  rw [SV.dep]
  omega
theorem ints_noL : ∀ ns : List Int, DV.noLs ((ns.map SV.int).map DV.sh) = true
  | [] => rfl
  | n :: ns => by
    rw [List.map_cons, List.map_cons]
    show (true && _) = true
    rw [ints_noL ns]
    rfl
theorem ints_eq_nil (ns : List Int) : hEq (.lst (ns.map .int)) (.lst []) = some (.bl (decide (ns = []))) := by
  have h1 : (SV.lst (ns.map .int)).pd = some (.list (ns.map PySem.PyData.int)) := by rw [SV.pd, ints_pd]; rfl
  have h2 : (SV.lst []).pd = some (.list []) := by rw [SV.pd, SV.pds]; rfl
  have h3 : SV.eq (.lst (ns.map .int)) (.lst []) = some (decide (ns = [])) := by
    cases ns with
    | nil => rfl
    | cons n ns => rfl
  have d1 := ints_dep ns
  show hEqD _ _ _ = _
  unfold hEqD
  rw [h1, h2, h3]
  exact if_pos ⟨by omega, by decide⟩
/-- one y sinks -/
abbrev sink (ys : List Int) (m : Nat) (r : Int) : List Int := ys.set m (gL ys m - 1 - r)
theorem lowered_eq {ys : List Int} {high : Int} {hs : List (Int × Int)} {g : GS} (n60 : ys.length ≤ 60) (hh : 0 < high) (h9 : high ≤ 9) (sy : ∀ y ∈ ys, Sz 145 y) (hl : hs.length = ys.length) (hsz : ∀ q ∈ hs, FrS 400 q) :
    (∃ g', F_law_lowered [.gen, .lst (hs.map fr), .lst (ys.map .int), .int high] g = some (.sh .non, g')) ∨
    ∃ m q r g', F_law_lowered [.gen, .lst (hs.map fr), .lst (ys.map .int), .int high] g = some (.own (((sink ys m r).map SV.int).map .sh), g') ∧ hs[m]? = some q ∧ gL ys m * q.2 < q.1 * high ∧ 0 ≤ r ∧ r < 100 := by
  have sh : Sz 4 high := by unfold Sz; omega
  let P : Nat → Bool := fun k => decide (gL ys k * (hs.getD k (0, 1)).2 < (hs.getD k (0, 1)).1 * high)
  have ec := comp_filter (wf := wN 7) (c := tB1 (b2 hGt (b2 hMul (b2 hIx (b2 hIx (vS 1) (vS 7)) (kS (.int 0))) (vS 3)) (b2 hMul (b2 hIx (vS 2) (vS 7)) (b2 hIx (b2 hIx (vS 1) (vS 7)) (kS (.int 1)))))) (f := oS (vS 7))
    (ρ := [some (.sh .gen), some (.sh (.lst (hs.map fr))), some (.sh (.lst (ys.map .int))), some (.sh (.int high)), none, none, none, none])
    (fun (i : Nat) => SV.int (0 + (i : Int))) P (fun i => DV.sh (.int (i : Nat))) (List.range ys.length) g (fun i hi g => by
      have hi' := List.mem_range.mp hi
      obtain ⟨q, hq⟩ := getq hl hi'
      have a1 := ix_fr hq
      have a2 := ixL (ns := ys) hi'
      have sq := hsz q (List.mem_of_getElem? hq)
      have m1 : mulOk q.1 high = true := mulOk_of sq.n sh (by decide) (by decide)
      have m2 : mulOk (gL ys i) q.2 = true := mulOk_of (gL_sz sy hi') sq.d (by decide) (by decide)
      have eq : hs.getD i (0, 1) = q := by rw [List.getD_eq_getElem?_getD, hq]; rfl
      have eP : P i = decide (gL ys i * q.2 < q.1 * high) := by show decide _ = _; rw [eq]
      have ei : (0 : Int) + (i : Nat) = i := by omega
      rw [ei, eP]
      generalize hs.map fr = HS at *
      generalize ys.map SV.int = YY at *
      generalize gL ys i = c1 at *
      unfold fr at a1
      exact ⟨_, rfl, by simp [a1, a2, m1, m2], by simp⟩)
  rw [← range_map] at ec
  have r1 : rngOk ((ys.length : Nat) : Int) = true := rngOk_of (by omega)
  have q1 : (((ys.map SV.int).length : Nat) : Int) = (ys.length : Nat) := by rw [List.length_map]
  have hL : lenOk (rngL 0 ys.length).length = true := lenOk_of (by unfold rngL; simp; omega)
  have q3 : rngL 0 (Int.toNat ((ys.length : Nat) : Int)) = rngL 0 ys.length := by rw [Int.toNat_natCast]
  have hps : ∀ k ∈ (List.range ys.length).filter P, k < ys.length ∧ P k = true := fun k hk => ⟨List.mem_range.mp (List.mem_filter.mp hk).1, (List.mem_filter.mp hk).2⟩
  have hlen : ((List.range ys.length).filter P).length ≤ 60 := Nat.le_trans (List.length_filter_le _ _) (by simp; exact n60)
  generalize (List.range ys.length).filter P = ps at *
  have ems : (ps.map fun i => DV.sh (.int (i : Nat))) = ((ps.map fun (i : Nat) => (i : Int)).map SV.int).map DV.sh := by rw [List.map_map, List.map_map]; rfl
  rw [ems] at ec
  have en := ints_eq_nil (ps.map fun (i : Nat) => (i : Int))
  have ff := ev_frzo ((ps.map fun (i : Nat) => (i : Int)).map SV.int)
  by_cases hn : ps = []
  · subst hn
    refine .inl ⟨g, ?_⟩
    rw [List.map_nil, List.map_nil, List.map_nil] at ec
    generalize hs.map fr = HS at *
    generalize rngL 0 ys.length = R at *
    generalize ((ys.length : Nat) : Int) = nn at *
    generalize ys.map SV.int = YY at *
    have en0 : hEq (.lst []) (.lst []) = some (.bl true) := by simpa using en
    simp [F_law_lowered, B_law_lowered, q1, r1, q3, hL, ec, frzEnv, en0]
  · have hn0 : 0 < ps.length := List.length_pos_iff.mpr hn
    obtain ⟨r, g1, e1, p1, q1'⟩ := draw_eq g (b := (ps.length : Nat)) (by omega) (by omega)
    obtain ⟨t, ht⟩ : ∃ t : Nat, r = (t : Nat) := ⟨r.toNat, by omega⟩
    subst ht
    have htl : t < ps.length := by omega
    obtain ⟨mm, hm⟩ : ∃ m, ps[t]? = some m := ⟨ps[t], List.getElem?_eq_getElem htl⟩
    obtain ⟨hm1, hm2⟩ := hps mm (List.mem_of_getElem? hm)
    obtain ⟨q, hq⟩ := getq hl hm1
    obtain ⟨r2, g2, e2, p2, q2⟩ := draw_eq g1 (b := 100) (by decide) (by decide)
    refine .inr ⟨mm, q, r2, g2, ?_, hq, ?_, p2, q2⟩
    · have am : L2.atI ((ps.map fun (i : Nat) => (i : Int)).map SV.int) (t : Nat) = some (.int (mm : Nat)) := L2.atI_nat (by rw [List.getElem?_map, List.getElem?_map, hm]; rfl)
      have ay : L2.atI ((ys.map SV.int).map DV.sh) (mm : Nat) = some (.sh (.int (gL ys mm))) := L2.atI_nat (by
        rw [List.getElem?_map, List.getElem?_map, List.getElem?_eq_getElem hm1]
        simp [gL, List.getD, List.getElem?_eq_getElem hm1])
      have ei : L2.ixN ys.length (mm : Nat) = some mm := by
        unfold L2.ixN
        rw [if_pos (by omega), if_pos (by omega)]
        simp
      have lp : (((ps.map fun (i : Nat) => (i : Int)).map SV.int).length : Int) = (ps.length : Nat) := by simp
      have hz : decide (List.map (fun (i : Nat) => (i : Int)) ps = []) = false := decide_eq_false fun z => hn (List.map_eq_nil_iff.mp z)
      rw [hz] at en
      have ly : ((ys.map SV.int).map DV.sh).length = ys.length := by simp
      have ly1 : (ys.map SV.int).length = ys.length := by simp
      have est : ((sink ys mm r2).map SV.int).map DV.sh = ((ys.map SV.int).map DV.sh).set mm (.sh (.int (gL ys mm - 1 - r2))) := by unfold sink; rw [List.map_set, List.map_set]
      rw [est]
      rw [← ly1] at ei
      clear ems hps hlen est hz hm hm2 hq hn
      generalize gL ys mm = ym at *
      generalize ((mm : Nat) : Int) = mi at *
      generalize ((t : Nat) : Int) = ti at *
      generalize ((ps.length : Nat) : Int) = pl at *
      generalize (ps.map fun (i : Nat) => (i : Int)).map SV.int = PP at *
      generalize hs.map fr = HS at *
      generalize rngL 0 ys.length = R at *
      generalize ys.length = n0 at *
      generalize ((n0 : Nat) : Int) = nn at *
      generalize ys.map SV.int = YY at *
      simp [-List.map_map, F_law_lowered, B_law_lowered, q1, r1, q3, hL, ec, frzEnv, ff, en, lp, e1, am, ay, e2, ei]
    · have eq : hs.getD mm (0, 1) = q := by rw [List.getD_eq_getElem?_getD, hq]; rfl
      have := of_decide_eq_true hm2
      rw [eq] at this
      exact this
end DL

namespace DL
theorem over_q {high : Int} {ys : List Int} (hh : 0 < high) (h9 : high ≤ 9) (sy : ∀ y ∈ ys, Sz 145 y) : ∀ q ∈ over high ys, Fr q ∧ Sz 140 q.2 ∧ Sz 400 q.1 := fun q hq => by
  obtain ⟨y, hy, rfl⟩ := List.mem_map.mp hq
  obtain ⟨f1, _, f3, f4⟩ := rat_facts (n := y) (Int.ne_of_gt hh)
  have s4 : Sz 4 high := by unfold Sz; omega
  exact ⟨f1, Nat.lt_of_le_of_lt f4 (s4.mono (show 4 ≤ 140 by decide)), Nat.lt_of_le_of_lt f3 ((sy y hy).mono (show 145 ≤ 400 by decide))⟩
theorem over_at {h : Int} {ns : List Int} {k : Nat} : (over h ns)[k]? = ns[k]?.map fun x => rat x h := by unfold over; rw [List.getElem?_map]
theorem gL_at {ns : List Int} {k : Nat} (hk : k < ns.length) : ns[k]? = some (gL ns k) := by
  rw [List.getElem?_eq_getElem hk]
  simp [gL, List.getD, List.getElem?_eq_getElem hk]
theorem lower19 {xs ys : List Int} {high : Int} {hs : List (Int × Int)} (hh : 0 < high) (hl : ys.length = xs.length) (h : HullQ (gL xs) xs.length (over high ys) hs) {m : Nat} {q : Int × Int} {r : Int} (hq : hs[m]? = some q) (hlt : gL ys m * q.2 < q.1 * high) (hr : 0 ≤ r) :
    HullQ (gL xs) xs.length (over high (sink ys m r)) hs := by
  have hm : m < xs.length := by rw [← h.lh]; exact (List.getElem?_eq_some_iff.mp hq).1
  refine h.lower (m := m) hm (by simp [over, sink, hl]) (fun p hp => ?_) (fun k hk => ?_) (fun p q' h1 h2 => ?_) (fun p q' h1 h2 => ?_)
  · obtain ⟨x, _, rfl⟩ := List.mem_map.mp hp
    exact rat_fr (Int.ne_of_gt hh)
  · rw [over_at, over_at]
    unfold sink
    rw [List.getElem?_set_ne (Ne.symm hk)]
  · rw [over_at] at h1 h2
    unfold sink at h1
    rw [List.getElem?_set_self (by omega)] at h1
    rw [gL_at (by omega)] at h2
    cases h1
    cases h2
    show (rat (gL ys m - 1 - r) high).1 * (rat (gL ys m) high).2 ≤ (rat (gL ys m) high).1 * (rat (gL ys m - 1 - r) high).2
    have e1 := rat_eq (n := gL ys m - 1 - r) (Int.ne_of_gt hh)
    have e2 := rat_eq (n := gL ys m) (Int.ne_of_gt hh)
    have f1 := (rat_fr (n := gL ys m - 1 - r) (Int.ne_of_gt hh)).1
    have f2 := (rat_fr (n := gL ys m) (Int.ne_of_gt hh)).1
    generalize rat (gL ys m - 1 - r) high = a at *
    generalize rat (gL ys m) high = b at *
    refine cancelL hh ?_
    have c := Int.mul_le_mul_of_nonneg_right (show gL ys m - 1 - r ≤ gL ys m by omega) (Int.le_of_lt (Int.mul_pos f1 f2))
    calc a.1 * b.2 * high = (a.1 * high) * b.2 := by grind
      _ = (gL ys m - 1 - r) * (a.2 * b.2) := by rw [e1]; grind
      _ ≤ gL ys m * (a.2 * b.2) := c
      _ = (b.1 * high) * a.2 := by rw [e2]; grind
      _ = b.1 * a.2 * high := by grind
  · rw [over_at, gL_at (by omega)] at h1
    rw [hq] at h2
    cases h1
    cases h2
    show (rat (gL ys m) high).1 * q.2 < q.1 * (rat (gL ys m) high).2
    have e2 := rat_eq (n := gL ys m) (Int.ne_of_gt hh)
    have f2 := (rat_fr (n := gL ys m) (Int.ne_of_gt hh)).1
    generalize rat (gL ys m) high = b at *
    refine Int.lt_of_mul_lt_mul_right (a := high) ?_ (Int.le_of_lt hh)
    have c := Int.mul_lt_mul_of_pos_right hlt f2
    calc b.1 * q.2 * high = (b.1 * high) * q.2 := by grind
      _ = gL ys m * q.2 * b.2 := by rw [e2]; grind
      _ < q.1 * high * b.2 := c
      _ = q.1 * b.2 * high := by grind
theorem tup_ne (hs : List (Int × Int)) : hNe (.tup (hs.map fr)) (.tup (hs.map fr)) = some (.bl false) := by
  have h1 : (SV.tup (hs.map fr)).pd = some (.tuple (hs.map fun q => .tuple [.int q.1, .int q.2])) := by
    rw [SV.pd, pds_map (p := fun q : Int × Int => .tuple [.int q.1, .int q.2]) hs fun q _ => fr_pd q]; rfl
  have h2 : (SV.tup (hs.map fr)).dep ≤ 64 := by
    have := deps_map (f := fr) (n := 1) hs fun q _ => fr_dep q
    rw [SV.dep]
    omega
  exact hNe_tup h1 h2
theorem pts_eq (pts : List ((Int × Int) × (Int × Int))) : hEq (.lst (pts.map encPt)) (.lst (pts.map encPt)) = some (.bl true) := by
  have h1 : (SV.lst (pts.map encPt)).pd = some (.list (pts.map fun p => .tuple [.tuple [.int p.1.1, .int p.1.2], .tuple [.int p.2.1, .int p.2.2]])) := by
    rw [SV.pd, pds_map (p := fun p : (Int × Int) × (Int × Int) => .tuple [.tuple [.int p.1.1, .int p.1.2], .tuple [.int p.2.1, .int p.2.2]]) pts fun p _ => by
      unfold encPt
      rw [SV.pd, SV.pds, fr_pd, SV.pds, fr_pd, SV.pds]
      rfl]
    rfl
  have h2 : (SV.lst (pts.map encPt)).dep ≤ 64 := by
    have := deps_map (f := encPt) (n := 2) pts fun p _ => by
      unfold encPt
      have a := fr_dep p.1
      have b := fr_dep p.2
      rw [SV.dep, SV.deps, SV.deps, SV.deps]
      omega
    rw [SV.dep]
    omega
  show hEqD _ _ _ = _
  rw [hEqD_refl h1 h2]
theorem frs_noL : ∀ hs : List (Int × Int), DV.noLs ((hs.map fr).map DV.sh) = true
  | [] => rfl
  | q :: hs => by
    rw [List.map_cons, List.map_cons]
    show ((fr q).noL && _) = true
    rw [frs_noL hs]
    rfl
abbrev E19 (XX YY : List SV) (wide high : Int) (t : List (Option DV)) : Env := none :: some (.sh .gen) :: some (.sh (.lst XX)) :: some (.sh (.lst YY)) :: some (.sh (.int wide)) :: some (.sh (.int high)) :: t
theorem law_true (g : GS) : ∃ g', B_law ((List.replicate 12 none).set 1 (some (.sh .gen))) g = some (.rt (.sh (.bl true)) g') := by
  show Good _
  obtain ⟨xs, ys, wide, high, g1, e1, P, hl, hh, h9, sy⟩ := law_points_eq g
  have sy5 : ∀ y ∈ ys, Sz 145 y := fun y hy => (sy y hy).mono (by decide)
  have n60 := P.n60
  have I := P.inc
  have hp : ∀ g, F_law_handed [.lst (xs.map .int), .lst (ys.map .int), .int wide, .int high] g = _ := fun g => handed_eq hl n60 P.w0 hh P.w9 h9
  obtain ⟨hs, _, H⟩ := upper_hull P (S := .lst ((ptsOf xs ys wide high).map encPt)) (g := g1) rfl pts_fst (by rw [pts_snd hl]; exact over_q hh h9 sy5)
  rw [pts_snd hl] at H
  have hsq := hull_sz I hh h9 P.sx sy5 hl H
  have hsz : ∀ q ∈ hs, FrS 400 q := fun q hq => ⟨(hsq q hq).1, (hsq q hq).2.2, (hsq q hq).2.1.mono (by decide)⟩
  -- whatever list or tuple of these points is asked
  have up : ∀ (S : SV) (g : GS), S.seq? = some ((ptsOf xs ys wide high).map encPt) → F_upper_heights [S] g = some (.own ((hs.map fr).map .sh), g) := fun S g hS => by
    obtain ⟨hs', e, H'⟩ := upper_hull P (S := S) (g := g) hS pts_fst (by rw [pts_snd hl]; exact over_q hh h9 sy5)
    rw [pts_snd hl] at H'
    rw [H'.uniq I H] at e
    exact e
  have rt : ∀ g, F_law_right [.lst (hs.map fr), .lst (xs.map .int), .lst (ys.map .int), .int high] g = some (.sh (.bl true), g) := fun g => law_right_eq19 I n60 hh h9 P.sx sy5 hl hsz H
  have ch : ∀ g, F_law_chords [.lst (hs.map fr), .lst (xs.map .int), .lst (ys.map .int), .int high] g = some (.sh (.bl true), g) := fun g => law_chords_eq I n60 hh h9 P.sx sy5 hl hsz H
  have u1 := up (.lst ((ptsOf xs ys wide high).map encPt)) g1 rfl
  have u3 : ∀ g, F_upper_heights [.tup ((ptsOf xs ys wide high).map encPt)] g = some (.own ((hs.map fr).map .sh), g) := fun g => up _ g rfl
  have pe := pts_eq (ptsOf xs ys wide high)
  have fP := ev_frzo ((ptsOf xs ys wide high).map encPt)
  have fH := ev_frzo (hs.map fr)
  have tn := tup_ne hs
  have nl := frs_noL hs
  -- the heights in place of the points
  have lh : hs.length = xs.length := H.lh
  have c10 : ∀ (x1 x2 x3 x4 x5 x7 x9 x10 : Option DV) (g : GS), compL (wN 11) yesT (oS (tupF (aC (b2 hIx (b2 hIx (vS 6) (vS 11)) (kS (.int 0))) (aC (b2 hIx (vS 8) (vS 11)) (aN))))) [none, x1, x2, x3, x4, x5, some (.sh (.lst ((ptsOf xs ys wide high).map encPt))), x7, some (.sh (.tup (hs.map fr))), x9, x10, none] (rngL 0 xs.length) g =
      some ((((List.range xs.length).map fun k => (rat (gL xs k) wide, hs.getD k (0, 1))).map encPt).map .sh, g) := fun x1 x2 x3 x4 x5 x7 x9 x10 g => by
    have := comp_map (β := Nat) (wf := wN 11) (f := oS (tupF (aC (b2 hIx (b2 hIx (vS 6) (vS 11)) (kS (.int 0))) (aC (b2 hIx (vS 8) (vS 11)) (aN))))) (ρ := [none, x1, x2, x3, x4, x5, some (.sh (.lst ((ptsOf xs ys wide high).map encPt))), x7, some (.sh (.tup (hs.map fr))), x9, x10, none])
      (fun (i : Nat) => SV.int (0 + (i : Int))) (fun k => DV.sh (encPt (rat (gL xs k) wide, hs.getD k (0, 1)))) (List.range xs.length) g (fun i hi g => by
        have hi' := List.mem_range.mp hi
        obtain ⟨q, hq⟩ := getq lh hi'
        have a1 := ix_fr hq
        have eq : hs.getD i (0, 1) = q := by rw [List.getD_eq_getElem?_getD, hq]; rfl
        have a2 : L2.atI ((ptsOf xs ys wide high).map encPt) (i : Nat) = some (encPt (rat (gL xs i) wide, rat (gL ys i) high)) := L2.atI_nat (by simp [ptsOf, hi'])
        have ei : (0 : Int) + (i : Nat) = i := by omega
        rw [ei, eq]
        generalize (ptsOf xs ys wide high).map encPt = PP at *
        generalize hs.map fr = HS at *
        unfold encPt at a2
        simp [a1, a2, encPt])
    rw [← range_map] at this
    rw [this, List.map_map, List.map_map]
    rfl
  have f10 : ((List.range xs.length).map fun k => (rat (gL xs k) wide, hs.getD k (0, 1))).map (·.1) = over wide xs := by rw [List.map_map]; exact range_over
  have s10 : ((List.range xs.length).map fun k => (rat (gL xs k) wide, hs.getD k (0, 1))).map (·.2) = hs := by
    rw [List.map_map]
    refine List.ext_getElem? fun k => ?_
    by_cases hk : k < xs.length
    · obtain ⟨q, hq⟩ := getq lh hk
      simp [hk, List.getD, hq]
    · rw [List.getElem?_eq_none (by simp; omega), List.getElem?_eq_none (by omega)]
  have u10 : ∀ g, F_upper_heights [.lst (((List.range xs.length).map fun k => (rat (gL xs k) wide, hs.getD k (0, 1))).map encPt)] g = some (.own ((hs.map fr).map .sh), g) := fun g => by
    obtain ⟨hs', e, H'⟩ := upper_hull P (g := g) (S := .lst (((List.range xs.length).map fun k => (rat (gL xs k) wide, hs.getD k (0, 1))).map encPt)) rfl f10 (by rw [s10]; exact hsq)
    rw [s10] at H'
    rw [H'.uniq I H.self] at e
    exact e
  have f10' := ev_frzo (((List.range xs.length).map fun k => (rat (gL xs k) wide, hs.getD k (0, 1))).map encPt)
  generalize ((List.range xs.length).map fun k => (rat (gL xs k) wide, hs.getD k (0, 1))).map encPt = P10 at *
  have lw := lowered_eq (g := g1) (by omega) hh h9 sy5 (by omega) hsz
  have lhs : (((hs.map fr).length : Nat) : Int) = (xs.length : Nat) := by rw [List.length_map, lh]
  have lhs' : ((hs.map fr).map DV.sh).length = xs.length := by rw [List.length_map, List.length_map, lh]
  have lxs : (((xs.map SV.int).length : Nat) : Int) = (xs.length : Nat) := by rw [List.length_map]
  have r10 : rngOk ((xs.length : Nat) : Int) = true := rngOk_of (by omega)
  have L10 : lenOk (rngL 0 xs.length).length = true := lenOk_of (by unfold rngL; simp; omega)
  have L7 : lenOk xs.length = true := lenOk_of (by omega)
  have q10 : rngL 0 (Int.toNat ((xs.length : Nat) : Int)) = rngL 0 xs.length := by rw [Int.toNat_natCast]
  -- the lowered list
  have low : ∀ m q r, hs[m]? = some q → gL ys m * q.2 < q.1 * high → 0 ≤ r → r < 100 →
      (∀ g, F_law_handed [.lst (xs.map .int), .lst ((sink ys m r).map .int), .int wide, .int high] g = some (.own (((ptsOf xs (sink ys m r) wide high).map encPt).map .sh), g)) ∧
      (∀ g, F_upper_heights [.lst ((ptsOf xs (sink ys m r) wide high).map encPt)] g = some (.own ((hs.map fr).map .sh), g)) ∧
      ∀ g, F_law_right [.lst (hs.map fr), .lst (xs.map .int), .lst ((sink ys m r).map .int), .int high] g = some (.sh (.bl true), g) := fun m q r hq hlt r0 r1 => by
    have hl' : (sink ys m r).length = xs.length := by rw [List.length_set, hl]
    have H2 := lower19 hh hl H hq hlt r0
    have sy' : ∀ y ∈ sink ys m r, Sz 145 y := fun y hy => by
      rcases List.mem_or_eq_of_mem_set hy with hy | rfl
      · exact sy5 y hy
      · have hm : m < ys.length := by rw [hl, ← lh]; exact (List.getElem?_eq_some_iff.mp hq).1
        have := gL_sz sy hm
        unfold Sz at *
        omega
    refine ⟨fun g => handed_eq hl' n60 P.w0 hh P.w9 h9, fun g => ?_, fun g => law_right_eq19 I n60 hh h9 P.sx sy' hl' hsz H2⟩
    obtain ⟨hs', e, H'⟩ := upper_hull P (S := .lst ((ptsOf xs (sink ys m r) wide high).map encPt)) (g := g) rfl pts_fst (by rw [pts_snd hl']; exact over_q hh h9 sy')
    rw [pts_snd hl'] at H'
    rw [H'.uniq I H2] at e
    exact e
  have fL : ∀ m r, (DV.own (((sink ys m r).map SV.int).map .sh)).frz = .lst ((sink ys m r).map SV.int) := fun m r => ev_frzo _
  have fQ : ∀ m r, (DV.own (((ptsOf xs (sink ys m r) wide high).map encPt).map .sh)).frz = .lst ((ptsOf xs (sink ys m r) wide high).map encPt) := fun m r => ev_frzo _
  have nlL : ∀ m r, (DV.own (((sink ys m r).map SV.int).map .sh)).noL = true := fun m r => ints_noL (sink ys m r)
  have z01 : (SV.tup [.int 0, .int 1]) = fr (0, 1) := rfl
  have rv : ((hs.map fr).map DV.sh ++ [DV.sh (.tup [.int 0, .int 1])]) = ((hs.map fr ++ [fr (0, 1)]).map DV.sh) := by rw [List.map_append]; rfl
  have mrv : ((hs.map fr ++ [fr (0, 1)]).map DV.sh).mapM DV.sh? = some (hs.map fr ++ [fr (0, 1)]) := mapM_sh _
  have c7 : (decide (((xs.length : Nat) : Int) ≤ 7)) = true ∨ (decide (((xs.length : Nat) : Int) ≤ 7)) = false := by cases decide (((xs.length : Nat) : Int) ≤ 7) <;> simp
  clear hsq hsz up P sy sy5 I H f10 s10 lh hl n60
  generalize xs.map SV.int = XX at *
  generalize ys.map SV.int = YY at *
  unfold B_law
  refine good_seq (ρ' := E19 XX YY wide high [none, none, none, none, none, none]) (g' := g1) (by
    simp [e1]) ?_
  generalize hPP : (ptsOf xs ys wide high).map encPt = PP at *
  refine good_seq (ρ' := E19 XX YY wide high [some (.sh (.lst PP)), none, none, none, none, none]) (g' := g1) (by
    have := hp g1
    simp [this, fP]) ?_
  generalize hHS : hs.map fr = HS at *
  refine good_seq (ρ' := E19 XX YY wide high [some (.sh (.lst PP)), some (.own (HS.map .sh)), none, none, none, none]) (g' := g1) (by
    simp [u1]) ?_
  refine good_seq (ρ' := E19 XX YY wide high [some (.sh (.lst PP)), some (.own (HS.map .sh)), none, none, none, none]) (g' := g1) (by
    have := rt g1
    simp [-List.map_map, fH, this]) ?_
  refine good_seq (ρ' := E19 XX YY wide high [some (.sh (.lst PP)), some (.own (HS.map .sh)), none, none, none, none]) (g' := g1) (by
    have := ch g1
    generalize ((xs.length : Nat) : Int) = nn at *
    rcases c7 with c7 | c7
    · simp [-List.map_map, fH, this, lxs, of_decide_eq_true c7]
    · simp [-List.map_map, fH, this, lxs, of_decide_eq_false c7]) ?_
  refine good_seq (ρ' := E19 XX YY wide high [some (.sh (.lst PP)), some (.own (HS.map .sh)), some (.sh (.tup HS)), none, none, none]) (g' := g1) (by
    simp [-List.map_map]) ?_
  -- what the law lowers
  obtain ⟨Lw, g2, e7, hLw⟩ : ∃ (Lw : SV) (g2 : GS), (setD 9 (oS (fz (callBO F_law_lowered (oC (vP 1) (oC (vP 7) (oC (vP 3) (oC (vP 5) (oN))))))))) (E19 XX YY wide high [some (.sh (.lst PP)), some (.own (HS.map .sh)), some (.sh (.tup HS)), none, none, none]) g1 = some (.nx (E19 XX YY wide high [some (.sh (.lst PP)), some (.own (HS.map .sh)), some (.sh (.tup HS)), some (.sh Lw), none, none]) g2) ∧
      (Lw = .non ∨ ∃ m r QQ, Lw = .lst ((sink ys m r).map .int) ∧ (∀ g, F_law_handed [.lst XX, .lst ((sink ys m r).map .int), .int wide, .int high] g = some (.own (QQ.map .sh), g)) ∧ (DV.own (QQ.map .sh)).frz = .lst QQ ∧
      (∀ g, F_upper_heights [.lst QQ] g = some (.own (HS.map .sh), g)) ∧ ∀ g, F_law_right [.lst HS, .lst XX, .lst ((sink ys m r).map .int), .int high] g = some (.sh (.bl true), g)) := by
    rcases lw with ⟨g2, e⟩ | ⟨m, q, r, g2, e, k1, k2, k3, k4⟩
    · refine ⟨.non, g2, ?_, .inl rfl⟩
      simp [-List.map_map, fH, e]
    · obtain ⟨a1, a2, a3⟩ := low m q r k1 k2 k3 k4
      refine ⟨_, g2, ?_, .inr ⟨m, r, _, rfl, a1, fQ m r, a2, a3⟩⟩
      have b1 := fL m r
      have b2' := nlL m r
      clear low fL fQ nlL
      generalize (sink ys m r).map SV.int = SS at *
      simp [-List.map_map, fH, e, b1, b2']
  refine good_seq e7 ?_
  clear e7 low fL fQ nlL lw
  refine good_seq (ρ' := E19 XX YY wide high [some (.sh (.lst PP)), some (.own ((HS ++ [fr (0, 1)]).map .sh)), some (.sh (.tup HS)), some (.sh Lw), none, none]) (g' := g2) (by
    rw [← rv]
    simp [-List.map_map, lhs', L7]) ?_
  refine good_seq (ρ' := E19 XX YY wide high [some (.sh (.lst PP)), some (.own (((HS ++ [fr (0, 1)]).reverse).map .sh)), some (.sh (.tup HS)), some (.sh Lw), none, none]) (g' := g2) (by
    generalize HS ++ [fr (0, 1)] = HZ at *
    simp [-List.map_map, -List.map_reverse, mrv]) ?_
  generalize (HS ++ [fr (0, 1)]).reverse = HZ at *
  refine good_seq (ρ' := E19 XX YY wide high [some (.sh (.lst PP)), some (.own (HZ.map .sh)), some (.sh (.tup HS)), some (.sh Lw), some (.sh (.lst HS)), none]) (g' := g2) (by
    have := u10 g2
    generalize rngL 0 xs.length = R at *
    generalize ((xs.length : Nat) : Int) = nn at *
    simp [-List.map_map, lhs, r10, q10, L10, c10, f10', this, fH]) ?_
  refine good_seq (ρ' := E19 XX YY wide high [some (.sh (.lst PP)), some (.own (HZ.map .sh)), some (.sh (.tup HS)), some (.sh Lw), some (.sh (.lst HS)), none]) (g' := g2) (by
    simp [-List.map_map, tn]) ?_
  refine good_seq (ρ' := E19 XX YY wide high [some (.sh (.lst PP)), some (.own (HZ.map .sh)), some (.sh (.tup HS)), some (.sh Lw), some (.sh (.lst HS)), none]) (g' := g2) (by
    rcases hLw with rfl | ⟨m, r, QQ, rfl, a1, a2, a3, a4⟩
    · simp [-List.map_map, isN]
    · have b1 := a1 g2
      have b3 := a3 g2
      have b4 := a4 g2
      generalize (sink ys m r).map SV.int = SS at *
      simp [-List.map_map, isN, b1, a2, b3, fH, b4, tn]) ?_
  refine good_seq (ρ' := E19 XX YY wide high [some (.sh (.lst PP)), some (.own (HZ.map .sh)), some (.sh (.tup HS)), some (.sh Lw), some (.sh (.lst HS)), none]) (g' := g2) (by
    have := u3 g2
    simp [-List.map_map, this, fH]) ?_
  refine good_seq (ρ' := E19 XX YY wide high [some (.sh (.lst PP)), some (.own (HZ.map .sh)), some (.sh (.tup HS)), some (.sh Lw), some (.sh (.lst HS)), none]) (g' := g2) (by
    have := rt g2
    simp [-List.map_map, this]) ?_
  have := hp g2
  exact ⟨g2, by simp [-List.map_map, this, fP, pe]⟩
end DL

namespace DL
open PySem PySem.Spec L2

theorem all_mk {l : PySem.W.OpenLaw} {w : World} {K : Fg} {h : Heap} {mg : Str → Option Value} {fa : Addr} (X : K.In h) (G : h.Ns mainGlobals mg) (hfa : mg "law" = some (.ref fa))
  {f_law_chord : Addr} {od_law_chord an_law_chord : Option Addr} {sl_law_chord : Array (Option Value)} {oc_law_chord kV_law_chord dc_law_chord pm_law_chord cd_law_chord ct_law_chord : Value}
  {f_law_gcd : Addr} {od_law_gcd an_law_gcd : Option Addr} {sl_law_gcd : Array (Option Value)} {oc_law_gcd kV_law_gcd dc_law_gcd pm_law_gcd cd_law_gcd ct_law_gcd : Value}
  {f_law_is_integer : Addr} {od_law_is_integer an_law_is_integer : Option Addr} {sl_law_is_integer : Array (Option Value)} {oc_law_is_integer kV_law_is_integer dc_law_is_integer pm_law_is_integer cd_law_is_integer ct_law_is_integer : Value}
  {f_law_same : Addr} {od_law_same an_law_same : Option Addr} {sl_law_same : Array (Option Value)} {oc_law_same kV_law_same dc_law_same pm_law_same cd_law_same ct_law_same : Value}
  {f_law_chords : Addr} {od_law_chords an_law_chords : Option Addr} {sl_law_chords : Array (Option Value)} {oc_law_chords kV_law_chords dc_law_chords pm_law_chords cd_law_chords ct_law_chords : Value}
  {f_law_form : Addr} {od_law_form an_law_form : Option Addr} {sl_law_form : Array (Option Value)} {oc_law_form kV_law_form dc_law_form pm_law_form cd_law_form ct_law_form : Value}
  {f_law_handed : Addr} {od_law_handed an_law_handed : Option Addr} {sl_law_handed : Array (Option Value)} {oc_law_handed kV_law_handed dc_law_handed pm_law_handed cd_law_handed ct_law_handed : Value}
  {f_law_draw : Addr} {od_law_draw an_law_draw : Option Addr} {sl_law_draw : Array (Option Value)} {oc_law_draw kV_law_draw dc_law_draw pm_law_draw cd_law_draw ct_law_draw : Value}
  {f_law_lowered : Addr} {od_law_lowered an_law_lowered : Option Addr} {sl_law_lowered : Array (Option Value)} {oc_law_lowered kV_law_lowered dc_law_lowered pm_law_lowered cd_law_lowered ct_law_lowered : Value}
  {f_law_points : Addr} {od_law_points an_law_points : Option Addr} {sl_law_points : Array (Option Value)} {oc_law_points kV_law_points dc_law_points pm_law_points cd_law_points ct_law_points : Value}
  {f_law_right : Addr} {od_law_right an_law_right : Option Addr} {sl_law_right : Array (Option Value)} {oc_law_right kV_law_right dc_law_right pm_law_right cd_law_right ct_law_right : Value}
  {f_law_start : Addr} {od_law_start an_law_start : Option Addr} {sl_law_start : Array (Option Value)} {oc_law_start kV_law_start dc_law_start pm_law_start cd_law_start ct_law_start : Value}
  {f_is_above : Addr} {od_is_above an_is_above : Option Addr} {sl_is_above : Array (Option Value)} {oc_is_above kV_is_above dc_is_above pm_is_above cd_is_above ct_is_above : Value}
  {f_hull_places : Addr} {od_hull_places an_hull_places : Option Addr} {sl_hull_places : Array (Option Value)} {oc_hull_places kV_hull_places dc_hull_places pm_hull_places cd_hull_places ct_hull_places : Value}
  {f_ratio : Addr} {od_ratio an_ratio : Option Addr} {sl_ratio : Array (Option Value)} {oc_ratio kV_ratio dc_ratio pm_ratio cd_ratio ct_ratio : Value}
  {f_scaled : Addr} {od_scaled an_scaled : Option Addr} {sl_scaled : Array (Option Value)} {oc_scaled kV_scaled dc_scaled pm_scaled cd_scaled ct_scaled : Value}
  {f_upper_heights : Addr} {od_upper_heights an_upper_heights : Option Addr} {sl_upper_heights : Array (Option Value)} {oc_upper_heights kV_upper_heights dc_upper_heights pm_upper_heights cd_upper_heights ct_upper_heights : Value}
  {f_law : Addr} {od_law an_law : Option Addr} {sl_law : Array (Option Value)} {oc_law kV_law dc_law pm_law cd_law ct_law : Value}
  (z_abs : PySem.W.nsIn K mainGlobals "abs" = some none)
  (z_bool : PySem.W.nsIn K mainGlobals "bool" = some none)
  (z_gcd : PySem.W.nsIn K mainGlobals "gcd" = some (some (.builtin "math.gcd")))
  (z_int : PySem.W.nsIn K mainGlobals "int" = some none)
  (z_isinstance : PySem.W.nsIn K mainGlobals "isinstance" = some none)
  (z_lcm : PySem.W.nsIn K mainGlobals "lcm" = some (some (.builtin "math.lcm")))
  (z_len : PySem.W.nsIn K mainGlobals "len" = some none)
  (z_list : PySem.W.nsIn K mainGlobals "list" = some none)
  (z_range : PySem.W.nsIn K mainGlobals "range" = some none)
  (z_tuple : PySem.W.nsIn K mainGlobals "tuple" = some none)
  (z_zip : PySem.W.nsIn K mainGlobals "zip" = some none)
  (a_law_chord : PySem.W.nsIn K mainGlobals "_law_chord" = some (some (.ref f_law_chord))) (l_law_chord : K.lookup f_law_chord = some ⟨oc_law_chord, od_law_chord, .func (PySem.W.fnOf "_law_chord" "_law_chord" (defArgs s_law_chord) (defBody s_law_chord) (defScope s_law_chord) .none kV_law_chord dc_law_chord pm_law_chord an_law_chord cd_law_chord ct_law_chord), sl_law_chord⟩) (c_law_chord : PySem.W.codeIn K cd_law_chord "_law_chord" = true) (k_law_chord : PySem.W.keepIn K (.ref f_law_chord) = true)
  (a_law_gcd : PySem.W.nsIn K mainGlobals "_law_gcd" = some (some (.ref f_law_gcd))) (l_law_gcd : K.lookup f_law_gcd = some ⟨oc_law_gcd, od_law_gcd, .func (PySem.W.fnOf "_law_gcd" "_law_gcd" (defArgs s_law_gcd) (defBody s_law_gcd) (defScope s_law_gcd) .none kV_law_gcd dc_law_gcd pm_law_gcd an_law_gcd cd_law_gcd ct_law_gcd), sl_law_gcd⟩) (c_law_gcd : PySem.W.codeIn K cd_law_gcd "_law_gcd" = true) (k_law_gcd : PySem.W.keepIn K (.ref f_law_gcd) = true)
  (a_law_is_integer : PySem.W.nsIn K mainGlobals "_law_is_integer" = some (some (.ref f_law_is_integer))) (l_law_is_integer : K.lookup f_law_is_integer = some ⟨oc_law_is_integer, od_law_is_integer, .func (PySem.W.fnOf "_law_is_integer" "_law_is_integer" (defArgs s_law_is_integer) (defBody s_law_is_integer) (defScope s_law_is_integer) .none kV_law_is_integer dc_law_is_integer pm_law_is_integer an_law_is_integer cd_law_is_integer ct_law_is_integer), sl_law_is_integer⟩) (c_law_is_integer : PySem.W.codeIn K cd_law_is_integer "_law_is_integer" = true) (k_law_is_integer : PySem.W.keepIn K (.ref f_law_is_integer) = true)
  (a_law_same : PySem.W.nsIn K mainGlobals "_law_same" = some (some (.ref f_law_same))) (l_law_same : K.lookup f_law_same = some ⟨oc_law_same, od_law_same, .func (PySem.W.fnOf "_law_same" "_law_same" (defArgs s_law_same) (defBody s_law_same) (defScope s_law_same) .none kV_law_same dc_law_same pm_law_same an_law_same cd_law_same ct_law_same), sl_law_same⟩) (c_law_same : PySem.W.codeIn K cd_law_same "_law_same" = true) (k_law_same : PySem.W.keepIn K (.ref f_law_same) = true)
  (a_law_chords : PySem.W.nsIn K mainGlobals "_law_chords" = some (some (.ref f_law_chords))) (l_law_chords : K.lookup f_law_chords = some ⟨oc_law_chords, od_law_chords, .func (PySem.W.fnOf "_law_chords" "_law_chords" (defArgs s_law_chords) (defBody s_law_chords) (defScope s_law_chords) .none kV_law_chords dc_law_chords pm_law_chords an_law_chords cd_law_chords ct_law_chords), sl_law_chords⟩) (c_law_chords : PySem.W.codeIn K cd_law_chords "_law_chords" = true) (k_law_chords : PySem.W.keepIn K (.ref f_law_chords) = true)
  (a_law_form : PySem.W.nsIn K mainGlobals "_law_form" = some (some (.ref f_law_form))) (l_law_form : K.lookup f_law_form = some ⟨oc_law_form, od_law_form, .func (PySem.W.fnOf "_law_form" "_law_form" (defArgs s_law_form) (defBody s_law_form) (defScope s_law_form) .none kV_law_form dc_law_form pm_law_form an_law_form cd_law_form ct_law_form), sl_law_form⟩) (c_law_form : PySem.W.codeIn K cd_law_form "_law_form" = true) (k_law_form : PySem.W.keepIn K (.ref f_law_form) = true)
  (a_law_handed : PySem.W.nsIn K mainGlobals "_law_handed" = some (some (.ref f_law_handed))) (l_law_handed : K.lookup f_law_handed = some ⟨oc_law_handed, od_law_handed, .func (PySem.W.fnOf "_law_handed" "_law_handed" (defArgs s_law_handed) (defBody s_law_handed) (defScope s_law_handed) .none kV_law_handed dc_law_handed pm_law_handed an_law_handed cd_law_handed ct_law_handed), sl_law_handed⟩) (c_law_handed : PySem.W.codeIn K cd_law_handed "_law_handed" = true) (k_law_handed : PySem.W.keepIn K (.ref f_law_handed) = true)
  (a_law_draw : PySem.W.nsIn K mainGlobals "_law_draw" = some (some (.ref f_law_draw))) (l_law_draw : K.lookup f_law_draw = some ⟨oc_law_draw, od_law_draw, .func (PySem.W.fnOf "_law_draw" "_law_draw" (defArgs s_law_draw) (defBody s_law_draw) (defScope s_law_draw) .none kV_law_draw dc_law_draw pm_law_draw an_law_draw cd_law_draw ct_law_draw), sl_law_draw⟩) (c_law_draw : PySem.W.codeIn K cd_law_draw "_law_draw" = true) (k_law_draw : PySem.W.keepIn K (.ref f_law_draw) = true)
  (a_law_lowered : PySem.W.nsIn K mainGlobals "_law_lowered" = some (some (.ref f_law_lowered))) (l_law_lowered : K.lookup f_law_lowered = some ⟨oc_law_lowered, od_law_lowered, .func (PySem.W.fnOf "_law_lowered" "_law_lowered" (defArgs s_law_lowered) (defBody s_law_lowered) (defScope s_law_lowered) .none kV_law_lowered dc_law_lowered pm_law_lowered an_law_lowered cd_law_lowered ct_law_lowered), sl_law_lowered⟩) (c_law_lowered : PySem.W.codeIn K cd_law_lowered "_law_lowered" = true) (k_law_lowered : PySem.W.keepIn K (.ref f_law_lowered) = true)
  (a_law_points : PySem.W.nsIn K mainGlobals "_law_points" = some (some (.ref f_law_points))) (l_law_points : K.lookup f_law_points = some ⟨oc_law_points, od_law_points, .func (PySem.W.fnOf "_law_points" "_law_points" (defArgs s_law_points) (defBody s_law_points) (defScope s_law_points) .none kV_law_points dc_law_points pm_law_points an_law_points cd_law_points ct_law_points), sl_law_points⟩) (c_law_points : PySem.W.codeIn K cd_law_points "_law_points" = true) (k_law_points : PySem.W.keepIn K (.ref f_law_points) = true)
  (a_law_right : PySem.W.nsIn K mainGlobals "_law_right" = some (some (.ref f_law_right))) (l_law_right : K.lookup f_law_right = some ⟨oc_law_right, od_law_right, .func (PySem.W.fnOf "_law_right" "_law_right" (defArgs s_law_right) (defBody s_law_right) (defScope s_law_right) .none kV_law_right dc_law_right pm_law_right an_law_right cd_law_right ct_law_right), sl_law_right⟩) (c_law_right : PySem.W.codeIn K cd_law_right "_law_right" = true) (k_law_right : PySem.W.keepIn K (.ref f_law_right) = true)
  (a_law_start : PySem.W.nsIn K mainGlobals "_law_start" = some (some (.ref f_law_start))) (l_law_start : K.lookup f_law_start = some ⟨oc_law_start, od_law_start, .func (PySem.W.fnOf "_law_start" "_law_start" (defArgs s_law_start) (defBody s_law_start) (defScope s_law_start) .none kV_law_start dc_law_start pm_law_start an_law_start cd_law_start ct_law_start), sl_law_start⟩) (c_law_start : PySem.W.codeIn K cd_law_start "_law_start" = true) (k_law_start : PySem.W.keepIn K (.ref f_law_start) = true)
  (a_is_above : PySem.W.nsIn K mainGlobals "is_above" = some (some (.ref f_is_above))) (l_is_above : K.lookup f_is_above = some ⟨oc_is_above, od_is_above, .func (PySem.W.fnOf "is_above" "is_above" (defArgs s_is_above) (defBody s_is_above) (defScope s_is_above) .none kV_is_above dc_is_above pm_is_above an_is_above cd_is_above ct_is_above), sl_is_above⟩) (c_is_above : PySem.W.codeIn K cd_is_above "is_above" = true) (k_is_above : PySem.W.keepIn K (.ref f_is_above) = true)
  (a_hull_places : PySem.W.nsIn K mainGlobals "hull_places" = some (some (.ref f_hull_places))) (l_hull_places : K.lookup f_hull_places = some ⟨oc_hull_places, od_hull_places, .func (PySem.W.fnOf "hull_places" "hull_places" (defArgs s_hull_places) (defBody s_hull_places) (defScope s_hull_places) .none kV_hull_places dc_hull_places pm_hull_places an_hull_places cd_hull_places ct_hull_places), sl_hull_places⟩) (c_hull_places : PySem.W.codeIn K cd_hull_places "hull_places" = true) (k_hull_places : PySem.W.keepIn K (.ref f_hull_places) = true)
  (a_ratio : PySem.W.nsIn K mainGlobals "ratio" = some (some (.ref f_ratio))) (l_ratio : K.lookup f_ratio = some ⟨oc_ratio, od_ratio, .func (PySem.W.fnOf "ratio" "ratio" (defArgs s_ratio) (defBody s_ratio) (defScope s_ratio) .none kV_ratio dc_ratio pm_ratio an_ratio cd_ratio ct_ratio), sl_ratio⟩) (c_ratio : PySem.W.codeIn K cd_ratio "ratio" = true) (k_ratio : PySem.W.keepIn K (.ref f_ratio) = true)
  (a_scaled : PySem.W.nsIn K mainGlobals "scaled" = some (some (.ref f_scaled))) (l_scaled : K.lookup f_scaled = some ⟨oc_scaled, od_scaled, .func (PySem.W.fnOf "scaled" "scaled" (defArgs s_scaled) (defBody s_scaled) (defScope s_scaled) .none kV_scaled dc_scaled pm_scaled an_scaled cd_scaled ct_scaled), sl_scaled⟩) (c_scaled : PySem.W.codeIn K cd_scaled "scaled" = true) (k_scaled : PySem.W.keepIn K (.ref f_scaled) = true)
  (a_upper_heights : PySem.W.nsIn K mainGlobals "upper_heights" = some (some (.ref f_upper_heights))) (l_upper_heights : K.lookup f_upper_heights = some ⟨oc_upper_heights, od_upper_heights, .func (PySem.W.fnOf "upper_heights" "upper_heights" (defArgs s_upper_heights) (defBody s_upper_heights) (defScope s_upper_heights) .none kV_upper_heights dc_upper_heights pm_upper_heights an_upper_heights cd_upper_heights ct_upper_heights), sl_upper_heights⟩) (c_upper_heights : PySem.W.codeIn K cd_upper_heights "upper_heights" = true) (k_upper_heights : PySem.W.keepIn K (.ref f_upper_heights) = true)
  (a_law : PySem.W.nsIn K mainGlobals "law" = some (some (.ref f_law))) (l_law : K.lookup f_law = some ⟨oc_law, od_law, .func (PySem.W.fnOf "law" "law" (defArgs s_law) (defBody s_law) (defScope s_law) .none kV_law dc_law pm_law an_law cd_law ct_law), sl_law⟩) (c_law : PySem.W.codeIn K cd_law "law" = true) (k_law : PySem.W.keepIn K (.ref f_law) = true) :
    ∃ fd : FuncData, (∀ (s : Shared) (v : Value), BindsTo s fd ⟨[v], []⟩ [("script", v)]) ∧ ∀ base : Heap, K.In base → base.Ns mainGlobals mg → FnOk l.prog w K mg base CX0 4 fa fd ["script"] (spLaw K) := by
  have e := hfa.symm.trans (PySem.W.mg_of X G a_law)
  cases e
  let T : Txt K mg := {
    z_abs := PySem.W.mg_none_of X G z_abs
    z_bool := PySem.W.mg_none_of X G z_bool
    z_gcd := PySem.W.mg_of X G z_gcd
    z_int := PySem.W.mg_none_of X G z_int
    z_isinstance := PySem.W.mg_none_of X G z_isinstance
    z_lcm := PySem.W.mg_of X G z_lcm
    z_len := PySem.W.mg_none_of X G z_len
    z_list := PySem.W.mg_none_of X G z_list
    z_range := PySem.W.mg_none_of X G z_range
    z_tuple := PySem.W.mg_none_of X G z_tuple
    z_zip := PySem.W.mg_none_of X G z_zip
    a_law_chord := f_law_chord
    d_law_chord := _
    F_law_chord := fun_mk (st := s_law_chord) l_law_chord c_law_chord k_law_chord
    g_law_chord := PySem.W.mg_of X G a_law_chord
    b_law_chord := (fun_mk (st := s_law_chord) l_law_chord c_law_chord k_law_chord).binds (ps := ["xs", "ys", "k"]) fun _ _ _ _ _ _ us hl => match us, hl with | [_, _, _], _ => rfl
    a_law_gcd := f_law_gcd
    d_law_gcd := _
    F_law_gcd := fun_mk (st := s_law_gcd) l_law_gcd c_law_gcd k_law_gcd
    g_law_gcd := PySem.W.mg_of X G a_law_gcd
    b_law_gcd := (fun_mk (st := s_law_gcd) l_law_gcd c_law_gcd k_law_gcd).binds (ps := ["a", "b"]) fun _ _ _ _ _ _ us hl => match us, hl with | [_, _], _ => rfl
    a_law_is_integer := f_law_is_integer
    d_law_is_integer := _
    F_law_is_integer := fun_mk (st := s_law_is_integer) l_law_is_integer c_law_is_integer k_law_is_integer
    g_law_is_integer := PySem.W.mg_of X G a_law_is_integer
    b_law_is_integer := (fun_mk (st := s_law_is_integer) l_law_is_integer c_law_is_integer k_law_is_integer).binds (ps := ["actual"]) fun _ _ _ _ _ _ us hl => match us, hl with | [_], _ => rfl
    a_law_same := f_law_same
    d_law_same := _
    F_law_same := fun_mk (st := s_law_same) l_law_same c_law_same k_law_same
    g_law_same := PySem.W.mg_of X G a_law_same
    b_law_same := (fun_mk (st := s_law_same) l_law_same c_law_same k_law_same).binds (ps := ["actual", "n", "d"]) fun _ _ _ _ _ _ us hl => match us, hl with | [_, _, _], _ => rfl
    a_law_chords := f_law_chords
    d_law_chords := _
    F_law_chords := fun_mk (st := s_law_chords) l_law_chords c_law_chords k_law_chords
    g_law_chords := PySem.W.mg_of X G a_law_chords
    b_law_chords := (fun_mk (st := s_law_chords) l_law_chords c_law_chords k_law_chords).binds (ps := ["actual", "xs", "ys", "high"]) fun _ _ _ _ _ _ us hl => match us, hl with | [_, _, _, _], _ => rfl
    a_law_form := f_law_form
    d_law_form := _
    F_law_form := fun_mk (st := s_law_form) l_law_form c_law_form k_law_form
    g_law_form := PySem.W.mg_of X G a_law_form
    b_law_form := (fun_mk (st := s_law_form) l_law_form c_law_form k_law_form).binds (ps := ["n", "d"]) fun _ _ _ _ _ _ us hl => match us, hl with | [_, _], _ => rfl
    a_law_handed := f_law_handed
    d_law_handed := _
    F_law_handed := fun_mk (st := s_law_handed) l_law_handed c_law_handed k_law_handed
    g_law_handed := PySem.W.mg_of X G a_law_handed
    b_law_handed := (fun_mk (st := s_law_handed) l_law_handed c_law_handed k_law_handed).binds (ps := ["xs", "ys", "wide", "high"]) fun _ _ _ _ _ _ us hl => match us, hl with | [_, _, _, _], _ => rfl
    a_law_draw := f_law_draw
    d_law_draw := _
    F_law_draw := fun_mk (st := s_law_draw) l_law_draw c_law_draw k_law_draw
    g_law_draw := PySem.W.mg_of X G a_law_draw
    b_law_draw := (fun_mk (st := s_law_draw) l_law_draw c_law_draw k_law_draw).binds (ps := ["state", "base"]) fun _ _ _ _ _ _ us hl => match us, hl with | [_, _], _ => rfl
    a_law_lowered := f_law_lowered
    d_law_lowered := _
    F_law_lowered := fun_mk (st := s_law_lowered) l_law_lowered c_law_lowered k_law_lowered
    g_law_lowered := PySem.W.mg_of X G a_law_lowered
    b_law_lowered := (fun_mk (st := s_law_lowered) l_law_lowered c_law_lowered k_law_lowered).binds (ps := ["state", "actual", "ys", "high"]) fun _ _ _ _ _ _ us hl => match us, hl with | [_, _, _, _], _ => rfl
    a_law_points := f_law_points
    d_law_points := _
    F_law_points := fun_mk (st := s_law_points) l_law_points c_law_points k_law_points
    g_law_points := PySem.W.mg_of X G a_law_points
    b_law_points := (fun_mk (st := s_law_points) l_law_points c_law_points k_law_points).binds (ps := ["state"]) fun _ _ _ _ _ _ us hl => match us, hl with | [_], _ => rfl
    a_law_right := f_law_right
    d_law_right := _
    F_law_right := fun_mk (st := s_law_right) l_law_right c_law_right k_law_right
    g_law_right := PySem.W.mg_of X G a_law_right
    b_law_right := (fun_mk (st := s_law_right) l_law_right c_law_right k_law_right).binds (ps := ["actual", "xs", "ys", "high"]) fun _ _ _ _ _ _ us hl => match us, hl with | [_, _, _, _], _ => rfl
    a_law_start := f_law_start
    d_law_start := _
    F_law_start := fun_mk (st := s_law_start) l_law_start c_law_start k_law_start
    g_law_start := PySem.W.mg_of X G a_law_start
    b_law_start := (fun_mk (st := s_law_start) l_law_start c_law_start k_law_start).binds (ps := ["script"]) fun _ _ _ _ _ _ us hl => match us, hl with | [_], _ => rfl
    a_is_above := f_is_above
    d_is_above := _
    F_is_above := fun_mk (st := s_is_above) l_is_above c_is_above k_is_above
    g_is_above := PySem.W.mg_of X G a_is_above
    b_is_above := (fun_mk (st := s_is_above) l_is_above c_is_above k_is_above).binds (ps := ["xs", "ys", "start", "middle", "end"]) fun _ _ _ _ _ _ us hl => match us, hl with | [_, _, _, _, _], _ => rfl
    a_hull_places := f_hull_places
    d_hull_places := _
    F_hull_places := fun_mk (st := s_hull_places) l_hull_places c_hull_places k_hull_places
    g_hull_places := PySem.W.mg_of X G a_hull_places
    b_hull_places := (fun_mk (st := s_hull_places) l_hull_places c_hull_places k_hull_places).binds (ps := ["xs", "ys"]) fun _ _ _ _ _ _ us hl => match us, hl with | [_, _], _ => rfl
    a_ratio := f_ratio
    d_ratio := _
    F_ratio := fun_mk (st := s_ratio) l_ratio c_ratio k_ratio
    g_ratio := PySem.W.mg_of X G a_ratio
    b_ratio := (fun_mk (st := s_ratio) l_ratio c_ratio k_ratio).binds (ps := ["n", "d"]) fun _ _ _ _ _ _ us hl => match us, hl with | [_, _], _ => rfl
    a_scaled := f_scaled
    d_scaled := _
    F_scaled := fun_mk (st := s_scaled) l_scaled c_scaled k_scaled
    g_scaled := PySem.W.mg_of X G a_scaled
    b_scaled := (fun_mk (st := s_scaled) l_scaled c_scaled k_scaled).binds (ps := ["fractions"]) fun _ _ _ _ _ _ us hl => match us, hl with | [_], _ => rfl
    a_upper_heights := f_upper_heights
    d_upper_heights := _
    F_upper_heights := fun_mk (st := s_upper_heights) l_upper_heights c_upper_heights k_upper_heights
    g_upper_heights := PySem.W.mg_of X G a_upper_heights
    b_upper_heights := (fun_mk (st := s_upper_heights) l_upper_heights c_upper_heights k_upper_heights).binds (ps := ["points"]) fun _ _ _ _ _ _ us hl => match us, hl with | [_], _ => rfl
    a_law := fa
    d_law := _
    F_law := fun_mk (st := s_law) l_law c_law k_law
    g_law := PySem.W.mg_of X G a_law
    b_law := (fun_mk (st := s_law) l_law c_law k_law).binds (ps := ["script"]) fun _ _ _ _ _ _ us hl => match us, hl with | [_], _ => rfl }
  exact ⟨T.d_law, fun s v => .of_eq rfl, fun base _ _ => ok_law T law_true⟩
end DL
open PySem PySem.W
set_option maxHeartbeats 0 in
theorem PySem.Challenge.cw_soldtoworths_k19_upper_heights_holds : PySem.Challenge.rw_soldtoworths_k19_upper_heights.Holds := by
  w_on; o_law; k_head; (case hw => w_witness2)
  k_fill
  refine L2.walk_of (l := PySem.Challenge.rw_soldtoworths_k19_upper_heights) (n := 63) (k := 4) (x := "script") (CX := fun _ => L2.CX0) (sp := fun w => DL.spLaw _) rfl (by decide) rfl ⟨rfl, by decide, by decide⟩ (fun w h Y => PySem.W.kIn_of Y) ?F (fun _ _ a ns hl _ hS => ⟨a, ns, rfl, hS, hl, fun _ => rfl⟩) (fun _ _ _ _ _ h => h)
  case F =>
    intro w mg fa h KX G hmg
    refine' DL.all_mk KX G hmg ?z_abs ?z_bool ?z_gcd ?z_int ?z_isinstance ?z_lcm ?z_len ?z_list ?z_range ?z_tuple ?z_zip ?a_law_chord ?l_law_chord ?c_law_chord ?k_law_chord ?a_law_gcd ?l_law_gcd ?c_law_gcd ?k_law_gcd ?a_law_is_integer ?l_law_is_integer ?c_law_is_integer ?k_law_is_integer ?a_law_same ?l_law_same ?c_law_same ?k_law_same ?a_law_chords ?l_law_chords ?c_law_chords ?k_law_chords ?a_law_form ?l_law_form ?c_law_form ?k_law_form ?a_law_handed ?l_law_handed ?c_law_handed ?k_law_handed ?a_law_draw ?l_law_draw ?c_law_draw ?k_law_draw ?a_law_lowered ?l_law_lowered ?c_law_lowered ?k_law_lowered ?a_law_points ?l_law_points ?c_law_points ?k_law_points ?a_law_right ?l_law_right ?c_law_right ?k_law_right ?a_law_start ?l_law_start ?c_law_start ?k_law_start ?a_is_above ?l_is_above ?c_is_above ?k_is_above ?a_hull_places ?l_hull_places ?c_hull_places ?k_hull_places ?a_ratio ?l_ratio ?c_ratio ?k_ratio ?a_scaled ?l_scaled ?c_scaled ?k_scaled ?a_upper_heights ?l_upper_heights ?c_upper_heights ?k_upper_heights ?a_law ?l_law ?c_law ?k_law
    (case z_abs => k_is); (case z_bool => k_is); (case z_gcd => k_is); (case z_int => k_is); (case z_isinstance => k_is); (case z_lcm => k_is); (case z_len => k_is); (case z_list => k_is); (case z_range => k_is); (case z_tuple => k_is); (case z_zip => k_is); (case a_law_chord => k_is); (case l_law_chord => k_is); (case c_law_chord => k_is); (case k_law_chord => k_is); (case a_law_gcd => k_is); (case l_law_gcd => k_is); (case c_law_gcd => k_is); (case k_law_gcd => k_is); (case a_law_is_integer => k_is); (case l_law_is_integer => k_is); (case c_law_is_integer => k_is); (case k_law_is_integer => k_is); (case a_law_same => k_is); (case l_law_same => k_is); (case c_law_same => k_is); (case k_law_same => k_is); (case a_law_chords => k_is); (case l_law_chords => k_is); (case c_law_chords => k_is); (case k_law_chords => k_is); (case a_law_form => k_is); (case l_law_form => k_is); (case c_law_form => k_is); (case k_law_form => k_is); (case a_law_handed => k_is); (case l_law_handed => k_is); (case c_law_handed => k_is); (case k_law_handed => k_is); (case a_law_draw => k_is); (case l_law_draw => k_is); (case c_law_draw => k_is); (case k_law_draw => k_is); (case a_law_lowered => k_is); (case l_law_lowered => k_is); (case c_law_lowered => k_is); (case k_law_lowered => k_is); (case a_law_points => k_is); (case l_law_points => k_is); (case c_law_points => k_is); (case k_law_points => k_is); (case a_law_right => k_is); (case l_law_right => k_is); (case c_law_right => k_is); (case k_law_right => k_is); (case a_law_start => k_is); (case l_law_start => k_is); (case c_law_start => k_is); (case k_law_start => k_is); (case a_is_above => k_is); (case l_is_above => k_is); (case c_is_above => k_is); (case k_is_above => k_is); (case a_hull_places => k_is); (case l_hull_places => k_is); (case c_hull_places => k_is); (case k_hull_places => k_is); (case a_ratio => k_is); (case l_ratio => k_is); (case c_ratio => k_is); (case k_ratio => k_is); (case a_scaled => k_is); (case l_scaled => k_is); (case c_scaled => k_is); (case k_scaled => k_is); (case a_upper_heights => k_is); (case l_upper_heights => k_is); (case c_upper_heights => k_is); (case k_upper_heights => k_is); (case a_law => k_is); (case l_law => k_is); (case c_law => k_is); (case k_law => k_is)

