import PyProof.Rows.All
import Wide.All
import OpenK.AllK
import Wide.FinOn
import HandS.ForMost
import HandS.Gcd
import HandS.Wide
import HandS.IsInst
import HandS.Deep
import HandS.TupAny
import KE.KMathG
import HandS.SortInts
import HandS.Zip
import HandS.Rev
import HandS.Defaults
import HandS.MakeKwOnly
import HandS.SortKw
import HandS.Iter
import KE.KSortedM
import HandS.GenList
import HandS.Conv
import PySem.Challenge.RW_soldtoworths_k22_whole_lifts_and_evened
set_option Elab.async false
set_option linter.all false
set_option maxRecDepth 100000
set_option maxHeartbeats 4000000
/-! DL0: data by value over the hand layer. -/
namespace DL
open PySem PySem.Spec L2

/-! ### values by content -/
inductive SV where
  | non | bl (b : Bool) | int (i : Int) | str (x : Str) | tup (xs : List SV) | lst (xs : List SV) | raw (v : V) | gen | obj (C : Addr) (ns : List Str) (xs : List SV)
inductive DV where
  | sh (s : SV) | own (xs : List DV) | ins (me : Bool) (C : Addr) (fs : List (Str × SV)) | tup (xs : List DV)
structure GS where
  cells : List Int
  rests : List Int
  turn : Int
  ok : 0 < cells.length ∧ rests.length = cells.length
/-- the draws' state, and the instance whose __init__ runs -/
structure Wd where
  gen : Option (Addr × Addr × Addr)
  slf : Option Addr
def Wd.as : Wd → List Addr
  | ⟨none, _⟩ => []
  | ⟨some (a, b, c), _⟩ => [a, b, c]
def msk (O : List Addr) (H : Hp) : Hp := fun b => if b ∈ O then none else H b
abbrev Fg := PySem.W.Frag

mutual
inductive RepS (K : Fg) (W : Wd) (H : Hp) : V → SV → Prop
  | non : RepS K W H .non .non
  | bl {b : Bool} : RepS K W H (.bl b) (.bl b)
  | int {i : Int} : RepS K W H (.int i) (.int i)
  | str {x : Str} : RepS K W H (.str x) (.str x)
  | raw {v : V} : RepS K W H v (.raw v)
  | gen {a b c : Addr} (h : W.gen = some (a, b, c)) : RepS K W H (.ref a) .gen
  | tup {a : Addr} {vs : List V} {xs : List SV} (h : SqT K H a vs) (r : RepSs K W H vs xs) : RepS K W H (.ref a) (.tup xs)
  | lst {a : Addr} {vs : List V} {xs : List SV} (h : H a = some (.lst vs)) (r : RepSs K W H vs xs) : RepS K W H (.ref a) (.lst xs)
  | obj {a C dx : Addr} {fs : List (Str × V)} {ns : List Str} {xs : List SV} (h : H a = some (.ins C dx fs)) (hn : fs.map (·.1) = ns) (r : RepSs K W H (fs.map (·.2)) xs) : RepS K W H (.ref a) (.obj C ns xs)
inductive RepSs (K : Fg) (W : Wd) (H : Hp) : List V → List SV → Prop
  | nil : RepSs K W H [] []
  | cons {v : V} {vs : List V} {x : SV} {xs : List SV} (h : RepS K W H v x) (t : RepSs K W H vs xs) : RepSs K W H (v :: vs) (x :: xs)
end
mutual
inductive Rep (K : Fg) (W : Wd) (O : List Addr) (H : Hp) : V → DV → List Addr → Prop
  | sh {v : V} {s : SV} (h : RepS K W (msk O H) v s) : Rep K W O H v (.sh s) []
  | own {a : Addr} {vs : List V} {ds : List DV} {fp : List Addr} (ha : a ∈ O) (hw : a ∉ W.as) (h : H a = some (.lst vs)) (r : Reps K W O H vs ds fp) : Rep K W O H (.ref a) (.own ds) (a :: fp)
  | ins {a C dx : Addr} {me : Bool} {fs : List (Str × V)} {xs : List (Str × SV)} (ha : a ∈ O) (hw : a ∉ W.as) (hs : me = true → W.slf = some a) (h : H a = some (.ins C dx fs)) (hn : fs.map (·.1) = xs.map (·.1)) (r : RepSs K W (msk O H) (fs.map (·.2)) (xs.map (·.2))) : Rep K W O H (.ref a) (.ins me C xs) [a]
  | tup {a : Addr} {vs : List V} {ds : List DV} {fp : List Addr} (h : SqT K (msk O H) a vs) (r : Reps K W O H vs ds fp) : Rep K W O H (.ref a) (.tup ds) fp
inductive Reps (K : Fg) (W : Wd) (O : List Addr) (H : Hp) : List V → List DV → List Addr → Prop
  | nil : Reps K W O H [] [] []
  | cons {v : V} {vs : List V} {d : DV} {ds : List DV} {fp fq : List Addr} (h : Rep K W O H v d fp) (t : Reps K W O H vs ds fq) : Reps K W O H (v :: vs) (d :: ds) (fp ++ fq)
end

theorem sqT_mono {K : Fg} {H H' : Hp} {a : Addr} {xs : List V} (e : Same H H') (h : SqT K H a xs) : SqT K H' a xs := by
  rcases h with (h | ⟨o, h⟩) | h
  · exact .inl (.inl (e _ _ h))
  · exact .inl (.inr ⟨o, e _ _ h⟩)
  · exact .inr h
section
variable {K : Fg} {W : Wd} {H H' : Hp} {O O' : List Addr}
mutual
theorem RepS.mono (e : Same H H') : ∀ {v : V} {s : SV}, RepS K W H v s → RepS K W H' v s
  | _, _, .non => .non
  | _, _, .bl => .bl
  | _, _, .int => .int
  | _, _, .str => .str
  | _, _, .raw => .raw
  | _, _, .gen h => .gen h
  | _, _, .tup h r => .tup (sqT_mono e h) (RepSs.mono e r)
  | _, _, .lst h r => .lst (e _ _ h) (RepSs.mono e r)
  | _, _, .obj h hn r => .obj (e _ _ h) hn (RepSs.mono e r)
theorem RepSs.mono (e : Same H H') : ∀ {vs : List V} {xs : List SV}, RepSs K W H vs xs → RepSs K W H' vs xs
  | _, _, .nil => .nil
  | _, _, .cons h t => .cons (RepS.mono e h) (RepSs.mono e t)
end
/-- the draws' state alone may change -/
def Ext (W : Wd) (H H' : Hp) : Prop := ∀ b o, b ∉ W.as → H b = some o → H' b = some o
theorem Ext.refl : Ext W H H := fun _ _ _ h => h
theorem Ext.trans {H1 H2 : Hp} (a : Ext W H H1) (b : Ext W H1 H2) : Ext W H H2 := fun c o n h => b c o n (a c o n h)
theorem Same.ext (e : Same H H') : Ext W H H' := fun b o _ h => e b o h
mutual
theorem Rep.mono (hm : Same (msk O H) (msk O' H')) (e : Ext W H H') : ∀ {v : V} {d : DV} {fp : List Addr}, (∀ a ∈ fp, a ∈ O') → Rep K W O H v d fp → Rep K W O' H' v d fp
  | _, _, _, _, .sh h => .sh (RepS.mono hm h)
  | _, _, _, ho, .own ha hw h r => .own (ho _ List.mem_cons_self) hw (e _ _ hw h) (Reps.mono hm e (fun b hb => ho b (List.mem_cons_of_mem _ hb)) r)
  | _, _, _, ho, .ins ha hw hs h hn r => .ins (ho _ List.mem_cons_self) hw hs (e _ _ hw h) hn (RepSs.mono hm r)
  | _, _, _, ho, .tup h r => .tup (sqT_mono hm h) (Reps.mono hm e ho r)
theorem Reps.mono (hm : Same (msk O H) (msk O' H')) (e : Ext W H H') : ∀ {vs : List V} {ds : List DV} {fp : List Addr}, (∀ a ∈ fp, a ∈ O') → Reps K W O H vs ds fp → Reps K W O' H' vs ds fp
  | _, _, _, _, .nil => .nil
  | _, _, _, ho, .cons h t => .cons (Rep.mono hm e (fun b hb => ho b (List.mem_append_left _ hb)) h) (Reps.mono hm e (fun b hb => ho b (List.mem_append_right _ hb)) t)
end
mutual
theorem Rep.inO : ∀ {v : V} {d : DV} {fp : List Addr}, Rep K W O H v d fp → ∀ a ∈ fp, a ∈ O ∧ a ∉ W.as ∧ H a ≠ none
  | _, _, _, .sh _, a, h => by simp at h
  | _, _, _, .own ha hw h r, a, m => by
    rcases List.mem_cons.mp m with e | m
    · subst e; exact ⟨ha, hw, by rw [h]; simp⟩
    · exact Reps.inO r a m
  | _, _, _, .ins ha hw _ h _ _, a, m => by
    have e := List.mem_singleton.mp m
    subst e; exact ⟨ha, hw, by rw [h]; simp⟩
  | _, _, _, .tup _ r, a, m => Reps.inO r a m
theorem Reps.inO : ∀ {vs : List V} {ds : List DV} {fp : List Addr}, Reps K W O H vs ds fp → ∀ a ∈ fp, a ∈ O ∧ a ∉ W.as ∧ H a ≠ none
  | _, _, _, .nil, a, h => by simp at h
  | _, _, _, .cons h t, a, m => by
    rcases List.mem_append.mp m with m | m
    · exact Rep.inO h a m
    · exact Reps.inO t a m
end
theorem Reps.length : ∀ {vs : List V} {ds : List DV} {fp : List Addr}, Reps K W O H vs ds fp → vs.length = ds.length
  | _, _, _, .nil => rfl
  | _, _, _, .cons _ t => by rw [List.length_cons, List.length_cons, Reps.length t]
theorem RepSs.length : ∀ {vs : List V} {xs : List SV}, RepSs K W H vs xs → vs.length = xs.length
  | _, _, .nil => rfl
  | _, _, .cons _ t => by rw [List.length_cons, List.length_cons, RepSs.length t]
theorem RepSs.get : ∀ {vs : List V} {xs : List SV} {i : Nat} {x : SV}, RepSs K W H vs xs → xs[i]? = some x → ∃ v, vs[i]? = some v ∧ RepS K W H v x
  | _, _, _, _, .nil, h => by simp at h
  | _, _, 0, _, .cons h t, e => by
    have e' := Option.some.inj e
    subst e'
    exact ⟨_, rfl, h⟩
  | _, _, i + 1, _, .cons h t, e => by
    obtain ⟨v, e1, r⟩ := RepSs.get (i := i) t (by simpa using e)
    exact ⟨v, by simpa using e1, r⟩
theorem Reps.get : ∀ {vs : List V} {ds : List DV} {fp : List Addr} {i : Nat} {d : DV}, Reps K W O H vs ds fp → ds[i]? = some d → ∃ v fq, vs[i]? = some v ∧ Rep K W O H v d fq
  | _, _, _, _, _, .nil, h => by simp at h
  | _, _, _, 0, _, .cons h t, e => by
    have e' := Option.some.inj e
    subst e'
    exact ⟨_, _, rfl, h⟩
  | _, _, _, i + 1, _, .cons h t, e => by
    obtain ⟨v, fq, e1, r⟩ := Reps.get (i := i) t (by simpa using e)
    exact ⟨v, fq, by simpa using e1, r⟩
theorem RepSs.append : ∀ {vs ws : List V} {xs ys : List SV}, RepSs K W H vs xs → RepSs K W H ws ys → RepSs K W H (vs ++ ws) (xs ++ ys)
  | _, _, _, _, .nil, r => r
  | _, _, _, _, .cons h t, r => .cons h (RepSs.append t r)
theorem Reps.append : ∀ {vs ws : List V} {xs ys : List DV} {fp fq : List Addr}, Reps K W O H vs xs fp → Reps K W O H ws ys fq → Reps K W O H (vs ++ ws) (xs ++ ys) (fp ++ fq)
  | _, _, _, _, _, _, .nil, r => r
  | _, _, _, _, _, _, .cons h t, r => by
    rw [List.append_assoc]
    exact .cons h (Reps.append t r)
theorem Reps.ofS : ∀ {vs : List V} {xs : List SV}, RepSs K W (msk O H) vs xs → Reps K W O H vs (xs.map DV.sh) []
  | _, _, .nil => .nil
  | _, _, .cons h t => .cons (fp := []) (.sh h) (Reps.ofS t)
theorem Reps.toS : ∀ {vs : List V} {xs : List SV} {fp : List Addr}, Reps K W O H vs (xs.map DV.sh) fp → RepSs K W (msk O H) vs xs ∧ fp = []
  | _, [], _, .nil => ⟨.nil, rfl⟩
  | _, x :: xs, _, .cons (.sh h) t => by
    obtain ⟨r, e⟩ := Reps.toS t
    subst e
    exact ⟨.cons h r, rfl⟩
end
mutual
def DV.frz : DV → SV
  | .sh s => s
  | .own ds => .lst (DV.frzs ds)
  | .ins _ C fs => .obj C (fs.map (·.1)) (fs.map (·.2))
  | .tup ds => .tup (DV.frzs ds)
def DV.frzs : List DV → List SV
  | [] => []
  | d :: ds => d.frz :: DV.frzs ds
end
theorem frzs_sh : ∀ xs : List SV, DV.frzs (xs.map DV.sh) = xs
  | [] => rfl
  | x :: xs => by simp [DV.frzs, DV.frz, frzs_sh xs]
section
variable {K : Fg} {W : Wd} {H H' : Hp} {O O' : List Addr}
theorem msk_le (h : ∀ b, b ∈ O' → b ∈ O) : Same (msk O H) (msk O' H) := fun b o e => by
  unfold msk at *
  by_cases hb : b ∈ O
  · rw [if_pos hb] at e; cases e
  · rw [if_neg hb] at e
    rw [if_neg fun z => hb (h b z)]
    exact e
theorem msk_get {b : Addr} {o : HO} (h : b ∉ O) (e : H b = some o) : msk O H b = some o := by unfold msk; rw [if_neg h]; exact e
theorem of_msk {b : Addr} {o : HO} (e : msk O H b = some o) : H b = some o ∧ b ∉ O := by
  unfold msk at e
  by_cases hb : b ∈ O
  · rw [if_pos hb] at e; cases e
  · rw [if_neg hb] at e; exact ⟨e, hb⟩
mutual
theorem Rep.freeze (hO : ∀ b, b ∈ O' → b ∈ O) : ∀ {v : V} {d : DV} {fp : List Addr}, (∀ a ∈ fp, a ∉ O') → Rep K W O H v d fp → RepS K W (msk O' H) v d.frz
  | _, _, _, _, .sh h => by unfold DV.frz; exact RepS.mono (msk_le hO) h
  | _, _, _, ho, .own ha hw h r => by
    unfold DV.frz
    exact .lst (msk_get (ho _ List.mem_cons_self) h) (Reps.freeze hO (fun b hb => ho b (List.mem_cons_of_mem _ hb)) r)
  | _, _, _, ho, .ins ha hw _ h hn r => by
    unfold DV.frz
    exact .obj (msk_get (ho _ List.mem_cons_self) h) hn (RepSs.mono (msk_le hO) r)
  | _, _, _, ho, .tup h r => by
    unfold DV.frz
    exact .tup (sqT_mono (msk_le hO) h) (Reps.freeze hO ho r)
theorem Reps.freeze (hO : ∀ b, b ∈ O' → b ∈ O) : ∀ {vs : List V} {ds : List DV} {fp : List Addr}, (∀ a ∈ fp, a ∉ O') → Reps K W O H vs ds fp → RepSs K W (msk O' H) vs (DV.frzs ds)
  | _, _, _, _, .nil => by unfold DV.frzs; exact .nil
  | _, _, _, ho, .cons h t => by
    unfold DV.frzs
    exact .cons (Rep.freeze hO (fun b hb => ho b (List.mem_append_left _ hb)) h) (Reps.freeze hO (fun b hb => ho b (List.mem_append_right _ hb)) t)
end
end

/-! ### the slots -/
abbrev Env := List (Option DV)
inductive ERep (K : Fg) (W : Wd) (O : List Addr) (H : Hp) : St → Env → List Addr → Prop
  | nil : ERep K W O H [] [] []
  | non {x : Option V} {σ : St} {ρ : Env} {fp : List Addr} (t : ERep K W O H σ ρ fp) : ERep K W O H (x :: σ) (none :: ρ) fp
  | som {v : V} {d : DV} {σ : St} {ρ : Env} {fp fq : List Addr} (h : Rep K W O H v d fp) (t : ERep K W O H σ ρ fq) : ERep K W O H (some v :: σ) (some d :: ρ) (fp ++ fq)
section
variable {K : Fg} {W : Wd} {H H' : Hp} {O O' : List Addr}
theorem ERep.mono (hm : Same (msk O H) (msk O' H')) (e : Ext W H H') : ∀ {σ : St} {ρ : Env} {fp : List Addr}, (∀ a ∈ fp, a ∈ O') → ERep K W O H σ ρ fp → ERep K W O' H' σ ρ fp
  | _, _, _, _, .nil => .nil
  | _, _, _, ho, .non t => .non (ERep.mono hm e ho t)
  | _, _, _, ho, .som h t => .som (Rep.mono hm e (fun b hb => ho b (List.mem_append_left _ hb)) h) (ERep.mono hm e (fun b hb => ho b (List.mem_append_right _ hb)) t)
theorem ERep.inO : ∀ {σ : St} {ρ : Env} {fp : List Addr}, ERep K W O H σ ρ fp → ∀ a ∈ fp, a ∈ O ∧ a ∉ W.as ∧ H a ≠ none
  | _, _, _, .nil, a, h => by simp at h
  | _, _, _, .non t, a, h => ERep.inO t a h
  | _, _, _, .som h t, a, m => by
    rcases List.mem_append.mp m with m | m
    · exact Rep.inO h a m
    · exact ERep.inO t a m
/-- a slot, and the rest -/
theorem ERep.at : ∀ {σ : St} {ρ : Env} {fp : List Addr} {i : Nat} {d : DV}, ERep K W O H σ ρ fp → ρ[i]? = some (some d) →
    ∃ v fq, σ[i]? = some (some v) ∧ Rep K W O H v d fq ∧ ∀ a ∈ fq, a ∈ fp
  | _, _, _, _, _, .nil, h => by simp at h
  | _, _, _, 0, _, .non t, h => by cases (Option.some.inj h)
  | _, _, _, i + 1, _, .non t, h => by
    obtain ⟨v, fq, e, r, hs⟩ := ERep.at (i := i) t (by simpa using h)
    exact ⟨v, fq, by simpa using e, r, hs⟩
  | _, _, _, 0, _, .som r t, h => by
    cases (Option.some.inj (Option.some.inj h))
    exact ⟨_, _, rfl, r, fun a m => List.mem_append_left _ m⟩
  | _, _, _, i + 1, _, .som r t, h => by
    obtain ⟨v, fq, e, r, hs⟩ := ERep.at (i := i) t (by simpa using h)
    exact ⟨v, fq, by simpa using e, r, fun a m => List.mem_append_right _ (hs a m)⟩
/-- a slot is stored anew -/
theorem ERep.set {v : V} {d : DV} {f1 : List Addr} (r1 : Rep K W O H v d f1) : ∀ {σ : St} {ρ : Env} {fp : List Addr} (i : Nat), ERep K W O H σ ρ fp → (fp ++ f1).Nodup →
    ∃ fq, ERep K W O H (σ.set i (some v)) (ρ.set i (some d)) fq ∧ fq.Nodup ∧ ∀ a ∈ fq, a ∈ fp ∨ a ∈ f1
  | _, _, _, _, .nil, hn => ⟨[], .nil, List.nodup_nil, fun a h => by simp at h⟩
  | _, _, fp, 0, .non t, hn => ⟨f1 ++ fp, .som r1 t, by
      rw [List.nodup_append] at hn ⊢
      exact ⟨hn.2.1, hn.1, fun a ha b hb e => hn.2.2 b hb a ha e.symm⟩, fun a h => (List.mem_append.mp h).symm⟩
  | _, _, fp, i + 1, .non t, hn => by
    obtain ⟨fq, h1, h2, h3⟩ := ERep.set r1 i t hn
    exact ⟨fq, .non h1, h2, h3⟩
  | _, _, _, 0, .som (fp := fp) (fq := fq) r t, hn => ⟨f1 ++ fq, .som r1 t, by
      rw [List.nodup_append] at hn ⊢
      have h1 := (List.nodup_append.mp hn.1)
      exact ⟨hn.2.1, h1.2.1, fun a ha b hb e => hn.2.2 b (List.mem_append_right _ hb) a ha e.symm⟩, fun a h => by
      rcases List.mem_append.mp h with h | h
      · exact .inr h
      · exact .inl (List.mem_append_right _ h)⟩
  | _, _, _, i + 1, .som (fp := fp) (fq := fr) r t, hn => by
    have hn' := List.nodup_append.mp hn
    have hn1 := List.nodup_append.mp hn'.1
    obtain ⟨fq, h1, h2, h3⟩ := ERep.set r1 i t (by
      rw [List.nodup_append]
      exact ⟨hn1.2.1, hn'.2.1, fun a ha b hb => hn'.2.2 a (List.mem_append_right _ ha) b hb⟩)
    refine ⟨fp ++ fq, .som r h1, ?_, fun a h => ?_⟩
    · rw [List.nodup_append]
      refine ⟨hn1.1, h2, fun a ha b hb e => ?_⟩
      subst e
      rcases h3 a hb with z | z
      · exact hn1.2.2 a ha a z rfl
      · exact hn'.2.2 a (List.mem_append_left _ ha) a z rfl
    · rcases List.mem_append.mp h with h | h
      · exact .inl (List.mem_append_left _ h)
      · rcases h3 a h with z | z
        · exact .inl (List.mem_append_right _ z)
        · exact .inr z
end

/-! ### the state -/
def GOk (W : Wd) (O : List Addr) (H : Hp) (g : GS) : Prop := match W.gen with
  | none => True
  | some (a, b, c) => a ∈ O ∧ b ∈ O ∧ c ∈ O ∧ a ≠ b ∧ a ≠ c ∧ b ≠ c ∧ H a = some (.lst [.ref b, .ref c, .int g.turn]) ∧ H b = some (.lst (g.cells.map V.int)) ∧ H c = some (.lst (g.rests.map V.int))
theorem GOk.mem {W : Wd} {O : List Addr} {H : Hp} {g : GS} (h : GOk W O H g) : ∀ a ∈ W.as, a ∈ O ∧ H a ≠ none := fun x hx => by
  match W, h, hx with
  | ⟨none, _⟩, _, hx => simp [Wd.as] at hx
  | ⟨some (a, b, c), _⟩, h, hx =>
    obtain ⟨h1, h2, h3, _, _, _, h4, h5, h6⟩ := h
    have hx' : x = a ∨ x = b ∨ x = c := by simpa [Wd.as] using hx
    rcases hx' with e | e | e
    · subst e; exact ⟨h1, by rw [h4]; simp⟩
    · subst e; exact ⟨h2, by rw [h5]; simp⟩
    · subst e; exact ⟨h3, by rw [h6]; simp⟩
theorem GOk.same {W : Wd} {O : List Addr} {H H' : Hp} {g : GS} (h : GOk W O H g) (e : Same H H') : GOk W O H' g := by
  match W, h with
  | ⟨none, _⟩, _ => trivial
  | ⟨some (a, b, c), _⟩, h =>
    obtain ⟨h1, h2, h3, n1, n2, n3, h4, h5, h6⟩ := h
    exact ⟨h1, h2, h3, n1, n2, n3, e _ _ h4, e _ _ h5, e _ _ h6⟩
/-- the entry: what is owned there, the heap there -/
abbrev Bs := List Addr × Hp
/-- without the slots -/
structure Den0 (B : Bs) (W : Wd) (O : List Addr) (H : Hp) (g : GS) : Prop where
  base : Ext W B.2 H
  sub : ∀ a ∈ B.1, a ∈ O
  new : ∀ a ∈ O, a ∈ B.1 ∨ B.2 a = none
  dom : ∀ a ∈ O, H a ≠ none
  gen : GOk W B.1 H g
  bdom : ∀ a ∈ B.1, B.2 a ≠ none
structure Den (K : Fg) (B : Bs) (W : Wd) (O : List Addr) (σ : St) (H : Hp) (ρ : Env) (g : GS) : Prop extends Den0 B W O H g where
  env : ∃ fp, ERep K W O H σ ρ fp ∧ fp.Nodup ∧ ∀ a ∈ fp, B.2 a = none
section
variable {K : Fg} {B : Bs} {W : Wd} {H H' : Hp} {O O' : List Addr} {σ : St} {ρ : Env} {g g' : GS}
theorem Den0.was (D : Den0 B W O H g) : ∀ a ∈ W.as, a ∈ O := fun a h => D.sub a (D.gen.mem a h).1
/-- shared data stay -/
theorem Den0.keeps (D : Den0 B W O H g) (e : Ext W H H') {fp : List Addr} (hf : ∀ a ∈ fp, H a = none) : Same (msk O H) (msk (fp ++ O) H') := fun b o h => by
  obtain ⟨h1, h2⟩ := of_msk h
  refine msk_get (fun z => ?_) (e b o (fun z => h2 (D.was b z)) h1)
  rcases List.mem_append.mp z with z | z
  · rw [hf b z] at h1; cases h1
  · exact h2 z
theorem Den0.keep (D : Den0 B W O H g) (e : Ext W H H') : Same (msk O H) (msk O H') := D.keeps e (fp := []) fun a h => by simp at h
theorem Den0.grow {fp : List Addr} (D : Den0 B W O H g) (e : Ext W H H') (hg : GOk W B.1 H' g') (hf : ∀ a ∈ fp, H a = none ∧ H' a ≠ none) : Den0 B W (fp ++ O) H' g' where
  base := D.base.trans e
  sub := fun a h => List.mem_append_right _ (D.sub a h)
  new := fun a h => by
    rcases List.mem_append.mp h with h | h
    · right
      cases q : B.2 a with
      | none => rfl
      | some o =>
        have h1 := (hf a h).1
        by_cases hw : a ∈ W.as
        · exact absurd h1 (D.dom a (D.was a hw))
        · rw [D.base a o hw q] at h1; cases h1
    · exact D.new a h
  dom := fun a h => by
    rcases List.mem_append.mp h with h | h
    · exact (hf a h).2
    · by_cases hw : a ∈ W.as
      · exact (hg.mem a hw).2
      · cases q : H a with
        | none => exact absurd q (D.dom a h)
        | some o => rw [e a o hw q]; simp
  gen := hg
  bdom := D.bdom
theorem Den.grow {fp : List Addr} (D : Den K B W O σ H ρ g) (e : Ext W H H') (hg : GOk W B.1 H' g') (hf : ∀ a ∈ fp, H a = none ∧ H' a ≠ none) : Den K B W (fp ++ O) σ H' ρ g' := by
  obtain ⟨fq, r, n, h⟩ := D.env
  exact { D.toDen0.grow e hg hf with env := ⟨fq, r.mono (D.keeps e fun a z => (hf a z).1) e (fun a m => List.mem_append_right _ (r.inO a m).1), n, h⟩ }
theorem Den.step (D : Den K B W O σ H ρ g) (e : Ext W H H') (hg : GOk W B.1 H' g') : Den K B W O σ H' ρ g' := D.grow (fp := []) e hg fun a h => by simp at h
end

/-! ### the judgements -/
abbrev EF := Env → GS → Option (SV × GS)
abbrev OF := Env → GS → Option (DV × GS)
abbrev TF := Env → GS → Option (Bool × GS)
abbrev AF := Env → GS → Option (List SV × GS)
/-- a shared value comes -/
def DEs (K : Fg) (t : TE) (f : EF) : Prop := ∀ B W O σ H ρ g s g', Den K B W O σ H ρ g → f ρ g = some (s, g') →
  ∀ Q : VK, (∀ v H', Ext W H H' → GOk W B.1 H' g' → RepS K W (msk O H') v s → Q v H') → t σ H Q
def DE (X : Cx) (e : Expr) (f : EF) : Prop := ∃ t, PE X e t ∧ DEs X.K t f
/-- a new value comes -/
def DOs (K : Fg) (t : TE) (f : OF) : Prop := ∀ B W O σ H ρ g d g', Den K B W O σ H ρ g → f ρ g = some (d, g') →
  ∀ Q : VK, (∀ v H' fp, Ext W H H' → GOk W B.1 H' g' → fp.Nodup → (∀ a ∈ fp, H a = none ∧ H' a ≠ none) → Rep K W (fp ++ O) H' v d fp → Q v H') → t σ H Q
def DO (X : Cx) (e : Expr) (f : OF) : Prop := ∃ t, PE X e t ∧ DOs X.K t f
/-- a value is looked at -/
def DPs (K : Fg) (t : TE) (f : OF) : Prop := ∀ B W O σ H ρ g d g', Den K B W O σ H ρ g → f ρ g = some (d, g') →
  ∀ Q : VK, (∀ v H' fp, Ext W H H' → GOk W B.1 H' g' → Rep K W O H' v d fp → Q v H') → t σ H Q
def DP (X : Cx) (e : Expr) (f : OF) : Prop := ∃ t, PE X e t ∧ DPs X.K t f
def DTs (K : Fg) (t : TT) (f : TF) : Prop := ∀ B W O σ H ρ g b g', Den K B W O σ H ρ g → f ρ g = some (b, g') →
  ∀ Q : Bool → Hp → Prop, (∀ H', Ext W H H' → GOk W B.1 H' g' → Q b H') → t σ H Q
def DT (X : Cx) (e : Expr) (f : TF) : Prop := ∃ t, PT X e t ∧ DTs X.K t f
def DW (X : Cx) (e : Expr) (f : TF) : Prop := ∃ t, PW X e t ∧ DTs X.K t f
def DAs (K : Fg) (t : TA) (f : AF) : Prop := ∀ B W O σ H ρ g s g', Den K B W O σ H ρ g → f ρ g = some (s, g') →
  ∀ Q : List V → Hp → Prop, (∀ v H', Ext W H H' → GOk W B.1 H' g' → RepSs K W (msk O H') v s → Q v H') → t σ H Q
def DA (X : Cx) (es : List Expr) (f : AF) : Prop := ∃ t, PA X es t ∧ DAs X.K t f
inductive Fl where
  | nx (ρ : Env) (g : GS) | rt (d : DV) (g : GS) | bk (ρ : Env) (g : GS) | ct (ρ : Env) (g : GS)
abbrev SF := Env → GS → Option Fl
/-- shared data stay -/
abbrev Keep (O : List Addr) (H : Hp) (O' : List Addr) (H' : Hp) : Prop := Same (msk O H) (msk O' H')
def FlOk (K : Fg) (B : Bs) (W : Wd) (O0 : List Addr) (H0 : Hp) (D : Ends) : Fl → Prop
  | .nx ρ g => ∀ σ O H, Keep O0 H0 O H → Den K B W O σ H ρ g → D.nx σ H
  | .bk ρ g => ∀ σ O H, Keep O0 H0 O H → Den K B W O σ H ρ g → D.bk σ H
  | .ct ρ g => ∀ σ O H, Keep O0 H0 O H → Den K B W O σ H ρ g → D.ct σ H
  | .rt d g => ∀ v O H fp, Den0 B W O H g → Rep K W O H v d fp → fp.Nodup → (∀ a ∈ fp, B.2 a = none) → D.rt v H
def DSt (K : Fg) (t : TS) (f : SF) : Prop := ∀ B W O σ H ρ g r, Den K B W O σ H ρ g → f ρ g = some r → ∀ D : Ends, FlOk K B W O H D r → t D σ H
def DS (X : Cx) (st : Stmt) (f : SF) : Prop := ∃ t, PS X st t ∧ DSt X.K t f
def DSs (X : Cx) (st : List Stmt) (f : SF) : Prop := ∃ t, PSs X st t ∧ DSt X.K t f
/-- what a for walks -/
abbrev IF := Env → GS → Option (List SV × GS)
def ItOk (K : Fg) (W : Wd) (O0 : List Addr) (H0 : Hp) (J : It) (xs : List SV) : Prop := ∀ O H, Keep O0 H0 O H → (∀ a ∈ O, H a ≠ none) →
  (∀ i x, xs[i]? = some x → J.go i H ∧ ∀ v H2, J.yld i H v H2 → Same H H2 ∧ RepS K W (msk O H2) v x) ∧ ∀ i, xs.length ≤ i → J.stop i H
def DIs (K : Fg) (wi : TI) (f : IF) : Prop := ∀ B W O σ H ρ g xs g', Den K B W O σ H ρ g → f ρ g = some (xs, g') →
  ∀ R : It → Hp → Prop, (∀ J H', Ext W H H' → GOk W B.1 H' g' → ItOk K W O H' J xs → R J H') → wi σ H R
def DI (X : Cx) (tg e : Expr) (f : IF) : Prop := ∃ wi, PI X tg e wi ∧ DIs X.K wi f
/-- a state with a value at hand that stands apart from the slots -/
structure DenV (K : Fg) (B : Bs) (W : Wd) (O : List Addr) (σ : St) (H : Hp) (ρ : Env) (g : GS) (v : V) (d : DV) : Prop extends Den0 B W O H g where
  env : ∃ fe fp, ERep K W O H σ ρ fe ∧ Rep K W O H v d fp ∧ (fe ++ fp).Nodup ∧ ∀ a ∈ fe ++ fp, B.2 a = none
/-- an assignment's target -/
abbrev GF := DV → Env → GS → Option (Env × GS)
def DGs (K : Fg) (t : TG) (f : GF) : Prop := ∀ B W O σ H ρ g d v ρ' g', DenV K B W O σ H ρ g v d → f d ρ g = some (ρ', g') →
  ∀ Q : St → Hp → Prop, (∀ σ' O' H', Keep O H O' H' → Den K B W O' σ' H' ρ' g' → Q σ' H') → t v σ H Q
def DG (X : Cx) (tg : Expr) (f : GF) : Prop := ∃ t, PG X tg t ∧ DGs X.K t f
end DL

/-! DL1: the rules for expressions. -/
namespace DL
open PySem PySem.Spec L2
section
variable {K : Fg} {B : Bs} {W : Wd} {H H' : Hp} {O O' : List Addr} {σ : St} {ρ : Env} {g g' : GS} {v : V} {d : DV} {fp : List Addr}
theorem Keep.refl : Keep O H O H := Same.refl _
theorem Den0.fresh (D : Den0 B W O H g) {a : Addr} (h : H a = none) : B.2 a = none := by
  cases q : B.2 a with
  | none => rfl
  | some o =>
    by_cases hw : a ∈ W.as
    · exact absurd h (D.dom a (D.was a hw))
    · rw [D.base a o hw q] at h; cases h
theorem Den0.notO (D : Den0 B W O H g) {a : Addr} (h : H a = none) : a ∉ O := fun z => D.dom a z h
/-- behind an expression that made something new -/
theorem Den.withV (D : Den K B W O σ H ρ g) (e : Ext W H H') (hg : GOk W B.1 H' g') (nd : fp.Nodup) (hf : ∀ a ∈ fp, H a = none ∧ H' a ≠ none) (r : Rep K W (fp ++ O) H' v d fp) : DenV K B W (fp ++ O) σ H' ρ g' v d := by
  obtain ⟨fe, re, n, h⟩ := D.env
  refine { D.toDen0.grow e hg hf with env := ⟨fe, fp, re.mono (D.keeps e fun a z => (hf a z).1) e (fun a m => List.mem_append_right _ (re.inO a m).1), r, ?_, fun a m => ?_⟩ }
  · rw [List.nodup_append]
    exact ⟨n, nd, fun a ha b hb z => (re.inO a ha).2.2 (by rw [z]; exact (hf b hb).1)⟩
  · rcases List.mem_append.mp m with m | m
    · exact h a m
    · exact D.toDen0.fresh (hf a m).1
theorem DenV.withS (D : Den K B W O σ H ρ g) {s : SV} (r : RepS K W (msk O H) v s) : DenV K B W O σ H ρ g v (.sh s) := by
  obtain ⟨fe, re, n, h⟩ := D.env
  exact { D.toDen0 with env := ⟨fe, [], re, .sh r, by simpa using n, by simpa using h⟩ }
theorem keep_new {p : Addr} {o : HO} (hp : H p = none) : Same H (upd H p o) := fun b x e => by
  rw [upd_ne (ne_of_none e hp)]
  exact e
theorem msk_same (e : Same H H') : Same (msk O H) (msk O H') := fun b o h => by
  obtain ⟨h1, h2⟩ := of_msk h
  exact msk_get h2 (e _ _ h1)
theorem rep_tup {vs : List V} {xs : List SV} {p : Addr} (hO : ∀ a ∈ O, H a ≠ none) (hp : H p = none) (r : RepSs K W (msk O H) vs xs) : RepS K W (msk O (upd H p (.tup vs))) (.ref p) (.tup xs) :=
  .tup (.inl (.inl (msk_get (fun z => hO p z hp) upd_same))) (r.mono (msk_same (keep_new hp)))
theorem rep_lst {vs : List V} {xs : List SV} {p : Addr} (hO : ∀ a ∈ O, H a ≠ none) (hp : H p = none) (r : RepSs K W (msk O H) vs xs) : RepS K W (msk O (upd H p (.lst vs))) (.ref p) (.lst xs) :=
  .lst (msk_get (fun z => hO p z hp) upd_same) (r.mono (msk_same (keep_new hp)))
/-- a new list of own items -/
theorem rep_own {vs : List V} {ds : List DV} {p : Addr} (hO : ∀ a ∈ O, H a ≠ none) (hw : ∀ a ∈ W.as, a ∈ O) (hp : H p = none) (r : Reps K W (fp ++ O) H vs ds fp) :
    Rep K W ((p :: fp) ++ O) (upd H p (.lst vs)) (.ref p) (.own ds) (p :: fp) := by
  refine .own (List.mem_cons_self) (fun z => hO p (hw p z) hp) upd_same ?_
  refine r.mono ?_ (Same.ext (keep_new hp)) fun a h => ?_
  · intro b o e
    obtain ⟨h1, h2⟩ := of_msk e
    refine msk_get (fun z => ?_) (keep_new hp b o h1)
    rcases List.mem_cons.mp z with z | z
    · subst z; rw [hp] at h1; cases h1
    · exact h2 z
  · exact List.mem_cons_of_mem _ (List.mem_append_left _ h)
end

/-! ### from one judgement to another -/
def oS (f : EF) : OF := fun ρ g => (f ρ g).map fun p => (.sh p.1, p.2)
def fz (f : OF) : EF := fun ρ g => (f ρ g).map fun p => (p.1.frz, p.2)
def DV.sh? : DV → Option SV
  | .sh s => some s
  | _ => none
def un (f : OF) : EF := fun ρ g => (f ρ g).bind fun p => p.1.sh?.map fun s => (s, p.2)
section
variable {X : Cx} {e a b c : Expr} {f fa fb fc : EF} {h : OF} {pos : Pos}
theorem DE.o (D : DE X e f) : DO X e (oS f) := by
  obtain ⟨t, pt, q⟩ := D
  refine ⟨t, pt, fun B W O σ H ρ g d g' D e Q k => ?_⟩
  obtain ⟨⟨s, g1⟩, e1, e2⟩ := Option.map_eq_some_iff.mp e
  cases e2
  exact q B W O σ H ρ g s g1 D e1 Q fun v H' x hg r => k v H' [] x hg List.nodup_nil (fun a z => by simp at z) (.sh r)
theorem DE.p (D : DE X e f) : DP X e (oS f) := by
  obtain ⟨t, pt, q⟩ := D
  refine ⟨t, pt, fun B W O σ H ρ g d g' D e Q k => ?_⟩
  obtain ⟨⟨s, g1⟩, e1, e2⟩ := Option.map_eq_some_iff.mp e
  cases e2
  exact q B W O σ H ρ g s g1 D e1 Q fun v H' x hg r => k v H' [] x hg (.sh r)
theorem DO.s (D : DO X e h) : DE X e (fz h) := by
  obtain ⟨t, pt, q⟩ := D
  refine ⟨t, pt, fun B W O σ H ρ g s g' D e Q k => ?_⟩
  obtain ⟨⟨d, g1⟩, e1, e2⟩ := Option.map_eq_some_iff.mp e
  cases e2
  exact q B W O σ H ρ g d g1 D e1 Q fun v H' fp x hg nd hf r => k v H' x hg (r.freeze (fun b z => List.mem_append_right _ z) fun a z => D.toDen0.notO (hf a z).1)
theorem DP.s (D : DP X e h) : DE X e (un h) := by
  obtain ⟨t, pt, q⟩ := D
  refine ⟨t, pt, fun B W O σ H ρ g s g' D e Q k => ?_⟩
  obtain ⟨⟨d, g1⟩, e1, e2⟩ := Option.bind_eq_some_iff.mp e
  obtain ⟨s1, e3, e4⟩ := Option.map_eq_some_iff.mp e2
  cases e4
  cases d with
  | own _ => cases e3
  | ins _ _ _ => cases e3
  | tup _ => cases e3
  | sh s2 =>
    cases e3
    exact q B W O σ H ρ g _ g1 D e1 Q fun v H' fp x hg r => by
      cases r with
      | sh r => exact k v H' x hg r

/-! ### names, constants -/
def vS (i : Nat) : EF := fun ρ g => match ρ[i]? with
  | some (some (.sh s)) => some (s, g)
  | _ => none
def vP (i : Nat) : OF := fun ρ g => match ρ[i]? with
  | some (some d) => some (d, g)
  | _ => none
def kS (s : SV) : EF := fun _ g => some (s, g)
theorem dp_var (i : Nat) {x : Str} (hN : X.N[i]? = some x := by rfl) (hv : Vis X.env.scope x := by first | exact Or.inl rfl | exact Or.inr (Or.inl rfl) | exact Or.inr (Or.inr rfl)) (hd : (x == ("__debug__" : Str)) = false := by decide)
    (hcd : (x == ("__classdict__" : Str)) = false := by decide) : DP X (.Name x pos) (vP i) := by
  refine ⟨tVar i, pe_var hN hv hd hcd, fun B W O σ H ρ g d g' D e Q k => ?_⟩
  unfold vP at e
  split at e
  · rename_i d1 h1
    cases e
    obtain ⟨fe, re, n, hh⟩ := D.env
    obtain ⟨v, fq, e1, r, _⟩ := re.at h1
    exact ⟨v, e1, k v H fq Ext.refl D.gen r⟩
  · cases e
theorem de_var (i : Nat) {x : Str} (hN : X.N[i]? = some x := by rfl) (hv : Vis X.env.scope x := by first | exact Or.inl rfl | exact Or.inr (Or.inl rfl) | exact Or.inr (Or.inr rfl)) (hd : (x == ("__debug__" : Str)) = false := by decide)
    (hcd : (x == ("__classdict__" : Str)) = false := by decide) : DE X (.Name x pos) (vS i) := by
  refine ⟨tVar i, pe_var hN hv hd hcd, fun B W O σ H ρ g s g' D e Q k => ?_⟩
  unfold vS at e
  split at e
  · rename_i d1 h1
    cases e
    obtain ⟨fe, re, n, hh⟩ := D.env
    obtain ⟨v, fq, e1, r, _⟩ := re.at h1
    cases r with
    | sh r => exact ⟨v, e1, k v H Ext.refl D.gen r⟩
  · cases e
theorem de_k {s : SV} {v : V} (p : PE X e (tC v)) (r : ∀ W H, RepS X.K W H v s) : DE X e (kS s) :=
  ⟨tC v, p, fun B W O σ H ρ g s g' D e Q k => by cases e; exact k v H Ext.refl D.gen (r _ _)⟩
theorem de_int {i : Int} {j} : DE X (.Constant (.int i) j pos) (kS (.int i)) := de_k pe_int fun _ _ => .int
theorem de_bl {i : Bool} {j} : DE X (.Constant (.bool i) j pos) (kS (.bl i)) := de_k pe_bl fun _ _ => .bl
theorem de_non {j} : DE X (.Constant .none j pos) (kS .non) := de_k pe_non fun _ _ => .non
theorem de_str {i : Str} {j} : DE X (.Constant (.str i) j pos) (kS (.str i)) := de_k pe_str fun _ _ => .str
/-- a constant of the module -/
theorem de_glob {x : Str} {v : V} {u : Value} {s : SV} (hg : Gl X x) (hm : X.mg x = some u) (r : RelV v u) (rs : ∀ W H, RepS X.K W H v s) (hd : (x == ("__debug__" : Str)) = false := by decide) : DE X (.Name x pos) (kS s) :=
  de_k (pe_glob hg hm r hd) rs

/-! ### operators -/
def b2 (k : SV → SV → Option SV) (fa fb : EF) : EF := fun ρ g => (fa ρ g).bind fun p => (fb ρ p.2).bind fun q => (k p.1 q.1).map fun s => (s, q.2)
def R2S (K : Fg) (r : R2) (k : SV → SV → Option SV) : Prop := ∀ W O H x y a b s, RepS K W (msk O H) x a → RepS K W (msk O H) y b → k a b = some s → (∀ a ∈ O, H a ≠ none) →
  ∀ Q : VK, (∀ v H', Same H H' → RepS K W (msk O H') v s → Q v H') → r x y H Q
theorem op2s {K : Fg} {r : R2} {k : SV → SV → Option SV} {ta tb : TE} (hr : R2S K r k) (ha : DEs K ta fa) (hb : DEs K tb fb) : DEs K (tOp r ta tb) (b2 k fa fb) := by
  intro B W O σ H ρ g s g' D e Q q
  obtain ⟨⟨a, g1⟩, e1, e⟩ := Option.bind_eq_some_iff.mp e
  obtain ⟨⟨b, g2⟩, e2, e⟩ := Option.bind_eq_some_iff.mp e
  obtain ⟨s1, e3, e4⟩ := Option.map_eq_some_iff.mp e
  cases e4
  refine ha B W O σ H ρ g a g1 D e1 _ fun x H1 x1 h1 r1 => ?_
  have D1 := D.step x1 h1
  refine hb B W O σ H1 ρ g1 b g2 D1 e2 _ fun y H2 x2 h2 r2 => ?_
  have D2 := D1.step x2 h2
  exact hr W O H2 x y a b _ (r1.mono (D1.toDen0.keep x2)) r2 e3 D2.dom _ fun v H3 sm r3 => q v H3 ((x1.trans x2).trans (Same.ext sm)) (D2.gen.same sm) r3
theorem de_op {op : Operator} {r : R2} {k : SV → SV → Option SV} (ho : OpR X (binaryOp op) r) (hr : R2S X.K r k) (ha : DE X a fa) (hb : DE X b fb) : DE X (.BinOp a op b pos) (b2 k fa fb) := by
  obtain ⟨ta, pa, qa⟩ := ha
  obtain ⟨tb, pb, qb⟩ := hb
  exact ⟨_, pe_op ho pa pb, op2s hr qa qb⟩
theorem de_cmp {op : CmpOp} {r : R2} {k : SV → SV → Option SV} (ho : OpR X (compareOp op) r) (hr : R2S X.K r k) (ha : DE X a fa) (hb : DE X b fb) (hm : behindInMarks op b = false) : DE X (.Compare a [op] [b] pos) (b2 k fa fb) := by
  obtain ⟨ta, pa, qa⟩ := ha
  obtain ⟨tb, pb, qb⟩ := hb
  exact ⟨_, pe_cmpR ho pa pb hm, op2s hr qa qb⟩
def hI (c : Int → Int → Bool) (k : Int → Int → SV) : SV → SV → Option SV
  | .int i, .int j => if c i j then some (k i j) else none
  | _, _ => none
def hI0 (k : Int → Int → SV) : SV → SV → Option SV
  | .int i, .int j => some (k i j)
  | _, _ => none
theorem r2_I {K : Fg} {C : Int → Int → Prop} {c : Int → Int → Bool} {kv : Int → Int → V} {k : Int → Int → SV} (hC : ∀ i j, c i j = true → C i j) (hk : ∀ W H i j, RepS K W H (kv i j) (k i j)) : R2S K (rI C kv) (hI c k) := by
  intro W O H x y a b s ra rb e hO Q q
  unfold hI at e
  split at e
  · split at e
    · rename_i hc
      cases e
      cases ra
      cases rb
      exact ⟨_, _, rfl, rfl, hC _ _ hc, q _ H (Same.refl H) (hk ..)⟩
    · cases e
  · cases e
theorem r2_I0 {K : Fg} {kv : Int → Int → V} {k : Int → Int → SV} (hk : ∀ W H i j, RepS K W H (kv i j) (k i j)) : R2S K (rI0 kv) (hI0 k) := by
  intro W O H x y a b s ra rb e hO Q q
  unfold hI0 at e
  split at e
  · cases e
    cases ra
    cases rb
    exact ⟨_, _, rfl, rfl, q _ H (Same.refl H) (hk ..)⟩
  · cases e
def hAdd := hI0 fun i j => .int (i + j)
def hSub := hI0 fun i j => .int (i - j)
def mulOk (i j : Int) : Bool := decide (i.natAbs.log2 < 60000000 ∧ j.natAbs.log2 < 60000000)
def hMul := hI mulOk fun i j => .int (i * j)
def divOk (i j : Int) : Bool := decide (0 < j ∧ (j.natAbs.log2 < 9000 ∨ i.natAbs.log2 < j.natAbs.log2 + 4400))
def hDiv := hI divOk fun i j => .int (i / j)
def modOk (_ j : Int) : Bool := decide (0 < j)
def hMod := hI modOk fun i j => .int (i % j)
def powOk (i j : Int) : Bool := decide (0 ≤ j ∧ ((j ≤ 1000000 ∧ i.natAbs < 18446744073709551616) ∨ (j ≤ 1000 ∧ i.natAbs.log2 < 100000)))
def hPow := hI powOk fun i j => .int (i ^ j.toNat)
def hLt := hI0 fun i j => .bl (decide (i < j))
def hLe := hI0 fun i j => .bl (decide (i ≤ j))
def hGt := hI0 fun i j => .bl (decide (j < i))
def hGe := hI0 fun i j => .bl (decide (j ≤ i))
def CMulX (i j : Int) : Prop := i.natAbs.log2 < 60000000 ∧ j.natAbs.log2 < 60000000
theorem CMulX.ok {i j : Int} (h : CMulX i j) : IntMulOk i j := by
  have b : ∀ x : Int, Builtin.Int.intBits x ≤ x.natAbs.log2 + 1 := fun x => by
    unfold Builtin.Int.intBits
    split <;> omega
  have h1 := b i
  have h2 := b j
  have h3 := h.1
  have h4 := h.2
  have e : bitsLine = 134217728 := by decide
  unfold IntMulOk
  intro z
  rw [Bool.and_eq_true] at z
  have z2 := z.2
  unfold Builtin.Int.intTooBig at z2
  have z3 := of_decide_eq_true z2
  rw [e] at z3
  omega
def CDivX (i j : Int) : Prop := 0 < j ∧ (j.natAbs.log2 < 9000 ∨ i.natAbs.log2 < j.natAbs.log2 + 4400)
theorem noPylongX {i j : Int} (h : CDivX i j) : Builtin.divisionGoesByPylong i j = false := by
  rcases h.2 with h2 | h2
  · exact PyProof.noPylong_of_log2 h2
  · have hj : ¬ (j == 0) = true := by have := h.1; simp; omega
    show (decide ((if j == 0 then 0 else j.natAbs.log2 / 30 + 1) > 300) && decide ((if i == 0 then 0 else i.natAbs.log2 / 30 + 1) > (if j == 0 then 0 else j.natAbs.log2 / 30 + 1) + 150)) = false
    rw [if_neg hj]
    refine Bool.and_eq_false_iff.mpr (.inr (decide_eq_false (Nat.not_lt.mpr ?_)))
    by_cases hi : (i == 0) = true
    · rw [if_pos hi]; exact Nat.zero_le _
    · rw [if_neg hi]; omega
theorem op_fdivX : OpR X (binaryOp .FloorDiv) (rI CDivX fun i j => .int (i / j)) := opI fun i j _ _ _ _ _ hc q => by
  have h1 : (0 : Int) < j := hc.1
  exact PyProof.Rows.floordiv_int (by omega) (by rw [Int.fdiv_eq_ediv_of_nonneg i (by omega)]; exact q) (.inl (noPylongX hc))
def CPowX (i j : Int) : Prop := 0 ≤ j ∧ ((j ≤ 1000000 ∧ i.natAbs < 18446744073709551616) ∨ (j ≤ 1000 ∧ i.natAbs.log2 < 100000))
theorem op_powX : OpR X (binaryOp .Pow) (rI CPowX fun i j => .int (i ^ j.toNat)) := opI fun i j _ _ _ _ _ hc q => by
  rcases hc.2 with h | h
  · exact PyProof.Rows.pow_int_small hc.1 h.1 h.2 q
  · refine PyProof.Rows.pow_int hc.1 ?_ q
    have hb : (Builtin.Int.intBits i : Int) ≤ 100000 := by
      have : Builtin.Int.intBits i ≤ i.natAbs.log2 + 1 := by
        unfold Builtin.Int.intBits
        split <;> omega
      omega
    have h1 : (Builtin.Int.intBits i : Int) * j ≤ 100000 * j := Int.mul_le_mul_of_nonneg_right hb hc.1
    omega
theorem op_mulX : OpR X (binaryOp .Mult) (rI CMulX fun i j => .int (i * j)) := opI fun _ _ _ _ _ _ _ hc q => PyProof.Rows.mul_int q hc.ok
theorem de_add (ha : DE X a fa) (hb : DE X b fb) : DE X (.BinOp a .Add b pos) (b2 hAdd fa fb) := de_op op_add (r2_I0 fun _ _ _ _ => .int) ha hb
theorem de_sub (ha : DE X a fa) (hb : DE X b fb) : DE X (.BinOp a .Sub b pos) (b2 hSub fa fb) := de_op op_sub (r2_I0 fun _ _ _ _ => .int) ha hb
theorem de_mul (ha : DE X a fa) (hb : DE X b fb) : DE X (.BinOp a .Mult b pos) (b2 hMul fa fb) := de_op op_mulX (r2_I (fun i j h => (show i.natAbs.log2 < 60000000 ∧ j.natAbs.log2 < 60000000 from of_decide_eq_true h)) fun _ _ _ _ => .int) ha hb
theorem de_div (ha : DE X a fa) (hb : DE X b fb) : DE X (.BinOp a .FloorDiv b pos) (b2 hDiv fa fb) := de_op op_fdivX (r2_I (fun i j h => (show 0 < j ∧ (j.natAbs.log2 < 9000 ∨ i.natAbs.log2 < j.natAbs.log2 + 4400) from of_decide_eq_true h)) fun _ _ _ _ => .int) ha hb
theorem de_mod (ha : DE X a fa) (hb : DE X b fb) : DE X (.BinOp a .Mod b pos) (b2 hMod fa fb) := de_op op_mod (r2_I (fun i j h => (show 0 < j from of_decide_eq_true h)) fun _ _ _ _ => .int) ha hb
theorem de_pow (ha : DE X a fa) (hb : DE X b fb) : DE X (.BinOp a .Pow b pos) (b2 hPow fa fb) := de_op op_powX (r2_I (fun i j h => (show 0 ≤ j ∧ ((j ≤ 1000000 ∧ i.natAbs < 18446744073709551616) ∨ (j ≤ 1000 ∧ i.natAbs.log2 < 100000)) from of_decide_eq_true h)) fun _ _ _ _ => .int) ha hb
theorem de_lt (ha : DE X a fa) (hb : DE X b fb) : DE X (.Compare a [.Lt] [b] pos) (b2 hLt fa fb) := de_cmp op_lt (r2_I0 fun _ _ _ _ => .bl) ha hb (nomark _)
theorem de_le (ha : DE X a fa) (hb : DE X b fb) : DE X (.Compare a [.LtE] [b] pos) (b2 hLe fa fb) := de_cmp op_le (r2_I0 fun _ _ _ _ => .bl) ha hb (nomark _)
theorem de_gt (ha : DE X a fa) (hb : DE X b fb) : DE X (.Compare a [.Gt] [b] pos) (b2 hGt fa fb) := de_cmp op_gt (r2_I0 fun _ _ _ _ => .bl) ha hb (nomark _)
theorem de_ge (ha : DE X a fa) (hb : DE X b fb) : DE X (.Compare a [.GtE] [b] pos) (b2 hGe fa fb) := de_cmp op_ge (r2_I0 fun _ _ _ _ => .bl) ha hb (nomark _)
end
end DL

/-! DL2: more expressions, tests, arguments, calls. -/
namespace DL
open PySem PySem.Spec L2

/-! ### equality of data -/
mutual
def SV.pd : SV → Option PyData
  | .non => some .none
  | .bl b => some (.bool b)
  | .int i => some (.int i)
  | .str _ => none
  | .tup xs => (SV.pds xs).map .tuple
  | .lst xs => (SV.pds xs).map .list
  | .raw _ => none
  | .gen => none
  | .obj _ _ _ => none
def SV.pds : List SV → Option (List PyData)
  | [] => some []
  | x :: xs => (SV.pd x).bind fun d => (SV.pds xs).map fun ds => d :: ds
end
mutual
/-- Python's == on data -/
def SV.eq : SV → SV → Option Bool
  | .non, .non => some true
  | .non, .bl _ => some false
  | .non, .int _ => some false
  | .non, .tup _ => some false
  | .non, .lst _ => some false
  | .bl a, .bl b => some (a == b)
  | .bl a, .int j => some ((if a then 1 else 0) == j)
  | .bl _, .non => some false
  | .bl _, .tup _ => some false
  | .bl _, .lst _ => some false
  | .int i, .int j => some (i == j)
  | .int i, .bl b => some (i == (if b then 1 else 0))
  | .int _, .non => some false
  | .int _, .tup _ => some false
  | .int _, .lst _ => some false
  | .tup xs, .tup ys => SV.eqs xs ys
  | .tup _, .non => some false
  | .tup _, .bl _ => some false
  | .tup _, .int _ => some false
  | .tup _, .lst _ => some false
  | .lst xs, .lst ys => SV.eqs xs ys
  | .lst _, .non => some false
  | .lst _, .bl _ => some false
  | .lst _, .int _ => some false
  | .lst _, .tup _ => some false
  | _, _ => none
def SV.eqs : List SV → List SV → Option Bool
  | [], [] => some true
  | x :: xs, y :: ys => match SV.eq x y, SV.eqs xs ys with
    | some a, some b => some (a && b)
    | _, _ => none
  | [], _ :: _ => some false
  | _ :: _, [] => some false
end
mutual
def SV.dep : SV → Nat
  | .tup xs => SV.deps xs + 1
  | .lst xs => SV.deps xs + 1
  | _ => 0
def SV.deps : List SV → Nat
  | [] => 0
  | x :: xs => max (SV.dep x) (SV.deps xs)
end
mutual
theorem pd_eqv : ∀ (x y : SV) (d e : PyData) (b : Bool), x.pd = some d → y.pd = some e → SV.eq x y = some b → PyData.eqv d e = b := by
  intro x y d e b hx hy hb
  cases x <;> cases y <;> simp only [SV.pd, SV.eq, Option.some.injEq, reduceCtorEq, Option.map_eq_some_iff] at hx hy hb
  all_goals first
    | (obtain ⟨p, hp, rfl⟩ := hx; obtain ⟨q, hq, rfl⟩ := hy; first | (simp only [PyData.eqv]; exact pds_eqv _ _ _ _ _ hp hq hb) | (subst hb; simp only [PyData.eqv]))
    | (obtain ⟨p, hp, rfl⟩ := hx; subst hy; subst hb; simp only [PyData.eqv])
    | (obtain ⟨p, hp, rfl⟩ := hy; subst hx; subst hb; simp only [PyData.eqv])
    | (subst hx; subst hy; subst hb; simp only [PyData.eqv])
theorem pds_eqv : ∀ (xs ys : List SV) (ds es : List PyData) (b : Bool), SV.pds xs = some ds → SV.pds ys = some es → SV.eqs xs ys = some b → PyData.eqvAll ds es = b := by
  intro xs ys ds es b hx hy hb
  cases xs with
  | nil =>
    cases ys with
    | nil => simp [SV.pds] at hx hy; simp [SV.eqs] at hb; subst hx; subst hy; subst hb; rfl
    | cons y ys =>
      simp [SV.pds] at hx; simp [SV.eqs] at hb
      simp only [SV.pds, Option.bind_eq_some_iff, Option.map_eq_some_iff] at hy
      obtain ⟨p, _, q, _, rfl⟩ := hy
      subst hx; subst hb; rfl
  | cons x xs =>
    simp only [SV.pds, Option.bind_eq_some_iff, Option.map_eq_some_iff] at hx
    obtain ⟨p, hp, q, hq, rfl⟩ := hx
    cases ys with
    | nil => simp [SV.pds] at hy; simp [SV.eqs] at hb; subst hy; subst hb; rfl
    | cons y ys =>
      simp only [SV.pds, Option.bind_eq_some_iff, Option.map_eq_some_iff] at hy
      obtain ⟨p', hp', q', hq', rfl⟩ := hy
      simp only [SV.eqs] at hb
      split at hb
      · rename_i a b' h1 h2
        cases hb
        simp only [PyData.eqvAll]
        rw [pd_eqv x y p p' a hp hp' h1, pds_eqv xs ys q q' b' hq hq' h2]
      · cases hb
end
section
variable {K : Fg} {W : Wd} {H : Hp}
mutual
theorem RepS.dp : ∀ {v : V} {s : SV} {d : PyData}, RepS K W H v s → s.pd = some d → Dp K H v d
  | _, _, _, .non, h => by simp [SV.pd] at h; subst h; exact .non
  | _, _, _, .bl, h => by simp [SV.pd] at h; subst h; exact .bl _
  | _, _, _, .int, h => by simp [SV.pd] at h; subst h; exact .int _
  | _, _, _, .str, h => by simp [SV.pd] at h
  | _, _, _, .raw, h => by simp [SV.pd] at h
  | _, _, _, .gen _, h => by simp [SV.pd] at h
  | _, _, _, .obj _ _ _, h => by simp [SV.pd] at h
  | _, _, _, .tup hq r, h => by
    simp only [SV.pd, Option.map_eq_some_iff] at h
    obtain ⟨ds, h1, rfl⟩ := h
    exact .tup hq (RepSs.dp r h1)
  | _, _, _, .lst hq r, h => by
    simp only [SV.pd, Option.map_eq_some_iff] at h
    obtain ⟨ds, h1, rfl⟩ := h
    exact .lst (.inl (.inl hq)) (RepSs.dp r h1)
theorem RepSs.dp : ∀ {vs : List V} {xs : List SV} {ds : List PyData}, RepSs K W H vs xs → SV.pds xs = some ds → DpAll K H vs ds
  | _, _, _, .nil, h => by simp [SV.pds] at h; subst h; exact .nil
  | _, _, _, .cons r t, h => by
    simp only [SV.pds, Option.bind_eq_some_iff, Option.map_eq_some_iff] at h
    obtain ⟨p, hp, q, hq, rfl⟩ := h
    exact .cons (RepS.dp r hp) (RepSs.dp t hq)
end
end
mutual
theorem pd_shaped : ∀ (x : SV) (d : PyData), x.pd = some d → d.canLay0 = true ∧ d.depth = x.dep := by
  intro x d h
  cases x <;> simp only [SV.pd, Option.some.injEq, reduceCtorEq, Option.map_eq_some_iff] at h
  case tup xs =>
    obtain ⟨p, hp, rfl⟩ := h
    have z := pds_shaped xs p hp
    exact ⟨by simp only [PyData.canLay0]; exact z.1, by simp only [PyData.depth, SV.dep]; rw [z.2]⟩
  case lst xs =>
    obtain ⟨p, hp, rfl⟩ := h
    have z := pds_shaped xs p hp
    exact ⟨by simp only [PyData.canLay0]; exact z.1, by simp only [PyData.depth, SV.dep]; rw [z.2]⟩
  all_goals (subst h; exact ⟨by simp only [PyData.canLay0], by simp only [PyData.depth, SV.dep]⟩)
theorem pds_shaped : ∀ (xs : List SV) (ds : List PyData), SV.pds xs = some ds → PyData.canLayAll0 ds = true ∧ PyData.depthAll ds = SV.deps xs := by
  intro xs ds h
  cases xs with
  | nil => simp [SV.pds] at h; subst h; exact ⟨by simp only [PyData.canLayAll0], by simp only [PyData.depthAll, SV.deps]⟩
  | cons x xs =>
    simp only [SV.pds, Option.bind_eq_some_iff, Option.map_eq_some_iff] at h
    obtain ⟨p, hp, q, hq, rfl⟩ := h
    have z1 := pd_shaped x p hp
    have z2 := pds_shaped xs q hq
    exact ⟨by simp only [PyData.canLayAll0]; rw [z1.1, z2.1]; rfl, by simp only [PyData.depthAll, SV.deps]; rw [z1.2, z2.2]⟩
end

def hEqD (k : Bool → Bool) (a b : SV) : Option SV := match a.pd, b.pd, SV.eq a b with
  | some _, some _, some r => if a.dep ≤ 64 ∧ b.dep ≤ 64 then some (.bl (k r)) else none
  | _, _, _ => none
def hEq : SV → SV → Option SV
  | .int i, .int j => some (.bl (decide (i = j)))
  | .bl i, .bl j => some (.bl (decide (i = j)))
  | .str i, .str j => some (.bl (decide (i = j)))
  | a, b => hEqD (fun x => x) a b
def hNe : SV → SV → Option SV
  | .int i, .int j => some (.bl (!decide (i = j)))
  | .bl i, .bl j => some (.bl (!decide (i = j)))
  | .str i, .str j => some (.bl (!decide (i = j)))
  | a, b => hEqD (fun x => !x) a b
def rEqX (K : Fg) : R2 := fun x y H Q => rEq x y H Q ∨ rEqD K x y H Q
def rNeX (K : Fg) : R2 := fun x y H Q => rNe x y H Q ∨ rNeD K x y H Q
section
variable {X : Cx}
theorem op_eqX (hu : X.A.units + 64 < cLine) : OpR X (compareOp .Eq) (rEqX X.K) := by
  intro pins s σ H x y v u Q I rx ry h
  rcases h with h | h
  · exact op_eq pins s σ H x y v u Q I rx ry h
  · exact op_eqD hu pins s σ H x y v u Q I rx ry h
theorem op_neX (hu : X.A.units + 64 < cLine) : OpR X (compareOp .NotEq) (rNeX X.K) := by
  intro pins s σ H x y v u Q I rx ry h
  rcases h with h | h
  · exact op_ne pins s σ H x y v u Q I rx ry h
  · exact op_neD hu pins s σ H x y v u Q I rx ry h
end
theorem vint {i j : Int} : decide (V.int i = V.int j) = decide (i = j) := by
  rw [Bool.eq_iff_iff]; simp
theorem vbl {i j : Bool} : decide (V.bl i = V.bl j) = decide (i = j) := by
  rw [Bool.eq_iff_iff]; simp
theorem vstr {i j : Str} : decide (V.str i = V.str j) = decide (i = j) := by
  rw [Bool.eq_iff_iff]; simp
theorem eqD_core {K : Fg} {W : Wd} {M : Hp} {k : Bool → Bool} {x y : V} {a b s : SV} (ra : RepS K W M x a) (rb : RepS K W M y b) (e : hEqD k a b = some s) :
    ∃ d e' r, Dp K M x d ∧ Dp K M y e' ∧ SeqAt.shaped d = true ∧ SeqAt.shaped e' = true ∧ PyData.eqv d e' = r ∧ s = .bl (k r) := by
  unfold hEqD at e
  split at e
  · rename_i d1 d2 r h1 h2 h3
    split at e
    · rename_i hd
      cases e
      have z1 := pd_shaped a d1 h1
      have z2 := pd_shaped b d2 h2
      refine ⟨d1, d2, r, ra.dp h1, rb.dp h2, ?_, ?_, pd_eqv a b d1 d2 r h1 h2 h3, rfl⟩
      · unfold SeqAt.shaped; rw [z1.1, z1.2, decide_eq_true hd.1]; rfl
      · unfold SeqAt.shaped; rw [z2.1, z2.2, decide_eq_true hd.2]; rfl
    · cases e
  · cases e
section
variable {K : Fg} {H H' : Hp}
mutual
theorem Dp.mono (e : Same H H') : ∀ {v : V} {d : PyData}, Dp K H v d → Dp K H' v d
  | _, _, .non => .non
  | _, _, .bl b => .bl b
  | _, _, .int i => .int i
  | _, _, .str x => .str x
  | _, _, .lst h r => .lst (e.seq h) (DpAll.mono e r)
  | _, _, .tup h r => .tup (sqT_mono e h) (DpAll.mono e r)
theorem DpAll.mono (e : Same H H') : ∀ {vs : List V} {ds : List PyData}, DpAll K H vs ds → DpAll K H' vs ds
  | _, _, .nil => .nil
  | _, _, .cons h t => .cons (Dp.mono e h) (DpAll.mono e t)
end
end
theorem msk_sub {O : List Addr} {H : Hp} : Same (msk O H) H := fun _ _ e => (of_msk e).1
theorem r2_eq {K : Fg} : R2S K (rEqX K) hEq := by
  intro W O H x y a b s ra rb e hO Q q
  unfold hEq at e
  split at e
  · cases e; cases ra; cases rb
    exact .inl ⟨rfl, by rw [vint]; exact q _ H (Same.refl H) .bl⟩
  · cases e; cases ra; cases rb
    exact .inl ⟨rfl, by rw [vbl]; exact q _ H (Same.refl H) .bl⟩
  · cases e; cases ra; cases rb
    exact .inl ⟨rfl, by rw [vstr]; exact q _ H (Same.refl H) .bl⟩
  · obtain ⟨d, e', r, h1, h2, h3, h4, h5, rfl⟩ := eqD_core ra rb e
    exact .inr ⟨d, e', Dp.mono msk_sub h1, Dp.mono msk_sub h2, h3, h4, by rw [h5]; exact q _ H (Same.refl H) .bl⟩
theorem r2_ne {K : Fg} : R2S K (rNeX K) hNe := by
  intro W O H x y a b s ra rb e hO Q q
  unfold hNe at e
  split at e
  · cases e; cases ra; cases rb
    exact .inl ⟨rfl, by rw [vint]; exact q _ H (Same.refl H) .bl⟩
  · cases e; cases ra; cases rb
    exact .inl ⟨rfl, by rw [vbl]; exact q _ H (Same.refl H) .bl⟩
  · cases e; cases ra; cases rb
    exact .inl ⟨rfl, by rw [vstr]; exact q _ H (Same.refl H) .bl⟩
  · obtain ⟨d, e', r, h1, h2, h3, h4, h5, rfl⟩ := eqD_core ra rb e
    exact .inr ⟨d, e', Dp.mono msk_sub h1, Dp.mono msk_sub h2, h3, h4, by rw [h5]; exact q _ H (Same.refl H) .bl⟩
/-- x in a list of data -/
def hInD (k : Bool → Bool) (a b : SV) : Option SV := match b with
  | .lst xs => match a.pd, SV.pds xs, xs.mapM (fun z => SV.eq z a) with
    | some _, some _, some rs => if a.dep ≤ 64 ∧ (SV.lst xs).dep ≤ 64 then some (.bl (k (rs.any fun r => r))) else none
    | _, _, _ => none
  | _ => none
theorem any_eqv {a : SV} {d : PyData} (h : a.pd = some d) : ∀ (xs : List SV) (ds : List PyData) (rs : List Bool), SV.pds xs = some ds → xs.mapM (fun z => SV.eq z a) = some rs → (ds.any fun z => PyData.eqv z d) = rs.any fun r => r
  | [], ds, rs, h1, h2 => by
    simp [SV.pds] at h1; simp at h2; subst h1; subst h2; rfl
  | x :: xs, ds, rs, h1, h2 => by
    simp only [SV.pds, Option.bind_eq_some_iff, Option.map_eq_some_iff] at h1
    obtain ⟨p, hp, q, hq, rfl⟩ := h1
    simp only [List.mapM_cons, Option.bind_eq_bind, Option.bind_eq_some_iff, Option.pure_def, Option.some.injEq] at h2
    obtain ⟨r, hr, rs', hrs, rfl⟩ := h2
    rw [List.any_cons, List.any_cons, any_eqv h xs q rs' hq hrs, pd_eqv x a p d r hp h hr]
theorem inD_core {K : Fg} {W : Wd} {M : Hp} {k : Bool → Bool} {x y : V} {a b s : SV} (ra : RepS K W M x a) (rb : RepS K W M y b) (e : hInD k a b = some s) :
    ∃ d ds r, Dp K M x d ∧ Dp K M y (.list ds) ∧ SeqAt.shaped d = true ∧ SeqAt.shaped (.list ds) = true ∧ (ds.any fun z => PyData.eqv z d) = r ∧ s = .bl (k r) := by
  unfold hInD at e
  split at e
  · rename_i xs
    split at e
    · rename_i d1 d2 rs h1 h2 h3
      split at e
      · rename_i hd
        cases e
        have hl : (SV.lst xs).pd = some (.list d2) := by simp only [SV.pd]; rw [h2]; rfl
        have z1 := pd_shaped a d1 h1
        have z2 := pd_shaped (.lst xs) _ hl
        refine ⟨d1, d2, _, ra.dp h1, rb.dp hl, ?_, ?_, any_eqv h1 xs d2 rs h2 h3, rfl⟩
        · unfold SeqAt.shaped; rw [z1.1, z1.2, decide_eq_true hd.1]; rfl
        · unfold SeqAt.shaped; rw [z2.1, z2.2, decide_eq_true hd.2]; rfl
      · cases e
    · cases e
  · cases e
theorem r2_in {K : Fg} : R2S K (rInD K) (hInD fun x => x) := by
  intro W O H x y a b s ra rb e hO Q q
  obtain ⟨d, ds, r, h1, h2, h3, h4, h5, rfl⟩ := inD_core ra rb e
  exact ⟨d, ds, Dp.mono msk_sub h1, Dp.mono msk_sub h2, h3, h4, by rw [h5]; exact q _ H (Same.refl H) .bl⟩
theorem r2_notIn {K : Fg} : R2S K (rNotInD K) (hInD fun x => !x) := by
  intro W O H x y a b s ra rb e hO Q q
  obtain ⟨d, ds, r, h1, h2, h3, h4, h5, rfl⟩ := inD_core ra rb e
  exact ⟨d, ds, Dp.mono msk_sub h1, Dp.mono msk_sub h2, h3, h4, by rw [h5]; exact q _ H (Same.refl H) .bl⟩
section
variable {X : Cx} {e a b c : Expr} {f fa fb fc : EF} {h ha' : OF} {pos : Pos} {tt : TF}
theorem de_eq (hu : X.A.units + 64 < cLine) (ha : DE X a fa) (hb : DE X b fb) : DE X (.Compare a [.Eq] [b] pos) (b2 hEq fa fb) := de_cmp (op_eqX hu) r2_eq ha hb (nomark _)
theorem de_ne (hu : X.A.units + 64 < cLine) (ha : DE X a fa) (hb : DE X b fb) : DE X (.Compare a [.NotEq] [b] pos) (b2 hNe fa fb) := de_cmp (op_neX hu) r2_ne ha hb (nomark _)
theorem de_in (hu : X.A.units + 65 < cLine) (ha : DE X a fa) (hb : DE X b fb) (hm : behindInMarks .In b = false := by rfl) : DE X (.Compare a [.In] [b] pos) (b2 (hInD fun x => x) fa fb) := de_cmp (op_inD hu) r2_in ha hb hm
theorem de_notIn (hu : X.A.units + 65 < cLine) (ha : DE X a fa) (hb : DE X b fb) (hm : behindInMarks .NotIn b = false := by rfl) : DE X (.Compare a [.NotIn] [b] pos) (b2 (hInD fun x => !x) fa fb) := de_cmp (op_notInD hu) r2_notIn ha hb hm

/-! ### one-place operations -/
def u1 (k : SV → Option SV) (fa : EF) : EF := fun ρ g => (fa ρ g).bind fun p => (k p.1).map fun s => (s, p.2)
def hNeg : SV → Option SV
  | .int i => some (.int (-i))
  | _ => none
def hNot : SV → Option SV
  | .bl b => some (.bl (!b))
  | _ => none
theorem de_neg (ha : DE X a fa) : DE X (.UnaryOp .USub a pos) (u1 hNeg fa) := by
  obtain ⟨t, pt, qt⟩ := ha
  refine ⟨_, pe_un un_neg pt, fun B W O σ H ρ g s g' D e Q q => ?_⟩
  obtain ⟨⟨x, g1⟩, e1, e⟩ := Option.bind_eq_some_iff.mp e
  obtain ⟨s1, e3, e4⟩ := Option.map_eq_some_iff.mp e
  cases e4
  refine qt B W O σ H ρ g x g1 D e1 _ fun v H1 x1 h1 r1 => ?_
  cases x with
  | int i => cases e3; cases r1; exact ⟨i, rfl, q _ H1 x1 h1 .int⟩
  | _ => cases e3
theorem de_not (ha : DE X a fa) : DE X (.UnaryOp .Not a pos) (u1 hNot fa) := by
  obtain ⟨t, pt, qt⟩ := ha
  refine ⟨_, pe_not pt, fun B W O σ H ρ g s g' D e Q q => ?_⟩
  obtain ⟨⟨x, g1⟩, e1, e⟩ := Option.bind_eq_some_iff.mp e
  obtain ⟨s1, e3, e4⟩ := Option.map_eq_some_iff.mp e
  cases e4
  refine qt B W O σ H ρ g x g1 D e1 _ fun v H1 x1 h1 r1 => ?_
  cases x with
  | bl i => cases e3; cases r1; exact ⟨i, rfl, q _ H1 x1 h1 .bl⟩
  | _ => cases e3
/-- x is None, x is not None -/
def isN (k : Bool → Bool) : DV → Option SV
  | .sh .non => some (.bl (k true))
  | .sh (.raw _) => none
  | _ => some (.bl (k false))
def u1P (k : DV → Option SV) (fa : OF) : EF := fun ρ g => (fa ρ g).bind fun p => (k p.1).map fun s => (s, p.2)
theorem isN_ok {K : Fg} {W : Wd} {O : List Addr} {H : Hp} {k : Bool → Bool} {v : V} {d : DV} {fp : List Addr} {s : SV} (r : Rep K W O H v d fp) (e : isN k d = some s) : s = .bl (k (decide (v = .non))) := by
  unfold isN at e
  split at e
  · cases e; cases r with
    | sh r => cases r; rfl
  · cases e
  · rename_i h1 h2
    cases e
    have hv : v ≠ .non := by
      rintro rfl
      cases r with
      | sh r => cases r with
        | non => exact h1 rfl
        | raw => exact h2 _ rfl
    rw [decide_eq_false hv]
theorem de_isN (ha : DP X a ha') {k : Nat} {p2 : Pos} : DE X (.Compare a [.Is] [.Constant .none k p2] pos) (u1P (isN fun x => x) ha') := by
  obtain ⟨t, pt, qt⟩ := ha
  refine ⟨_, pe_cmpR op_isN pt pe_non (nomark _), fun B W O σ H ρ g s g' D e Q q => ?_⟩
  obtain ⟨⟨x, g1⟩, e1, e⟩ := Option.bind_eq_some_iff.mp e
  obtain ⟨s1, e3, e4⟩ := Option.map_eq_some_iff.mp e
  cases e4
  refine qt B W O σ H ρ g x g1 D e1 _ fun v H1 fp x1 h1 r1 => ?_
  have z := isN_ok r1 e3
  subst z
  exact ⟨rfl, q _ H1 x1 h1 .bl⟩
theorem de_notN (ha : DP X a ha') {k : Nat} {p2 : Pos} : DE X (.Compare a [.IsNot] [.Constant .none k p2] pos) (u1P (isN fun x => !x) ha') := by
  obtain ⟨t, pt, qt⟩ := ha
  refine ⟨_, pe_cmpR op_notN pt pe_non (nomark _), fun B W O σ H ρ g s g' D e Q q => ?_⟩
  obtain ⟨⟨x, g1⟩, e1, e⟩ := Option.bind_eq_some_iff.mp e
  obtain ⟨s1, e3, e4⟩ := Option.map_eq_some_iff.mp e
  cases e4
  refine qt B W O σ H ρ g x g1 D e1 _ fun v H1 fp x1 h1 r1 => ?_
  have z := isN_ok r1 e3
  subst z
  exact ⟨rfl, q _ H1 x1 h1 .bl⟩

/-! ### tests -/
def tB1 (f : EF) : TF := fun ρ g => (f ρ g).bind fun p => match p.1 with
  | .bl b => some (b, p.2)
  | _ => none
def tAnd1 (a b : TF) : TF := fun ρ g => (a ρ g).bind fun p => if p.1 = true then b ρ p.2 else some (false, p.2)
def tOr1 (a b : TF) : TF := fun ρ g => (a ρ g).bind fun p => if p.1 = true then some (true, p.2) else b ρ p.2
def tNot1 (a : TF) : TF := fun ρ g => (a ρ g).map fun p => (!p.1, p.2)
theorem tB1s {K : Fg} {t : TE} (h : DEs K t f) : DTs K (fun σ H Q => t σ H fun x H1 => ∃ c, x = .bl c ∧ Q c H1) (tB1 f) := by
  intro B W O σ H ρ g b g' D e Q q
  obtain ⟨⟨x, g1⟩, e1, e⟩ := Option.bind_eq_some_iff.mp e
  refine h B W O σ H ρ g x g1 D e1 _ fun v H1 x1 h1 r1 => ?_
  cases x with
  | bl i => cases e; cases r1; exact ⟨_, rfl, q H1 x1 h1⟩
  | _ => cases e
theorem dt_val (h : DE X e f) (he : ∀ whole, isTrue e X.env whole = (do let v ← whole; standAt e.pos; holding [v] (truthy v)) := by intro _; rfl) : DT X e (tB1 f) := by
  obtain ⟨t, pt, qt⟩ := h
  exact ⟨_, pt_val pt he, tB1s qt⟩
theorem dt_not (h : DT X a tt) : DT X (.UnaryOp .Not a pos) (tNot1 tt) := by
  obtain ⟨t, pt, qt⟩ := h
  refine ⟨_, pt_not pt, fun B W O σ H ρ g b g' D e Q q => ?_⟩
  obtain ⟨⟨x, g1⟩, e1, e2⟩ := Option.map_eq_some_iff.mp e
  cases e2
  exact qt B W O σ H ρ g x g1 D e1 _ fun H1 x1 h1 => q H1 x1 h1
variable {ta tb : TF} {rest : List Expr}
theorem dw_and1 (h : DT X a ta) : DW X (.BoolOp .And [a] pos) ta := by
  obtain ⟨t, pt, qt⟩ := h
  exact ⟨t, pw_and1 pt, qt⟩
theorem dw_or1 (h : DT X a ta) : DW X (.BoolOp .Or [a] pos) ta := by
  obtain ⟨t, pt, qt⟩ := h
  exact ⟨t, pw_or1 pt, qt⟩
theorem dw_and (h : DT X a ta) (h2 : DW X (.BoolOp .And (b :: rest) pos) tb) : DW X (.BoolOp .And (a :: b :: rest) pos) (tAnd1 ta tb) := by
  obtain ⟨t, pt, qt⟩ := h
  obtain ⟨u, pu, qu⟩ := h2
  refine ⟨_, pw_and pt pu, fun B W O σ H ρ g b g' D e Q q => ?_⟩
  obtain ⟨⟨x, g1⟩, e1, e⟩ := Option.bind_eq_some_iff.mp e
  refine qt B W O σ H ρ g x g1 D e1 _ fun H1 x1 h1 => ?_
  cases x with
  | true =>
    rw [if_pos rfl] at e ⊢
    exact qu B W O σ H1 ρ g1 b g' (D.step x1 h1) e Q fun H2 x2 h2 => q H2 (x1.trans x2) h2
  | false =>
    dsimp only at e
    rw [if_neg Bool.false_ne_true] at e ⊢
    cases e
    exact q H1 x1 h1
theorem dw_or (h : DT X a ta) (h2 : DW X (.BoolOp .Or (b :: rest) pos) tb) : DW X (.BoolOp .Or (a :: b :: rest) pos) (tOr1 ta tb) := by
  obtain ⟨t, pt, qt⟩ := h
  obtain ⟨u, pu, qu⟩ := h2
  refine ⟨_, pw_or pt pu, fun B W O σ H ρ g b g' D e Q q => ?_⟩
  obtain ⟨⟨x, g1⟩, e1, e⟩ := Option.bind_eq_some_iff.mp e
  refine qt B W O σ H ρ g x g1 D e1 _ fun H1 x1 h1 => ?_
  cases x with
  | false =>
    dsimp only at e
    rw [if_neg Bool.false_ne_true] at e ⊢
    exact qu B W O σ H1 ρ g1 b g' (D.step x1 h1) e Q fun H2 x2 h2 => q H2 (x1.trans x2) h2
  | true =>
    rw [if_pos rfl] at e ⊢
    cases e
    exact q H1 x1 h1
theorem DW.t (h : DW X e ta) : DT X e ta := by
  obtain ⟨t, pt, qt⟩ := h
  exact ⟨t, pt.pt, qt⟩
def ifV (c : TF) (fa fb : EF) : EF := fun ρ g => (c ρ g).bind fun p => if p.1 = true then fa ρ p.2 else fb ρ p.2
theorem de_ifExp (hc : DT X c tt) (ha : DE X a fa) (hb : DE X b fb) : DE X (.IfExp c a b pos) (ifV tt fa fb) := by
  obtain ⟨t, pt, qt⟩ := hc
  obtain ⟨u, pu, qu⟩ := ha
  obtain ⟨w, pw, qw⟩ := hb
  refine ⟨_, pe_ifExp pt pu pw, fun B W O σ H ρ g s g' D e Q q => ?_⟩
  obtain ⟨⟨x, g1⟩, e1, e⟩ := Option.bind_eq_some_iff.mp e
  refine qt B W O σ H ρ g x g1 D e1 _ fun H1 x1 h1 => ?_
  cases x with
  | true =>
    rw [if_pos rfl] at e ⊢
    exact qu B W O σ H1 ρ g1 s g' (D.step x1 h1) e Q fun v H2 x2 h2 => q v H2 (x1.trans x2) h2
  | false =>
    dsimp only at e
    rw [if_neg Bool.false_ne_true] at e ⊢
    exact qw B W O σ H1 ρ g1 s g' (D.step x1 h1) e Q fun v H2 x2 h2 => q v H2 (x1.trans x2) h2
/-- and, or as values: all but the last are truth values -/
def vAnd (a : EF) (b : EF) : EF := fun ρ g => (a ρ g).bind fun p => match p.1 with
  | .bl true => b ρ p.2
  | .bl false => some (.bl false, p.2)
  | _ => none
def vOr (a : EF) (b : EF) : EF := fun ρ g => (a ρ g).bind fun p => match p.1 with
  | .bl false => b ρ p.2
  | .bl true => some (.bl true, p.2)
  | _ => none
theorem de_one {op} (h : DE X a fa) : DE X (.BoolOp op [a] pos) fa := by
  obtain ⟨t, pt, qt⟩ := h
  exact ⟨t, pe_one pt, qt⟩
theorem de_and (h : DE X a fa) (h2 : DE X (.BoolOp .And (b :: rest) pos) fb) : DE X (.BoolOp .And (a :: b :: rest) pos) (vAnd fa fb) := by
  obtain ⟨t, pt, qt⟩ := h
  obtain ⟨u, pu, qu⟩ := h2
  refine ⟨_, pe_and pt pu, fun B W O σ H ρ g s g' D e Q q => ?_⟩
  obtain ⟨⟨x, g1⟩, e1, e⟩ := Option.bind_eq_some_iff.mp e
  refine qt B W O σ H ρ g x g1 D e1 _ fun v H1 x1 h1 r1 => ?_
  cases x with
  | bl i =>
    cases r1
    refine ⟨i, rfl, ?_⟩
    cases i with
    | true =>
      rw [if_pos rfl]
      exact qu B W O σ H1 ρ g1 s g' (D.step x1 h1) e Q fun v H2 x2 h2 => q v H2 (x1.trans x2) h2
    | false =>
      rw [if_neg (by decide)]
      cases e
      exact q _ H1 x1 h1 .bl
  | _ => cases e
theorem de_or (h : DE X a fa) (h2 : DE X (.BoolOp .Or (b :: rest) pos) fb) : DE X (.BoolOp .Or (a :: b :: rest) pos) (vOr fa fb) := by
  obtain ⟨t, pt, qt⟩ := h
  obtain ⟨u, pu, qu⟩ := h2
  refine ⟨_, pe_or pt pu, fun B W O σ H ρ g s g' D e Q q => ?_⟩
  obtain ⟨⟨x, g1⟩, e1, e⟩ := Option.bind_eq_some_iff.mp e
  refine qt B W O σ H ρ g x g1 D e1 _ fun v H1 x1 h1 r1 => ?_
  cases x with
  | bl i =>
    cases r1
    refine ⟨i, rfl, ?_⟩
    cases i with
    | false =>
      rw [if_neg (by decide)]
      exact qu B W O σ H1 ρ g1 s g' (D.step x1 h1) e Q fun v H2 x2 h2 => q v H2 (x1.trans x2) h2
    | true =>
      rw [if_pos rfl]
      cases e
      exact q _ H1 x1 h1 .bl
  | _ => cases e

/-! ### items -/
def SV.seq? : SV → Option (List SV)
  | .tup xs => some xs
  | .lst xs => some xs
  | _ => none
def hIx (a b : SV) : Option SV := match a.seq?, b with
  | some xs, .int i => atI xs i
  | _, _ => none
theorem atI_rep {K : Fg} {W : Wd} {M : Hp} {vs : List V} {xs : List SV} {i : Int} {s : SV} (r : RepSs K W M vs xs) (e : atI xs i = some s) : ∃ v, atI vs i = some v ∧ RepS K W M v s := by
  unfold atI at e ⊢
  rw [r.length]
  obtain ⟨j, e1, e2⟩ := Option.bind_eq_some_iff.mp e
  obtain ⟨v, e3, r3⟩ := r.get e2
  exact ⟨v, by rw [e1]; exact e3, r3⟩
theorem r2_ix {K : Fg} : R2S K (rIx K) hIx := by
  intro W O H x y a b s ra rb e hO Q q
  unfold hIx at e
  split at e
  · rename_i xs i h1
    cases rb
    cases ra with
    | tup hq r =>
      cases h1
      obtain ⟨v, e1, r1⟩ := atI_rep r e
      exact .inr (.inl ⟨_, _, i, v, rfl, rfl, sqT_mono msk_sub hq, e1, q v H (Same.refl H) r1⟩)
    | lst hq r =>
      cases h1
      obtain ⟨v, e1, r1⟩ := atI_rep r e
      exact .inl ⟨_, _, i, v, rfl, rfl, .inl (.inl (of_msk hq).1), e1, q v H (Same.refl H) r1⟩
    | _ => cases h1
  · cases e
theorem de_ix (ha : DE X a fa) (hb : DE X b fb) (hs : PlainIx b := by exact fun _ _ => rfl) : DE X (.Subscript a b pos) (b2 hIx fa fb) := by
  obtain ⟨t, pt, qt⟩ := ha
  obtain ⟨u, pu, qu⟩ := hb
  exact ⟨_, pe_ix ix_seq pt pu hs, op2s r2_ix qt qu⟩
/-- an item of a thing that is looked at -/
def DV.at (d : DV) (i : Int) : Option DV := match d with
  | .own ds => atI ds i
  | .sh s => s.seq?.bind fun xs => (atI xs i).map .sh
  | .ins _ _ _ => none
  | .tup ds => atI ds i
def ixP (fa : OF) (fb : EF) : OF := fun ρ g => (fa ρ g).bind fun p => (fb ρ p.2).bind fun q => match q.1 with
  | .int i => (p.1.at i).map fun d => (d, q.2)
  | _ => none
theorem atI_reps {K : Fg} {W : Wd} {O : List Addr} {M : Hp} {vs : List V} {ds : List DV} {fp : List Addr} {i : Int} {d : DV} (r : Reps K W O M vs ds fp) (e : atI ds i = some d) : ∃ v fq, atI vs i = some v ∧ Rep K W O M v d fq := by
  unfold atI at e ⊢
  rw [r.length]
  obtain ⟨j, e1, e2⟩ := Option.bind_eq_some_iff.mp e
  obtain ⟨v, fq, e3, r3⟩ := r.get e2
  exact ⟨v, fq, by rw [e1]; exact e3, r3⟩
theorem dp_ix {ga : OF} (ha : DP X a ga) (hb : DE X b fb) (hs : PlainIx b := by exact fun _ _ => rfl) : DP X (.Subscript a b pos) (ixP ga fb) := by
  obtain ⟨t, pt, qt⟩ := ha
  obtain ⟨u, pu, qu⟩ := hb
  refine ⟨_, pe_ix ix_seq pt pu hs, fun B W O σ H ρ g d g' D e Q q => ?_⟩
  obtain ⟨⟨x, g1⟩, e1, e⟩ := Option.bind_eq_some_iff.mp e
  obtain ⟨⟨y, g2⟩, e2, e⟩ := Option.bind_eq_some_iff.mp e
  refine qt B W O σ H ρ g x g1 D e1 _ fun v H1 fp x1 h1 r1 => ?_
  have D1 := D.step x1 h1
  refine qu B W O σ H1 ρ g1 y g2 D1 e2 _ fun w H2 x2 h2 r2 => ?_
  have r1' := r1.mono (D1.toDen0.keep x2) x2 (fun a m => (r1.inO a m).1)
  cases y with
  | int i =>
    obtain ⟨d1, e3, e4⟩ := Option.map_eq_some_iff.mp e
    cases e4
    cases r2
    cases r1' with
    | own ho hw hl rs =>
      obtain ⟨z, fq, e5, r5⟩ := atI_reps rs e3
      exact .inl ⟨_, _, i, z, rfl, rfl, .inl (.inl hl), e5, q z H2 fq (x1.trans x2) h2 r5⟩
    | ins _ _ _ _ _ _ => cases e3
    | tup hq rs =>
      obtain ⟨z, fq, e5, r5⟩ := atI_reps rs e3
      exact .inr (.inl ⟨_, _, i, z, rfl, rfl, sqT_mono msk_sub hq, e5, q z H2 fq (x1.trans x2) h2 r5⟩)
    | sh r =>
      obtain ⟨xs, e5, e6⟩ := Option.bind_eq_some_iff.mp e3
      obtain ⟨s, e7, e8⟩ := Option.map_eq_some_iff.mp e6
      subst e8
      cases r with
      | tup hq r =>
        cases e5
        obtain ⟨v, e1, r1⟩ := atI_rep r e7
        exact .inr (.inl ⟨_, _, i, v, rfl, rfl, sqT_mono msk_sub hq, e1, q v H2 [] (x1.trans x2) h2 (.sh r1)⟩)
      | lst hq r =>
        cases e5
        obtain ⟨v, e1, r1⟩ := atI_rep r e7
        exact .inl ⟨_, _, i, v, rfl, rfl, .inl (.inl (of_msk hq).1), e1, q v H2 [] (x1.trans x2) h2 (.sh r1)⟩
      | _ => cases e5
  | _ => cases e
end
end DL

/-! DL3: arguments, displays, slices, calls. -/
namespace DL
open PySem PySem.Spec L2
theorem GOk.re {W : Wd} {O O2 : List Addr} {H : Hp} {g : GS} (h : GOk W O H g) (ho : ∀ a ∈ W.as, a ∈ O2) : GOk W O2 H g := by
  match W, h, ho with
  | ⟨none, _⟩, _, _ => trivial
  | ⟨some (a, b, c), _⟩, h, ho =>
    obtain ⟨h1, h2, h3, n1, n2, n3, h4, h5, h6⟩ := h
    exact ⟨ho a (by simp [Wd.as]), ho b (by simp [Wd.as]), ho c (by simp [Wd.as]), n1, n2, n3, h4, h5, h6⟩
def DV.items? : DV → Option (List SV)
  | .own ds => ds.mapM DV.sh?
  | .sh s => s.seq?
  | .ins _ _ _ => none
  | .tup ds => ds.mapM DV.sh?
theorem mapM_sh : ∀ xs : List SV, (xs.map DV.sh).mapM DV.sh? = some xs
  | [] => rfl
  | x :: xs => by simp [List.mapM_cons, DV.sh?, mapM_sh xs]
theorem of_mapM_sh : ∀ {ds : List DV} {xs : List SV}, ds.mapM DV.sh? = some xs → ds = xs.map DV.sh
  | [], xs, h => by simp at h; subst h; rfl
  | d :: ds, xs, h => by
    simp only [List.mapM_cons, Option.bind_eq_bind, Option.bind_eq_some_iff, Option.pure_def, Option.some.injEq] at h
    obtain ⟨s, h1, ys, h2, rfl⟩ := h
    cases d with
    | own _ => cases h1
    | ins _ _ _ => cases h1
    | tup _ => cases h1
    | sh s' => cases h1; rw [of_mapM_sh h2]; rfl
section
variable {K : Fg} {W : Wd} {O : List Addr} {H : Hp} {v : V} {d : DV} {fp : List Addr} {xs : List SV}
theorem Rep.items (r : Rep K W O H v d fp) (e : d.items? = some xs) : ∃ a vs, v = .ref a ∧ (SqL K H a vs ∨ SqT K H a vs) ∧ RepSs K W (msk O H) vs xs := by
  cases r with
  | ins _ _ _ _ _ _ => cases e
  | tup hq rs =>
    have e' := of_mapM_sh e
    subst e'
    exact ⟨_, _, rfl, .inr (sqT_mono msk_sub hq), (Reps.toS rs).1⟩
  | own ha hw h rs =>
    have e' := of_mapM_sh e
    subst e'
    exact ⟨_, _, rfl, .inl (.inl (.inl h)), (Reps.toS rs).1⟩
  | sh r =>
    cases r with
    | tup hq r => cases e; exact ⟨_, _, rfl, .inr (sqT_mono msk_sub hq), r⟩
    | lst hq r => cases e; exact ⟨_, _, rfl, .inl (.inl (.inl (of_msk hq).1)), r⟩
    | _ => cases e
/-- a list's items -/
def DV.lst? : DV → Option (List SV)
  | .own ds => ds.mapM DV.sh?
  | .sh (.lst xs) => some xs
  | _ => none
theorem Rep.list (r : Rep K W O H v d fp) (e : d.lst? = some xs) : ∃ a vs, v = .ref a ∧ H a = some (.lst vs) ∧ RepSs K W (msk O H) vs xs := by
  cases r with
  | ins _ _ _ _ _ _ => cases e
  | tup _ _ => cases e
  | own ha hw h rs =>
    have e' := of_mapM_sh e
    subst e'
    exact ⟨_, _, rfl, h, (Reps.toS rs).1⟩
  | sh r =>
    cases r with
    | lst hq r => cases e; exact ⟨_, _, rfl, (of_msk hq).1, r⟩
    | _ => cases e
/-- the length of a thing that is looked at -/
def DV.len? : DV → Option Nat
  | .own ds => some ds.length
  | .tup ds => some ds.length
  | .sh (.tup xs) => some xs.length
  | .sh (.lst xs) => some xs.length
  | _ => none
theorem Rep.len {n : Nat} (r : Rep K W O H v d fp) (e : d.len? = some n) : ∃ a vs, v = .ref a ∧ (SqL K H a vs ∨ SqT K H a vs) ∧ vs.length = n := by
  cases r with
  | ins _ _ _ _ _ _ => cases e
  | tup hq rs => cases e; exact ⟨_, _, rfl, .inr (sqT_mono msk_sub hq), rs.length⟩
  | own ha hw h rs => cases e; exact ⟨_, _, rfl, .inl (.inl (.inl h)), rs.length⟩
  | sh r =>
    cases r with
    | tup hq r => cases e; exact ⟨_, _, rfl, .inr (sqT_mono msk_sub hq), r.length⟩
    | lst hq r => cases e; exact ⟨_, _, rfl, .inl (.inl (.inl (of_msk hq).1)), r.length⟩
    | _ => cases e
end

theorem log2_lt_pow {n k : Nat} (h : n.log2 < k) : n < 2 ^ k := by
  by_cases h0 : n = 0
  · subst h0; exact Nat.two_pow_pos k
  · exact Nat.lt_of_lt_of_le (Nat.log2_lt h0 |>.mp (Nat.lt_succ_self _)) (Nat.pow_le_pow_right (by decide) h)
theorem log2_of_lt {n k : Nat} (hk : 0 < k) (h : n < 2 ^ k) : n.log2 < k := by
  by_cases h0 : n = 0
  · subst h0; simpa using hk
  · exact (Nat.log2_lt h0).mpr h
/-- not too long -/
def lenOk (n : Nat) : Bool := decide (n.log2 < 20)
theorem lenOk_of {n : Nat} (h : n ≤ 1000000) : lenOk n = true := decide_eq_true (log2_of_lt (by decide) (Nat.lt_of_le_of_lt h (by decide)))
theorem lenOk_lt {n : Nat} (h : lenOk n = true) : n < 1048576 := log2_lt_pow (k := 20) (of_decide_eq_true h)
def rngOk (n : Int) : Bool := decide (n.natAbs.log2 < 60)
theorem rngOk_lt {n : Int} (h : rngOk n = true) : n.natAbs < 1152921504606846976 := log2_lt_pow (k := 60) (of_decide_eq_true h)
theorem rngOk_of {n : Nat} (h : n ≤ 1000000) : rngOk (n : Int) = true := decide_eq_true (by rw [Int.natAbs_natCast]; exact log2_of_lt (by decide) (Nat.lt_of_le_of_lt h (by decide)))
/-! ### arguments, displays -/
def aN : AF := fun _ g => some ([], g)
def aC (f : EF) (fs : AF) : AF := fun ρ g => (f ρ g).bind fun p => (fs ρ p.2).map fun q => (p.1 :: q.1, q.2)
abbrev AOF := Env → GS → Option (List DV × GS)
def DAOs (K : Fg) (t : TA) (f : AOF) : Prop := ∀ B W O σ H ρ g s g', Den K B W O σ H ρ g → f ρ g = some (s, g') →
  ∀ Q : List V → Hp → Prop, (∀ v H' fp, Ext W H H' → GOk W B.1 H' g' → fp.Nodup → (∀ a ∈ fp, H a = none ∧ H' a ≠ none) → Reps K W (fp ++ O) H' v s fp → Q v H') → t σ H Q
def DAO (X : Cx) (es : List Expr) (f : AOF) : Prop := ∃ t, PA X es t ∧ DAOs X.K t f
def oN : AOF := fun _ g => some ([], g)
def oC (f : OF) (fs : AOF) : AOF := fun ρ g => (f ρ g).bind fun p => (fs ρ p.2).map fun q => (p.1 :: q.1, q.2)
def tupF (f : AF) : EF := fun ρ g => (f ρ g).bind fun p => if p.1.length ≤ 1000 then some (.tup p.1, p.2) else none
def lstF (f : AOF) : OF := fun ρ g => (f ρ g).bind fun p => if p.1.length ≤ 1000 then some (.own p.1, p.2) else none
theorem le1000 {n : Nat} (h : n ≤ 1000) : n ≤ sizeLine := Nat.le_of_lt (small1000 h)
section
variable {X : Cx} {e a b c : Expr} {es : List Expr} {f fa fb fc : EF} {h h' : OF} {fs : AF} {os : AOF} {pos : Pos}
theorem da_nil : DA X [] aN := ⟨_, pa_nil, fun B W O σ H ρ g s g' D e Q q => by cases e; exact q [] H Ext.refl D.gen .nil⟩
theorem da_cons (ha : DE X e f) (hr : DA X es fs) (hs : starEach (e :: es) X.env = (false, eval e X.env) :: starEach es X.env := by rfl) : DA X (e :: es) (aC f fs) := by
  obtain ⟨t, pt, qt⟩ := ha
  obtain ⟨u, pu, qu⟩ := hr
  refine ⟨_, pa_cons pt pu hs, fun B W O σ H ρ g s g' D e Q q => ?_⟩
  obtain ⟨⟨x, g1⟩, e1, e⟩ := Option.bind_eq_some_iff.mp e
  obtain ⟨⟨xs, g2⟩, e2, e3⟩ := Option.map_eq_some_iff.mp e
  cases e3
  refine qt B W O σ H ρ g x g1 D e1 _ fun v H1 x1 h1 r1 => ?_
  have D1 := D.step x1 h1
  refine qu B W O σ H1 ρ g1 xs g2 D1 e2 _ fun vs H2 x2 h2 r2 => ?_
  exact q _ H2 (x1.trans x2) h2 (.cons (r1.mono (D1.toDen0.keep x2)) r2)
theorem dao_nil : DAO X [] oN := ⟨_, pa_nil, fun B W O σ H ρ g s g' D e Q q => by cases e; exact q [] H [] Ext.refl D.gen List.nodup_nil (fun a z => by simp at z) .nil⟩
theorem dao_cons (ha : DO X e h) (hr : DAO X es os) (hs : starEach (e :: es) X.env = (false, eval e X.env) :: starEach es X.env := by rfl) : DAO X (e :: es) (oC h os) := by
  obtain ⟨t, pt, qt⟩ := ha
  obtain ⟨u, pu, qu⟩ := hr
  refine ⟨_, pa_cons pt pu hs, fun B W O σ H ρ g s g' D e Q q => ?_⟩
  obtain ⟨⟨x, g1⟩, e1, e⟩ := Option.bind_eq_some_iff.mp e
  obtain ⟨⟨xs, g2⟩, e2, e3⟩ := Option.map_eq_some_iff.mp e
  cases e3
  refine qt B W O σ H ρ g x g1 D e1 _ fun v H1 fp x1 h1 n1 f1 r1 => ?_
  have D1 := D.grow (fp := fp) x1 h1 f1
  refine qu B W _ σ H1 ρ g1 xs g2 D1 e2 _ fun vs H2 fq x2 h2 n2 f2 r2 => ?_
  refine q _ H2 (fp ++ fq) (x1.trans x2) h2 ?_ ?_ (.cons ?_ ?_)
  · rw [List.nodup_append]
    exact ⟨n1, n2, fun a ha b hb z => (f1 a ha).2 (by rw [z]; exact (f2 b hb).1)⟩
  · intro a ha
    rcases List.mem_append.mp ha with m | m
    · refine ⟨(f1 a m).1, ?_⟩
      have hw := (r1.inO a m).2.1
      cases q : H1 a with
      | none => exact absurd q (f1 a m).2
      | some o => rw [x2 a o hw q]; simp
    · refine ⟨?_, (f2 a m).2⟩
      cases q : H a with
      | none => rfl
      | some o =>
        by_cases hw : a ∈ W.as
        · exact absurd (f2 a m).1 (D1.dom a (D1.toDen0.was a hw))
        · have := (f2 a m).1
          rw [x1 a o hw q] at this; cases this
  · refine (r1.mono (D1.toDen0.keeps x2 fun a z => (f2 a z).1) x2 fun a m => List.mem_append_right _ (r1.inO a m).1).mono ?_ Ext.refl fun a m => List.mem_append_left _ (List.mem_append_left _ m)
    exact msk_le fun b z => by
      rcases List.mem_append.mp z with z | z
      · rcases List.mem_append.mp z with z | z
        · exact List.mem_append_right _ (List.mem_append_left _ z)
        · exact List.mem_append_left _ z
      · exact List.mem_append_right _ (List.mem_append_right _ z)
  · refine r2.mono ?_ Ext.refl fun a m => List.mem_append_left _ (List.mem_append_right _ m)
    exact msk_le fun b z => by
      rcases List.mem_append.mp z with z | z
      · rcases List.mem_append.mp z with z | z
        · exact List.mem_append_right _ (List.mem_append_left _ z)
        · exact List.mem_append_left _ z
      · exact List.mem_append_right _ (List.mem_append_right _ z)
theorem de_tup {k : Nat} (ha : DA X es fs) : DE X (.Tuple es k pos) (tupF fs) := by
  obtain ⟨t, pt, qt⟩ := ha
  refine ⟨_, pe_tup pt, fun B W O σ H ρ g s g' D e Q q => ?_⟩
  obtain ⟨⟨xs, g1⟩, e1, e⟩ := Option.bind_eq_some_iff.mp e
  split at e
  · rename_i hl
    cases e
    refine qt B W O σ H ρ g xs g1 D e1 _ fun vs H1 x1 h1 r1 => ⟨by rw [r1.length]; exact le1000 hl, fun p hp => ?_⟩
    have D1 := D.step x1 h1
    exact q _ _ (x1.trans (Same.ext (keep_new hp))) (h1.same (keep_new hp)) (rep_tup D1.dom hp r1)
  · cases e
theorem do_lst (ha : DAO X es os) : DO X (.List es pos) (lstF os) := by
  obtain ⟨t, pt, qt⟩ := ha
  refine ⟨_, pe_lst pt, fun B W O σ H ρ g s g' D e Q q => ?_⟩
  obtain ⟨⟨xs, g1⟩, e1, e⟩ := Option.bind_eq_some_iff.mp e
  split at e
  · rename_i hl
    cases e
    refine qt B W O σ H ρ g xs g1 D e1 _ fun vs H1 fp x1 h1 n1 f1 r1 => ⟨by rw [r1.length]; exact le1000 hl, fun p hp => ?_⟩
    have D1 := D.step x1 h1
    refine q _ _ (p :: fp) (x1.trans (Same.ext (keep_new hp))) (h1.same (keep_new hp)) ?_ ?_ (rep_own D1.dom D1.toDen0.was hp r1)
    · exact List.nodup_cons.mpr ⟨fun z => (f1 p z).2 hp, n1⟩
    · intro a ha
      rcases List.mem_cons.mp ha with m | m
      · subst m
        refine ⟨?_, by rw [upd_same]; simp⟩
        cases q : H a with
        | none => rfl
        | some o =>
          by_cases hw : a ∈ W.as
          · exact absurd hp (D1.dom a (D1.toDen0.was a hw))
          · rw [x1 a o hw q] at hp; cases hp
      · refine ⟨(f1 a m).1, ?_⟩
        rw [upd_ne (fun z => (f1 a m).2 (by rw [z]; exact hp))]
        exact (f1 a m).2
  · cases e
/-- something that lays a new list of shared items -/
theorem new_own {K : Fg} {B : Bs} {W : Wd} {O : List Addr} {σ : St} {H H1 : Hp} {ρ : Env} {g g1 : GS} {p : Addr} {vs : List V} {xs : List SV} {Q : VK} (D : Den K B W O σ H ρ g) (x1 : Ext W H H1) (h1 : GOk W B.1 H1 g1) (hp : H1 p = none) (r : RepSs K W (msk O H1) vs xs)
    (q : ∀ v H' fp, Ext W H H' → GOk W B.1 H' g1 → fp.Nodup → (∀ a ∈ fp, H a = none ∧ H' a ≠ none) → Rep K W (fp ++ O) H' v (.own (xs.map .sh)) fp → Q v H') : Q (.ref p) (upd H1 p (.lst vs)) := by
  have D1 := D.step x1 h1
  refine q _ _ [p] (x1.trans (Same.ext (keep_new hp))) (h1.same (keep_new hp)) (by simp) ?_ (rep_own (fp := []) D1.dom D1.toDen0.was hp (Reps.ofS r))
  intro a ha
  have m : a = p := by simpa using ha
  subst m
  refine ⟨?_, by rw [upd_same]; simp⟩
  cases q : H a with
  | none => rfl
  | some o =>
    by_cases hw : a ∈ W.as
    · exact absurd hp (D1.dom a (D1.toDen0.was a hw))
    · rw [x1 a o hw q] at hp; cases hp

/-! ### calls of one's own defs -/
abbrev FF := List SV → GS → Option (DV × GS)
def spD (K : Fg) (n : Nat) (F : FF) : Sp := fun vs H Q _ => ∃ W O ss g d g', vs.length = n ∧ RepSs K W (msk O H) vs ss ∧ (∀ a ∈ O, H a ≠ none) ∧ GOk W O H g ∧ F ss g = some (d, g') ∧
  ∀ v H' fp, Ext W H H' → GOk W O H' g' → fp.Nodup → (∀ a ∈ fp, H a = none ∧ H' a ≠ none) → Rep K W (fp ++ O) H' v d fp → Q v H'
def callF (F : FF) (fs : AF) : OF := fun ρ g => (fs ρ g).bind fun p => F p.1 p.2
theorem sp_of {K : Fg} {F : FF} {n : Nat} {B : Bs} {W : Wd} {O : List Addr} {σ : St} {H H1 : Hp} {ρ : Env} {g g1 g' : GS} {vs : List V} {ss : List SV} {d : DV} {Q : VK} {E : XK} (D : Den K B W O σ H ρ g) (x1 : Ext W H H1) (h1 : GOk W B.1 H1 g1) (r : RepSs K W (msk O H1) vs ss) (hn : ss.length = n) (e : F ss g1 = some (d, g'))
    (q : ∀ v H' fp, Ext W H H' → GOk W B.1 H' g' → fp.Nodup → (∀ a ∈ fp, H a = none ∧ H' a ≠ none) → Rep K W (fp ++ O) H' v d fp → Q v H') : spD K n F vs H1 Q E := by
  have D1 := D.step x1 h1
  refine ⟨W, O, ss, g1, d, g', by rw [r.length]; exact hn, r, D1.dom, h1.re D1.toDen0.was, e, fun v H' fp x2 h2 n2 f2 r2 => ?_⟩
  refine q v H' fp (x1.trans x2) (h2.re fun a ha => (D.gen.mem a ha).1) n2 (fun a m => ⟨?_, (f2 a m).2⟩) r2
  cases q : H a with
  | none => rfl
  | some o =>
    by_cases hw : a ∈ W.as
    · exact absurd (f2 a m).1 (D1.dom a (D1.toDen0.was a hw))
    · have := (f2 a m).1
      rw [x1 a o hw q] at this; cases this
def FF.ar (n : Nat) (F : FF) : Prop := ∀ ss g r, F ss g = some r → ss.length = n
theorem do_call {F : FF} {n k : Nat} {fd : FuncData} {fa : Addr} {ps : List Str} {x : Str} {p : Pos} (G : FnOk X.prog X.w X.K X.mg X.base CX0 k fa fd ps (spD X.K n F)) (ar : FF.ar n F) (hr : Room k X.A) (hg : Gl X x) (hm : X.mg x = some (.ref fa)) (hk : PySem.W.keepIn X.K (.ref fa) = true) (hb : Binds X.K fd ps [])
    (ha : DA X (e :: es) fs) (hdb : (x == ("__debug__" : Str)) = false := by decide) (he : starEach (e :: es) X.env = (false, eval e X.env) :: starEach es X.env := by rfl) (hpl : (backTo pos (starEach es X.env)).any (·.1) = false := by rfl) :
    DO X (.Call (.Name x p) (e :: es) [] pos) (callF F fs) := by
  obtain ⟨t, pt, qt⟩ := ha
  refine ⟨_, pe_call G hr hg hm hk hb .nil pass0 pt hdb he hpl, fun B W O σ H ρ g d g' D e Q q => ?_⟩
  obtain ⟨⟨ss, g1⟩, e1, e2⟩ := Option.bind_eq_some_iff.mp e
  refine qt B W O σ H ρ g ss g1 D e1 _ fun vs H1 x1 h1 r1 => ?_
  rw [List.append_nil]
  exact sp_of D x1 h1 r1 (ar _ _ _ e2) e2 q

/-! ### calls of built-ins -/
def RLS (K : Fg) (r : List V → Hp → VK → Prop) (k : List SV → Option SV) : Prop := ∀ W O H vs ss s, RepSs K W (msk O H) vs ss → k ss = some s → (∀ a ∈ O, H a ≠ none) → ∀ Q : VK, (∀ v H', Same H H' → RepS K W (msk O H') v s → Q v H') → r vs H Q
def c1 (k : List SV → Option SV) (fs : AF) : EF := fun ρ g => (fs ρ g).bind fun p => (k p.1).map fun s => (s, p.2)
theorem tCBs {K : Fg} {r : List V → Hp → VK → Prop} {k : List SV → Option SV} {t : TA} (hr : RLS K r k) (ha : DAs K t fs) : DEs K (tCB r t) (c1 k fs) := by
  intro B W O σ H ρ g s g' D e Q q
  obtain ⟨⟨ss, g1⟩, e1, e⟩ := Option.bind_eq_some_iff.mp e
  obtain ⟨s1, e3, e4⟩ := Option.map_eq_some_iff.mp e
  cases e4
  refine ha B W O σ H ρ g ss g1 D e1 _ fun vs H1 x1 h1 r1 => ?_
  have D1 := D.step x1 h1
  exact hr W O H1 vs ss _ r1 e3 D1.dom _ fun v H2 sm r2 => q v H2 (x1.trans (Same.ext sm)) (h1.same sm) r2
theorem de_callB {id : String} {x : Str} {p : Pos} {r : List V → Hp → VK → Prop} {k : List SV → Option SV} (hc : CallR X (.builtin id) r) (hr : RLS X.K r k) (hg : Gl X x) (hm : X.mg x = none) (hv : bootBuiltins x = some (.builtin id)) (ha : DA X (e :: es) fs) (hn : x ≠ "__name__" := by decide) (hdb : (x == ("__debug__" : Str)) = false := by decide)
    (he : starEach (e :: es) X.env = (false, eval e X.env) :: starEach es X.env := by rfl) (hpl : (backTo pos (starEach es X.env)).any (·.1) = false := by rfl) : DE X (.Call (.Name x p) (e :: es) [] pos) (c1 k fs) := by
  obtain ⟨t, pt, qt⟩ := ha
  exact ⟨_, pe_callB hc hg hm hv pt hn hdb he hpl, tCBs hr qt⟩
theorem de_callTy {T : String} {x : Str} {p : Pos} {r : List V → Hp → VK → Prop} {k : List SV → Option SV} (hc : CallR X (.type T) r) (hr : RLS X.K r k) (hg : Gl X x) (hm : X.mg x = none) (hv : bootBuiltins x = some (.type T)) (ha : DA X (e :: es) fs) (hn : x ≠ "__name__" := by decide) (hdb : (x == ("__debug__" : Str)) = false := by decide)
    (he : starEach (e :: es) X.env = (false, eval e X.env) :: starEach es X.env := by rfl) (hpl : (backTo pos (starEach es X.env)).any (·.1) = false := by rfl) : DE X (.Call (.Name x p) (e :: es) [] pos) (c1 k fs) := by
  obtain ⟨t, pt, qt⟩ := ha
  exact ⟨_, pe_callTy hc hg hm hv pt hn hdb he hpl, tCBs hr qt⟩
theorem de_callBfun {id : String} {x : Str} {p : Pos} {r : List V → Hp → VK → Prop} {k : List SV → Option SV} (hc : CallR X (.builtin id) r) (hr : RLS X.K r k) (hg : Gl X x) (hm : X.mg x = some (.builtin id)) (ha : DA X (e :: es) fs) (hdb : (x == ("__debug__" : Str)) = false := by decide)
    (he : starEach (e :: es) X.env = (false, eval e X.env) :: starEach es X.env := by rfl) (hpl : (backTo pos (starEach es X.env)).any (·.1) = false := by rfl) : DE X (.Call (.Name x p) (e :: es) [] pos) (c1 k fs) := by
  obtain ⟨t, pt, qt⟩ := ha
  exact ⟨_, pe_callBfun hc hg hm pt hdb he hpl, tCBs hr qt⟩
def hAbs : List SV → Option SV
  | [.int i] => some (.int (if i < 0 then -i else i))
  | _ => none
def hMax : List SV → Option SV
  | [.int i, .int j] => some (.int (if j > i then j else i))
  | _ => none
def hMin : List SV → Option SV
  | [.int i, .int j] => some (.int (if j < i then j else i))
  | _ => none
def hInt : List SV → Option SV
  | [.int i] => some (.int i)
  | [.bl k] => some (.int (if k then 1 else 0))
  | _ => none
def hGcd : List SV → Option SV
  | [.int i, .int j] => some (.int ((Nat.gcd i.natAbs j.natAbs : Nat) : Int))
  | _ => none
def hLcm : List SV → Option SV
  | [.int i, .int j] => if i.natAbs.log2 < 9000 ∧ j.natAbs.log2 < 9000 then some (.int ((Nat.lcm i.natAbs j.natAbs : Nat) : Int)) else none
  | _ => none
theorem reps1 {K : Fg} {W : Wd} {M : Hp} {vs : List V} {x : SV} (r : RepSs K W M vs [x]) : ∃ v, vs = [v] ∧ RepS K W M v x := by
  cases r with
  | cons h t => cases t; exact ⟨_, rfl, h⟩
theorem reps2 {K : Fg} {W : Wd} {M : Hp} {vs : List V} {x y : SV} (r : RepSs K W M vs [x, y]) : ∃ v w, vs = [v, w] ∧ RepS K W M v x ∧ RepS K W M w y := by
  cases r with
  | cons h t =>
    obtain ⟨w, rfl, r2⟩ := reps1 t
    exact ⟨_, _, rfl, h, r2⟩
theorem rl_abs {K : Fg} : RLS K (fun xs H Q => ∃ i, xs = [.int i] ∧ Q (.int (if i < 0 then -i else i)) H) hAbs := by
  intro W O H vs ss s r e hO Q q
  unfold hAbs at e
  split at e
  · cases e
    obtain ⟨v, rfl, r1⟩ := reps1 r
    cases r1
    exact ⟨_, rfl, q _ H (Same.refl H) .int⟩
  · cases e
theorem rl_max {K : Fg} : RLS K (fun xs H Q => ∃ i j, xs = [.int i, .int j] ∧ Q (.int (if j > i then j else i)) H) hMax := by
  intro W O H vs ss s r e hO Q q
  unfold hMax at e
  split at e
  · cases e
    obtain ⟨v, w, rfl, r1, r2⟩ := reps2 r
    cases r1; cases r2
    exact ⟨_, _, rfl, q _ H (Same.refl H) .int⟩
  · cases e
theorem rl_min {K : Fg} : RLS K (fun xs H Q => ∃ i j, xs = [.int i, .int j] ∧ Q (.int (if j < i then j else i)) H) hMin := by
  intro W O H vs ss s r e hO Q q
  unfold hMin at e
  split at e
  · cases e
    obtain ⟨v, w, rfl, r1, r2⟩ := reps2 r
    cases r1; cases r2
    exact ⟨_, _, rfl, q _ H (Same.refl H) .int⟩
  · cases e
theorem rl_int {K : Fg} : RLS K (fun xs H Q => (∃ i, xs = [.int i] ∧ Q (.int i) H) ∨ ∃ k, xs = [.bl k] ∧ Q (.int (if k then 1 else 0)) H) hInt := by
  intro W O H vs ss s r e hO Q q
  unfold hInt at e
  split at e
  · cases e
    obtain ⟨v, rfl, r1⟩ := reps1 r
    cases r1
    exact .inl ⟨_, rfl, q _ H (Same.refl H) .int⟩
  · cases e
    obtain ⟨v, rfl, r1⟩ := reps1 r
    cases r1
    exact .inr ⟨_, rfl, q _ H (Same.refl H) .int⟩
  · cases e
theorem rl_gcd {K : Fg} : RLS K rGcd hGcd := by
  intro W O H vs ss s r e hO Q q
  unfold hGcd at e
  split at e
  · cases e
    obtain ⟨v, w, rfl, r1, r2⟩ := reps2 r
    cases r1; cases r2
    exact ⟨_, _, rfl, q _ H (Same.refl H) .int⟩
  · cases e
def rLcm : List V → Hp → VK → Prop := fun vs H Q => ∃ a b : Int, vs = [.int a, .int b] ∧ a.natAbs.log2 < 9000 ∧ b.natAbs.log2 < 9000 ∧ Q (.int ((Nat.lcm a.natAbs b.natAbs : Nat) : Int)) H
theorem lcm_one (m : Nat) : Nat.lcm 1 m = m := by simp [Nat.lcm]
theorem cr_lcm : CallR X (.builtin "math.lcm") rLcm := by
  intro pins s σ H vs us Q I r h
  obtain ⟨a, b, rfl, ha, hb, q⟩ := h
  obtain ⟨t, u, rfl⟩ := Vals.int2 r
  have h1 := log2_lt_pow ha
  have h2 := log2_lt_pow hb
  have p9 : (2 : Nat) ^ 9000 ≥ 1 := Nat.two_pow_pos _
  have hm1 : (max 1 a.natAbs).log2 ≤ 9000 := by
    by_cases z : 1 ≤ a.natAbs
    · rw [Nat.max_eq_right z]; omega
    · rw [Nat.max_eq_left (by omega)]; decide
  have hm2 : (max a.natAbs b.natAbs).log2 ≤ 9000 := by
    by_cases z : a.natAbs ≤ b.natAbs
    · rw [Nat.max_eq_right z]; omega
    · rw [Nat.max_eq_left (by omega)]; omega
  have hl : a.natAbs.lcm b.natAbs ≤ a.natAbs * b.natAbs := by
    unfold Nat.lcm
    exact Nat.div_le_self _ _
  have hsz : (((((Nat.lcm 1 a.natAbs).lcm b.natAbs : Nat) : Int)).natAbs).log2 < bitsLine := by
    rw [lcm_one, Int.natAbs_natCast]
    have hb' : bitsLine = 134217728 := by decide
    rw [hb']
    refine Nat.lt_of_lt_of_le (log2_of_lt (k := 18000) (by decide) (Nat.lt_of_le_of_lt hl ?_)) (by decide)
    rw [show (18000 : Nat) = 9000 + 9000 from rfl, Nat.pow_add]
    exact Nat.mul_lt_mul'' h1 h2
  have key := PySem.W.mg_run_lcm a t b u (by omega) (by omega) hsz
  refine PySem.call_function_meets PySem.W.MGF.kind_lcm PySem.W.MGF.plain_lcm PySem.W.MGF.entry_lcm (PySem.W.MGF.args_lcm _ _) key.meets ?_
  rw [lcm_one]
  exact ⟨.int _, H, I.tok _, ⟨_, rfl⟩, q⟩
theorem rl_lcm {K : Fg} : RLS K rLcm hLcm := by
  intro W O H vs ss s r e hO Q q
  unfold hLcm at e
  split at e
  · split at e
    · rename_i hh
      cases e
      obtain ⟨v, w, rfl, r1, r2⟩ := reps2 r
      cases r1; cases r2
      exact ⟨_, _, rfl, hh.1, hh.2, q _ H (Same.refl H) .int⟩
    · cases e
  · cases e
end
end DL

/-! DL4: statements. -/
namespace DL
open PySem PySem.Spec L2
section
variable {K : Fg} {W : Wd} {H H' : Hp} {O O' : List Addr} {B : Bs} {σ : St} {ρ : Env} {g g' : GS} {v : V} {d d' : DV} {fp fq : List Addr}
theorem nodup_swap {a b : List Addr} (h : (a ++ b).Nodup) : (b ++ a).Nodup := by
  rw [List.nodup_append] at h ⊢
  exact ⟨h.2.1, h.1, fun x hx y hy e => h.2.2 y hy x hx e.symm⟩
/-- a slot taken out -/
theorem ERep.take : ∀ {σ : St} {ρ : Env} {fe : List Addr} {i : Nat} {d : DV}, ERep K W O H σ ρ fe → ρ[i]? = some (some d) → fe.Nodup →
    ∃ v fq fr, σ[i]? = some (some v) ∧ Rep K W O H v d fq ∧ ERep K W O H σ (ρ.set i none) fr ∧ (fq ++ fr).Nodup ∧ ∀ a, a ∈ fq ++ fr → a ∈ fe
  | _, _, _, _, _, .nil, h, _ => by simp at h
  | _, _, _, 0, _, .non t, h, _ => by cases (Option.some.inj h)
  | _, _, fe, i + 1, _, .non t, h, hn => by
    obtain ⟨v, fq, fr, e, r, t', n, hs⟩ := ERep.take (i := i) t (by simpa using h) hn
    exact ⟨v, fq, fr, by simpa using e, r, .non t', n, hs⟩
  | _, _, _, 0, _, .som r t, h, hn => by
    cases (Option.some.inj (Option.some.inj h))
    exact ⟨_, _, _, rfl, r, .non t, hn, fun a m => m⟩
  | _, _, _, i + 1, _, .som (fp := f1) (fq := f2) r t, h, hn => by
    have hn' := List.nodup_append.mp hn
    obtain ⟨v, fq, fr, e, r', t', n, hs⟩ := ERep.take (i := i) t (by simpa using h) hn'.2.1
    have n' := List.nodup_append.mp n
    refine ⟨v, fq, f1 ++ fr, by simpa using e, r', .som r t', ?_, fun a m => ?_⟩
    · rw [List.nodup_append]
      refine ⟨n'.1, ?_, fun a ha b hb z => ?_⟩
      · rw [List.nodup_append]
        exact ⟨hn'.1, n'.2.1, fun a ha b hb => hn'.2.2 a ha b (hs b (List.mem_append_right _ hb))⟩
      · rcases List.mem_append.mp hb with hb | hb
        · exact hn'.2.2 b hb a (hs a (List.mem_append_left _ ha)) z.symm
        · exact n'.2.2 a ha b hb z
    · rcases List.mem_append.mp m with m | m
      · exact List.mem_append_right _ (hs a (List.mem_append_left _ m))
      · rcases List.mem_append.mp m with m | m
        · exact List.mem_append_left _ m
        · exact List.mem_append_right _ (hs a (List.mem_append_right _ m))
/-- a slot put back -/
theorem ERep.put {v : V} {d : DV} {fq : List Addr} (r : Rep K W O H v d fq) : ∀ {σ : St} {ρ : Env} {fr : List Addr} {i : Nat}, ERep K W O H σ (ρ.set i none) fr → i < ρ.length → σ[i]? = some (some v) → (fq ++ fr).Nodup →
    ∃ fe, ERep K W O H σ (ρ.set i (some d)) fe ∧ fe.Nodup ∧ ∀ a ∈ fe, a ∈ fq ++ fr
  | σ, [], fr, i, t, h, _, _ => by simp at h
  | [], x :: ρ, fr, i, t, h, e, _ => by simp at e
  | y :: σ, x :: ρ, fr, 0, t, h, e, hn => by
    cases t with
    | non t =>
      cases (Option.some.inj e)
      exact ⟨_, .som r t, hn, fun a m => m⟩
  | y :: σ, none :: ρ, fr, i + 1, t, h, e, hn => by
    cases t with
    | non t =>
      obtain ⟨fe, h1, h2, h3⟩ := ERep.put r (i := i) t (by simpa using h) (by simpa using e) hn
      exact ⟨fe, .non h1, h2, h3⟩
  | y :: σ, some x :: ρ, fr, i + 1, t, h, e, hn => by
    cases t with
    | som r1 t =>
      rename_i v1 f1 f2
      have n1 := List.nodup_append.mp hn
      have n2 := List.nodup_append.mp n1.2.1
      obtain ⟨fe, h1, h2, h3⟩ := ERep.put r (i := i) t (by simpa using h) (by simpa using e) (by
        rw [List.nodup_append]
        exact ⟨n1.1, n2.2.1, fun a ha b hb => n1.2.2 a ha b (List.mem_append_right _ hb)⟩)
      refine ⟨f1 ++ fe, .som r1 h1, ?_, fun a m => ?_⟩
      · rw [List.nodup_append]
        refine ⟨n2.1, h2, fun a ha b hb z => ?_⟩
        rcases List.mem_append.mp (h3 b hb) with m | m
        · exact n1.2.2 b m a (List.mem_append_left _ ha) z.symm
        · exact n2.2.2 a ha b m z
      · rcases List.mem_append.mp m with m | m
        · exact List.mem_append_right _ (List.mem_append_left _ m)
        · rcases List.mem_append.mp (h3 a m) with m | m
          · exact List.mem_append_left _ m
          · exact List.mem_append_right _ (List.mem_append_right _ m)
theorem lt_of_slot {i : Nat} (h : ρ[i]? = some (some d)) : i < ρ.length := (List.getElem?_eq_some_iff.mp h).1
/-- an owned address changes: all that does not hold it stays -/
theorem msk_upd {a : Addr} {o : HO} (ha : a ∈ O) : msk O (upd H a o) = msk O H := by
  funext b
  unfold msk
  by_cases hb : b ∈ O
  · rw [if_pos hb, if_pos hb]
  · rw [if_neg hb, if_neg hb, upd_ne fun z => hb (by rw [z]; exact ha)]
mutual
theorem Rep.upd {a : Addr} {o : HO} (ha : a ∈ O) : ∀ {v : V} {d : DV} {fp : List Addr}, a ∉ fp → Rep K W O H v d fp → Rep K W O (upd H a o) v d fp
  | _, _, _, _, .sh h => .sh (by rw [msk_upd ha]; exact h)
  | _, _, _, hn, .own h1 h2 h3 r => .own h1 h2 (by rw [upd_ne fun z => hn (by rw [z]; exact List.mem_cons_self)]; exact h3) (Reps.upd ha (fun m => hn (List.mem_cons_of_mem _ m)) r)
  | _, _, _, hn, .ins h1 h2 hs h3 hm r => .ins h1 h2 hs (by rw [upd_ne fun z => hn (by rw [z]; exact List.mem_cons_self)]; exact h3) hm (by rw [msk_upd ha]; exact r)
  | _, _, _, hn, .tup h r => .tup (by rw [msk_upd ha]; exact h) (Reps.upd ha hn r)
theorem Reps.upd {a : Addr} {o : HO} (ha : a ∈ O) : ∀ {vs : List V} {ds : List DV} {fp : List Addr}, a ∉ fp → Reps K W O H vs ds fp → Reps K W O (upd H a o) vs ds fp
  | _, _, _, _, .nil => .nil
  | _, _, _, hn, .cons h t => .cons (Rep.upd ha (fun m => hn (List.mem_append_left _ m)) h) (Reps.upd ha (fun m => hn (List.mem_append_right _ m)) t)
end
theorem ERep.upd {a : Addr} {o : HO} (ha : a ∈ O) : ∀ {σ : St} {ρ : Env} {fp : List Addr}, a ∉ fp → ERep K W O H σ ρ fp → ERep K W O (upd H a o) σ ρ fp
  | _, _, _, _, .nil => .nil
  | _, _, _, hn, .non t => .non (ERep.upd ha hn t)
  | _, _, _, hn, .som h t => .som (Rep.upd ha (fun m => hn (List.mem_append_left _ m)) h) (ERep.upd ha (fun m => hn (List.mem_append_right _ m)) t)
theorem Den0.upd (D : Den0 B W O H g) {a : Addr} {o : HO} (hw : a ∉ W.as) (hb : B.2 a = none) : Den0 B W O (upd H a o) g where
  base := fun b x nb e => by
    rw [upd_ne fun z => by subst z; rw [hb] at e; cases e]
    exact D.base b x nb e
  sub := D.sub
  new := D.new
  dom := fun b m => by
    by_cases z : b = a
    · subst z; rw [upd_same]; simp
    · rw [upd_ne z]; exact D.dom b m
  gen := by
    have := D.gen
    match W, hw, this with
    | ⟨none, _⟩, _, _ => trivial
    | ⟨some (x, y, z), _⟩, hw, h =>
      obtain ⟨h1, h2, h3, n1, n2, n3, h4, h5, h6⟩ := h
      simp [Wd.as] at hw
      exact ⟨h1, h2, h3, n1, n2, n3, by rw [upd_ne fun q => hw.1 q.symm]; exact h4, by rw [upd_ne fun q => hw.2.1 q.symm]; exact h5, by rw [upd_ne fun q => hw.2.2 q.symm]; exact h6⟩
  bdom := D.bdom
/-- the state with a slot's own list at hand -/
theorem Den.own (D : Den K B W O σ H ρ g) {i : Nat} {ds : List DV} (h : ρ[i]? = some (some (.own ds))) :
    ∃ a vs fq fr, σ[i]? = some (some (.ref a)) ∧ a ∈ O ∧ a ∉ W.as ∧ H a = some (.lst vs) ∧ Reps K W O H vs ds fq ∧ ERep K W O H σ (ρ.set i none) fr ∧ ((a :: fq) ++ fr).Nodup ∧ ∀ b ∈ (a :: fq) ++ fr, B.2 b = none := by
  obtain ⟨fe, re, n, hh⟩ := D.env
  obtain ⟨v, fq, fr, e, r, t, n', hs⟩ := re.take h n
  cases r with
  | own ha hw hl rs => exact ⟨_, _, _, fr, e, ha, hw, hl, rs, t, n', fun b m => hh b (hs b m)⟩
/-- .. and the list stored anew: the new items stand apart -/
theorem Den.own_put (D : Den0 B W O H g) {a : Addr} {vs' : List V} {ds' : List DV} {fq' fr : List Addr} {i : Nat} (hi : i < ρ.length) (hσ : σ[i]? = some (some (.ref a))) (ha : a ∈ O) (hw : a ∉ W.as)
    (t : ERep K W O H σ (ρ.set i none) fr) (rs : Reps K W O H vs' ds' fq') (n : ((a :: fq') ++ fr).Nodup) (hb : ∀ b ∈ (a :: fq') ++ fr, B.2 b = none) :
    Den K B W O σ (upd H a (.lst vs')) (ρ.set i (some (.own ds'))) g := by
  have n1 := List.nodup_append.mp n
  have n2 := List.nodup_cons.mp n1.1
  have har : a ∉ fr := fun m => n1.2.2 a List.mem_cons_self a m rfl
  have hba : B.2 a = none := hb a (List.mem_append_left _ List.mem_cons_self)
  obtain ⟨fe, h1, h2, h3⟩ := ERep.put (.own ha hw upd_same (rs.upd ha n2.1)) (t.upd ha har) hi hσ n
  exact { D.upd hw hba with env := ⟨fe, h1, h2, fun b m => hb b (h3 b m)⟩ }
theorem keep_upd {a : Addr} {o : HO} (ha : a ∈ O) : Keep O H O (upd H a o) := by
  unfold Keep
  rw [msk_upd ha]
  exact Same.refl _
end

/-! ### names stored, returns, blocks -/
def setD (i : Nat) (f : OF) : SF := fun ρ g => (f ρ g).map fun p => .nx (ρ.set i (some p.1)) p.2
def retD (f : OF) : SF := fun ρ g => (f ρ g).map fun p => .rt p.1 p.2
def exprD (f : EF) : SF := fun ρ g => (f ρ g).map fun p => .nx ρ p.2
def skipD : SF := fun ρ g => some (.nx ρ g)
def brkD : SF := fun ρ g => some (.bk ρ g)
def cntD : SF := fun ρ g => some (.ct ρ g)
def noD : SF := fun _ _ => none
def seqD (a b : SF) : SF := fun ρ g => (a ρ g).bind fun r => match r with
  | .nx ρ' g' => b ρ' g'
  | .rt d g' => some (.rt d g')
  | .bk ρ' g' => some (.bk ρ' g')
  | .ct ρ' g' => some (.ct ρ' g')
def ifD (c : TF) (a b : SF) : SF := fun ρ g => (c ρ g).bind fun p => if p.1 = true then a ρ p.2 else b ρ p.2
theorem FlOk.keep {K : Fg} {B : Bs} {W : Wd} {O O1 : List Addr} {H H1 : Hp} {D : Ends} {r : Fl} (k : Keep O H O1 H1) (h : FlOk K B W O H D r) : FlOk K B W O1 H1 D r := by
  cases r with
  | nx ρ g => exact fun σ' O' H' k' => h σ' O' H' (k.trans k')
  | bk ρ g => exact fun σ' O' H' k' => h σ' O' H' (k.trans k')
  | ct ρ g => exact fun σ' O' H' k' => h σ' O' H' (k.trans k')
  | rt d g => exact h
section
variable {X : Cx} {e a b c : Expr} {s : Stmt} {ss : List Stmt} {f fa fb : EF} {h : OF} {c1 : TF} {s1 s2 : SF} {pos : Pos}
theorem DenV.set {K : Fg} {B : Bs} {W : Wd} {O : List Addr} {σ : St} {H : Hp} {ρ : Env} {g : GS} {v : V} {d : DV} (D : DenV K B W O σ H ρ g v d) (i : Nat) : Den K B W O (σ.set i (some v)) H (ρ.set i (some d)) g := by
  obtain ⟨fe, fp, re, r, n, hb⟩ := D.env
  obtain ⟨fq, h1, h2, h3⟩ := ERep.set r i re n
  exact { D.toDen0 with env := ⟨fq, h1, h2, fun a m => hb a (List.mem_append.mpr (h3 a m))⟩ }
theorem ds_set {i : Nat} {x : Str} {pos' : Pos} (hN : X.N.Nodup) (hi : X.N[i]? = some x) (hx : Loc X.env.scope x) (he : DO X e h) (hs : swapsWith e (some (.Name x pos')) pos.line X.env = pure false := by rfl) (hf : X.fn x = true ∨ X.env.scope.names.lookup x = some .local := by first | exact .inl rfl | exact .inr rfl | assumption) :
    DS X (.Assign [.Name x pos'] e pos) (setD i h) := by
  obtain ⟨t, pt, qt⟩ := he
  refine ⟨_, ps_set hN hi hx pt hs hf, fun B W O σ H ρ g r D e E q => ?_⟩
  obtain ⟨⟨d, g1⟩, e1, e2⟩ := Option.map_eq_some_iff.mp e
  cases e2
  refine qt B W O σ H ρ g d g1 D e1 _ fun v H1 fp x1 h1 n1 f1 r1 => ?_
  have D2 := D.withV x1 h1 n1 f1 r1
  exact q _ _ H1 (D.toDen0.keeps x1 fun a z => (f1 a z).1) (D2.set i)
theorem ds_ret (he : DO X e h) : DS X (.Return (some e) pos) (retD h) := by
  obtain ⟨t, pt, qt⟩ := he
  refine ⟨_, ps_ret pt, fun B W O σ H ρ g r D e E q => ?_⟩
  obtain ⟨⟨d, g1⟩, e1, e2⟩ := Option.map_eq_some_iff.mp e
  cases e2
  refine qt B W O σ H ρ g d g1 D e1 _ fun v H1 fp x1 h1 n1 f1 r1 => ?_
  exact q v _ H1 fp (D.toDen0.grow x1 h1 f1) r1 n1 fun a m => D.toDen0.fresh (f1 a m).1
/-- return of an own slot -/
def retV (i : Nat) : SF := fun ρ g => match ρ[i]? with
  | some (some d) => some (.rt d g)
  | _ => none
theorem ds_retv (i : Nat) {x : Str} {p' : Pos} (hN : X.N[i]? = some x := by rfl) (hv : Vis X.env.scope x := by first | exact Or.inl rfl | exact Or.inr (Or.inl rfl) | exact Or.inr (Or.inr rfl)) (hd : (x == ("__debug__" : Str)) = false := by decide)
    (hcd : (x == ("__classdict__" : Str)) = false := by decide) : DS X (.Return (some (.Name x p')) pos) (retV i) := by
  refine ⟨_, ps_ret (pe_var hN hv hd hcd), fun B W O σ H ρ g r D e E q => ?_⟩
  unfold retV at e
  split at e
  · rename_i d h1
    cases e
    obtain ⟨fe, re, n, hh⟩ := D.env
    obtain ⟨v, fq, fr, e1, r, t, n', hs⟩ := re.take h1 n
    exact ⟨v, e1, q v O H fq D.toDen0 r (List.nodup_append.mp n').1 fun a m => hh a (hs a (List.mem_append_left _ m))⟩
  · cases e
theorem ds_retN : DS X (.Return none pos) (retD (oS (kS .non))) :=
  ⟨_, ps_retN, fun B W O σ H ρ g r D e E q => by cases e; exact q .non O H [] D.toDen0 (.sh .non) List.nodup_nil fun a m => by simp at m⟩
theorem ds_expr (he : DE X e f) (hs : swapsWith e none pos.line X.env = pure false := by rfl) : DS X (.Expr e pos) (exprD f) := by
  obtain ⟨t, pt, qt⟩ := he
  refine ⟨_, ps_expr pt hs, fun B W O σ H ρ g r D e E q => ?_⟩
  obtain ⟨⟨d, g1⟩, e1, e2⟩ := Option.map_eq_some_iff.mp e
  cases e2
  refine qt B W O σ H ρ g d g1 D e1 _ fun v H1 x1 h1 r1 => ?_
  exact q σ O H1 (D.toDen0.keep x1) (D.step x1 h1)
theorem ds_pass : DS X (.Pass pos) skipD := ⟨_, ps_pass, fun B W O σ H ρ g r D e E q => by cases e; exact q σ O H Keep.refl D⟩
theorem ds_break : DS X (.Break pos) brkD := ⟨_, ps_break, fun B W O σ H ρ g r D e E q => by cases e; exact q σ O H Keep.refl D⟩
theorem ds_continue : DS X (.Continue pos) cntD := ⟨_, ps_continue, fun B W O σ H ρ g r D e E q => by cases e; exact q σ O H Keep.refl D⟩
theorem ds_never : DS X s noD := ⟨_, ps_never, fun B W O σ H ρ g r D e E q => by cases e⟩
theorem ds_doc {x j pos pos'} : DS X (.Expr (.Constant (.str x) j pos) pos') skipD := ⟨_, ps_doc, fun B W O σ H ρ g r D e E q => by cases e; exact q σ O H Keep.refl D⟩
theorem dss_nil : DSs X [] skipD := ⟨_, pss_nil, fun B W O σ H ρ g r D e E q => by cases e; exact q σ O H Keep.refl D⟩
theorem dss_one (hs : DS X s s1) : DSs X [s] s1 := by
  obtain ⟨t, pt, qt⟩ := hs
  exact ⟨t, pss_one pt, qt⟩
theorem dss_cons (hs : DS X s s1) (hr : DSs X ss s2) : DSs X (s :: ss) (seqD s1 s2) := by
  obtain ⟨t, pt, qt⟩ := hs
  obtain ⟨u, pu, qu⟩ := hr
  refine ⟨_, pss_cons pt pu, fun B W O σ H ρ g r D e E q => ?_⟩
  obtain ⟨r1, e1, e2⟩ := Option.bind_eq_some_iff.mp e
  refine qt B W O σ H ρ g r1 D e1 _ ?_
  cases r1 with
  | nx ρ' g' => exact fun σ' O' H' k D' => qu B W O' σ' H' ρ' g' r D' e2 E (q.keep k)
  | rt d g' => cases e2; exact q
  | bk ρ' g' => cases e2; exact q
  | ct ρ' g' => cases e2; exact q
theorem ds_if (hc : DT X c c1) (ha : DSs X ss s1) {sb : List Stmt} (hb : DSs X sb s2) : DS X (.If c ss sb pos) (ifD c1 s1 s2) := by
  obtain ⟨t, pt, qt⟩ := hc
  obtain ⟨u, pu, qu⟩ := ha
  obtain ⟨w, pw, qw⟩ := hb
  refine ⟨_, ps_if pt pu pw, fun B W O σ H ρ g r D e E q => ?_⟩
  obtain ⟨⟨x, g1⟩, e1, e⟩ := Option.bind_eq_some_iff.mp e
  refine qt B W O σ H ρ g x g1 D e1 _ fun H1 x1 h1 => ?_
  cases x with
  | true =>
    rw [if_pos rfl] at e ⊢
    exact qu B W O σ H1 ρ g1 r (D.step x1 h1) e E (q.keep (D.toDen0.keep x1))
  | false =>
    dsimp only at e
    rw [if_neg Bool.false_ne_true] at e ⊢
    exact qw B W O σ H1 ρ g1 r (D.step x1 h1) e E (q.keep (D.toDen0.keep x1))

/-! ### ghost: a slot is frozen -/
def frzEnv (i : Nat) (ρ : Env) : Env := match ρ[i]? with
  | some (some d) => ρ.set i (some (.sh d.frz))
  | _ => ρ
def frzD (i : Nat) (a : SF) : SF := fun ρ g => (a ρ g).map fun r => match r with
  | .nx ρ' g' => .nx (frzEnv i ρ') g'
  | r => r
theorem Den.frz {K : Fg} {B : Bs} {W : Wd} {O : List Addr} {σ : St} {H : Hp} {ρ : Env} {g : GS} (D : Den K B W O σ H ρ g) (i : Nat) : ∃ O', Keep O H O' H ∧ Den K B W O' σ H (frzEnv i ρ) g := by
  unfold frzEnv
  split
  · rename_i d h1
    obtain ⟨fe, re, n, hh⟩ := D.env
    obtain ⟨v, fq, fr, e1, r, t, n', hs⟩ := re.take h1 n
    have n1 := List.nodup_append.mp n'
    have sub : ∀ b, b ∈ O.filter (fun x => decide (x ∉ fq)) → b ∈ O := fun b m => (List.mem_filter.mp m).1
    have inO : ∀ b, b ∈ O → b ∉ fq → b ∈ O.filter (fun x => decide (x ∉ fq)) := fun b m n => List.mem_filter.mpr ⟨m, decide_eq_true n⟩
    have nq : ∀ b, b ∈ fq → b ∉ O.filter (fun x => decide (x ∉ fq)) := fun b m z => of_decide_eq_true (List.mem_filter.mp z).2 m
    have keep : Keep O H (O.filter (fun x => decide (x ∉ fq))) H := msk_le sub
    have r' : RepS K W (msk (O.filter (fun x => decide (x ∉ fq))) H) v d.frz := r.freeze sub nq
    have t' := t.mono (O' := O.filter (fun x => decide (x ∉ fq))) keep Ext.refl (fun a m => inO a (t.inO a m).1 fun z => n1.2.2 a z a m rfl)
    obtain ⟨fe', h2, h3, h4⟩ := ERep.put (fq := []) (Rep.sh r') t' (lt_of_slot h1) e1 (by simpa using n1.2.1)
    refine ⟨_, keep, ?_⟩
    exact { base := D.base, sub := fun a m => inO a (D.sub a m) fun z => D.bdom a m (hh a (hs a (List.mem_append_left _ z))), new := fun a m => D.new a (sub a m), dom := fun a m => D.dom a (sub a m), gen := D.gen, bdom := D.bdom
            env := ⟨fe', h2, h3, fun a m => hh a (hs a (List.mem_append_right _ (by simpa using h4 a m)))⟩ }
  · exact ⟨O, Keep.refl, D⟩
theorem ds_frz (i : Nat) (hs : DS X s s1) : DS X s (frzD i s1) := by
  obtain ⟨t, pt, qt⟩ := hs
  refine ⟨t, pt, fun B W O σ H ρ g r D e E q => ?_⟩
  obtain ⟨r1, e1, e2⟩ := Option.map_eq_some_iff.mp e
  subst e2
  refine qt B W O σ H ρ g r1 D e1 _ ?_
  cases r1 with
  | nx ρ' g' =>
    intro σ' O' H' k D'
    obtain ⟨O2, k2, D2⟩ := D'.frz i
    exact q σ' O2 H' (k.trans k2) D2
  | rt d g' => exact q
  | bk ρ' g' => exact q
  | ct ρ' g' => exact q

/-! ### methods of an own list in a slot -/
def appD (i : Nat) (f : OF) : SF := fun ρ g => match ρ[i]? with
  | some (some (.own ds)) => (f ρ g).bind fun p => if lenOk ds.length = true then some (.nx (ρ.set i (some (.own (ds ++ [p.1])))) p.2) else none
  | _ => none
theorem ds_append (i : Nat) {x : Str} {p1 p2 p3 : Pos} (he : DO X e h) (hN : X.N[i]? = some x := by rfl) (hv : Vis X.env.scope x := by first | exact Or.inl rfl | exact Or.inr (Or.inl rfl) | exact Or.inr (Or.inr rfl)) (hd : (x == ("__debug__" : Str)) = false := by decide)
    (hcd : (x == ("__classdict__" : Str)) = false := by decide)
    (hbase : attributeBase (.Name x p1) "append" X.env (eval (.Name x p1) X.env) = eval (.Name x p1) X.env := by rfl)
    (hfew : ((backTo p3 (starEach [e] X.env)).all (fun x => !x.1) && (backToKw p3 (keywordEach [] X.env)).all (fun x => x.1.isSome)
      && decide ([e].length + ([] : List Keyword).length + (if ([] : List Keyword).isEmpty then 0 else 1) < 30)) = true := by rfl)
    (hline : (p2.endLine == p3.line) = true := by rfl) (hs : starEach [e] X.env = (false, eval e X.env) :: starEach [] X.env := by rfl) (hplain : (backTo p3 (starEach [] X.env)).any (·.1) = false := by rfl)
    (hs2 : swapsWith (.Call (.Attribute (.Name x p1) "append" p2) [e] [] p3) none pos.line X.env = pure false := by rfl) :
    DS X (.Expr (.Call (.Attribute (.Name x p1) "append" p2) [e] [] p3) pos) (appD i h) := by
  obtain ⟨t, pt, qt⟩ := he
  refine ⟨_, ps_expr (pe_bm PySem.F.plainAttrs_list PySem.F.slot_list_append PySem.F.type_list_append mt_append (pe_var hN hv hd hcd) (pa_cons pt pa_nil hs) hbase hfew hline hs hplain) hs2, fun B W O σ H ρ g r D e E q => ?_⟩
  unfold appD at e
  split at e
  · rename_i ds h1
    obtain ⟨⟨d, g1⟩, e1, e⟩ := Option.bind_eq_some_iff.mp e
    split at e
    · rename_i hl
      cases e
      obtain ⟨a, vs, fq, fr, eσ, ha, hw, hv', rs, rt, n, hb⟩ := D.own h1
      refine ⟨.ref a, eσ, .inl ⟨rfl, vs, .inl (.inl hv')⟩, ?_⟩
      refine qt B W O σ H ρ g d g1 D e1 _ fun v H1 fp x1 hg1 n1 f1 r1 => ?_
      have D1 := D.toDen0.grow (fp := fp) x1 hg1 f1
      have kp := D.toDen0.keeps x1 fun a z => (f1 a z).1
      have hv1 : H1 a = some (.lst vs) := x1 a _ hw hv'
      refine ⟨a, vs, v, rfl, rfl, hv1, ?_, ?_⟩
      · rw [rs.length]
        have z : sizeLine = 16777216 := by decide
        have := lenOk_lt hl
        omega
      have nf : ∀ b ∈ fp, b ∉ (a :: fq) ++ fr := fun b m z => by
        have : H b ≠ none := by
          rcases List.mem_append.mp z with z | z
          · rcases List.mem_cons.mp z with z | z
            · subst z; rw [hv']; simp
            · exact (rs.inO b z).2.2
          · exact (rt.inO b z).2.2
        exact this (f1 b m).1
      have n' := List.nodup_append.mp n
      have nc := List.nodup_cons.mp n'.1
      refine q σ (fp ++ O) _ (kp.trans (keep_upd (List.mem_append_right _ ha))) ?_
      refine Den.own_put D1 (lt_of_slot h1) eσ (List.mem_append_right _ ha) hw (rt.mono kp x1 fun b m => List.mem_append_right _ (rt.inO b m).1) ((rs.mono kp x1 fun b m => List.mem_append_right _ (rs.inO b m).1).append (.cons r1 .nil)) ?_ fun b m => ?_
      · rw [List.append_nil, List.nodup_append]
        refine ⟨?_, n'.2.1, fun x hx y hy z => ?_⟩
        · rw [← List.cons_append, List.nodup_append]
          exact ⟨n'.1, n1, fun x hx y hy z => nf y hy (by rw [← z]; exact List.mem_append_left _ hx)⟩
        · rcases List.mem_cons.mp hx with m | m
          · exact n'.2.2 x (by rw [m]; exact List.mem_cons_self) y hy z
          · rcases List.mem_append.mp m with m | m
            · exact n'.2.2 x (List.mem_cons_of_mem _ m) y hy z
            · exact nf x m (by rw [z]; exact List.mem_append_right _ hy)
      · rw [List.append_nil] at m
        rcases List.mem_append.mp m with m | m
        · rcases List.mem_cons.mp m with m | m
          · subst m; exact hb _ (List.mem_append_left _ List.mem_cons_self)
          · rcases List.mem_append.mp m with m | m
            · exact hb b (List.mem_append_left _ (List.mem_cons_of_mem _ m))
            · exact D.toDen0.fresh (f1 b m).1
        · exact hb b (List.mem_append_right _ m)
    · cases e
  · cases e
end
end DL

/-! DL5: targets, loops, comprehensions, defs. -/
namespace DL
open PySem PySem.Spec L2

/-! ### targets -/
def gN (i : Nat) : GF := fun d ρ g => some (ρ.set i (some d), g)
abbrev GLF := List SV → Env → GS → Option (Env × GS)
def DGLs (K : Fg) (t : TGs) (f : GLF) : Prop := ∀ B W O σ H ρ g vs ss ρ' g', Den K B W O σ H ρ g → RepSs K W (msk O H) vs ss → f ss ρ g = some (ρ', g') →
  ∀ Q : St → Hp → Prop, (∀ σ' O' H', Keep O H O' H' → Den K B W O' σ' H' ρ' g' → Q σ' H') → t vs σ H Q
def DGL (X : Cx) (ts : List Expr) (f : GLF) : Prop := ∃ t, PGs X ts t ∧ DGLs X.K t f
def gLN : GLF := fun ss ρ g => match ss with
  | [] => some (ρ, g)
  | _ => none
def gLC (f : GF) (fs : GLF) : GLF := fun ss ρ g => match ss with
  | s :: ss => (f (.sh s) ρ g).bind fun p => fs ss p.1 p.2
  | [] => none
def gT (n : Nat) (fs : GLF) : GF := fun d ρ g => match d with
  | .sh (.tup xs) => if xs.length = n then fs xs ρ g else none
  | _ => none
section
variable {X : Cx} {e a b c tg : Expr} {es : List Expr} {s : Stmt} {ss : List Stmt} {f fa fb : EF} {h : OF} {c1 : TF} {s1 s2 sb : SF} {pos : Pos} {gf : GF} {gs : GLF}
theorem dg_name {i : Nat} {x : Str} (hN : X.N.Nodup) (hi : X.N[i]? = some x) (hx : Loc X.env.scope x) (hf : X.fn x = true ∨ X.env.scope.names.lookup x = some .local := by first | exact .inl rfl | exact .inr rfl | assumption) : DG X (.Name x pos) (gN i) :=
  ⟨_, pg_name hN hi hx hf, fun B W O σ H ρ g d v ρ' g' D e Q q => by
    cases e
    exact q _ O H Keep.refl (D.set i)⟩
theorem dgl_nil : DGL X [] gLN := by
  refine ⟨_, pgs_nil, fun B W O σ H ρ g vs ss ρ' g' D r e Q q => ?_⟩
  cases r with
  | nil => cases e; exact ⟨rfl, q σ O H Keep.refl D⟩
  | cons _ _ => cases e
theorem dgl_cons (h1 : DG X e gf) (h2 : DGL X es gs) (hs : (assignEach (e :: es) X.env).map (·.2) = assign e X.env :: (assignEach es X.env).map (·.2) := by rfl) : DGL X (e :: es) (gLC gf gs) := by
  obtain ⟨t, pt, qt⟩ := h1
  obtain ⟨u, pu, qu⟩ := h2
  refine ⟨_, pgs_cons pt pu hs, fun B W O σ H ρ g vs ss ρ' g' D r e Q q => ?_⟩
  cases r with
  | nil => cases e
  | cons r rr =>
    obtain ⟨⟨ρ1, g1⟩, e1, e2⟩ := Option.bind_eq_some_iff.mp e
    refine ⟨_, _, rfl, qt B W O σ H ρ g _ _ ρ1 g1 (DenV.withS D r) e1 _ fun σ1 O1 H1 k1 D1 => ?_⟩
    exact qu B W O1 σ1 H1 ρ1 g1 _ _ ρ' g' D1 (rr.mono k1) e2 _ fun σ2 O2 H2 k2 D2 => q σ2 O2 H2 (k1.trans k2) D2
theorem DenV.den {K : Fg} {B : Bs} {W : Wd} {O : List Addr} {σ : St} {H : Hp} {ρ : Env} {g : GS} {v : V} {d : DV} (D : DenV K B W O σ H ρ g v d) : Den K B W O σ H ρ g := by
  obtain ⟨fe, fp, re, r, n, hb⟩ := D.env
  exact { D.toDen0 with env := ⟨fe, re, (List.nodup_append.mp n).1, fun a m => hb a (List.mem_append_left _ m)⟩ }
theorem dg_tup {k n : Nat} (hc : X.calm = true) (h : DGL X es gs) (hn : (assignEach es X.env).length = n := by rfl) (hst : (assignEach es X.env).findIdx? (·.1) = none := by rfl) : DG X (.Tuple es k pos) (gT n gs) := by
  obtain ⟨t, pt, qt⟩ := h
  refine ⟨_, pg_tup hc pt hn hst, fun B W O σ H ρ g d v ρ' g' D e Q q => ?_⟩
  unfold gT at e
  split at e
  · rename_i xs
    split at e
    · rename_i hl
      have D' := D.den
      obtain ⟨fe, fp, re, r, nn, hb⟩ := D.env
      cases r with
      | sh r =>
        cases r with
        | tup hq rs => exact ⟨_, _, rfl, sqT_mono msk_sub hq, by rw [rs.length]; exact hl, qt B W O σ H ρ g _ xs ρ' g' D' rs e Q q⟩
    · cases e
  · cases e
/-- target = value -/
def asgD (h : OF) (gf : GF) : SF := fun ρ g => (h ρ g).bind fun p => (gf p.1 ρ p.2).map fun q => .nx q.1 q.2
theorem ds_asg (he : DO X e h) (hg : DG X tg gf) (hs : swapsWithSole [tg] e pos.line X.env = pure false := by rfl) (hw : swappedStores [tg] e X.env = pure none := by rfl)
    (h1 : (assignEach [tg] X.env).map (·.2) = [assign tg X.env] := by rfl) : DS X (.Assign [tg] e pos) (asgD h gf) := by
  obtain ⟨t, pt, qt⟩ := he
  obtain ⟨u, pu, qu⟩ := hg
  refine ⟨_, ps_asg pt pu hs hw h1, fun B W O σ H ρ g r D e E q => ?_⟩
  obtain ⟨⟨d, g1⟩, e1, e2⟩ := Option.bind_eq_some_iff.mp e
  obtain ⟨⟨ρ', g'⟩, e3, e4⟩ := Option.map_eq_some_iff.mp e2
  cases e4
  refine qt B W O σ H ρ g d g1 D e1 _ fun v H1 fp x1 h1 n1 f1 r1 => ?_
  have D2 := D.withV x1 h1 n1 f1 r1
  exact qu B W _ σ H1 ρ g1 d v ρ' g' D2 e3 _ fun σ2 O2 H2 k2 D3 => q σ2 O2 H2 ((D.toDen0.keeps x1 fun a z => (f1 a z).1).trans k2) D3
/-- a list's item is stored -/
theorem Reps.set {K : Fg} {W : Wd} {O : List Addr} {H : Hp} {v : V} {d : DV} {f1 : List Addr} (r1 : Rep K W O H v d f1) : ∀ {vs : List V} {ds : List DV} {fp : List Addr} (i : Nat), Reps K W O H vs ds fp → (fp ++ f1).Nodup →
    ∃ fq, Reps K W O H (vs.set i v) (ds.set i d) fq ∧ fq.Nodup ∧ ∀ a ∈ fq, a ∈ fp ∨ a ∈ f1
  | _, _, _, _, .nil, hn => ⟨[], .nil, List.nodup_nil, fun a h => by simp at h⟩
  | _, _, _, 0, .cons (fp := fp) (fq := fq) r t, hn => ⟨f1 ++ fq, .cons r1 t, by
      rw [List.nodup_append] at hn ⊢
      have h1 := (List.nodup_append.mp hn.1)
      exact ⟨hn.2.1, h1.2.1, fun a ha b hb e => hn.2.2 b (List.mem_append_right _ hb) a ha e.symm⟩, fun a h => by
      rcases List.mem_append.mp h with h | h
      · exact .inr h
      · exact .inl (List.mem_append_right _ h)⟩
  | _, _, _, i + 1, .cons (fp := fp) (fq := fr) r t, hn => by
    have hn' := List.nodup_append.mp hn
    have hn1 := List.nodup_append.mp hn'.1
    obtain ⟨fq, h1, h2, h3⟩ := Reps.set r1 i t (by
      rw [List.nodup_append]
      exact ⟨hn1.2.1, hn'.2.1, fun a ha b hb => hn'.2.2 a (List.mem_append_right _ ha) b hb⟩)
    refine ⟨fp ++ fq, .cons r h1, ?_, fun a h => ?_⟩
    · rw [List.nodup_append]
      refine ⟨hn1.1, h2, fun a ha b hb e => ?_⟩
      subst e
      rcases h3 a hb with z | z
      · exact hn1.2.2 a ha a z rfl
      · exact hn'.2.2 a (List.mem_append_left _ ha) a z rfl
    · rcases List.mem_append.mp h with h | h
      · exact .inl (List.mem_append_left _ h)
      · rcases h3 a h with z | z
        · exact .inl (List.mem_append_right _ z)
        · exact .inr z
/-- xs[i] = v, xs an own slot -/
def gIx (i : Nat) (fi : EF) : GF := fun d ρ g => match ρ[i]? with
  | some (some (.own ds)) => (fi ρ g).bind fun p => match p.1 with
    | .int k => (ixN ds.length k).map fun j => (ρ.set i (some (.own (ds.set j d))), p.2)
    | _ => none
  | _ => none
theorem dg_ix (i : Nat) {x : Str} {p1 : Pos} (hi : DE X a fa) (hN : X.N[i]? = some x := by rfl) (hv : Vis X.env.scope x := by first | exact Or.inl rfl | exact Or.inr (Or.inl rfl) | exact Or.inr (Or.inr rfl)) (hd : (x == ("__debug__" : Str)) = false := by decide)
    (hcd : (x == ("__classdict__" : Str)) = false := by decide)
    (ha : ∀ v, assign (.Subscript (.Name x p1) a pos) X.env v = (do
      let ov ← holding [v] (eval (.Name x p1) X.env)
      let iv ← holding [v, ov] (eval a X.env)
      standAt pos
      holding [v, ov, iv] (setItem ov iv v)
      release [v, ov, iv] []) := by intro _; rfl) : DG X (.Subscript (.Name x p1) a pos) (gIx i fa) := by
  obtain ⟨t, pt, qt⟩ := hi
  refine ⟨_, pg_sub (pe_var hN hv hd hcd) pt set_list ha, fun B W O σ H ρ g d v ρ' g' D e Q q => ?_⟩
  have D' := D.den
  unfold gIx at e
  split at e
  · rename_i ds h1
    obtain ⟨⟨y, g1⟩, e1, e⟩ := Option.bind_eq_some_iff.mp e
    cases y with
    | int k =>
      obtain ⟨j, ej, e2⟩ := Option.map_eq_some_iff.mp e
      cases e2
      obtain ⟨fe, fp, re, rv, nn, hb⟩ := D.env
      have n0 := List.nodup_append.mp nn
      obtain ⟨v0, fq0, fr, e0, r0, rt, n1, hs⟩ := re.take h1 n0.1
      cases r0 with
      | own ha hw hl rs =>
        rename_i a' vs fq
        refine ⟨.ref a', e0, ?_⟩
        refine qt B W O σ H ρ g _ g1 D' e1 _ fun w H1 x1 hg1 r1 => ?_
        have D1 := D'.step x1 hg1
        have kp := D'.toDen0.keep x1
        cases r1
        have hl1 := x1 a' _ hw hl
        refine ⟨a', vs, k, j, rfl, rfl, hl1, by rw [rs.length]; exact ej, ?_⟩
        have rs1 := rs.mono kp x1 fun b m => (rs.inO b m).1
        have rv1 := rv.mono kp x1 fun b m => (rv.inO b m).1
        have rt1 := rt.mono kp x1 fun b m => (rt.inO b m).1
        have n2 := List.nodup_append.mp n1
        have n3 := List.nodup_cons.mp n2.1
        have apart : ∀ b ∈ (a' :: fq) ++ fr, b ∉ fp := fun b m z => n0.2.2 b (hs b m) b z rfl
        obtain ⟨fq', k1, k2, k3⟩ := Reps.set rv1 j rs1 (by
          rw [List.nodup_append]
          exact ⟨n3.2, n0.2.1, fun b hb c hc z => apart b (List.mem_append_left _ (List.mem_cons_of_mem _ hb)) (by rw [z]; exact hc)⟩)
        refine q σ O _ (kp.trans (keep_upd ha)) ?_
        refine Den.own_put D1.toDen0 (lt_of_slot h1) e0 ha hw rt1 k1 ?_ fun b m => ?_
        · rw [List.nodup_append]
          refine ⟨List.nodup_cons.mpr ⟨fun z => ?_, k2⟩, n2.2.1, fun b hb c hc z => ?_⟩
          · rcases k3 _ z with z | z
            · exact n3.1 z
            · exact apart a' (List.mem_append_left _ List.mem_cons_self) z
          · rcases List.mem_cons.mp hb with m | m
            · exact n2.2.2 b (by rw [m]; exact List.mem_cons_self) c hc z
            · rcases k3 _ m with m | m
              · exact n2.2.2 b (List.mem_cons_of_mem _ m) c hc z
              · exact apart c (List.mem_append_right _ hc) (by rw [← z]; exact m)
        · rcases List.mem_append.mp m with m | m
          · rcases List.mem_cons.mp m with m | m
            · rw [m]; exact hb _ (List.mem_append_left _ (hs _ (List.mem_append_left _ List.mem_cons_self)))
            · rcases k3 _ m with m | m
              · exact hb _ (List.mem_append_left _ (hs _ (List.mem_append_left _ (List.mem_cons_of_mem _ m))))
              · exact hb _ (List.mem_append_right _ m)
          · exact hb _ (List.mem_append_left _ (hs _ (List.mem_append_right _ m)))
    | _ => cases e
  · cases e

/-! ### for -/
def loopD (gf : GF) (sb : SF) : List SV → SF
  | [], ρ, g => some (.nx ρ g)
  | x :: xs, ρ, g => (gf (.sh x) ρ g).bind fun p => (sb p.1 p.2).bind fun r => match r with
    | .nx ρ' g' => loopD gf sb xs ρ' g'
    | .ct ρ' g' => loopD gf sb xs ρ' g'
    | .bk ρ' g' => some (.nx ρ' g')
    | .rt d g' => some (.rt d g')
def forD (fi : IF) (gf : GF) (sb : SF) : SF := fun ρ g => (fi ρ g).bind fun p => loopD gf sb p.1 ρ p.2
theorem drop_cons {α : Type} {xs : List α} {i : Nat} {x : α} (h : xs[i]? = some x) : xs.drop i = x :: xs.drop (i + 1) := by
  obtain ⟨hi, e⟩ := List.getElem?_eq_some_iff.mp h
  rw [List.drop_eq_getElem_cons hi, e]
theorem ds_for {fi : IF} (hc : X.calm = true) (hp : PassesOwn (model X.prog X.w) X.A X.env X.xe) (hi : DI X tg e fi) (hg : DG X tg gf) (hb : DSs X ss sb) (hs : ∀ x, foldedSetIterable e X.env x = pure x := by intro _; rfl) : DS X (.For tg e ss [] pos) (forD fi gf sb) := by
  obtain ⟨wi, pi, qi⟩ := hi
  obtain ⟨tg', pg, qg⟩ := hg
  obtain ⟨tb, pb, qb⟩ := hb
  refine ⟨_, ps_for hp hc pi pg pb hs, fun B W O σ H ρ g r D e E q => ?_⟩
  obtain ⟨⟨xs, g1⟩, e1, e2⟩ := Option.bind_eq_some_iff.mp e
  refine qi B W O σ H ρ g xs g1 D e1 _ fun J H1 x1 hg1 ok => ?_
  have k1 := D.toDen0.keep x1
  refine ⟨fun i m σ' H' => i ≤ xs.length ∧ m = xs.length - i ∧ ∃ O' ρ' g', Keep O H1 O' H' ∧ Den X.K B W O' σ' H' ρ' g' ∧ loopD gf sb (xs.drop i) ρ' g' = some r, ⟨xs.length, Nat.zero_le _, by simp, O, ρ, g1, Keep.refl, D.step x1 hg1, e2⟩, ?_⟩
  rintro i m σ' H' ⟨hi, rfl, O', ρ', g', k', D', e'⟩
  obtain ⟨go, stop⟩ := ok O' H' k' D'.dom
  by_cases hlt : i < xs.length
  · obtain ⟨x, hx⟩ : ∃ x, xs[i]? = some x := ⟨xs[i], by simp [hlt]⟩
    rw [drop_cons hx] at e'
    unfold loopD at e'
    obtain ⟨⟨ρ2, g2⟩, e3, e4⟩ := Option.bind_eq_some_iff.mp e'
    obtain ⟨r1, e5, e6⟩ := Option.bind_eq_some_iff.mp e4
    obtain ⟨go1, yld⟩ := go i x hx
    refine .inr ⟨go1, fun σ'' H'' => ∃ O'' ρ'' g'', Keep O H1 O'' H'' ∧ Den X.K B W O'' σ'' H'' ρ'' g'' ∧ loopD gf sb (xs.drop (i + 1)) ρ'' g'' = some r, fun σ'' H'' hN => ⟨xs.length - (i + 1), by omega, hlt, rfl, hN⟩, fun v H2 hy => ?_⟩
    obtain ⟨sm, rv⟩ := yld v H2 hy
    have D2 := D'.step (Same.ext sm) (D'.gen.same sm)
    have k2 : Keep O H1 O' H2 := k'.trans (msk_same sm)
    refine qg B W O' σ' H2 ρ' g' _ v ρ2 g2 (DenV.withS D2 rv) e3 _ fun σ3 O3 H3 k3 D3 => ?_
    refine qb B W O3 σ3 H3 ρ2 g2 r1 D3 e5 _ ?_
    cases r1 with
    | nx ρ4 g4 => exact fun σ4 O4 H4 k4 D4 => ⟨O4, ρ4, g4, (k2.trans k3).trans k4, D4, e6⟩
    | ct ρ4 g4 => exact fun σ4 O4 H4 k4 D4 => ⟨O4, ρ4, g4, (k2.trans k3).trans k4, D4, e6⟩
    | bk ρ4 g4 =>
      cases e6
      exact fun σ4 O4 H4 k4 D4 => q σ4 O4 H4 (k1.trans ((k2.trans k3).trans k4)) D4
    | rt d g4 =>
      cases e6
      exact q
  · have he : i = xs.length := by omega
    subst he
    rw [List.drop_length] at e'
    unfold loopD at e'
    cases e'
    exact .inl ⟨stop _ (Nat.le_refl _), q σ' O' H' (k1.trans k') D'⟩

/-! ### while -/
def whileN (c : TF) (sb : SF) : Nat → SF
  | 0, _, _ => none
  | n + 1, ρ, g => (c ρ g).bind fun p => if p.1 = true then (sb ρ p.2).bind fun r => match r with
    | .nx ρ' g' => whileN c sb n ρ' g'
    | .ct ρ' g' => whileN c sb n ρ' g'
    | .bk ρ' g' => some (.nx ρ' g')
    | .rt d g' => some (.rt d g')
  else some (.nx ρ p.2)
def FUEL : Nat := 18446744073709551616
def whileD (c : TF) (sb : SF) : SF := whileN c sb FUEL
theorem ds_while (hp : PassesOwn (model X.prog X.w) X.A X.env X.xe) (hc : DT X c c1) (hb : DSs X ss sb) : DS X (.While c ss [] pos) (whileD c1 sb) := by
  obtain ⟨t, pt, qt⟩ := hc
  obtain ⟨u, pu, qu⟩ := hb
  refine ⟨_, ps_while hp pt pu, fun B W O σ H ρ g r D e E q => ?_⟩
  refine ⟨fun m σ' H' => ∃ O' ρ' g', Keep O H O' H' ∧ Den X.K B W O' σ' H' ρ' g' ∧ whileN c1 sb m ρ' g' = some r, ⟨FUEL, O, ρ, g, Keep.refl, D, e⟩, ?_⟩
  rintro m σ' H' ⟨O', ρ', g', k', D', e'⟩
  cases m with
  | zero => cases e'
  | succ m =>
    unfold whileN at e'
    obtain ⟨⟨b, g1⟩, e1, e2⟩ := Option.bind_eq_some_iff.mp e'
    refine qt B W O' σ' H' ρ' g' b g1 D' e1 _ fun H1 x1 hg1 => ?_
    have k1 := D'.toDen0.keep x1
    have D1 := D'.step x1 hg1
    cases b with
    | false =>
      rw [if_neg Bool.false_ne_true]
      dsimp only at e2
      rw [if_neg Bool.false_ne_true] at e2
      cases e2
      exact q σ' O' H1 (k'.trans k1) D1
    | true =>
      rw [if_pos rfl]
      rw [if_pos rfl] at e2
      obtain ⟨r1, e5, e6⟩ := Option.bind_eq_some_iff.mp e2
      refine ⟨fun σ'' H'' => ∃ O'' ρ'' g'', Keep O H O'' H'' ∧ Den X.K B W O'' σ'' H'' ρ'' g'' ∧ whileN c1 sb m ρ'' g'' = some r, fun σ'' H'' hN => ⟨m, Nat.lt_succ_self m, hN⟩, ?_⟩
      refine qu B W O' σ' H1 ρ' g1 r1 D1 e5 _ ?_
      cases r1 with
      | nx ρ4 g4 => exact fun σ4 O4 H4 k4 D4 => ⟨O4, ρ4, g4, (k'.trans k1).trans k4, D4, e6⟩
      | ct ρ4 g4 => exact fun σ4 O4 H4 k4 D4 => ⟨O4, ρ4, g4, (k'.trans k1).trans k4, D4, e6⟩
      | bk ρ4 g4 =>
        cases e6
        exact fun σ4 O4 H4 k4 D4 => q σ4 O4 H4 ((k'.trans k1).trans k4) D4
      | rt d g4 =>
        cases e6
        exact q

/-! ### what is walked -/
def iSeq (f : EF) : IF := fun ρ g => (f ρ g).bind fun p => p.1.seq?.map fun xs => (xs, p.2)
/-- a list or a tuple -/
def iLT (K : Fg) (tl : TE) : TI := fun σ H R => tl σ H fun x H1 => ∃ a, x = .ref a ∧ (((∃ xs, SqL K H1 a xs) ∧ R (Itl K a) H1) ∨ ((∃ xs, SqT K H1 a xs) ∧ R (Itt K a) H1))
theorem pi_lt {l : Expr} {tl : TE} (hl : PE X l tl) : PI X tg l (iLT X.K tl) := by
  refine ⟨fun pins s σ H R I h => ?_⟩
  refine thn (hl.run pins s σ H _ I h) fun v s1 ⟨x, H1, I1, r1, q1⟩ => ?_
  obtain ⟨a, e, q⟩ := q1
  subst e
  cases r1
  rcases q with ⟨⟨xs, hq⟩, q⟩ | ⟨⟨xs, hq⟩, q⟩
  · obtain ⟨its, rv, p, hz⟩ := I1.list hq
    refine wpAny_pyIter_list p.isList ?_
    refine ⟨s1.heap.objs.size, [s1.heap.objs.size], _, _, H1, rfl, I1.kept (t' := s1.toks) fun b o e => Heap.get?_push_of_some _ e, turn_list a _, ⟨_, Heap.get?_push_size _ rfl, rfl, rfl⟩, fun b hb => ?_, q⟩
    have e : b = s1.heap.objs.size := by simpa using hb
    subst e
    exact I1.fpOk (Nat.le_refl _) (I1.hok.fresh (Nat.le_refl _))
  · obtain ⟨its, rv, p, hz⟩ := I1.tuple hq
    refine wpAny_pyIter_tuple (show s1.heap.IsTuple a its.toArray from p) ?_
    refine ⟨s1.heap.objs.size, [s1.heap.objs.size], _, _, H1, rfl, I1.kept (t' := s1.toks) fun b o e => Heap.get?_push_of_some _ e, turn_tuple a _, ⟨_, Heap.get?_push_size _ rfl, rfl, rfl⟩, fun b hb => ?_, q⟩
    have e : b = s1.heap.objs.size := by simpa using hb
    subst e
    exact I1.fpOk (Nat.le_refl _) (I1.hok.fresh (Nat.le_refl _))
theorem itl_ok {K : Fg} {W : Wd} {O : List Addr} {H : Hp} {a : Addr} {vs : List V} {xs : List SV} (h : msk O H a = some (.lst vs)) (r : RepSs K W (msk O H) vs xs) : ItOk K W O H (Itl K a) xs := by
  intro O' H' k hO
  have h' : SqL K H' a vs := .inl (.inl (of_msk (k _ _ h)).1)
  have r' := r.mono k
  refine ⟨fun i x hx => ?_, fun i hi => ⟨vs, h', by rw [r.length]; exact hi⟩⟩
  obtain ⟨v, e1, r1⟩ := r'.get hx
  refine ⟨⟨vs, v, h', e1⟩, fun w H2 hy => ?_⟩
  obtain ⟨rfl, hy⟩ := hy
  have e2 := hy vs h'
  rw [e1] at e2
  cases e2
  exact ⟨Same.refl _, r1⟩
theorem itt_ok {K : Fg} {W : Wd} {O : List Addr} {H : Hp} {a : Addr} {vs : List V} {xs : List SV} (h : SqT K (msk O H) a vs) (r : RepSs K W (msk O H) vs xs) : ItOk K W O H (Itt K a) xs := by
  intro O' H' k hO
  have h' : SqT K H' a vs := sqT_mono msk_sub (sqT_mono k h)
  have r' := r.mono k
  refine ⟨fun i x hx => ?_, fun i hi => ⟨vs, h', by rw [r.length]; exact hi⟩⟩
  obtain ⟨v, e1, r1⟩ := r'.get hx
  refine ⟨⟨vs, v, h', e1⟩, fun w H2 hy => ?_⟩
  obtain ⟨rfl, hy⟩ := hy
  have e2 := hy vs h'
  rw [e1] at e2
  cases e2
  exact ⟨Same.refl _, r1⟩
theorem di_seq (ha : DE X e f) : DI X tg e (iSeq f) := by
  obtain ⟨t, pt, qt⟩ := ha
  refine ⟨_, pi_lt pt, fun B W O σ H ρ g xs g' D e R q => ?_⟩
  obtain ⟨⟨s, g1⟩, e1, e2⟩ := Option.bind_eq_some_iff.mp e
  obtain ⟨ys, e3, e4⟩ := Option.map_eq_some_iff.mp e2
  cases e4
  refine qt B W O σ H ρ g s g1 D e1 _ fun v H1 x1 h1 r1 => ?_
  cases r1 with
  | tup hq r => cases e3; exact ⟨_, rfl, .inr ⟨⟨_, sqT_mono msk_sub hq⟩, q _ H1 x1 h1 (itt_ok hq r)⟩⟩
  | lst hq r => cases e3; exact ⟨_, rfl, .inl ⟨⟨_, .inl (.inl (of_msk hq).1)⟩, q _ H1 x1 h1 (itl_ok hq r)⟩⟩
  | _ => cases e3
/-- range(n), range(a, b) -/
def rngL (lo : Int) (n : Nat) : List SV := (List.range n).map fun (i : Nat) => SV.int (lo + (i : Int))
theorem itr_ok {K : Fg} {W : Wd} {O : List Addr} {H : Hp} {lo : Int} {n : Nat} : ItOk K W O H (Itr lo n) (rngL lo n) := by
  intro O' H' k hO
  refine ⟨fun i x hx => ?_, fun i hi => ?_⟩
  · unfold rngL at hx
    rw [List.getElem?_map] at hx
    obtain ⟨j, e1, e2⟩ := Option.map_eq_some_iff.mp hx
    obtain ⟨hlt, e3⟩ := List.getElem?_eq_some_iff.mp e1
    rw [List.getElem_range] at e3
    subst e3
    subst e2
    rw [List.length_range] at hlt
    refine ⟨hlt, fun w H2 hy => ?_⟩
    obtain ⟨rfl, rfl⟩ := hy
    exact ⟨Same.refl _, .int⟩
  · unfold rngL at hi
    rw [List.length_map, List.length_range] at hi
    exact hi
def iR1 (f : EF) : IF := fun ρ g => (f ρ g).bind fun p => match p.1 with
  | .int n => if rngOk n = true then some (rngL 0 n.toNat, p.2) else none
  | _ => none
def iR2 (fa fb : EF) : IF := fun ρ g => (fa ρ g).bind fun p => (fb ρ p.2).bind fun q => match p.1, q.1 with
  | .int a, .int b => if rngOk a = true ∧ rngOk b = true then some (rngL a (b - a).toNat, q.2) else none
  | _, _ => none
theorem di_range1 {p : Pos} (hg : Gl X "range") (hm : X.mg "range" = none) (ha : DE X a fa) (hs : starEach [a] X.env = (false, eval a X.env) :: starEach [] X.env := by rfl) (hs2 : starEach [a] X.env = [(false, eval a X.env)] := by rfl) : DI X tg (.Call (.Name "range" p) [a] [] pos) (iR1 fa) := by
  obtain ⟨t, pt, qt⟩ := ha
  refine ⟨_, pi_range1 hg hm (pa_cons pt pa_nil hs) hs2, fun B W O σ H ρ g xs g' D e R q => ?_⟩
  obtain ⟨⟨s, g1⟩, e1, e2⟩ := Option.bind_eq_some_iff.mp e
  refine qt B W O σ H ρ g s g1 D e1 _ fun v H1 x1 h1 r1 => ?_
  cases s with
  | int n =>
    cases r1
    dsimp only at e2
    split at e2
    · rename_i hh
      cases e2
      have hz := rngOk_lt hh
      exact ⟨n, rfl, by omega, by omega, q _ H1 x1 h1 itr_ok⟩
    · cases e2
  | _ => cases e2
theorem di_range2 {p : Pos} (hg : Gl X "range") (hm : X.mg "range" = none) (ha : DE X a fa) (hb : DE X b fb) (hs : starEach [a, b] X.env = (false, eval a X.env) :: starEach [b] X.env := by rfl) (hs1 : starEach [b] X.env = (false, eval b X.env) :: starEach [] X.env := by rfl) (hs2 : starEach [a, b] X.env = [(false, eval a X.env), (false, eval b X.env)] := by rfl) (hs3 : starEach [b] X.env = [(false, eval b X.env)] := by rfl) :
    DI X tg (.Call (.Name "range" p) [a, b] [] pos) (iR2 fa fb) := by
  obtain ⟨t, pt, qt⟩ := ha
  obtain ⟨u, pu, qu⟩ := hb
  refine ⟨_, pi_range2 hg hm (pa_cons pt (pa_cons pu pa_nil hs1) hs) hs2 hs3, fun B W O σ H ρ g xs g' D e R q => ?_⟩
  obtain ⟨⟨s, g1⟩, e1, e2⟩ := Option.bind_eq_some_iff.mp e
  obtain ⟨⟨s2, g2⟩, e3, e4⟩ := Option.bind_eq_some_iff.mp e2
  refine qt B W O σ H ρ g s g1 D e1 _ fun v H1 x1 h1 r1 => ?_
  have D1 := D.step x1 h1
  refine qu B W O σ H1 ρ g1 s2 g2 D1 e3 _ fun w H2 x2 h2 r2 => ?_
  cases s with
  | int n =>
    cases s2 with
    | int n2 =>
      cases r1; cases r2
      dsimp only at e4
      split at e4
      · rename_i hh
        cases e4
        have hz1 := rngOk_lt hh.1
        have hz2 := rngOk_lt hh.2
        exact ⟨n, n2, rfl, ⟨by omega, by omega, by omega, by omega⟩, q _ H2 (x1.trans x2) h2 itr_ok⟩
      · cases e4
    | _ => cases e4
  | _ => cases e4
/-- enumerate(xs) of a list -/
def numL (xs : List SV) : List SV := xs.zipIdx.map fun p => SV.tup [.int (p.2 : Nat), p.1]
theorem numL_get {xs : List SV} {i : Nat} {x : SV} (h : (numL xs)[i]? = some x) : ∃ y, xs[i]? = some y ∧ x = .tup [.int (i : Nat), y] := by
  unfold numL at h
  rw [List.getElem?_map, List.getElem?_zipIdx] at h
  obtain ⟨p, e1, e2⟩ := Option.map_eq_some_iff.mp h
  obtain ⟨y, e3, e4⟩ := Option.map_eq_some_iff.mp e1
  subst e4
  subst e2
  exact ⟨y, e3, by simp⟩
theorem numL_len {xs : List SV} : (numL xs).length = xs.length := by unfold numL; rw [List.length_map, List.length_zipIdx]
theorem rep_pair {K : Fg} {W : Wd} {O : List Addr} {H : Hp} {T : Addr} {x y : V} {a b : SV} (hO : ∀ a ∈ O, H a ≠ none) (hT : H T = none) (ra : RepS K W (msk O H) x a) (rb : RepS K W (msk O H) y b) : RepS K W (msk O (upd H T (.tup [x, y]))) (.ref T) (.tup [a, b]) :=
  rep_tup hO hT (.cons ra (.cons rb .nil))
theorem ite_ok {K : Fg} {W : Wd} {O : List Addr} {H : Hp} {a : Addr} {vs : List V} {xs : List SV} (h : msk O H a = some (.lst vs)) (r : RepSs K W (msk O H) vs xs) : ItOk K W O H (Ite K a) (numL xs) := by
  intro O' H' k hO
  have h' : SqL K H' a vs := .inl (.inl (of_msk (k _ _ h)).1)
  have r' := r.mono k
  refine ⟨fun i x hx => ?_, fun i hi => ⟨vs, h', by rw [r.length]; rw [numL_len] at hi; exact hi⟩⟩
  obtain ⟨y, hy, rfl⟩ := numL_get hx
  obtain ⟨v, e1, r1⟩ := r'.get hy
  refine ⟨⟨vs, v, h', e1⟩, fun w H2 hw => ?_⟩
  obtain ⟨T, x, rfl, hT, rfl, hx⟩ := hw
  have e2 := hx vs h'
  rw [e1] at e2
  cases e2
  exact ⟨keep_new hT, rep_pair hO hT .int r1⟩
def SV.l? : SV → Option (List SV)
  | .lst xs => some xs
  | _ => none
def iNum (f : EF) : IF := fun ρ g => (f ρ g).bind fun p => p.1.l?.map fun xs => (numL xs, p.2)
theorem di_enum {p tpos : Pos} {elts : List Expr} {kk : Nat} (hg : Gl X "enumerate") (hm : X.mg "enumerate" = none) (ha : DE X a fa) (hs : starEach [a] X.env = (false, eval a X.env) :: starEach [] X.env := by rfl) (hs2 : starEach [a] X.env = [(false, eval a X.env)] := by rfl) :
    DI X (.Tuple elts kk tpos) (.Call (.Name "enumerate" p) [a] [] pos) (iNum fa) := by
  obtain ⟨t, pt, qt⟩ := ha
  refine ⟨_, pi_enum hg hm (pa_cons pt pa_nil hs) hs2, fun B W O σ H ρ g xs g' D e R q => ?_⟩
  obtain ⟨⟨s, g1⟩, e1, e2⟩ := Option.bind_eq_some_iff.mp e
  obtain ⟨ys, e3, e4⟩ := Option.map_eq_some_iff.mp e2
  cases e4
  refine qt B W O σ H ρ g s g1 D e1 _ fun v H1 x1 h1 r1 => ?_
  cases r1 with
  | lst hq r => cases e3; exact ⟨_, _, rfl, .inl (.inl (of_msk hq).1), q _ H1 x1 h1 (ite_ok hq r)⟩
  | _ => cases e3
/-- zip(xs, ys) of two lists or two tuples -/
def zipL (xs ys : List SV) : List SV := List.zipWith (fun a b => SV.tup [a, b]) xs ys
theorem zipL_get {xs ys : List SV} {i : Nat} {x : SV} (h : (zipL xs ys)[i]? = some x) : ∃ a b, xs[i]? = some a ∧ ys[i]? = some b ∧ x = .tup [a, b] := by
  unfold zipL at h
  rw [List.getElem?_zipWith] at h
  cases ha : xs[i]? with
  | none => rw [ha] at h; simp at h
  | some a =>
    cases hb : ys[i]? with
    | none => rw [ha, hb] at h; simp at h
    | some b => rw [ha, hb] at h; simp at h; exact ⟨a, b, rfl, rfl, h.symm⟩
theorem itz_ok {K : Fg} {W : Wd} {O : List Addr} {H : Hp} {a b : Addr} {vs ws : List V} {xs ys : List SV} (h : msk O H a = some (.lst vs)) (r : RepSs K W (msk O H) vs xs) (h2 : msk O H b = some (.lst ws)) (r2 : RepSs K W (msk O H) ws ys) : ItOk K W O H (Itz K a b) (zipL xs ys) := by
  intro O' H' k hO
  have h' : SqL K H' a vs := .inl (.inl (of_msk (k _ _ h)).1)
  have h2' : SqL K H' b ws := .inl (.inl (of_msk (k _ _ h2)).1)
  have r' := r.mono k
  have r2' := r2.mono k
  refine ⟨fun i x hx => ?_, fun i hi => ⟨vs, ws, h', h2', ?_⟩⟩
  · obtain ⟨c, d, hc, hd, rfl⟩ := zipL_get hx
    obtain ⟨v, e1, r1⟩ := r'.get hc
    obtain ⟨w, e3, r3⟩ := r2'.get hd
    refine ⟨⟨vs, ws, v, w, h', h2', e1, e3⟩, fun z H2 hw => ?_⟩
    obtain ⟨T, x, y, rfl, hT, rfl, hx, hy⟩ := hw
    have e2 := hx vs h'
    rw [e1] at e2
    cases e2
    have e4 := hy ws h2'
    rw [e3] at e4
    cases e4
    exact ⟨keep_new hT, rep_pair hO hT r1 r3⟩
  · unfold zipL at hi
    rw [List.length_zipWith] at hi
    rw [r.length, r2.length]
    omega
theorem itzT_ok {K : Fg} {W : Wd} {O : List Addr} {H : Hp} {a b : Addr} {vs ws : List V} {xs ys : List SV} (h : SqT K (msk O H) a vs) (r : RepSs K W (msk O H) vs xs) (h2 : SqT K (msk O H) b ws) (r2 : RepSs K W (msk O H) ws ys) : ItOk K W O H (RZ.ItzT K a b) (zipL xs ys) := by
  intro O' H' k hO
  have h' : SqT K H' a vs := sqT_mono msk_sub (sqT_mono k h)
  have h2' : SqT K H' b ws := sqT_mono msk_sub (sqT_mono k h2)
  have r' := r.mono k
  have r2' := r2.mono k
  refine ⟨fun i x hx => ?_, fun i hi => ⟨vs, ws, h', h2', ?_⟩⟩
  · obtain ⟨c, d, hc, hd, rfl⟩ := zipL_get hx
    obtain ⟨v, e1, r1⟩ := r'.get hc
    obtain ⟨w, e3, r3⟩ := r2'.get hd
    refine ⟨⟨vs, ws, v, w, h', h2', e1, e3⟩, fun z H2 hw => ?_⟩
    obtain ⟨T, x, y, rfl, hT, rfl, hx, hy⟩ := hw
    have e2 := hx vs h'
    rw [e1] at e2
    cases e2
    have e4 := hy ws h2'
    rw [e3] at e4
    cases e4
    exact ⟨keep_new hT, rep_pair hO hT r1 r3⟩
  · unfold zipL at hi
    rw [List.length_zipWith] at hi
    rw [r.length, r2.length]
    omega
def hZip : SV → SV → Option (List SV)
  | .lst xs, .lst ys => some (zipL xs ys)
  | .tup xs, .tup ys => some (zipL xs ys)
  | _, _ => none
def iZp (fa fb : EF) : IF := fun ρ g => (fa ρ g).bind fun p => (fb ρ p.2).bind fun q => (hZip p.1 q.1).map fun xs => (xs, q.2)
theorem di_zip {p tpos : Pos} {elts : List Expr} {kk : Nat} (hg : Gl X "zip") (hm : X.mg "zip" = none) (ha : DE X a fa) (hb : DE X b fb) (hs : starEach [a, b] X.env = (false, eval a X.env) :: starEach [b] X.env := by rfl) (hs1 : starEach [b] X.env = (false, eval b X.env) :: starEach [] X.env := by rfl)
    (hpl : (backTo pos (starEach [b] X.env)).any (·.1) = false := by rfl) :
    DI X (.Tuple elts kk tpos) (.Call (.Name "zip" p) [a, b] [] pos) (iZp fa fb) := by
  obtain ⟨t, pt, qt⟩ := ha
  obtain ⟨u, pu, qu⟩ := hb
  refine ⟨_, RZ.pi_zipA hg hm (pa_cons pt (pa_cons pu pa_nil hs1) hs) hs hpl, fun B W O σ H ρ g xs g' D e R q => ?_⟩
  obtain ⟨⟨s, g1⟩, e1, e2⟩ := Option.bind_eq_some_iff.mp e
  obtain ⟨⟨s2, g2⟩, e3, e4⟩ := Option.bind_eq_some_iff.mp e2
  obtain ⟨ys, e5, e6⟩ := Option.map_eq_some_iff.mp e4
  cases e6
  refine qt B W O σ H ρ g s g1 D e1 _ fun v H1 x1 h1 r1 => ?_
  have D1 := D.step x1 h1
  refine qu B W O σ H1 ρ g1 s2 g2 D1 e3 _ fun w H2 x2 h2 r2 => ?_
  have r1' := r1.mono (D1.toDen0.keep x2)
  cases r1' with
  | lst hq r =>
    cases r2 with
    | lst hq2 r2 => cases e5; exact ⟨_, _, _, _, rfl, .inl ⟨.inl (.inl (of_msk hq).1), .inl (.inl (of_msk hq2).1), q _ H2 (x1.trans x2) h2 (itz_ok hq r hq2 r2)⟩⟩
    | _ => cases e5
  | tup hq r =>
    cases r2 with
    | tup hq2 r2 => cases e5; exact ⟨_, _, _, _, rfl, .inr ⟨sqT_mono msk_sub hq, sqT_mono msk_sub hq2, q _ H2 (x1.trans x2) h2 (itzT_ok hq r hq2 r2)⟩⟩
    | _ => cases e5
  | _ => cases e5
end
end DL

/-! DL6: comprehensions, defs. -/
namespace DL
open PySem PySem.Spec L2

/-! ### the judgements by one reading each -/
def tEf (K : Fg) (f : EF) : TE := fun σ H Q => ∃ B W O ρ g s g', Den K B W O σ H ρ g ∧ f ρ g = some (s, g') ∧ ∀ v H', Ext W H H' → GOk W B.1 H' g' → RepS K W (msk O H') v s → Q v H'
def tOf (K : Fg) (f : OF) : TE := fun σ H Q => ∃ B W O ρ g d g', Den K B W O σ H ρ g ∧ f ρ g = some (d, g') ∧ ∀ v H' fp, Ext W H H' → GOk W B.1 H' g' → fp.Nodup → (∀ a ∈ fp, H a = none ∧ H' a ≠ none) → Rep K W (fp ++ O) H' v d fp → Q v H'
def tTf (K : Fg) (f : TF) : TT := fun σ H Q => ∃ B W O ρ g b g', Den K B W O σ H ρ g ∧ f ρ g = some (b, g') ∧ ∀ H', Ext W H H' → GOk W B.1 H' g' → Q b H'
section
variable {X : Cx} {e tg : Expr} {f : EF} {h : OF} {c : TF}
theorem DE.pe (D : DE X e f) : PE X e (tEf X.K f) := by
  obtain ⟨t, pt, qt⟩ := D
  refine ⟨fun pins s σ H Q I hq => ?_⟩
  obtain ⟨B, W, O, ρ, g, s', g', D, e, q⟩ := hq
  exact pt.run pins s σ H Q I (qt B W O σ H ρ g s' g' D e Q q)
theorem DO.pe (D : DO X e h) : PE X e (tOf X.K h) := by
  obtain ⟨t, pt, qt⟩ := D
  refine ⟨fun pins s σ H Q I hq => ?_⟩
  obtain ⟨B, W, O, ρ, g, s', g', D, e, q⟩ := hq
  exact pt.run pins s σ H Q I (qt B W O σ H ρ g s' g' D e Q q)
theorem DT.pt (D : DT X e c) : PT X e (tTf X.K c) := by
  obtain ⟨t, pt, qt⟩ := D
  refine ⟨fun pins s σ H Q I hq => ?_⟩
  obtain ⟨B, W, O, ρ, g, s', g', D, e, q⟩ := hq
  exact pt.run pins s σ H Q I (qt B W O σ H ρ g s' g' D e Q q)
end
/-- a comprehension's target: names of the block alone -/
abbrev WF := SV → Env → Option Env
def DGw (K : Fg) (t : TG) (vs : List Nat) (f : WF) : Prop := ∀ B W O σ H ρ g s v ρ', Den K B W O σ H ρ g → RepS K W (msk O H) v s → f s ρ = some ρ' →
  ∀ Q : St → Hp → Prop, (∀ σ', wipe σ' vs = wipe σ vs → Den K B W O σ' H ρ' g → Q σ' H) → t v σ H Q
def DGwl (K : Fg) (t : TGs) (vs : List Nat) (f : List SV → Env → Option Env) : Prop := ∀ B W O σ H ρ g s v ρ', Den K B W O σ H ρ g → RepSs K W (msk O H) v s → f s ρ = some ρ' →
  ∀ Q : St → Hp → Prop, (∀ σ', wipe σ' vs = wipe σ vs → Den K B W O σ' H ρ' g → Q σ' H) → t v σ H Q
def wN (i : Nat) : WF := fun s ρ => some (ρ.set i (some (.sh s)))
def wLN : List SV → Env → Option Env := fun ss ρ => match ss with
  | [] => some ρ
  | _ => none
def wLC (f : WF) (fs : List SV → Env → Option Env) : List SV → Env → Option Env := fun ss ρ => match ss with
  | s :: ss => (f s ρ).bind fun ρ' => fs ss ρ'
  | [] => none
def wT (n : Nat) (fs : List SV → Env → Option Env) : WF := fun s ρ => match s with
  | .tup xs => if xs.length = n then fs xs ρ else none
  | _ => none
theorem wipe_get (σ : St) (j : Nat) : ∀ vs : List Nat, (wipe σ vs)[j]? = if j ∈ vs ∧ j < σ.length then some none else σ[j]?
  | [] => by simp [wipe]
  | v :: vs => by
    unfold wipe
    rw [List.getElem?_set, wipe_length, wipe_get σ j vs]
    by_cases h : v = j
    · subst h
      by_cases h2 : v < σ.length
      · simp [h2]
      · simp [h2]
    · rw [if_neg h]
      have : (j ∈ v :: vs) ↔ j ∈ vs := by
        rw [List.mem_cons]
        exact ⟨fun z => z.resolve_left (fun q => h q.symm), Or.inr⟩
      simp only [this]
theorem wipe_set {σ : St} {i : Nat} {y : Option V} {vs : List Nat} (h : i ∈ vs) : wipe (σ.set i y) vs = wipe σ vs := by
  apply List.ext_getElem?
  intro j
  rw [wipe_get, wipe_get, List.length_set]
  by_cases hj : j ∈ vs ∧ j < σ.length
  · rw [if_pos hj, if_pos hj]
  · rw [if_neg hj, if_neg hj, List.getElem?_set]
    by_cases hij : i = j
    · subst hij
      rw [if_pos rfl]
      by_cases hl : i < σ.length
      · exact absurd ⟨h, hl⟩ hj
      · rw [if_neg hl, List.getElem?_eq_none (Nat.le_of_not_lt hl)]
    · rw [if_neg hij]
theorem wipe_wipe {σ : St} {vs : List Nat} : wipe (wipe σ vs) vs = wipe σ vs := by
  apply List.ext_getElem?
  intro j
  rw [wipe_get, wipe_length]
  by_cases hj : j ∈ vs ∧ j < σ.length
  · rw [if_pos hj, wipe_get, if_pos hj]
  · rw [if_neg hj]
theorem dgw_name {K : Fg} {i : Nat} {vs : List Nat} (h : i ∈ vs) : DGw K (gName i) vs (wN i) := by
  intro B W O σ H ρ g s v ρ' D r e Q q
  cases e
  exact q _ (wipe_set h) ((DenV.withS D r).set i)
theorem dgwl_nil {K : Fg} {vs : List Nat} : DGwl K gNil vs wLN := by
  intro B W O σ H ρ g s v ρ' D r e Q q
  cases r with
  | nil => cases e; exact ⟨rfl, q σ rfl D⟩
  | cons _ _ => cases e
theorem dgwl_cons {K : Fg} {vs : List Nat} {t : TG} {u : TGs} {f : WF} {fs : List SV → Env → Option Env} (h1 : DGw K t vs f) (h2 : DGwl K u vs fs) : DGwl K (gCons t u) vs (wLC f fs) := by
  intro B W O σ H ρ g s v ρ' D r e Q q
  cases r with
  | nil => cases e
  | cons r rr =>
    obtain ⟨ρ1, e1, e2⟩ := Option.bind_eq_some_iff.mp e
    refine ⟨_, _, rfl, h1 B W O σ H ρ g _ _ ρ1 D r e1 _ fun σ1 w1 D1 => ?_⟩
    exact h2 B W O σ1 H ρ1 g _ _ ρ' D1 rr e2 _ fun σ2 w2 D2 => q σ2 (w2.trans w1) D2
theorem dgw_tup {K : Fg} {vs : List Nat} {u : TGs} {n : Nat} {fs : List SV → Env → Option Env} (h : DGwl K u vs fs) : DGw K (gTup K n u) vs (wT n fs) := by
  intro B W O σ H ρ g s v ρ' D r e Q q
  unfold wT at e
  split at e
  · split at e
    · rename_i hl
      cases r with
      | tup hq rs => exact ⟨_, _, rfl, sqT_mono msk_sub hq, by rw [rs.length]; exact hl, h B W O σ H ρ g _ _ ρ' D rs e Q q⟩
    · cases e
  · cases e
def wipeE (ρ : Env) : List Nat → Env
  | [] => ρ
  | v :: vs => (wipeE ρ vs).set v none
theorem ERep.wipe1 {K : Fg} {W : Wd} {O : List Addr} {H : Hp} : ∀ {σ : St} {ρ : Env} {fe : List Addr} (i : Nat), ERep K W O H σ ρ fe → fe.Nodup → ∃ fq, ERep K W O H (σ.set i none) (ρ.set i none) fq ∧ fq.Nodup ∧ ∀ a ∈ fq, a ∈ fe
  | _, _, _, _, .nil, h => ⟨[], .nil, h, fun a m => m⟩
  | _, _, _, 0, .non t, h => ⟨_, .non t, h, fun a m => m⟩
  | _, _, _, i + 1, .non t, h => by
    obtain ⟨fq, h1, h2, h3⟩ := ERep.wipe1 i t h
    exact ⟨fq, .non h1, h2, h3⟩
  | _, _, _, 0, .som r t, h => ⟨_, .non t, (List.nodup_append.mp h).2.1, fun a m => List.mem_append_right _ m⟩
  | _, _, _, i + 1, .som (fp := fp) r t, h => by
    have hh := List.nodup_append.mp h
    obtain ⟨fq, h1, h2, h3⟩ := ERep.wipe1 i t hh.2.1
    refine ⟨fp ++ fq, .som r h1, ?_, fun a m => ?_⟩
    · rw [List.nodup_append]
      exact ⟨hh.1, h2, fun a ha b hb => hh.2.2 a ha b (h3 b hb)⟩
    · rcases List.mem_append.mp m with m | m
      · exact List.mem_append_left _ m
      · exact List.mem_append_right _ (h3 a m)
theorem Den.wipe {K : Fg} {B : Bs} {W : Wd} {O : List Addr} {σ : St} {H : Hp} {ρ : Env} {g : GS} (D : Den K B W O σ H ρ g) : ∀ vs : List Nat, Den K B W O (L2.wipe σ vs) H (wipeE ρ vs) g
  | [] => D
  | v :: vs => by
    have D' := D.wipe vs
    obtain ⟨fe, re, n, hb⟩ := D'.env
    obtain ⟨fq, h1, h2, h3⟩ := ERep.wipe1 v re n
    exact { D'.toDen0 with env := ⟨fq, h1, h2, fun a m => hb a (h3 a m)⟩ }

/-! ### comprehensions -/
def compL (wf : WF) (ct : TF) (f : OF) (ρ : Env) : List SV → GS → Option (List DV × GS)
  | [], g => some ([], g)
  | x :: xs, g => (wf x ρ).bind fun ρ' => (ct ρ' g).bind fun p => if p.1 = true then (f ρ' p.2).bind fun q => (compL wf ct f ρ xs q.2).map fun r => (q.1 :: r.1, r.2) else compL wf ct f ρ xs p.2
def compD (fi : IF) (wf : WF) (ct : TF) (f : OF) (vs : List Nat) : OF := fun ρ g => (fi ρ g).bind fun p => if lenOk p.1.length = true then (compL wf ct f (wipeE ρ vs) p.1 p.2).map fun q => (.own q.1, q.2) else none
theorem lc_s {K : Fg} {wi : TI} {tg : TG} {tt : TT} {te : TE} {vs : List Nat} {fi : IF} {wf : WF} {ct : TF} {f : OF} (hi : DIs K wi fi) (hg : DGw K tg vs wf) (ht : DTs K tt ct) (he : DOs K te f) : DOs K (tLc wi tg tt te vs) (compD fi wf ct f vs) := by
  intro B W O σ H ρ g d g' D e Q q
  obtain ⟨⟨xs, g1⟩, e1, e2⟩ := Option.bind_eq_some_iff.mp e
  split at e2
  case isFalse => cases e2
  rename_i hlen
  obtain ⟨⟨ds, g2⟩, e3, e4⟩ := Option.map_eq_some_iff.mp e2
  cases e4
  refine hi B W O σ H ρ g xs g1 D e1 _ fun J H1 x1 hg1 ok => fun Dd hD => ?_
  have D1 := D.step x1 hg1
  obtain ⟨fe, re, nfe, hfe⟩ := D1.env
  have dO : Dd ∉ O := D1.toDen0.notO hD
  have dW : Dd ∉ W.as := fun z => dO (D1.toDen0.was Dd z)
  have dB : B.2 Dd = none := D1.toDen0.fresh hD
  have dfe : Dd ∉ fe := fun z => dO (re.inO Dd z).1
  have xD : Ext W H1 (upd H1 Dd (.lst [])) := Same.ext (keep_new hD)
  have fD : ∀ a ∈ [Dd], H1 a = none ∧ upd H1 Dd (.lst []) a ≠ none := fun a m => by
    have m' : a = Dd := by simpa using m
    subst m'
    exact ⟨hD, by rw [upd_same]; simp⟩
  have line : sizeLine = 16777216 := by decide
  have D0 : Den0 B W (Dd :: O) (upd H1 Dd (.lst [])) g1 := D1.toDen0.grow (fp := [Dd]) xD (hg1.same (keep_new hD)) fD
  have re0 : ERep K W (Dd :: O) (upd H1 Dd (.lst [])) σ ρ fe := re.mono (D1.toDen0.keeps (fp := [Dd]) xD fun a m => (fD a m).1) xD fun a m => List.mem_cons_of_mem _ (re.inO a m).1
  have hlen := lenOk_lt hlen
  dsimp only at hlen
  refine ⟨fun i m H' => i ≤ xs.length ∧ m = xs.length - i ∧ ∃ gc ws acc M fl rest, Ext W H1 H' ∧ Den0 B W M H' gc ∧ ERep K W M H' σ ρ fe ∧ H' Dd = some (.lst ws) ∧ Reps K W M H' ws acc fl ∧ fl.Nodup ∧ (Dd ∈ M ∧ (∀ a ∈ O, a ∈ M) ∧ (∀ a ∈ M, a ∈ O ∨ H1 a = none) ∧ ∀ a ∈ fl, H1 a = none ∧ a ≠ Dd) ∧
    compL wf ct f (wipeE ρ vs) (xs.drop i) gc = some (rest, g2) ∧ acc ++ rest = ds ∧ acc.length ≤ i, ⟨xs.length, Nat.zero_le _, by simp, g1, [], [], Dd :: O, [], ds, xD, D0, re0, upd_same, .nil, List.nodup_nil, ⟨List.mem_cons_self, fun a m => List.mem_cons_of_mem _ m, fun a m => (List.mem_cons.mp m).elim (fun z => .inr (by rw [z]; exact hD)) .inl, fun a m => by simp at m⟩, e3, rfl, Nat.le_refl _⟩, ?_⟩
  rintro i m H' ⟨hi, rfl, gc, ws, acc, M, fl, rest, x2, D2, re2, hl, rs, nfl, ⟨hDM, hOM, hMn, hfl⟩, e', eq, hal⟩
  have k2 : Keep O H1 M H' := fun b o hb => by
    obtain ⟨hb1, hb2⟩ := of_msk hb
    refine msk_get (fun z => ?_) (x2 b o (fun z => hb2 (D1.toDen0.was b z)) hb1)
    rcases hMn b z with z | z
    · exact hb2 z
    · rw [z] at hb1; cases hb1
  obtain ⟨go, stop⟩ := ok M H' k2 D2.dom
  by_cases hlt : i < xs.length
  · obtain ⟨x, hx⟩ : ∃ x, xs[i]? = some x := ⟨xs[i], by simp [hlt]⟩
    rw [drop_cons hx] at e'
    unfold compL at e'
    obtain ⟨ρ', e5, e6⟩ := Option.bind_eq_some_iff.mp e'
    obtain ⟨⟨b, g3⟩, e7, e8⟩ := Option.bind_eq_some_iff.mp e6
    obtain ⟨go1, yld⟩ := go i x hx
    refine .inr ⟨go1, fun H'' => ∃ gc ws acc M fl rest, Ext W H1 H'' ∧ Den0 B W M H'' gc ∧ ERep K W M H'' σ ρ fe ∧ H'' Dd = some (.lst ws) ∧ Reps K W M H'' ws acc fl ∧ fl.Nodup ∧ (Dd ∈ M ∧ (∀ a ∈ O, a ∈ M) ∧ (∀ a ∈ M, a ∈ O ∨ H1 a = none) ∧ ∀ a ∈ fl, H1 a = none ∧ a ≠ Dd) ∧
      compL wf ct f (wipeE ρ vs) (xs.drop (i + 1)) gc = some (rest, g2) ∧ acc ++ rest = ds ∧ acc.length ≤ i + 1, fun H'' hN => ⟨xs.length - (i + 1), by omega, hlt, rfl, hN⟩, fun v H2 hy => ?_⟩
    obtain ⟨sm, rv⟩ := yld v H2 hy
    have D3 : Den K B W M σ H' ρ gc := { D2 with env := ⟨fe, re2, nfe, hfe⟩ }
    have D4 := D3.step (Same.ext sm) (D3.gen.same sm)
    refine hg B W M _ H2 (wipeE ρ vs) gc x v ρ' (D4.wipe vs) rv e5 _ fun σ3 hw D5 => ⟨hw.trans wipe_wipe, ?_⟩
    refine ht B W M σ3 H2 ρ' gc b g3 D5 e7 _ fun H3 x3 hg3 => ?_
    have D6 := D5.step x3 hg3
    have x13 : Ext W H1 H3 := (x2.trans (Same.ext sm)).trans x3
    have x23 : Ext W H' H3 := (Same.ext sm : Ext W H' H2).trans x3
    have k23 : Keep M H' M H3 := D3.toDen0.keep x23
    cases b with
    | false =>
      rw [if_neg Bool.false_ne_true]
      dsimp only at e8
      rw [if_neg Bool.false_ne_true] at e8
      exact ⟨g3, ws, acc, M, fl, rest, x13, D3.toDen0.grow (fp := []) x23 hg3 fun a m => by simp at m, re2.mono k23 x23 fun a m => (re2.inO a m).1, x23 _ _ dW hl, rs.mono k23 x23 fun a m => (rs.inO a m).1, nfl, ⟨hDM, hOM, hMn, hfl⟩, e8, eq, by omega⟩
    | true =>
      rw [if_pos rfl]
      rw [if_pos rfl] at e8
      obtain ⟨⟨d1, g4⟩, e9, e10⟩ := Option.bind_eq_some_iff.mp e8
      obtain ⟨⟨rest', g5⟩, e11, e12⟩ := Option.map_eq_some_iff.mp e10
      cases e12
      refine he B W M σ3 H3 ρ' g3 d1 g4 D6 e9 _ fun y H4 fp x4 hg4 n4 f4 r4 => ?_
      have x24 : Ext W H' H4 := x23.trans x4
      have x14 : Ext W H1 H4 := x13.trans x4
      have hl4 : H4 Dd = some (.lst ws) := x24 _ _ dW hl
      refine ⟨ws, hl4, by rw [rs.length]; omega, ?_⟩
      have fpn : ∀ a ∈ fp, H1 a = none ∧ a ≠ Dd ∧ H' a = none := fun a m => by
        have h3 := (f4 a m).1
        have aM : a ∉ M := fun z => D6.dom a z h3
        have aW : a ∉ W.as := fun z => aM (D6.toDen0.was a z)
        have h' : H' a = none := by
          cases q : H' a with
          | none => rfl
          | some o => rw [x23 a o aW q] at h3; cases h3
        refine ⟨?_, fun z => aM (by rw [z]; exact hDM), h'⟩
        cases q : H1 a with
        | none => rfl
        | some o => rw [x2 a o aW q] at h'; cases h'
      have D7 : Den0 B W (fp ++ M) H4 g4 := D3.toDen0.grow x24 hg4 fun a m => ⟨(fpn a m).2.2, (f4 a m).2⟩
      have k24 : Keep M H' (fp ++ M) H4 := D3.toDen0.keeps x24 fun a m => (fpn a m).2.2
      have fdis : ∀ a ∈ fl, ∀ b ∈ fp, a ≠ b := fun a ha b hb z => by
        subst z
        exact (rs.inO a ha).2.2 (fpn a hb).2.2
      have xD4 : Ext W H1 (upd H4 Dd (.lst (ws ++ [y]))) := fun b o nb hb => by
        rw [upd_ne fun z => by subst z; rw [hD] at hb; cases hb]
        exact x14 b o nb hb
      have dm : Dd ∈ fp ++ M := List.mem_append_right _ hDM
      refine ⟨g4, ws ++ [y], acc ++ [d1], fp ++ M, fl ++ fp, rest', xD4, D7.upd dW dB, (re2.mono k24 x24 fun a m => List.mem_append_right _ (re2.inO a m).1).upd dm dfe, upd_same, ?_, ?_, ⟨dm, fun a m => List.mem_append_right _ (hOM a m), fun a m => (List.mem_append.mp m).elim (fun z => .inr (fpn a z).1) (hMn a), ?_⟩, e11, by rw [List.append_assoc]; exact eq, by rw [List.length_append, List.length_singleton]; omega⟩
      · have r3 : Reps K W (fp ++ M) H4 [y] [d1] fp := by
          have := Reps.cons r4 (Reps.nil (K := K) (W := W) (O := fp ++ M) (H := H4))
          rw [List.append_nil] at this
          exact this
        refine ((rs.mono k24 x24 fun a m => List.mem_append_right _ (rs.inO a m).1).append r3).upd dm fun z => ?_
        rcases List.mem_append.mp z with z | z
        · exact (hfl Dd z).2 rfl
        · exact (fpn Dd z).2.1 rfl
      · rw [List.nodup_append]
        exact ⟨nfl, n4, fdis⟩
      · intro a m
        rcases List.mem_append.mp m with m | m
        · exact hfl a m
        · exact ⟨(fpn a m).1, (fpn a m).2.1⟩
  · have he : i = xs.length := by omega
    subst he
    rw [List.drop_length] at e'
    unfold compL at e'
    cases e'
    rw [List.append_nil] at eq
    subst eq
    refine .inl ⟨stop _ (Nat.le_refl _), q _ H' (Dd :: fl) (x1.trans x2) D2.gen ?_ ?_ ?_⟩
    · exact List.nodup_cons.mpr ⟨fun z => (hfl Dd z).2 rfl, nfl⟩
    · intro a m
      have h1 : H1 a = none ∧ H' a ≠ none := by
        rcases List.mem_cons.mp m with m | m
        · subst m; exact ⟨hD, by rw [hl]; simp⟩
        · exact ⟨(hfl a m).1, (rs.inO a m).2.2⟩
      refine ⟨?_, h1.2⟩
      cases q : H a with
      | none => rfl
      | some o =>
        by_cases hw : a ∈ W.as
        · exact absurd h1.1 (D1.dom a (D1.toDen0.was a hw))
        · have := h1.1
          rw [x1 a o hw q] at this; cases this
    · refine .own List.mem_cons_self dW hl (rs.mono ?_ Ext.refl fun a m => List.mem_cons_of_mem _ (List.mem_append_left _ m))
      exact msk_le fun b z => by
        rcases List.mem_cons.mp z with z | z
        · rw [z]; exact hDM
        · rcases List.mem_append.mp z with z | z
          · exact (rs.inO b z).1
          · exact hOM b z

section
variable {X : Cx} {tg iter elt : Expr} {ifs : List Expr} {scope : Scope} {own : List (Str × Nat)} {pos spos py : Pos} {fi : IF} {wf : WF} {ct : TF} {f : OF} {g : TG}
abbrev Blk (X : Cx) (scope : Scope) (J : Cx → Prop) : Prop := ∀ (s : Shared) (H : Hp) (C : Addr) (cl : List (Str × Addr)) (fp : List Addr), J (X.blk s H scope (compEnvC scope cl C X.env) fp)
def yesT : TF := fun _ g => some (true, g)
/-- the conditions of a comprehension -/
def DTs1 (X : Cx) (ifs : List Expr) (ct : TF) : Prop := PTs X ifs (tTf X.K ct)
theorem dts_nil : DTs1 X [] yesT := by
  refine ⟨fun pins s σ H Q I hq => ?_⟩
  obtain ⟨B, W, O, ρ, g, b, g', D, e, q⟩ := hq
  cases e
  exact wpAny_tests_nil ⟨H, I, q H Ext.refl D.gen⟩
theorem dts_one {c : Expr} (h : DT X c ct) : DTs1 X [c] ct := pts_one h.pt
theorem tTf_s {K : Fg} {c : TF} : DTs K (tTf K c) c := fun B W O σ H ρ g b g' D e Q q => ⟨B, W, O, ρ, g, b, g', D, e, q⟩
theorem tOf_s {K : Fg} {c : OF} : DOs K (tOf K c) c := fun B W O σ H ρ g b g' D e Q q => ⟨B, W, O, ρ, g, b, g', D, e, q⟩
theorem do_lc (hc : X.calm = true) (hN : X.N.Nodup) (hi : DI X tg iter fi) (ok : BlkOk X.N X.env.scope scope own) (hg : Blk X scope fun Y => PG Y tg g) (hw : DGw X.K g (own.map (·.2)) wf) (ht : Blk X scope fun Y => DTs1 Y ifs ct) (he : Blk X scope fun Y => DO Y elt f)
    (hs : ∀ x, foldedSetIterable iter X.env x = pure x := by intro _; rfl) : DO X (.ListComp elt [⟨tg, iter, ifs, 0⟩] scope pos) (compD fi wf ct f (own.map (·.2))) := by
  obtain ⟨wi, pi, qi⟩ := hi
  exact ⟨_, pe_lc (tt := tTf X.K ct) (te := tOf X.K f) hc hN pi ok hg ht (fun s H C cl fp => (he s H C cl fp).pe) hs, lc_s qi hw tTf_s tOf_s⟩
theorem ds_setLc {i : Nat} {y : Str} (hc : X.calm = true) (hN : X.N.Nodup) (hy : X.N[i]? = some y) (hyl : X.env.scope.names.lookup y = some .local)
    (hsw : swapsWith (.ListComp elt [⟨tg, iter, ifs, 0⟩] scope pos) (some (.Name y py)) spos.line X.env = pure true) (hi : DI X tg iter fi) (ok : BlkOk X.N X.env.scope scope own) (hg : Blk X scope fun Y => PG Y tg g) (hw : DGw X.K g (own.map (·.2)) wf) (ht : Blk X scope fun Y => DTs1 Y ifs ct) (he : Blk X scope fun Y => DO Y elt f)
    (hs : ∀ x, foldedSetIterable iter X.env x = pure x := by intro _; rfl) : DS X (.Assign [.Name y py] (.ListComp elt [⟨tg, iter, ifs, 0⟩] scope pos) spos) (setD i (compD fi wf ct f (own.map (·.2)))) := by
  obtain ⟨wi, pi, qi⟩ := hi
  refine ⟨_, ps_setLc (tt := tTf X.K ct) (te := tOf X.K f) hc hN hy hyl hsw pi ok hg ht (fun s H C cl fp => (he s H C cl fp).pe) hs, fun B W O σ H ρ g r D e E q => ?_⟩
  obtain ⟨⟨d, g1⟩, e1, e2⟩ := Option.map_eq_some_iff.mp e
  cases e2
  refine lc_s qi hw tTf_s tOf_s B W O σ H ρ g d g1 D e1 _ fun v H1 fp x1 h1 n1 f1 r1 => ?_
  have D2 := D.withV x1 h1 n1 f1 r1
  exact q _ _ H1 (D.toDen0.keeps x1 fun a z => (f1 a z).1) (D2.set i)
end

/-! ### a def -/
def env0 (N : Nat) (ss : List SV) : Env := ss.map (fun s => some (.sh s)) ++ List.replicate (N - ss.length) none
def fnF (n N : Nat) (body : SF) : FF := fun ss g => if ss.length = n then (body (env0 N ss) g).bind fun r => match r with
  | .rt d g' => some (d, g')
  | .nx _ g' => some (.sh .non, g')
  | _ => none
else none
theorem fnF_ar {n N : Nat} {body : SF} : FF.ar n (fnF n N body) := fun ss g r h => by
  unfold fnF at h
  split at h
  · assumption
  · cases h
theorem erep0 {K : Fg} {W : Wd} {O : List Addr} {H : Hp} : ∀ {vs : List V} {ss : List SV} (k : Nat), RepSs K W (msk O H) vs ss → ERep K W O H (vs.map some ++ List.replicate k none) (ss.map (fun s => some (.sh s)) ++ List.replicate k none) []
  | _, _, k, .nil => by
    induction k with
    | zero => exact .nil
    | succ k ih => rw [List.replicate_succ, List.replicate_succ]; exact .non ih
  | _, _, k, .cons r t => .som (fp := []) (.sh r) (erep0 k t)
theorem den_start {K : Fg} {W : Wd} {O : List Addr} {H : Hp} {g : GS} {N : List Str} {vs : List V} {ss : List SV} (r : RepSs K W (msk O H) vs ss) (hO : ∀ a ∈ O, H a ≠ none) (hg : GOk W O H g) : Den K (O, H) W O (L2.start N vs) H (env0 N.length ss) g where
  base := Ext.refl
  sub := fun a m => m
  new := fun a m => .inl m
  dom := hO
  gen := hg
  bdom := hO
  env := ⟨[], by unfold L2.start env0; rw [r.length]; exact erep0 _ r, List.nodup_nil, fun a m => by simp at m⟩
theorem fn_ok {P : Program} {w : World} {K : Fg} {mg : Str → Option Value} {base : Heap} {x qual : Str} {st : Stmt} {f : Addr} {fd : FuncData} {N ps : List Str} {k : Nat} {body : SF} (F : Fun K x qual st f fd) (S : FnScope N ps (defScope st))
    (hb : ∀ (cdv : Value) (A : Around) (outer : List PySem.Env) (s : Shared) (H : Hp) (E : XK), Room k (A.deeper (PyProof.Rows.envOfC qual (defScope st) s.heap.objs.size f cdv)) → DSs (cxOf CX0 P w K mg base N qual (defScope st) f cdv A outer s H E).nox (defBody st) body) :
    FnOk P w K mg base CX0 (k + 1) f fd ps (spD K ps.length (fnF ps.length N.length body)) := by
  refine F.ok S (fun vs H Q E h => ?_) (fun cdv A outer s H vs Q E hr h => ?_)
  · obtain ⟨W, O, ss, g, d, g', hl, _⟩ := h
    exact hl
  · obtain ⟨W, O, ss, g, d, g', hl, rs, hO, hg, e, q⟩ := h
    obtain ⟨t, pt, qt⟩ := hb cdv A outer s H E hr
    refine ⟨t, pt, ?_⟩
    unfold fnF at e
    split at e
    · obtain ⟨r, e1, e2⟩ := Option.bind_eq_some_iff.mp e
      refine qt (O, H) W O _ H _ g r (den_start (N := N) rs hO hg) e1 _ ?_
      cases r with
      | nx ρ1 g1 =>
        cases e2
        exact fun σ' O' H' _ D' => q .non H' [] D'.base D'.gen List.nodup_nil (fun a m => by simp at m) (.sh .non)
      | rt d1 g1 =>
        cases e2
        intro v O' H' fp D' r' nd hf
        refine q v H' fp D'.base D'.gen nd (fun a m => ⟨hf a m, (r'.inO a m).2.2⟩) (r'.mono ?_ Ext.refl fun a m => List.mem_append_left _ m)
        exact msk_le fun b z => by
          rcases List.mem_append.mp z with z | z
          · exact (r'.inO b z).1
          · exact D'.sub b z
      | bk _ _ => cases e2
      | ct _ _ => cases e2
    · cases e
end DL

/-! DL7: built-ins that look at things, draws. -/
namespace DL
open PySem PySem.Spec L2
section
variable {X : Cx} {e a b c : Expr} {f fa fb fc : EF} {h ha' : OF} {fs : AF} {pos p : Pos} {x : Str}

/-! ### one thing looked at, handed to a built-in -/
theorem tCons1 {t : TE} {r : List V → Hp → VK → Prop} {σ : St} {H : Hp} {Q : VK} (h : t σ H fun x H1 => r [x] H1 Q) : tCB r (tCons t tNil) σ H Q := h
def lenP (f : OF) : EF := fun ρ g => (f ρ g).bind fun p => p.1.len?.map fun n => (.int (n : Nat), p.2)
theorem de_len (hg : Gl X "len") (hm : X.mg "len" = none) (ha : DP X a h) (he : starEach [a] X.env = (false, eval a X.env) :: starEach [] X.env := by rfl) (hpl : (backTo pos (starEach [] X.env)).any (·.1) = false := by rfl) :
    DE X (.Call (.Name "len" p) [a] [] pos) (lenP h) := by
  obtain ⟨t, pt, qt⟩ := ha
  refine ⟨_, pe_callB call_len_seq hg hm PySem.boot_len (pa_cons pt pa_nil he) (by decide) (by decide) he hpl, fun B W O σ H ρ g s g' D e Q q => ?_⟩
  obtain ⟨⟨d, g1⟩, e1, e2⟩ := Option.bind_eq_some_iff.mp e
  obtain ⟨n, e3, e4⟩ := Option.map_eq_some_iff.mp e2
  cases e4
  refine tCons1 (qt B W O σ H ρ g d g1 D e1 _ fun v H1 fp x1 h1 r1 => ?_)
  obtain ⟨pp, vs, rfl, hs, rfl⟩ := r1.len e3
  exact ⟨pp, vs, rfl, hs, q _ H1 x1 h1 .int⟩
def listP (f : OF) : OF := fun ρ g => (f ρ g).bind fun p => p.1.items?.map fun xs => (.own (xs.map .sh), p.2)
theorem do_list (hg : Gl X "list") (hm : X.mg "list" = none) (ha : DP X a h) (he : starEach [a] X.env = (false, eval a X.env) :: starEach [] X.env := by rfl) (hpl : (backTo pos (starEach [] X.env)).any (·.1) = false := by rfl) :
    DO X (.Call (.Name "list" p) [a] [] pos) (listP h) := by
  obtain ⟨t, pt, qt⟩ := ha
  refine ⟨_, pe_callTy call_list_of hg hm PyProof.Rows.boot_list (pa_cons pt pa_nil he) (by decide) (by decide) he hpl, fun B W O σ H ρ g s g' D e Q q => ?_⟩
  obtain ⟨⟨d, g1⟩, e1, e2⟩ := Option.bind_eq_some_iff.mp e
  obtain ⟨xs, e3, e4⟩ := Option.map_eq_some_iff.mp e2
  cases e4
  refine tCons1 (qt B W O σ H ρ g d g1 D e1 _ fun v H1 fp x1 h1 r1 => ?_)
  obtain ⟨pp, vs, rfl, hs, rs⟩ := r1.items e3
  exact ⟨pp, vs, rfl, hs, fun l hl => new_own D x1 h1 hl rs q⟩
def tupleP (f : OF) : EF := fun ρ g => (f ρ g).bind fun p => p.1.items?.map fun xs => (.tup xs, p.2)
theorem Rep.items2 {K : Fg} {W : Wd} {O : List Addr} {H : Hp} {v : V} {d : DV} {fp : List Addr} {xs : List SV} (r : Rep K W O H v d fp) (e : d.items? = some xs) : ∃ a vs, v = .ref a ∧ (SqL K H a vs ∨ SqT K (msk O H) a vs) ∧ RepSs K W (msk O H) vs xs := by
  cases r with
  | ins _ _ _ _ _ _ => cases e
  | tup hq rs =>
    have e' := of_mapM_sh e
    subst e'
    exact ⟨_, _, rfl, .inr hq, (Reps.toS rs).1⟩
  | own ha hw h rs =>
    have e' := of_mapM_sh e
    subst e'
    exact ⟨_, _, rfl, .inl (.inl (.inl h)), (Reps.toS rs).1⟩
  | sh r =>
    cases r with
    | tup hq r => cases e; exact ⟨_, _, rfl, .inr hq, r⟩
    | lst hq r => cases e; exact ⟨_, _, rfl, .inl (.inl (.inl (of_msk hq).1)), r⟩
    | _ => cases e
theorem de_tuple (hg : Gl X "tuple") (hm : X.mg "tuple" = none) (ha : DP X a h) (he : starEach [a] X.env = (false, eval a X.env) :: starEach [] X.env := by rfl) (hpl : (backTo pos (starEach [] X.env)).any (·.1) = false := by rfl) :
    DE X (.Call (.Name "tuple" p) [a] [] pos) (tupleP h) := by
  obtain ⟨t, pt, qt⟩ := ha
  refine ⟨_, pe_callTy call_tuple_of hg hm PyProof.Rows.boot_tuple (pa_cons pt pa_nil he) (by decide) (by decide) he hpl, fun B W O σ H ρ g s g' D e Q q => ?_⟩
  obtain ⟨⟨d, g1⟩, e1, e2⟩ := Option.bind_eq_some_iff.mp e
  obtain ⟨xs, e3, e4⟩ := Option.map_eq_some_iff.mp e2
  cases e4
  refine tCons1 (qt B W O σ H ρ g d g1 D e1 _ fun v H1 fp x1 h1 r1 => ?_)
  obtain ⟨pp, vs, rfl, hs, rs⟩ := r1.items2 e3
  have D1 := D.step x1 h1
  refine ⟨pp, vs, rfl, ?_⟩
  rcases hs with hs | hs
  · exact .inl ⟨hs, fun l hl => q _ _ (x1.trans (Same.ext (keep_new hl))) (h1.same (keep_new hl)) (rep_tup D1.dom hl rs)⟩
  · exact .inr ⟨sqT_mono msk_sub hs, q _ H1 x1 h1 (.tup hs rs)⟩
/-- what isinstance sees -/
def DV.ty? : DV → Option String
  | .own _ => some "list"
  | .sh .non => some "NoneType"
  | .sh (.bl _) => some "bool"
  | .sh (.int _) => some "int"
  | .sh (.str _) => some "str"
  | .sh (.tup _) => some "tuple"
  | .sh (.lst _) => some "list"
  | .sh (.raw _) => none
  | .sh .gen => none
  | .sh (.obj _ _ _) => none
  | .ins _ _ _ => none
  | .tup _ => some "tuple"
theorem Rep.ty {K : Fg} {W : Wd} {O : List Addr} {H : Hp} {v : V} {d : DV} {fp : List Addr} {T : String} (r : Rep K W O H v d fp) (e : d.ty? = some T) : TyX K H v (.type T) := by
  cases r with
  | ins _ _ _ _ _ _ => cases e
  | tup hq r =>
    cases e
    rcases sqT_mono msk_sub hq with (hq | ⟨o, hq⟩) | ⟨o, its, n, hk, hc, _⟩
    · exact .base (.tup hq)
    · exact .fTuple hq
    · exact .kTuple hk hc
  | own ha hw h rs => cases e; exact .base (.lst h)
  | sh r =>
    cases r with
    | non => cases e; exact .base .non
    | bl => cases e; exact .base (.bl _)
    | int => cases e; exact .base (.int _)
    | str => cases e; exact .base (.str _)
    | raw => cases e
    | gen => cases e
    | obj _ _ _ => cases e
    | lst hq r => cases e; exact .base (.lst (of_msk hq).1)
    | tup hq r =>
      cases e
      rcases sqT_mono msk_sub hq with (hq | ⟨o, hq⟩) | ⟨o, its, n, hk, hc, _⟩
      · exact .base (.tup hq)
      · exact .fTuple hq
      · exact .kTuple hk hc
def isiP (T : String) (f : OF) : EF := fun ρ g => (f ρ g).bind fun p => p.1.ty?.bind fun t => (kitB t T).map fun b => (.bl b, p.2)
theorem de_isi {T : String} {xt : Str} {p2 : Pos} (hg : Gl X "isinstance") (hm : X.mg "isinstance" = none) (ha : DP X a h) (hgT : Gl X xt) (hmT : X.mg xt = none) (hvT : bootBuiltins xt = some (.type T)) (hnT : xt ≠ "__name__" := by decide) (hdT : (xt == ("__debug__" : Str)) = false := by decide)
    (he : starEach [a, .Name xt p2] X.env = (false, eval a X.env) :: starEach [.Name xt p2] X.env := by rfl) (he2 : starEach [.Name xt p2] X.env = (false, eval (.Name xt p2) X.env) :: starEach [] X.env := by rfl) (hpl : (backTo pos (starEach [.Name xt p2] X.env)).any (·.1) = false := by rfl) :
    DE X (.Call (.Name "isinstance" p) [a, .Name xt p2] [] pos) (isiP T h) := by
  obtain ⟨t, pt, qt⟩ := ha
  refine ⟨_, pe_callB call_isi hg hm PyProof.Rows.boot_isinstance (pa_cons pt (pa_cons (pe_bltn (v := .ty T) hgT hmT hvT rfl hnT hdT) pa_nil he2) he) (by decide) (by decide) he hpl, fun B W O σ H ρ g s g' D e Q q => ?_⟩
  obtain ⟨⟨d, g1⟩, e1, e2⟩ := Option.bind_eq_some_iff.mp e
  obtain ⟨tt, e3, e4⟩ := Option.bind_eq_some_iff.mp e2
  obtain ⟨b, e5, e6⟩ := Option.map_eq_some_iff.mp e4
  cases e6
  refine qt B W O σ H ρ g d g1 D e1 _ fun v H1 fp x1 h1 r1 => ?_
  exact ⟨v, .ty T, _, _, b, rfl, .ty T, r1.ty e3, kit_ty e5, q _ H1 x1 h1 .bl⟩

/-! ### the draws -/
def GS.at (g : GS) : Nat := (g.turn % (g.cells.length : Int)).toNat
def GS.draw (g : GS) (b : Int) : Int × GS :=
  if 1000000000000000000 ≤ g.cells.getD g.at 0 ∧ 0 < g.rests.getD g.at 0 then (g.rests.getD g.at 0 % b, ⟨g.cells, g.rests.set g.at (g.rests.getD g.at 0 / b), g.turn + 1, by rw [List.length_set]; exact g.ok⟩)
  else
    let n := (g.cells.getD g.at 0 * 48271 + g.turn * 69621 + 11) % 2147483647
    (((n * n + g.turn * 7919 + 3) % 2147483629) % b, ⟨g.cells, g.rests, g.turn + 1, g.ok⟩)
def drawF : FF := fun ss g => match ss with
  | [.gen, .int b] => if 0 < b ∧ b.natAbs.log2 < 9000 then some (.sh (.int (g.draw b).1), (g.draw b).2) else none
  | _ => none
theorem drawF_ar : FF.ar 2 drawF := fun ss g r h => by
  unfold drawF at h
  split at h
  · rfl
  · cases h
theorem GS.draw_lt (g : GS) {b : Int} (hb : 0 < b) : 0 ≤ (g.draw b).1 ∧ (g.draw b).1 < b := by
  unfold GS.draw
  split
  · exact ⟨Int.emod_nonneg _ (by omega), Int.emod_lt_of_pos _ hb⟩
  · exact ⟨Int.emod_nonneg _ (by omega), Int.emod_lt_of_pos _ hb⟩
def spStart (K : Fg) : Sp := fun vs H Q _ => ∃ (a : Addr) (ns : List Int), vs = [.ref a] ∧ SqL K H a (ns.map V.int) ∧ ns.length ≤ 63 ∧
  ∀ (g : GS) (s c r : Addr) (H' : Hp), Same H H' → H s = none → H c = none → H r = none → GOk ⟨some (s, c, r), none⟩ [s, c, r] H' g → Q (.ref s) H'
def spLaw (K : Fg) : Sp := fun vs H Q _ => ∃ (a : Addr) (ns : List Int), vs = [.ref a] ∧ SqL K H a (ns.map V.int) ∧ ns.length ≤ 63 ∧ ∀ H', Q (.bl true) H'
/-- behind the law's first statement -/
theorem law_body {K : Fg} {N : Nat} {g : GS} {s c r : Addr} {H : Hp} {body : SF} {i : Nat} {σ : St} {D : Ends} {t : TS} (qt : DSt K t body) (hσ : σ.length = N) (hi : σ[i]? = some (some (.ref s))) (hg : GOk ⟨some (s, c, r), none⟩ [s, c, r] H g)
    (hl : ∃ g', body ((List.replicate N none).set i (some (.sh .gen))) g = some (.rt (.sh (.bl true)) g')) (q : ∀ H', D.rt (.bl true) H') : t D σ H := by
  obtain ⟨g', e⟩ := hl
  have hm := hg.mem
  have er : ∀ (σ : St), ERep K ⟨some (s, c, r), none⟩ [s, c, r] H σ (List.replicate σ.length none) [] := fun σ => by
    induction σ with
    | nil => exact .nil
    | cons x σ ih => rw [List.length_cons, List.replicate_succ]; exact .non ih
  have hin : i < σ.length := (List.getElem?_eq_some_iff.mp hi).1
  have en : ERep K ⟨some (s, c, r), none⟩ [s, c, r] H σ (((List.replicate N none : Env)).set i none) [] := by
    have : ((List.replicate N none : Env)).set i none = List.replicate σ.length none := by
      rw [hσ]
      apply List.ext_getElem?
      intro j
      rw [List.getElem?_set]
      by_cases hij : i = j
      · subst hij
        by_cases hl : i < N
        · simp [hl]
        · simp [hl]
      · simp [hij]
    rw [this]
    exact er σ
  obtain ⟨fe, h1, h2, h3⟩ := ERep.put (fq := []) (Rep.sh (.gen rfl)) en (by rw [List.length_replicate, ← hσ]; exact hin) hi (by simp)
  have hmem : ∀ a ∈ [s, c, r], H a ≠ none := fun a m => (hm a (by simpa [Wd.as] using m)).2
  refine qt ([s, c, r], H) ⟨some (s, c, r), none⟩ [s, c, r] σ H _ g _ { base := Ext.refl, sub := fun a m => m, new := fun a m => .inl m, dom := hmem, gen := hg, bdom := hmem, env := ⟨fe, h1, h2, fun a m => by have := h3 a m; simp at this⟩ } e D ?_
  intro v O' H' fp _ r' _ _
  cases r' with
  | sh r' => cases r'; exact q H'
end
end DL

/-! DL8: comparisons as tests; more. -/
namespace DL
open PySem PySem.Spec L2
theorem room65 {k : Nat} {A : Around} (r : Room k A) : A.units + 65 < cLine := by have := r.un; omega
section
variable {X : Cx} {e a b c : Expr} {f fa fb fc : EF} {h ha' : OF} {fs : AF} {pos p : Pos} {x : Str}
theorem dt_cmp {op : CmpOp} {r : R2} {k : SV → SV → Option SV} (ho : OpR X (compareOp op) r) (hr : R2S X.K r k) (ha : DE X a fa) (hb : DE X b fb) (hm : behindInMarks op b = false) : DT X (.Compare a [op] [b] pos) (tB1 (b2 k fa fb)) := by
  obtain ⟨ta, pa, qa⟩ := ha
  obtain ⟨tb, pb, qb⟩ := hb
  exact ⟨_, pt_cmpR ho pa pb hm, tB1s (op2s hr qa qb)⟩
theorem dt_lt (ha : DE X a fa) (hb : DE X b fb) : DT X (.Compare a [.Lt] [b] pos) (tB1 (b2 hLt fa fb)) := dt_cmp op_lt (r2_I0 fun _ _ _ _ => .bl) ha hb (nomark _)
theorem dt_le (ha : DE X a fa) (hb : DE X b fb) : DT X (.Compare a [.LtE] [b] pos) (tB1 (b2 hLe fa fb)) := dt_cmp op_le (r2_I0 fun _ _ _ _ => .bl) ha hb (nomark _)
theorem dt_gt (ha : DE X a fa) (hb : DE X b fb) : DT X (.Compare a [.Gt] [b] pos) (tB1 (b2 hGt fa fb)) := dt_cmp op_gt (r2_I0 fun _ _ _ _ => .bl) ha hb (nomark _)
theorem dt_ge (ha : DE X a fa) (hb : DE X b fb) : DT X (.Compare a [.GtE] [b] pos) (tB1 (b2 hGe fa fb)) := dt_cmp op_ge (r2_I0 fun _ _ _ _ => .bl) ha hb (nomark _)
theorem dt_eq (hu : X.A.units + 64 < cLine) (ha : DE X a fa) (hb : DE X b fb) : DT X (.Compare a [.Eq] [b] pos) (tB1 (b2 hEq fa fb)) := dt_cmp (op_eqX hu) r2_eq ha hb (nomark _)
theorem dt_ne (hu : X.A.units + 64 < cLine) (ha : DE X a fa) (hb : DE X b fb) : DT X (.Compare a [.NotEq] [b] pos) (tB1 (b2 hNe fa fb)) := dt_cmp (op_neX hu) r2_ne ha hb (nomark _)
theorem dt_in (hu : X.A.units + 65 < cLine) (ha : DE X a fa) (hb : DE X b fb) (hm : behindInMarks .In b = false := by rfl) : DT X (.Compare a [.In] [b] pos) (tB1 (b2 (hInD fun x => x) fa fb)) := dt_cmp (op_inD hu) r2_in ha hb hm
theorem dt_notIn (hu : X.A.units + 65 < cLine) (ha : DE X a fa) (hb : DE X b fb) (hm : behindInMarks .NotIn b = false := by rfl) : DT X (.Compare a [.NotIn] [b] pos) (tB1 (b2 (hInD fun x => !x) fa fb)) := dt_cmp (op_notInD hu) r2_notIn ha hb hm
theorem dt_isN (ha : DP X a ha') {k : Nat} {p2 : Pos} : DT X (.Compare a [.Is] [.Constant .none k p2] pos) (tB1 (u1P (isN fun x => x) ha')) := by
  obtain ⟨t, pt, qt⟩ := ha
  refine ⟨_, pt_cmpR op_isN pt pe_non (nomark _), tB1s fun B W O σ H ρ g s g' D e Q q => ?_⟩
  obtain ⟨⟨x, g1⟩, e1, e⟩ := Option.bind_eq_some_iff.mp e
  obtain ⟨s1, e3, e4⟩ := Option.map_eq_some_iff.mp e
  cases e4
  refine qt B W O σ H ρ g x g1 D e1 _ fun v H1 fp x1 h1 r1 => ?_
  have z := isN_ok r1 e3
  subst z
  exact ⟨rfl, q _ H1 x1 h1 .bl⟩
theorem dt_notN (ha : DP X a ha') {k : Nat} {p2 : Pos} : DT X (.Compare a [.IsNot] [.Constant .none k p2] pos) (tB1 (u1P (isN fun x => !x) ha')) := by
  obtain ⟨t, pt, qt⟩ := ha
  refine ⟨_, pt_cmpR op_notN pt pe_non (nomark _), tB1s fun B W O σ H ρ g s g' D e Q q => ?_⟩
  obtain ⟨⟨x, g1⟩, e1, e⟩ := Option.bind_eq_some_iff.mp e
  obtain ⟨s1, e3, e4⟩ := Option.map_eq_some_iff.mp e
  cases e4
  refine qt B W O σ H ρ g x g1 D e1 _ fun v H1 fp x1 h1 r1 => ?_
  have z := isN_ok r1 e3
  subst z
  exact ⟨rfl, q _ H1 x1 h1 .bl⟩
end
end DL

/-! DL9: calls that only look, keywords, methods of lists, slices, sorted. -/
namespace DL
open PySem PySem.Spec L2
section
variable {X : Cx} {e a b c : Expr} {es : List Expr} {f fa fb fc : EF} {h ha' : OF} {fs : AF} {pos p : Pos} {x : Str}

/-! ### a call that gets own lists to look at, and answers an atom -/
def DV.atom? : DV → Option SV
  | .sh .non => some .non
  | .sh (.bl b) => some (.bl b)
  | .sh (.int i) => some (.int i)
  | .sh (.str s) => some (.str s)
  | _ => none
theorem Rep.atom {K : Fg} {W : Wd} {O : List Addr} {H : Hp} {v : V} {d : DV} {fp : List Addr} {s : SV} (r : Rep K W O H v d fp) (e : d.atom? = some s) : ∀ H', RepS K W H' v s := fun H' => by
  cases r with
  | own _ _ _ _ => cases e
  | ins _ _ _ _ _ _ => cases e
  | tup _ _ => cases e
  | sh r =>
    cases r with
    | non => cases e; exact .non
    | bl => cases e; exact .bl
    | int => cases e; exact .int
    | str => cases e; exact .str
    | _ => cases e
/-- looked at, side by side -/
inductive PReps (K : Fg) (W : Wd) (O : List Addr) (H : Hp) : List V → List DV → List Addr → Prop
  | nil : PReps K W O H [] [] []
  | cons {v : V} {vs : List V} {d : DV} {ds : List DV} {fp fq : List Addr} (h : Rep K W O H v d fp) (t : PReps K W O H vs ds fq) : PReps K W O H (v :: vs) (d :: ds) (fp ++ fq)
theorem PReps.mono {K : Fg} {W : Wd} {O O' : List Addr} {H H' : Hp} (hm : Same (msk O H) (msk O' H')) (e : Ext W H H') : ∀ {vs : List V} {ds : List DV} {fp : List Addr}, (∀ a ∈ fp, a ∈ O') → PReps K W O H vs ds fp → PReps K W O' H' vs ds fp
  | _, _, _, _, .nil => .nil
  | _, _, _, ho, .cons h t => .cons (h.mono hm e fun b hb => ho b (List.mem_append_left _ hb)) (PReps.mono hm e (fun b hb => ho b (List.mem_append_right _ hb)) t)
theorem PReps.inO {K : Fg} {W : Wd} {O : List Addr} {H : Hp} : ∀ {vs : List V} {ds : List DV} {fp : List Addr}, PReps K W O H vs ds fp → ∀ a ∈ fp, a ∈ O ∧ a ∉ W.as ∧ H a ≠ none
  | _, _, _, .nil, a, h => by simp at h
  | _, _, _, .cons h t, a, m => by
    rcases List.mem_append.mp m with m | m
    · exact h.inO a m
    · exact PReps.inO t a m
theorem PReps.freeze {K : Fg} {W : Wd} {O O' : List Addr} {H : Hp} (hO : ∀ b, b ∈ O' → b ∈ O) : ∀ {vs : List V} {ds : List DV} {fp : List Addr}, (∀ a ∈ fp, a ∉ O') → PReps K W O H vs ds fp → RepSs K W (msk O' H) vs (ds.map DV.frz)
  | _, _, _, _, .nil => .nil
  | _, _, _, ho, .cons h t => .cons (h.freeze hO fun b hb => ho b (List.mem_append_left _ hb)) (PReps.freeze hO (fun b hb => ho b (List.mem_append_right _ hb)) t)
theorem PReps.length {K : Fg} {W : Wd} {O : List Addr} {H : Hp} : ∀ {vs : List V} {ds : List DV} {fp : List Addr}, PReps K W O H vs ds fp → vs.length = ds.length
  | _, _, _, .nil => rfl
  | _, _, _, .cons _ t => by rw [List.length_cons, List.length_cons, PReps.length t]
def DAPs (K : Fg) (t : TA) (f : AOF) : Prop := ∀ B W O σ H ρ g s g', Den K B W O σ H ρ g → f ρ g = some (s, g') →
  ∀ Q : List V → Hp → Prop, (∀ v H' fp, Ext W H H' → GOk W B.1 H' g' → PReps K W O H' v s fp → Q v H') → t σ H Q
def DAP (X : Cx) (es : List Expr) (f : AOF) : Prop := ∃ t, PA X es t ∧ DAPs X.K t f
theorem dap_nil : DAP X [] oN := ⟨_, pa_nil, fun B W O σ H ρ g s g' D e Q q => by cases e; exact q [] H [] Ext.refl D.gen .nil⟩
theorem dap_cons {os : AOF} (ha : DP X e h) (hr : DAP X es os) (hs : starEach (e :: es) X.env = (false, eval e X.env) :: starEach es X.env := by rfl) : DAP X (e :: es) (oC h os) := by
  obtain ⟨t, pt, qt⟩ := ha
  obtain ⟨u, pu, qu⟩ := hr
  refine ⟨_, pa_cons pt pu hs, fun B W O σ H ρ g s g' D e Q q => ?_⟩
  obtain ⟨⟨x, g1⟩, e1, e⟩ := Option.bind_eq_some_iff.mp e
  obtain ⟨⟨xs, g2⟩, e2, e3⟩ := Option.map_eq_some_iff.mp e
  cases e3
  refine qt B W O σ H ρ g x g1 D e1 _ fun v H1 fp x1 h1 r1 => ?_
  have D1 := D.step x1 h1
  refine qu B W O σ H1 ρ g1 xs g2 D1 e2 _ fun vs H2 fq x2 h2 r2 => ?_
  exact q _ H2 (fp ++ fq) (x1.trans x2) h2 (.cons (r1.mono (D1.toDen0.keep x2) x2 fun a m => (r1.inO a m).1) r2)
def callB (F : FF) (os : AOF) : EF := fun ρ g => (os ρ g).bind fun p => (F (p.1.map DV.frz) p.2).bind fun r => r.1.atom?.map fun s => (s, r.2)
theorem sp_look {K : Fg} {F : FF} {n : Nat} {B : Bs} {W : Wd} {O : List Addr} {σ : St} {H H1 : Hp} {ρ : Env} {g g1 g' : GS} {vs : List V} {ds : List DV} {fp : List Addr} {d : DV} {s : SV} {Q : VK} {E : XK} (D : Den K B W O σ H ρ g) (x1 : Ext W H H1) (h1 : GOk W B.1 H1 g1) (r : PReps K W O H1 vs ds fp) (hn : ds.length = n) (e : F (ds.map DV.frz) g1 = some (d, g')) (es : d.atom? = some s)
    (q : ∀ v H', Ext W H H' → GOk W B.1 H' g' → RepS K W (msk O H') v s → Q v H') : spD K n F vs H1 Q E := by
  have D1 := D.step x1 h1
  have sub : ∀ b, b ∈ O.filter (fun x => decide (x ∉ fp)) → b ∈ O := fun b m => (List.mem_filter.mp m).1
  have nq : ∀ b, b ∈ fp → b ∉ O.filter (fun x => decide (x ∉ fp)) := fun b m z => of_decide_eq_true (List.mem_filter.mp z).2 m
  refine ⟨W, O.filter (fun x => decide (x ∉ fp)), _, g1, d, g', by rw [r.length]; exact hn, r.freeze sub nq, fun a m => D1.dom a (sub a m), h1.re (fun a ha => List.mem_filter.mpr ⟨D1.toDen0.was a ha, decide_eq_true fun z => (r.inO a z).2.1 ha⟩), e, fun v H' fq x2 h2 n2 f2 r2 => ?_⟩
  exact q v H' (x1.trans x2) (h2.re fun a ha => (D.gen.mem a ha).1) (r2.atom es _)
theorem de_callB1 {F : FF} {n k : Nat} {fd : FuncData} {fa : Addr} {ps : List Str} {os : AOF} (G : FnOk X.prog X.w X.K X.mg X.base CX0 k fa fd ps (spD X.K n F)) (ar : FF.ar n F) (hr : Room k X.A) (hg : Gl X x) (hm : X.mg x = some (.ref fa)) (hk : PySem.W.keepIn X.K (.ref fa) = true) (hb : Binds X.K fd ps [])
    (ha : DAP X (e :: es) os) (hdb : (x == ("__debug__" : Str)) = false := by decide) (he : starEach (e :: es) X.env = (false, eval e X.env) :: starEach es X.env := by rfl) (hpl : (backTo pos (starEach es X.env)).any (·.1) = false := by rfl) :
    DE X (.Call (.Name x p) (e :: es) [] pos) (callB F os) := by
  obtain ⟨t, pt, qt⟩ := ha
  refine ⟨_, pe_call G hr hg hm hk hb .nil pass0 pt hdb he hpl, fun B W O σ H ρ g d g' D e Q q => ?_⟩
  obtain ⟨⟨ss, g1⟩, e1, e2⟩ := Option.bind_eq_some_iff.mp e
  obtain ⟨⟨d1, g2⟩, e3, e4⟩ := Option.bind_eq_some_iff.mp e2
  obtain ⟨s1, e5, e6⟩ := Option.map_eq_some_iff.mp e4
  cases e6
  refine qt B W O σ H ρ g ss g1 D e1 _ fun vs H1 fp x1 h1 r1 => ?_
  rw [List.append_nil]
  have hl := ar _ _ _ e3
  rw [List.length_map] at hl
  exact sp_look D x1 h1 r1 hl e3 e5 q

/-! ### defaults and keywords -/
/-- the defaults fill up -/
def callD (F : FF) (fs : AF) (ds : List SV) : OF := fun ρ g => (fs ρ g).bind fun p => F (p.1 ++ ds) p.2
theorem do_callD {F : FF} {n k : Nat} {fd : FuncData} {fa : Addr} {ps : List Str} {dvs : List V} {dss : List SV} {ds : List Value} (G : FnOk X.prog X.w X.K X.mg X.base CX0 k fa fd ps (spD X.K n F)) (ar : FF.ar n F) (hr : Room k X.A) (hg : Gl X x) (hm : X.mg x = some (.ref fa)) (hk : PySem.W.keepIn X.K (.ref fa) = true) (hb : Binds X.K fd ps ds) (hd : Vals dvs ds) (hs : ∀ W H, RepSs X.K W H dvs dss)
    (ha : DA X (e :: es) fs) (hdb : (x == ("__debug__" : Str)) = false := by decide) (he : starEach (e :: es) X.env = (false, eval e X.env) :: starEach es X.env := by rfl) (hpl : (backTo pos (starEach es X.env)).any (·.1) = false := by rfl) :
    DO X (.Call (.Name x p) (e :: es) [] pos) (callD F fs dss) := by
  obtain ⟨t, pt, qt⟩ := ha
  refine ⟨_, pe_call G hr hg hm hk hb hd pass0 pt hdb he hpl, fun B W O σ H ρ g d g' D e Q q => ?_⟩
  obtain ⟨⟨ss, g1⟩, e1, e2⟩ := Option.bind_eq_some_iff.mp e
  refine qt B W O σ H ρ g ss g1 D e1 _ fun vs H1 x1 h1 r1 => ?_
  exact sp_of D x1 h1 (r1.append (hs _ _)) (ar _ _ _ e2) e2 q
def DKs (X : Cx) (kws : List Keyword) (f : AF) : Prop := ∃ t, PK X kws t ∧ DAs X.K t f
theorem dk_nil : DKs X [] aN := ⟨_, pk_nil, fun B W O σ H ρ g s g' D e Q q => by cases e; exact q [] H Ext.refl D.gen .nil⟩
theorem dk_cons {nm : Option Str} {kpos : Pos} {kws : List Keyword} (ha : DE X e f) (hr : DKs X kws fs) : DKs X (⟨nm, e, kpos⟩ :: kws) (aC f fs) := by
  obtain ⟨t, pt, qt⟩ := ha
  obtain ⟨u, pu, qu⟩ := hr
  refine ⟨_, pk_cons pt pu, fun B W O σ H ρ g s g' D e Q q => ?_⟩
  obtain ⟨⟨x, g1⟩, e1, e⟩ := Option.bind_eq_some_iff.mp e
  obtain ⟨⟨xs, g2⟩, e2, e3⟩ := Option.map_eq_some_iff.mp e
  cases e3
  refine qt B W O σ H ρ g x g1 D e1 _ fun v H1 x1 h1 r1 => ?_
  have D1 := D.step x1 h1
  refine qu B W O σ H1 ρ g1 xs g2 D1 e2 _ fun vs H2 x2 h2 r2 => ?_
  exact q _ H2 (x1.trans x2) h2 (.cons (r1.mono (D1.toDen0.keep x2)) r2)
/-- all keyword-only parameters are written, in order -/
def callN (F : FF) (m : Nat) (fs ks : AF) : OF := fun ρ g => (fs ρ g).bind fun p => (ks ρ p.2).bind fun q => if q.1.length = m then F (p.1 ++ q.1) q.2 else none
theorem do_callN {F : FF} {n k : Nat} {fd : FuncData} {fa : Addr} {ps kn : List Str} {kws : List Keyword} {gs : AF} {np ml : Nat} {gg : List Value → List Value → List Value} {gV : List V → List V → List V} (G : FnOk X.prog X.w X.K X.mg X.base CX0 k fa fd ps (spD X.K n F)) (ar : FF.ar n F) (hr : Room k X.A) (hg : Gl X x) (hm : X.mg x = some (.ref fa)) (hk : PySem.W.keepIn X.K (.ref fa) = true)
    (hb : KBn X.K fd ps np kn gg gV) (ha : DA X (e :: es) fs) (hkw : DKs X kws gs) (hgV : ∀ vs zs, gV vs zs = vs ++ zs := by exact fun _ _ => rfl) (hnp : np + kn.length = n := by rfl) (hml : kn.length = ml := by rfl) (hall : (backToKw pos (keywordEach kws X.env)).all (·.1.isSome) = true := by rfl) (hks : (backToKw pos (keywordEach kws X.env)).filterMap (·.1) = kn := by rfl)
    (hdb : (x == ("__debug__" : Str)) = false := by decide) (he : starEach (e :: es) X.env = (false, eval e X.env) :: starEach es X.env := by rfl)
    (hpl : ((backTo pos (starEach (e :: es) X.env)).any (·.1) || (backToKw pos (keywordEach kws X.env)).any (·.1.isNone)) = false := by rfl) :
    DO X (.Call (.Name x p) (e :: es) kws pos) (callN F ml fs gs) := by
  subst hml
  obtain ⟨t, pt, qt⟩ := ha
  obtain ⟨u, pu, qu⟩ := hkw
  refine ⟨_, pe_callN G hr hg hm hk hb pass0 pt pu hall hks hdb he hpl, fun B W O σ H ρ g d g' D e Q q => ?_⟩
  obtain ⟨⟨ss, g1⟩, e1, e2⟩ := Option.bind_eq_some_iff.mp e
  obtain ⟨⟨zs, g2⟩, e3, e4⟩ := Option.bind_eq_some_iff.mp e2
  refine qt B W O σ H ρ g ss g1 D e1 _ fun vs H1 x1 h1 r1 => ?_
  have D1 := D.step x1 h1
  refine qu B W O σ H1 ρ g1 zs g2 D1 e3 _ fun ws H2 x2 h2 r2 => ?_
  split at e4
  · rename_i hz
    have hl := ar _ _ _ e4
    rw [List.length_append] at hl
    rw [hgV]
    refine ⟨by rw [r1.length]; dsimp only at *; omega, by rw [r2.length]; exact hz, ?_⟩
    exact sp_of D (x1.trans x2) h2 ((r1.mono (D1.toDen0.keep x2)).append r2) (by rw [List.length_append]; exact hl) e4 q
  · cases e4
/-- a def with defaults -/
theorem fn_okD {P : Program} {w : World} {K : Fg} {mg : Str → Option Value} {base : Heap} {y qual : Str} {params : Arguments} {bd : List Stmt} {scope : Scope} {dvs : List V} {kws : List (Str × V)} {f : Addr} {fd : FuncData} {N ps : List Str} {k : Nat} {body : SF} (F : FunD K y qual params bd scope dvs kws f fd) (S : FnScope N ps scope)
    (hb : ∀ (cdv : Value) (A : Around) (outer : List PySem.Env) (s : Shared) (H : Hp) (E : XK), Room k (A.deeper (PyProof.Rows.envOfC qual scope s.heap.objs.size f cdv)) → DSs (cxOf CX0 P w K mg base N qual scope f cdv A outer s H E).nox bd body) :
    FnOk P w K mg base CX0 (k + 1) f fd ps (spD K ps.length (fnF ps.length N.length body)) := by
  refine F.ok S (fun vs H Q E h => ?_) (fun cdv A outer s H vs Q E hr h => ?_)
  · obtain ⟨W, O, ss, g, d, g', hl, _⟩ := h
    exact hl
  · obtain ⟨W, O, ss, g, d, g', hl, rs, hO, hg, e, q⟩ := h
    obtain ⟨t, pt, qt⟩ := hb cdv A outer s H E hr
    refine ⟨t, pt.nox, ?_⟩
    unfold fnF at e
    split at e
    · obtain ⟨r, e1, e2⟩ := Option.bind_eq_some_iff.mp e
      refine qt (O, H) W O _ H _ g r (den_start (N := N) rs hO hg) e1 _ ?_
      cases r with
      | nx ρ1 g1 =>
        cases e2
        exact fun σ' O' H' _ D' => q .non H' [] D'.base D'.gen List.nodup_nil (fun a m => by simp at m) (.sh .non)
      | rt d1 g1 =>
        cases e2
        intro v O' H' fp D' r' nd hf
        refine q v H' fp D'.base D'.gen nd (fun a m => ⟨hf a m, (r'.inO a m).2.2⟩) (r'.mono ?_ Ext.refl fun a m => List.mem_append_left _ m)
        exact msk_le fun b z => by
          rcases List.mem_append.mp z with z | z
          · exact (r'.inO b z).1
          · exact D'.sub b z
      | bk _ _ => cases e2
      | ct _ _ => cases e2
    · cases e

/-! ### methods of an own list in a slot -/
theorem own_upd {K : Fg} {B : Bs} {W : Wd} {O : List Addr} {σ : St} {H : Hp} {ρ : Env} {g : GS} {i : Nat} {ds : List DV} (D : Den K B W O σ H ρ g) (h : ρ[i]? = some (some (.own ds))) :
    ∃ a vs fq, σ[i]? = some (some (.ref a)) ∧ H a = some (.lst vs) ∧ Reps K W O H vs ds fq ∧ ∀ vs' ds', (∃ fq', Reps K W O H vs' ds' fq' ∧ fq'.Nodup ∧ ∀ b ∈ fq', b ∈ fq) → Keep O H O (upd H a (.lst vs')) ∧ Den K B W O σ (upd H a (.lst vs')) (ρ.set i (some (.own ds'))) g := by
  obtain ⟨a, vs, fq, fr, eσ, ha, hw, hv', rs, rt, n, hb⟩ := D.own h
  refine ⟨a, vs, fq, eσ, hv', rs, fun vs' ds' ⟨fq', r', nd, hs⟩ => ⟨keep_upd ha, ?_⟩⟩
  have n1 := List.nodup_append.mp n
  have n2 := List.nodup_cons.mp n1.1
  refine Den.own_put D.toDen0 (lt_of_slot h) eσ ha hw rt r' ?_ fun b m => ?_
  · rw [List.nodup_append]
    refine ⟨List.nodup_cons.mpr ⟨fun z => n2.1 (hs _ z), nd⟩, n1.2.1, fun x hx y hy z => ?_⟩
    rcases List.mem_cons.mp hx with m | m
    · exact n1.2.2 x (by rw [m]; exact List.mem_cons_self) y hy z
    · exact n1.2.2 x (List.mem_cons_of_mem _ (hs _ m)) y hy z
  · rcases List.mem_append.mp m with m | m
    · rcases List.mem_cons.mp m with m | m
      · rw [m]; exact hb _ (List.mem_append_left _ List.mem_cons_self)
      · exact hb _ (List.mem_append_left _ (List.mem_cons_of_mem _ (hs _ m)))
    · exact hb _ (List.mem_append_right _ m)
theorem Reps.dropLast {K : Fg} {W : Wd} {O : List Addr} {H : Hp} : ∀ {vs : List V} {ds : List DV} {fp : List Addr}, Reps K W O H vs ds fp → fp.Nodup → ∃ fq, Reps K W O H vs.dropLast ds.dropLast fq ∧ fq.Nodup ∧ ∀ b ∈ fq, b ∈ fp
  | _, _, _, .nil, h => ⟨[], .nil, h, fun b m => m⟩
  | _, _, _, .cons r .nil, h => ⟨[], .nil, List.nodup_nil, fun b m => by simp at m⟩
  | _, _, _, .cons (fp := f1) r (.cons r2 t), h => by
    have hn := List.nodup_append.mp h
    obtain ⟨fq, h1, h2, h3⟩ := Reps.dropLast (.cons r2 t) hn.2.1
    refine ⟨f1 ++ fq, .cons r h1, ?_, fun b m => ?_⟩
    · rw [List.nodup_append]
      exact ⟨hn.1, h2, fun x hx y hy => hn.2.2 x hx y (h3 y hy)⟩
    · rcases List.mem_append.mp m with m | m
      · exact List.mem_append_left _ m
      · exact List.mem_append_right _ (h3 b m)
def lastS : List DV → Option SV
  | [] => none
  | [d] => d.sh?
  | _ :: d :: ds => lastS (d :: ds)
theorem Reps.last {K : Fg} {W : Wd} {O : List Addr} {H : Hp} : ∀ {vs : List V} {ds : List DV} {fp : List Addr} {s : SV}, Reps K W O H vs ds fp → lastS ds = some s → ∃ v, vs[vs.length - 1]? = some v ∧ RepS K W (msk O H) v s
  | _, _, _, _, .nil, h => by cases h
  | _, _, _, _, .cons r .nil, h => by
    cases r with
    | sh r => cases h; exact ⟨_, rfl, r⟩
    | own _ _ _ _ => cases h
    | ins _ _ _ _ _ _ => cases h
    | tup _ _ => cases h
  | _, _, _, _, .cons (vs := v2 :: vs2) r (.cons r2 t), h => by
    obtain ⟨v, e1, e2⟩ := Reps.last (.cons r2 t) h
    refine ⟨v, ?_, e2⟩
    rw [List.length_cons, Nat.add_sub_cancel] at e1
    rw [List.length_cons, Nat.add_sub_cancel, List.length_cons, List.getElem?_cons_succ]
    exact e1
/-- x = y.pop() -/
def popD (j i : Nat) : SF := fun ρ g => match ρ[i]? with
  | some (some (.own ds)) => (lastS ds).map fun s => .nx ((ρ.set i (some (.own ds.dropLast))).set j (some (.sh s))) g
  | _ => none
def pop0D (i : Nat) : SF := fun ρ g => match ρ[i]? with
  | some (some (.own ds)) => (lastS ds).map fun _ => .nx (ρ.set i (some (.own ds.dropLast))) g
  | _ => none
theorem pop_core {K : Fg} {B : Bs} {W : Wd} {O : List Addr} {σ : St} {H : Hp} {ρ : Env} {g : GS} {i : Nat} {ds : List DV} {s : SV} (D : Den K B W O σ H ρ g) (h : ρ[i]? = some (some (.own ds))) (e : lastS ds = some s) {Q : VK}
    (q : ∀ v a vs, Keep O H O (upd H a (.lst vs)) → Den K B W O σ (upd H a (.lst vs)) (ρ.set i (some (.own ds.dropLast))) g → RepS K W (msk O (upd H a (.lst vs))) v s → Q v (upd H a (.lst vs))) :
    ∃ v, σ[i]? = some (some v) ∧ tyV K "list" v H ∧ rPop v [] H Q := by
  obtain ⟨a, vs, fq, fr, eσ, ha, hw, hv', rs, rt, n, hb⟩ := D.own h
  obtain ⟨a', vs', fq', eσ', hv'', rs', k⟩ := own_upd D h
  rw [eσ] at eσ'
  cases eσ'
  rw [hv'] at hv''
  cases hv''
  have nd : fq'.Nodup ∨ True := .inr trivial
  obtain ⟨v, e1, r1⟩ := rs.last e
  have n1 := List.nodup_append.mp n
  have n2 := List.nodup_cons.mp n1.1
  obtain ⟨fz, z1, z2, z3⟩ := rs.dropLast n2.2
  have put : Den K B W O σ (upd H a (.lst vs.dropLast)) (ρ.set i (some (.own ds.dropLast))) g := by
    refine Den.own_put D.toDen0 (lt_of_slot h) eσ ha hw rt z1 ?_ fun b m => ?_
    · rw [List.nodup_append]
      refine ⟨List.nodup_cons.mpr ⟨fun z => n2.1 (z3 _ z), z2⟩, n1.2.1, fun x hx y hy z => ?_⟩
      rcases List.mem_cons.mp hx with m | m
      · exact n1.2.2 x (by rw [m]; exact List.mem_cons_self) y hy z
      · exact n1.2.2 x (List.mem_cons_of_mem _ (z3 _ m)) y hy z
    · rcases List.mem_append.mp m with m | m
      · rcases List.mem_cons.mp m with m | m
        · rw [m]; exact hb _ (List.mem_append_left _ List.mem_cons_self)
        · exact hb _ (List.mem_append_left _ (List.mem_cons_of_mem _ (z3 _ m)))
      · exact hb _ (List.mem_append_right _ m)
  exact ⟨.ref a, eσ, .inl ⟨rfl, vs, .inl (.inl hv')⟩, a, vs, v, rfl, rfl, hv', e1, q v a _ (keep_upd ha) put (by rw [msk_upd ha]; exact r1)⟩
theorem ds_pop (i : Nat) {y : Str} {p1 p2 p3 : Pos} (hN : X.N[i]? = some y := by rfl) (hv : Vis X.env.scope y := by first | exact Or.inl rfl | exact Or.inr (Or.inl rfl) | exact Or.inr (Or.inr rfl)) (hd : (y == ("__debug__" : Str)) = false := by decide)
    (hcd : (y == ("__classdict__" : Str)) = false := by decide) (hbase : attributeBase (.Name y p1) "pop" X.env (eval (.Name y p1) X.env) = eval (.Name y p1) X.env := by rfl) (hline : (p2.endLine == p3.line) = true := by rfl)
    (hs2 : swapsWith (.Call (.Attribute (.Name y p1) "pop" p2) [] [] p3) none pos.line X.env = pure false := by rfl) : DS X (.Expr (.Call (.Attribute (.Name y p1) "pop" p2) [] [] p3) pos) (pop0D i) := by
  refine ⟨_, ps_expr (pe_bm0 PySem.F.plainAttrs_list PySem.F.slot_list_pop PySem.F.type_list_pop mt_pop (pe_var hN hv hd hcd) hbase hline) hs2, fun B W O σ H ρ g r D e E q => ?_⟩
  unfold pop0D at e
  split at e
  · rename_i ds h1
    obtain ⟨s, e1, e2⟩ := Option.map_eq_some_iff.mp e
    cases e2
    exact pop_core D h1 e1 fun v a vs k D2 _ => q σ O _ k D2
  · cases e
theorem ds_setpop (j i : Nat) {y z : Str} {p1 p2 p3 pz : Pos} (hNd : X.N.Nodup) (hj : X.N[j]? = some z) (hz : Loc X.env.scope z) (hN : X.N[i]? = some y := by rfl) (hv : Vis X.env.scope y := by first | exact Or.inl rfl | exact Or.inr (Or.inl rfl) | exact Or.inr (Or.inr rfl)) (hd : (y == ("__debug__" : Str)) = false := by decide)
    (hcd : (y == ("__classdict__" : Str)) = false := by decide) (hbase : attributeBase (.Name y p1) "pop" X.env (eval (.Name y p1) X.env) = eval (.Name y p1) X.env := by rfl) (hline : (p2.endLine == p3.line) = true := by rfl)
    (hs2 : swapsWith (.Call (.Attribute (.Name y p1) "pop" p2) [] [] p3) (some (.Name z pz)) pos.line X.env = pure false := by rfl) (hf : X.fn z = true ∨ X.env.scope.names.lookup z = some .local := by first | exact .inl rfl | exact .inr rfl | assumption) :
    DS X (.Assign [.Name z pz] (.Call (.Attribute (.Name y p1) "pop" p2) [] [] p3) pos) (popD j i) := by
  refine ⟨_, ps_set hNd hj hz (pe_bm0 PySem.F.plainAttrs_list PySem.F.slot_list_pop PySem.F.type_list_pop mt_pop (pe_var hN hv hd hcd) hbase hline) hs2 hf, fun B W O σ H ρ g r D e E q => ?_⟩
  unfold popD at e
  split at e
  · rename_i ds h1
    obtain ⟨s, e1, e2⟩ := Option.map_eq_some_iff.mp e
    cases e2
    exact pop_core D h1 e1 fun v a vs k D2 r2 => q _ O _ k ((DenV.withS D2 r2).set j)
  · cases e
theorem own_updN {K : Fg} {B : Bs} {W : Wd} {O : List Addr} {σ : St} {H : Hp} {ρ : Env} {g : GS} {i : Nat} {ds : List DV} (D : Den K B W O σ H ρ g) (h : ρ[i]? = some (some (.own ds))) :
    ∃ a vs fq, fq.Nodup ∧ σ[i]? = some (some (.ref a)) ∧ H a = some (.lst vs) ∧ Reps K W O H vs ds fq ∧ ∀ vs' ds', (∃ fq', Reps K W O H vs' ds' fq' ∧ fq'.Nodup ∧ ∀ b ∈ fq', b ∈ fq) → Keep O H O (upd H a (.lst vs')) ∧ Den K B W O σ (upd H a (.lst vs')) (ρ.set i (some (.own ds'))) g := by
  obtain ⟨a, vs, fq, fr, eσ, ha, hw, hv', rs, rt, n, hb⟩ := D.own h
  refine ⟨a, vs, fq, (List.nodup_cons.mp (List.nodup_append.mp n).1).2, eσ, hv', rs, fun vs' ds' ⟨fq', r', nd, hs⟩ => ⟨keep_upd ha, ?_⟩⟩
  have n1 := List.nodup_append.mp n
  have n2 := List.nodup_cons.mp n1.1
  refine Den.own_put D.toDen0 (lt_of_slot h) eσ ha hw rt r' ?_ fun b m => ?_
  · rw [List.nodup_append]
    refine ⟨List.nodup_cons.mpr ⟨fun z => n2.1 (hs _ z), nd⟩, n1.2.1, fun x hx y hy z => ?_⟩
    rcases List.mem_cons.mp hx with m | m
    · exact n1.2.2 x (by rw [m]; exact List.mem_cons_self) y hy z
    · exact n1.2.2 x (List.mem_cons_of_mem _ (hs _ m)) y hy z
  · rcases List.mem_append.mp m with m | m
    · rcases List.mem_cons.mp m with m | m
      · rw [m]; exact hb _ (List.mem_append_left _ List.mem_cons_self)
      · exact hb _ (List.mem_append_left _ (List.mem_cons_of_mem _ (hs _ m)))
    · exact hb _ (List.mem_append_right _ m)
def revD (i : Nat) : SF := fun ρ g => match ρ[i]? with
  | some (some (.own ds)) => some (.nx (ρ.set i (some (.own ds.reverse))) g)
  | _ => none
theorem Reps.reverse {K : Fg} {W : Wd} {O : List Addr} {H : Hp} : ∀ {vs : List V} {ds : List DV} {fp : List Addr}, Reps K W O H vs ds fp → fp.Nodup → ∃ fq, Reps K W O H vs.reverse ds.reverse fq ∧ fq.Nodup ∧ ∀ b ∈ fq, b ∈ fp
  | _, _, _, .nil, h => ⟨[], .nil, h, fun b m => m⟩
  | _, _, _, .cons (fp := f1) (fq := f2) r t, h => by
    have hn := List.nodup_append.mp h
    obtain ⟨fq, h1, h2, h3⟩ := Reps.reverse t hn.2.1
    refine ⟨fq ++ f1, ?_, ?_, fun b m => ?_⟩
    · rw [List.reverse_cons, List.reverse_cons]
      have := h1.append (Reps.cons r .nil)
      rwa [List.append_nil] at this
    · rw [List.nodup_append]
      exact ⟨h2, hn.1, fun x hx y hy z => hn.2.2 y hy x (h3 x hx) z.symm⟩
    · rcases List.mem_append.mp m with m | m
      · exact List.mem_append_right _ (h3 b m)
      · exact List.mem_append_left _ m
theorem RepSs.reverse {K : Fg} {W : Wd} {H : Hp} : ∀ {vs : List V} {xs : List SV}, RepSs K W H vs xs → RepSs K W H vs.reverse xs.reverse
  | _, _, .nil => .nil
  | _, _, .cons r t => by
    rw [List.reverse_cons, List.reverse_cons]
    exact t.reverse.append (.cons r .nil)
theorem ds_reverse (i : Nat) {y : Str} {p1 p2 p3 : Pos} (hN : X.N[i]? = some y := by rfl) (hv : Vis X.env.scope y := by first | exact Or.inl rfl | exact Or.inr (Or.inl rfl) | exact Or.inr (Or.inr rfl)) (hd : (y == ("__debug__" : Str)) = false := by decide)
    (hcd : (y == ("__classdict__" : Str)) = false := by decide) (hbase : attributeBase (.Name y p1) "reverse" X.env (eval (.Name y p1) X.env) = eval (.Name y p1) X.env := by rfl) (hline : (p2.endLine == p3.line) = true := by rfl)
    (hs2 : swapsWith (.Call (.Attribute (.Name y p1) "reverse" p2) [] [] p3) none pos.line X.env = pure false := by rfl) : DS X (.Expr (.Call (.Attribute (.Name y p1) "reverse" p2) [] [] p3) pos) (revD i) := by
  refine ⟨_, ps_expr (pe_bm0 PySem.F.plainAttrs_list PySem.F.slot_list_reverse PySem.F.type_list_reverse mt_reverse (pe_var hN hv hd hcd) hbase hline) hs2, fun B W O σ H ρ g r D e E q => ?_⟩
  unfold revD at e
  split at e
  · rename_i ds h1
    cases e
    obtain ⟨a, vs, fq, nd, eσ, hv', rs, k⟩ := own_updN D h1
    obtain ⟨fq', r1, r2, r3⟩ := Reps.reverse rs nd
    obtain ⟨k1, k2⟩ := k vs.reverse ds.reverse ⟨fq', r1, r2, r3⟩
    exact ⟨.ref a, eσ, .inl ⟨rfl, vs, .inl (.inl hv')⟩, a, vs, rfl, rfl, hv', q σ O _ k1 k2⟩
  · cases e
def clrD (i : Nat) : SF := fun ρ g => match ρ[i]? with
  | some (some (.own _)) => some (.nx (ρ.set i (some (.own []))) g)
  | _ => none
theorem ds_clear (i : Nat) {y : Str} {p1 p2 p3 : Pos} (hN : X.N[i]? = some y := by rfl) (hv : Vis X.env.scope y := by first | exact Or.inl rfl | exact Or.inr (Or.inl rfl) | exact Or.inr (Or.inr rfl)) (hd : (y == ("__debug__" : Str)) = false := by decide)
    (hcd : (y == ("__classdict__" : Str)) = false := by decide) (hbase : attributeBase (.Name y p1) "clear" X.env (eval (.Name y p1) X.env) = eval (.Name y p1) X.env := by rfl) (hline : (p2.endLine == p3.line) = true := by rfl)
    (hs2 : swapsWith (.Call (.Attribute (.Name y p1) "clear" p2) [] [] p3) none pos.line X.env = pure false := by rfl) : DS X (.Expr (.Call (.Attribute (.Name y p1) "clear" p2) [] [] p3) pos) (clrD i) := by
  refine ⟨_, ps_expr (pe_bm0 PySem.F.plainAttrs_list PySem.F.slot_list_clear PySem.F.type_list_clear mt_clear (pe_var hN hv hd hcd) hbase hline) hs2, fun B W O σ H ρ g r D e E q => ?_⟩
  unfold clrD at e
  split at e
  · rename_i ds h1
    cases e
    obtain ⟨a, vs, fq, eσ, hv', rs, k⟩ := own_upd D h1
    obtain ⟨k1, k2⟩ := k [] [] ⟨[], .nil, List.nodup_nil, fun b m => by simp at m⟩
    exact ⟨.ref a, eσ, .inl ⟨rfl, vs, .inl (.inl hv')⟩, a, vs, rfl, rfl, hv', q σ O _ k1 k2⟩
  · cases e
end
end DL

/-! DL10: repeated lists, joined ones, slices, sorted, extend. -/
namespace DL
open PySem PySem.Spec L2
section
variable {X : Cx} {e a b c : Expr} {es : List Expr} {f fa fb fc : EF} {h ha' : OF} {fs : AF} {pos p p2 : Pos} {x : Str}
theorem RepSs.flat {K : Fg} {W : Wd} {M : Hp} {vs : List V} {xs : List SV} (r : RepSs K W M vs xs) : ∀ n, RepSs K W M (List.replicate n vs).flatten (List.replicate n xs).flatten
  | 0 => .nil
  | n + 1 => by
    rw [List.replicate_succ, List.replicate_succ, List.flatten_cons, List.flatten_cons]
    exact r.append (r.flat n)
def hRep (xs : List SV) (k : Int) : Option (List SV) := if lenOk k.natAbs = true ∧ lenOk (xs.length * k.toNat) = true then some (List.replicate k.toNat xs).flatten else none
/-- [x] * n -/
def repF (h : OF) (f : EF) : OF := fun ρ g => (h ρ g).bind fun p => (f ρ p.2).bind fun q => match p.1.lst?, q.1 with
  | some xs, .int k => (hRep xs k).map fun ys => (.own (ys.map .sh), q.2)
  | _, _ => none
theorem do_rep (ha : DP X a h) (hb : DE X b fb) : DO X (.BinOp a .Mult b pos) (repF h fb) := by
  obtain ⟨t, pt, qt⟩ := ha
  obtain ⟨u, pu, qu⟩ := hb
  refine ⟨_, pe_op op_rep pt pu, fun B W O σ H ρ g s g' D e Q q => ?_⟩
  obtain ⟨⟨d, g1⟩, e1, e2⟩ := Option.bind_eq_some_iff.mp e
  obtain ⟨⟨n, g2⟩, e3, e4⟩ := Option.bind_eq_some_iff.mp e2
  refine qt B W O σ H ρ g d g1 D e1 _ fun v H1 fp x1 h1 r1 => ?_
  have D1 := D.step x1 h1
  refine qu B W O σ H1 ρ g1 n g2 D1 e3 _ fun w H2 x2 h2 r2 => ?_
  have r1' := r1.mono (D1.toDen0.keep x2) x2 fun a m => (r1.inO a m).1
  dsimp only at e4
  split at e4
  · rename_i xs k l1
    obtain ⟨ys, e5, e6⟩ := Option.map_eq_some_iff.mp e4
    cases e6
    cases r2
    obtain ⟨p, vs, rfl, hl, rs⟩ := r1'.list l1
    unfold hRep at e5
    split at e5
    · rename_i hk
      cases e5
      have k1 := lenOk_lt hk.1
      have k2 := lenOk_lt hk.2
      have z : sizeLine = 16777216 := by decide
      refine ⟨p, k, vs, rfl, rfl, hl, by omega, by omega, by rw [rs.length]; omega, fun p' hp => ?_⟩
      exact new_own D (x1.trans x2) h2 hp (rs.flat _) q
    · cases e5
  · cases e4
/-- a list plus a list -/
def hCatL (xs ys : List SV) : Option (List SV) := if lenOk (xs.length + ys.length) = true then some (xs ++ ys) else none
def catF (h k : OF) : OF := fun ρ g => (h ρ g).bind fun p => (k ρ p.2).bind fun q => match p.1.lst?, q.1.lst? with
  | some xs, some ys => (hCatL xs ys).map fun zs => (.own (zs.map .sh), q.2)
  | _, _ => none
theorem do_cat {k : OF} (ha : DP X a h) (hb : DP X b k) : DO X (.BinOp a .Add b pos) (catF h k) := by
  obtain ⟨t, pt, qt⟩ := ha
  obtain ⟨u, pu, qu⟩ := hb
  refine ⟨_, pe_op op_cat pt pu, fun B W O σ H ρ g s g' D e Q q => ?_⟩
  obtain ⟨⟨d, g1⟩, e1, e2⟩ := Option.bind_eq_some_iff.mp e
  obtain ⟨⟨n, g2⟩, e3, e4⟩ := Option.bind_eq_some_iff.mp e2
  refine qt B W O σ H ρ g d g1 D e1 _ fun v H1 fp x1 h1 r1 => ?_
  have D1 := D.step x1 h1
  refine qu B W O σ H1 ρ g1 n g2 D1 e3 _ fun w H2 fp2 x2 h2 r2 => ?_
  have r1' := r1.mono (D1.toDen0.keep x2) x2 fun a m => (r1.inO a m).1
  dsimp only at e4
  split at e4
  · rename_i xs ys l1 l2
    obtain ⟨zs, e5, e6⟩ := Option.map_eq_some_iff.mp e4
    cases e6
    obtain ⟨p, vs, rfl, hl, rs⟩ := r1'.list l1
    obtain ⟨p', vs', rfl, hl', rs'⟩ := r2.list l2
    unfold hCatL at e5
    split at e5
    · rename_i hk
      cases e5
      have k1 := lenOk_lt hk
      have z : sizeLine = 16777216 := by decide
      refine ⟨p, p', vs, vs', rfl, rfl, hl, hl', by rw [rs.length, rs'.length]; omega, fun q' hp => ?_⟩
      exact new_own D (x1.trans x2) h2 hp (rs.append rs') q
    · cases e5
  · cases e4
/-- a tuple plus a tuple -/
def hCatT : SV → SV → Option SV
  | .tup xs, .tup ys => if lenOk (xs.length + ys.length) = true then some (.tup (xs ++ ys)) else none
  | _, _ => none
theorem r2_catT {K : Fg} : R2S K (rCatA K) hCatT := by
  intro W O H x y a b s ra rb e hO Q q
  unfold hCatT at e
  split at e
  · rename_i xs ys
    split at e
    · rename_i hk
      cases e
      have k1 := lenOk_lt hk
      have z : sizeLine = 16777216 := by decide
      cases ra with
      | tup h1 r1 =>
        cases rb with
        | tup h2 r2 =>
          refine ⟨_, _, _, _, rfl, rfl, sqT_mono msk_sub h1, sqT_mono msk_sub h2, by rw [r1.length, r2.length]; omega, fun z1 => ?_, fun _ z2 => ?_, fun _ _ p hp => ?_⟩
          · subst z1; cases r1; exact q _ _ (fun _ _ h => h) (.tup h2 r2)
          · subst z2; cases r2; exact q _ _ (fun _ _ h => h) (by rw [List.append_nil]; exact .tup h1 r1)
          · exact q _ _ (keep_new hp) (rep_tup hO hp (r1.append r2))
    · cases e
  · cases e
theorem de_catT (ha : DE X a fa) (hb : DE X b fb) : DE X (.BinOp a .Add b pos) (b2 hCatT fa fb) := de_op op_catA r2_catT ha hb
/-! ### slices -/
abbrev PF := Env → GS → Option (Option Int × GS)
def DPtS (K : Fg) (t : TO) (f : PF) : Prop := ∀ B W O σ H ρ g s g', Den K B W O σ H ρ g → f ρ g = some (s, g') →
  ∀ Q : Option Int → Hp → Prop, (∀ H', Ext W H H' → GOk W B.1 H' g' → Q s H') → t σ H Q
def DPt (X : Cx) (e : Option Expr) (f : PF) : Prop := ∃ t, PO X e t ∧ DPtS X.K t f
def ptN : PF := fun _ g => some (none, g)
def ptS (f : EF) : PF := fun ρ g => (f ρ g).bind fun p => match p.1 with | .int i => some (some i, p.2) | _ => none
theorem dpt_none : DPt X none ptN := ⟨_, po_none, fun B W O σ H ρ g s g' D e Q q => by cases e; exact q H Ext.refl D.gen⟩
theorem dpt_some (ha : DE X a fa) : DPt X (some a) (ptS fa) := by
  obtain ⟨t, pt, qt⟩ := ha
  refine ⟨_, po_some pt, fun B W O σ H ρ g s g' D e Q q => ?_⟩
  obtain ⟨⟨d, g1⟩, e1, e2⟩ := Option.bind_eq_some_iff.mp e
  refine qt B W O σ H ρ g d g1 D e1 _ fun v H1 x1 h1 r1 => ?_
  dsimp only at e2
  split at e2
  · cases e2
    cases r1
    exact ⟨_, rfl, q H1 x1 h1⟩
  · cases e2
def cutS {α : Type} (xs : List α) (lo hi : Option Int) : List α := (xs.drop (HT.sIx xs.length 0 lo)).take (HT.sIx xs.length xs.length hi - HT.sIx xs.length 0 lo)
theorem RepSs.drop {K : Fg} {W : Wd} {M : Hp} : ∀ (n : Nat) {vs : List V} {xs : List SV}, RepSs K W M vs xs → RepSs K W M (vs.drop n) (xs.drop n)
  | 0, _, _, r => r
  | _ + 1, _, _, .nil => .nil
  | n + 1, _, _, .cons _ t => t.drop n
theorem RepSs.take {K : Fg} {W : Wd} {M : Hp} : ∀ (n : Nat) {vs : List V} {xs : List SV}, RepSs K W M vs xs → RepSs K W M (vs.take n) (xs.take n)
  | 0, _, _, _ => by rw [List.take_zero, List.take_zero]; exact .nil
  | _ + 1, _, _, .nil => .nil
  | n + 1, _, _, .cons h t => .cons h (t.take n)
theorem RepSs.cut {K : Fg} {W : Wd} {M : Hp} {vs : List V} {xs : List SV} (r : RepSs K W M vs xs) (lo hi : Option Int) : RepSs K W M (cutV vs lo hi) (cutS xs lo hi) := by
  unfold cutV cutS
  rw [r.length]
  exact (r.drop _).take _
/-- xs[lo:hi] -/
def slP (h : OF) (lo hi : PF) : OF := fun ρ g => (h ρ g).bind fun p => (lo ρ p.2).bind fun q => (hi ρ q.2).bind fun r => match p.1 with
  | .sh (.tup xs) => some (.sh (.tup (cutS xs q.1 r.1)), r.2)
  | d => d.lst?.map fun xs => (.own ((cutS xs q.1 r.1).map .sh), r.2)
theorem cutV_whole {vs : List V} {lo hi : Option Int} (h : HT.sIx vs.length 0 lo = 0 ∧ HT.sIx vs.length vs.length hi = vs.length) : cutV vs lo hi = vs := by
  unfold cutV
  rw [h.1, h.2]
  simp
theorem do_slice {lo hi : Option Expr} {fl fh : PF} (ha : DP X a h) (hl : DPt X lo fl) (hh : DPt X hi fh) : DO X (.Subscript a (.Slice lo hi none p2) pos) (slP h fl fh) := by
  obtain ⟨t, pt, qt⟩ := ha
  obtain ⟨u, pu, qu⟩ := hl
  obtain ⟨w, pw, qw⟩ := hh
  refine ⟨_, pe_slice (sl_list.or sl_tupA) pt pu pw, fun B W O σ H ρ g s g' D e Q q => ?_⟩
  obtain ⟨⟨d, g1⟩, e1, e2⟩ := Option.bind_eq_some_iff.mp e
  obtain ⟨⟨l, g2⟩, e3, e4⟩ := Option.bind_eq_some_iff.mp e2
  obtain ⟨⟨m, g3⟩, e5, e6⟩ := Option.bind_eq_some_iff.mp e4
  refine qt B W O σ H ρ g d g1 D e1 _ fun v H1 fp x1 h1 r1 => ?_
  have D1 := D.step x1 h1
  refine qu B W O σ H1 ρ g1 l g2 D1 e3 _ fun H2 x2 h2 => ?_
  have r2 := r1.mono (D1.toDen0.keep x2) x2 fun a m => (r1.inO a m).1
  have D2 := D1.step x2 h2
  refine qw B W O σ H2 ρ g2 m g3 D2 e5 _ fun H3 x3 h3 => ?_
  have r3 := r2.mono (D2.toDen0.keep x3) x3 fun a m => (r2.inO a m).1
  have D3 := D2.step x3 h3
  have x := x1.trans (x2.trans x3)
  dsimp only at e6
  split at e6
  · rename_i xs
    cases e6
    cases r3 with
    | sh r3 =>
      cases r3 with
      | tup hq rs =>
        refine .inr ⟨_, _, rfl, sqT_mono msk_sub hq, fun z => ?_, fun _ p hp => ?_⟩
        · refine q _ H3 [] x h3 List.nodup_nil (fun a m => by simp at m) (.sh ?_)
          have rc := rs.cut l m
          rw [cutV_whole z] at rc
          exact .tup hq rc
        · refine q _ _ [] (x.trans (Same.ext (keep_new hp))) (h3.same (keep_new hp)) List.nodup_nil (fun a m => by simp at m) (.sh ?_)
          exact rep_tup D3.dom hp (rs.cut l m)
  · rename_i hd
    obtain ⟨xs, e7, e8⟩ := Option.map_eq_some_iff.mp e6
    cases e8
    obtain ⟨p, vs, rfl, hl, rs⟩ := r3.list e7
    exact .inl ⟨p, vs, rfl, .inl (.inl hl), fun p' hp => new_own D x h3 hp (rs.cut l m) q⟩
/-! ### sorted -/
def SV.i? : SV → Option Int
  | .int i => some i
  | _ => none
theorem of_mapM_i : ∀ {xs : List SV} {ns : List Int}, xs.mapM SV.i? = some ns → xs = ns.map SV.int
  | [], _, h => by cases h; rfl
  | x :: xs, ns, h => by
    rw [List.mapM_cons] at h
    obtain ⟨i, e1, h⟩ := Option.bind_eq_some_iff.mp h
    obtain ⟨js, e2, h⟩ := Option.bind_eq_some_iff.mp h
    cases h
    rw [of_mapM_i e2, List.map_cons]
    cases x <;> cases e1
    rfl
theorem mapM_i : ∀ ns : List Int, (ns.map SV.int).mapM SV.i? = some ns
  | [] => rfl
  | n :: ns => by rw [List.map_cons, List.mapM_cons, mapM_i ns]; rfl
theorem RepSs.ints {K : Fg} {W : Wd} {M : Hp} : ∀ {vs : List V} {ns : List Int}, RepSs K W M vs (ns.map SV.int) → vs = ns.map V.int
  | _, [], h => by cases h; rfl
  | _, n :: ns, h => by
    cases h with
    | cons h t => cases h; rw [RepSs.ints t]; rfl
theorem RepSs.ofInts {K : Fg} {W : Wd} {M : Hp} : ∀ (ns : List Int), RepSs K W M (ns.map V.int) (ns.map SV.int)
  | [] => .nil
  | _ :: ns => .cons .int (RepSs.ofInts ns)
def sortI (ns : List Int) : List Int := ns.mergeSort (fun a b => decide (a ≤ b))
theorem sortI_perm (ns : List Int) : (sortI ns).Perm ns := List.mergeSort_perm ns _
theorem sortI_le (ns : List Int) : (sortI ns).Pairwise (· ≤ ·) := by
  have h := List.pairwise_mergeSort (le := fun a b : Int => decide (a ≤ b)) (fun a b c h1 h2 => by simp only [decide_eq_true_eq] at *; omega) (fun a b => by simp only [Bool.or_eq_true, decide_eq_true_eq]; omega) ns
  exact h.imp fun h => of_decide_eq_true h
def sortP (h : OF) : OF := fun ρ g => (h ρ g).bind fun p => (p.1.lst?.bind fun xs => xs.mapM SV.i?).map fun ns => (.own (((sortI ns).map SV.int).map .sh), p.2)
theorem do_sorted (hg : Gl X "sorted") (hm : X.mg "sorted" = none) (ha : DP X a h) (he : starEach [a] X.env = (false, eval a X.env) :: starEach [] X.env := by rfl) (hpl : (backTo pos (starEach [] X.env)).any (·.1) = false := by rfl) :
    DO X (.Call (.Name "sorted" p) [a] [] pos) (sortP h) := by
  obtain ⟨t, pt, qt⟩ := ha
  refine ⟨_, pe_callB cr_sortedI hg hm PyProof.Rows.boot_sorted (pa_cons pt pa_nil he) (by decide) (by decide) he hpl, fun B W O σ H ρ g s g' D e Q q => ?_⟩
  obtain ⟨⟨d, g1⟩, e1, e2⟩ := Option.bind_eq_some_iff.mp e
  obtain ⟨ns, e3, e4⟩ := Option.map_eq_some_iff.mp e2
  obtain ⟨xs, e5, e6⟩ := Option.bind_eq_some_iff.mp e3
  cases e4
  refine tCons1 (qt B W O σ H ρ g d g1 D e1 _ fun v H1 fp x1 h1 r1 => ?_)
  obtain ⟨pp, vs, rfl, hs, rs⟩ := r1.list e5
  rw [of_mapM_i e6] at rs
  have ev := rs.ints
  subst ev
  refine ⟨pp, ns, rfl, .inl (.inl hs), fun ns' l hp ho hl => ?_⟩
  have e7 := List.Perm.eq_of_pairwise (fun a b _ _ h1 h2 => Int.le_antisymm h1 h2) ho (sortI_le ns) (hp.trans (sortI_perm ns).symm)
  subst e7
  exact new_own D x1 h1 hl (RepSs.ofInts _) q
/-! ### extend -/
def extD (i : Nat) (f : EF) : SF := fun ρ g => match ρ[i]? with
  | some (some (.own ds)) => (f ρ g).bind fun p => match p.1 with
    | .lst xs => if lenOk (ds.length + xs.length) = true then some (.nx (ρ.set i (some (.own (ds ++ xs.map .sh)))) p.2) else none
    | _ => none
  | _ => none
theorem Reps.snocS {K : Fg} {W : Wd} {O : List Addr} {H : Hp} {ws : List V} {xs : List SV} (r : RepSs K W (msk O H) ws xs) : ∀ {vs : List V} {ds : List DV} {fp : List Addr}, Reps K W O H vs ds fp → Reps K W O H (vs ++ ws) (ds ++ xs.map .sh) fp
  | _, _, _, .nil => Reps.ofS r
  | _, _, _, .cons h t => .cons h (Reps.snocS r t)
theorem ds_extend (i : Nat) {x : Str} {p1 p2 p3 : Pos} (he : DE X e f) (hN : X.N[i]? = some x := by rfl) (hv : Vis X.env.scope x := by first | exact Or.inl rfl | exact Or.inr (Or.inl rfl) | exact Or.inr (Or.inr rfl)) (hd : (x == ("__debug__" : Str)) = false := by decide)
    (hcd : (x == ("__classdict__" : Str)) = false := by decide)
    (hbase : attributeBase (.Name x p1) "extend" X.env (eval (.Name x p1) X.env) = eval (.Name x p1) X.env := by rfl)
    (hfew : ((backTo p3 (starEach [e] X.env)).all (fun x => !x.1) && (backToKw p3 (keywordEach [] X.env)).all (fun x => x.1.isSome)
      && decide ([e].length + ([] : List Keyword).length + (if ([] : List Keyword).isEmpty then 0 else 1) < 30)) = true := by rfl)
    (hline : (p2.endLine == p3.line) = true := by rfl) (hs : starEach [e] X.env = (false, eval e X.env) :: starEach [] X.env := by rfl) (hplain : (backTo p3 (starEach [] X.env)).any (·.1) = false := by rfl)
    (hs2 : swapsWith (.Call (.Attribute (.Name x p1) "extend" p2) [e] [] p3) none pos.line X.env = pure false := by rfl) :
    DS X (.Expr (.Call (.Attribute (.Name x p1) "extend" p2) [e] [] p3) pos) (extD i f) := by
  obtain ⟨t, pt, qt⟩ := he
  refine ⟨_, ps_expr (pe_bm PySem.F.plainAttrs_list PySem.F.slot_list_extend PySem.F.type_list_extend mt_extend (pe_var hN hv hd hcd) (pa_cons pt pa_nil hs) hbase hfew hline hs hplain) hs2, fun B W O σ H ρ g r D e E q => ?_⟩
  unfold extD at e
  split at e
  · rename_i ds h1
    obtain ⟨⟨d, g1⟩, e1, e⟩ := Option.bind_eq_some_iff.mp e
    dsimp only at e
    split at e
    · rename_i xs
      split at e
      · rename_i hl
        cases e
        obtain ⟨a, vs, fq, fr, eσ, ha, hw, hv', rs, rt, n, hb⟩ := D.own h1
        refine ⟨.ref a, eσ, .inl ⟨rfl, vs, .inl (.inl hv')⟩, ?_⟩
        refine qt B W O σ H ρ g _ g1 D e1 _ fun v H1 x1 hg1 r1 => ?_
        have D1 := D.step x1 hg1
        obtain ⟨a', vs', fq', nd, eσ', hv'', rs', k⟩ := own_updN D1 h1
        rw [eσ] at eσ'
        cases eσ'
        have hv1 : H1 a = some (.lst vs) := x1 a _ hw hv'
        rw [hv1] at hv''
        cases hv''
        have k1 := lenOk_lt hl
        have z : sizeLine = 16777216 := by decide
        cases r1 with
        | lst hq rr =>
          rename_i b ws
          refine ⟨a, b, vs, ws, rfl, rfl, hv1, (of_msk hq).1, by rw [rs.length, rr.length]; omega, ?_⟩
          obtain ⟨k2, k3⟩ := k (vs ++ ws) (ds ++ xs.map .sh) ⟨fq', Reps.snocS rr rs', nd, fun b m => m⟩
          exact q σ O _ ((D.toDen0.keep x1).trans k2) k3
      · cases e
    · cases e
  · cases e
end
end DL

/-! DL11: calls that only look and answer something without old lists in it; sorted downwards; a range downwards. -/
namespace DL
open PySem PySem.Spec L2
mutual
def SV.noL : SV → Bool
  | .lst _ => false
  | .obj _ _ _ => false
  | .tup xs => SV.noLs xs
  | _ => true
def SV.noLs : List SV → Bool
  | [] => true
  | x :: xs => SV.noL x && SV.noLs xs
end
mutual
def DV.noL : DV → Bool
  | .sh s => s.noL
  | .own ds => DV.noLs ds
  | .ins _ _ fs => SV.noLs (fs.map (·.2))
  | .tup ds => DV.noLs ds
def DV.noLs : List DV → Bool
  | [] => true
  | x :: xs => DV.noL x && DV.noLs xs
end
/-- what an own thing is -/
def IsO (o : HO) : Prop := (∃ vs, o = .lst vs) ∨ ∃ C dx fs, o = .ins C dx fs
section
variable {K : Fg} {W : Wd} {H : Hp} {O O' fp : List Addr}
mutual
theorem Rep.isL : ∀ {v : V} {d : DV} {fp : List Addr}, Rep K W O H v d fp → ∀ a ∈ fp, ∃ o, H a = some o ∧ IsO o
  | _, _, _, .sh _, a, h => by simp at h
  | _, _, _, .own ha hw h r, a, m => by
    rcases List.mem_cons.mp m with m | m
    · rw [m]; exact ⟨_, h, .inl ⟨_, rfl⟩⟩
    · exact Reps.isL r a m
  | _, _, _, .ins ha hw _ h hn r, a, m => by
    rw [List.mem_singleton.mp m]; exact ⟨_, h, .inr ⟨_, _, _, rfl⟩⟩
  | _, _, _, .tup _ r, a, m => Reps.isL r a m
theorem Reps.isL : ∀ {vs : List V} {ds : List DV} {fp : List Addr}, Reps K W O H vs ds fp → ∀ a ∈ fp, ∃ o, H a = some o ∧ IsO o
  | _, _, _, .nil, a, h => by simp at h
  | _, _, _, .cons h t, a, m => by
    rcases List.mem_append.mp m with m | m
    · exact Rep.isL h a m
    · exact Reps.isL t a m
end
theorem PReps.isL : ∀ {vs : List V} {ds : List DV} {fp : List Addr}, PReps K W O H vs ds fp → ∀ a ∈ fp, ∃ o, H a = some o ∧ IsO o
  | _, _, _, .nil, a, h => by simp at h
  | _, _, _, .cons h t, a, m => by
    rcases List.mem_append.mp m with m | m
    · exact h.isL a m
    · exact PReps.isL t a m
theorem sqT_thaw (hO : ∀ b, b ∈ O → b ∈ O' ∨ b ∈ fp) (hl : ∀ a ∈ fp, ∃ o, H a = some o ∧ IsO o) {a : Addr} {vs : List V} (h : SqT K (msk O' H) a vs) : SqT K (msk O H) a vs := by
  have ok : ∀ o, msk O' H a = some o → ¬ IsO o → msk O H a = some o := fun o q n => by
    obtain ⟨q1, q2⟩ := of_msk q
    refine msk_get (fun z => ?_) q1
    rcases hO a z with z | z
    · exact q2 z
    · obtain ⟨ob, q3, q4⟩ := hl a z
      rw [q1] at q3
      cases q3
      exact n q4
  rcases h with (h | ⟨o, h⟩) | h
  · exact .inl (.inl (ok _ h (by rintro (⟨_, z⟩ | ⟨_, _, _, z⟩) <;> cases z)))
  · exact .inl (.inr ⟨o, ok _ h (by rintro (⟨_, z⟩ | ⟨_, _, _, z⟩) <;> cases z)⟩)
  · exact .inr h
mutual
theorem RepS.thaw (hO : ∀ b, b ∈ O → b ∈ O' ∨ b ∈ fp) (hl : ∀ a ∈ fp, ∃ o, H a = some o ∧ IsO o) : ∀ {v : V} {s : SV}, RepS K W (msk O' H) v s → s.noL = true → RepS K W (msk O H) v s
  | _, _, .non, _ => .non
  | _, _, .bl, _ => .bl
  | _, _, .int, _ => .int
  | _, _, .str, _ => .str
  | _, _, .raw, _ => .raw
  | _, _, .gen h, _ => .gen h
  | _, _, .lst h r, e => by unfold SV.noL at e; cases e
  | _, _, .obj h hn r, e => by unfold SV.noL at e; cases e
  | _, _, .tup (a := a) h r, e => by
    unfold SV.noL at e
    refine .tup ?_ (RepSs.thaw hO hl r e)
    have ok : ∀ o, msk O' H a = some o → ¬ IsO o → msk O H a = some o := fun o q n => by
      obtain ⟨q1, q2⟩ := of_msk q
      refine msk_get (fun z => ?_) q1
      rcases hO a z with z | z
      · exact q2 z
      · obtain ⟨ob, q3, q4⟩ := hl a z
        rw [q1] at q3
        cases q3
        exact n q4
    rcases h with (h | ⟨o, h⟩) | h
    · exact .inl (.inl (ok _ h (by rintro (⟨_, z⟩ | ⟨_, _, _, z⟩) <;> cases z)))
    · exact .inl (.inr ⟨o, ok _ h (by rintro (⟨_, z⟩ | ⟨_, _, _, z⟩) <;> cases z)⟩)
    · exact .inr h
theorem RepSs.thaw (hO : ∀ b, b ∈ O → b ∈ O' ∨ b ∈ fp) (hl : ∀ a ∈ fp, ∃ o, H a = some o ∧ IsO o) : ∀ {vs : List V} {xs : List SV}, RepSs K W (msk O' H) vs xs → SV.noLs xs = true → RepSs K W (msk O H) vs xs
  | _, _, .nil, _ => .nil
  | _, _, .cons h t, e => by
    unfold SV.noLs at e
    obtain ⟨e1, e2⟩ := Bool.and_eq_true_iff.mp e
    exact .cons (RepS.thaw hO hl h e1) (RepSs.thaw hO hl t e2)
end
mutual
theorem Rep.thaw (hO : ∀ b, b ∈ O → b ∈ O' ∨ b ∈ fp) (hO2 : ∀ b, b ∈ O' → b ∈ O) (hl : ∀ a ∈ fp, ∃ o, H a = some o ∧ IsO o) : ∀ {v : V} {d : DV} {fq : List Addr}, Rep K W O' H v d fq → d.noL = true → Rep K W O H v d fq
  | _, _, _, .sh r, e => by unfold DV.noL at e; exact .sh (r.thaw hO hl e)
  | _, _, _, .own ha hw h r, e => by unfold DV.noL at e; exact .own (hO2 _ ha) hw h (Reps.thaw hO hO2 hl r e)
  | _, _, _, .ins ha hw hs h hn r, e => by unfold DV.noL at e; exact .ins (hO2 _ ha) hw hs h hn (RepSs.thaw hO hl r e)
  | _, _, _, .tup h r, e => by unfold DV.noL at e; exact .tup (sqT_thaw hO hl h) (Reps.thaw hO hO2 hl r e)
theorem Reps.thaw (hO : ∀ b, b ∈ O → b ∈ O' ∨ b ∈ fp) (hO2 : ∀ b, b ∈ O' → b ∈ O) (hl : ∀ a ∈ fp, ∃ o, H a = some o ∧ IsO o) : ∀ {vs : List V} {ds : List DV} {fq : List Addr}, Reps K W O' H vs ds fq → DV.noLs ds = true → Reps K W O H vs ds fq
  | _, _, _, .nil, _ => .nil
  | _, _, _, .cons h t, e => by
    unfold DV.noLs at e
    obtain ⟨e1, e2⟩ := Bool.and_eq_true_iff.mp e
    exact .cons (Rep.thaw hO hO2 hl h e1) (Reps.thaw hO hO2 hl t e2)
end
end
section
variable {X : Cx} {e a b c : Expr} {es : List Expr} {f fa fb fc : EF} {h ha' : OF} {fs : AF} {pos p p2 : Pos} {x : Str}
/-- a call that only looks at own lists, and answers something without old lists in it -/
def callBO (F : FF) (os : AOF) : OF := fun ρ g => (os ρ g).bind fun p => (F (p.1.map DV.frz) p.2).bind fun r => if r.1.noL = true then some r else none
theorem do_callB1 {F : FF} {n k : Nat} {fd : FuncData} {fa : Addr} {ps : List Str} {os : AOF} (G : FnOk X.prog X.w X.K X.mg X.base CX0 k fa fd ps (spD X.K n F)) (ar : FF.ar n F) (hr : Room k X.A) (hg : Gl X x) (hm : X.mg x = some (.ref fa)) (hk : PySem.W.keepIn X.K (.ref fa) = true) (hb : Binds X.K fd ps [])
    (ha : DAP X (e :: es) os) (hdb : (x == ("__debug__" : Str)) = false := by decide) (he : starEach (e :: es) X.env = (false, eval e X.env) :: starEach es X.env := by rfl) (hpl : (backTo pos (starEach es X.env)).any (·.1) = false := by rfl) :
    DO X (.Call (.Name x p) (e :: es) [] pos) (callBO F os) := by
  obtain ⟨t, pt, qt⟩ := ha
  refine ⟨_, pe_call G hr hg hm hk hb .nil pass0 pt hdb he hpl, fun B W O σ H ρ g d g' D e Q q => ?_⟩
  obtain ⟨⟨ds, g1⟩, e1, e2⟩ := Option.bind_eq_some_iff.mp e
  obtain ⟨⟨d1, g2⟩, e3, e4⟩ := Option.bind_eq_some_iff.mp e2
  split at e4
  · rename_i hn
    cases e4
    refine qt B W O σ H ρ g ds g1 D e1 _ fun vs H1 fp x1 h1 r => ?_
    rw [List.append_nil]
    have hl := ar _ _ _ e3
    rw [List.length_map] at hl
    have D1 := D.step x1 h1
    have sub : ∀ b, b ∈ O.filter (fun x => decide (x ∉ fp)) → b ∈ O := fun b m => (List.mem_filter.mp m).1
    have nq : ∀ b, b ∈ fp → b ∉ O.filter (fun x => decide (x ∉ fp)) := fun b m z => of_decide_eq_true (List.mem_filter.mp z).2 m
    refine ⟨W, O.filter (fun x => decide (x ∉ fp)), _, g1, d, g', by rw [r.length]; exact hl, r.freeze sub nq, fun a m => D1.dom a (sub a m), h1.re (fun a ha => List.mem_filter.mpr ⟨D1.toDen0.was a ha, decide_eq_true fun z => (r.inO a z).2.1 ha⟩), e3, fun v H' fq x2 h2 n2 f2 r2 => ?_⟩
    have isL : ∀ a ∈ fp, ∃ o, H' a = some o ∧ IsO o := fun a m => by
      obtain ⟨ob, z, zo⟩ := r.isL a m
      exact ⟨ob, x2 a _ (r.inO a m).2.1 z, zo⟩
    refine q v H' fq (x1.trans x2) (h2.re fun a ha => (D.gen.mem a ha).1) n2 (fun a m => ?_) (r2.thaw (O := fq ++ O) (fp := fp) (fun b m => ?_) (fun b m => ?_) isL hn)
    · obtain ⟨z1, z2⟩ := f2 a m
      refine ⟨?_, z2⟩
      cases q : H a with
      | none => rfl
      | some o =>
        by_cases hw : a ∈ W.as
        · exact absurd z1 (D1.dom a (D1.toDen0.was a hw))
        · rw [x1 a o hw q] at z1; cases z1
    · rcases List.mem_append.mp m with m | m
      · exact .inl (List.mem_append_left _ m)
      · by_cases hb : b ∈ fp
        · exact .inr hb
        · exact .inl (List.mem_append_right _ (List.mem_filter.mpr ⟨m, decide_eq_true hb⟩))
    · rcases List.mem_append.mp m with m | m
      · exact List.mem_append_left _ m
      · exact List.mem_append_right _ (sub b m)
  · cases e4
/-! ### range(a, b, -1) -/
def dwnL (lo : Int) (n : Nat) : List SV := (List.range n).map fun (i : Nat) => .int (lo - (i : Int))
def iR3 (fa fb : EF) : IF := fun ρ g => (fa ρ g).bind fun p => (fb ρ p.2).bind fun q => match p.1, q.1 with
  | .int a, .int b => if rngOk a = true ∧ rngOk b = true then some (dwnL a (a - b).toNat, q.2) else none
  | _, _ => none
theorem itc_ok {K : Fg} {W : Wd} {O : List Addr} {H : Hp} {lo : Int} {n : Nat} : ItOk K W O H (Itc lo (-1) n) (dwnL lo n) := by
  intro O' H' k hd
  refine ⟨fun i x hx => ?_, fun i hi => ?_⟩
  · unfold dwnL at hx
    rw [List.getElem?_map] at hx
    obtain ⟨j, e1, e2⟩ := Option.map_eq_some_iff.mp hx
    obtain ⟨h1, h2⟩ := List.getElem?_eq_some_iff.mp e1
    rw [List.length_range] at h1
    rw [List.getElem_range] at h2
    subst h2
    subst e2
    refine ⟨h1, fun v H2 hv => ?_⟩
    obtain ⟨rfl, rfl⟩ := hv
    have e : lo + ((i : Nat) : Int) * -1 = lo - (i : Int) := by omega
    exact ⟨fun b o h => h, by rw [e]; exact .int⟩
  · unfold dwnL at hi
    rw [List.length_map, List.length_range] at hi
    exact hi
theorem di_range3 {tg : Expr} {p : Pos} (hg : Gl X "range") (hm : X.mg "range" = none) (ha : DE X a fa) (hb : DE X b fb) (hc : DE X c (u1 hNeg (kS (.int 1)))) (hs : starEach [a, b, c] X.env = (false, eval a X.env) :: starEach [b, c] X.env := by rfl) (hs1 : starEach [b, c] X.env = (false, eval b X.env) :: starEach [c] X.env := by rfl) (hs2 : starEach [c] X.env = (false, eval c X.env) :: starEach [] X.env := by rfl)
    (hpl : (backTo pos (starEach [b, c] X.env)).any (·.1) = false := by rfl) :
    DI X tg (.Call (.Name "range" p) [a, b, c] [] pos) (iR3 fa fb) := by
  obtain ⟨t, pt, qt⟩ := ha
  obtain ⟨u, pu, qu⟩ := hb
  obtain ⟨w, pw, qw⟩ := hc
  refine ⟨_, pi_range3 hg hm (pa_cons pt (pa_cons pu (pa_cons pw pa_nil hs2) hs1) hs) hs hpl, fun B W O σ H ρ g xs g' D e R q => ?_⟩
  obtain ⟨⟨s, g1⟩, e1, e2⟩ := Option.bind_eq_some_iff.mp e
  obtain ⟨⟨s2, g2⟩, e3, e4⟩ := Option.bind_eq_some_iff.mp e2
  refine qt B W O σ H ρ g s g1 D e1 _ fun v H1 x1 h1 r1 => ?_
  have D1 := D.step x1 h1
  refine qu B W O σ H1 ρ g1 s2 g2 D1 e3 _ fun w H2 x2 h2 r2 => ?_
  have D2 := D1.step x2 h2
  refine qw B W O σ H2 ρ g2 (.int (-1)) g2 D2 rfl _ fun w3 H3 x3 h3 r3 => ?_
  cases s with
  | int n =>
    cases s2 with
    | int n2 =>
      cases r1; cases r2; cases r3
      dsimp only at e4
      split at e4
      · rename_i hh
        cases e4
        have hz1 := rngOk_lt hh.1
        have hz2 := rngOk_lt hh.2
        exact ⟨n, n2, -1, _, rfl, RgC.neg (by omega) (by omega) (by omega) (by omega), q _ H3 (x1.trans (x2.trans x3)) h3 itc_ok⟩
      · cases e4
    | _ => cases e4
  | _ => cases e4
end
end DL

/-! DL12: instances: fields, making, methods. -/
namespace DL
open PySem PySem.Spec L2
section
variable {X : Cx} {e a b c o : Expr} {es : List Expr} {f fa fb fc : EF} {h ha' : OF} {fs : AF} {pos p p2 pos' apos : Pos} {x : Str}

/-! ### from several rules one -/
theorem pe_alt {t u : TE} (h1 : PE X e t) (h2 : PE X e u) : PE X e (fun σ H Q => t σ H Q ∨ u σ H Q) :=
  ⟨fun pins s σ H Q I hq => hq.elim (fun z => h1.run pins s σ H Q I z) fun z => h2.run pins s σ H Q I z⟩
def altF {α : Type} (f k : Env → GS → Option (α × GS)) : Env → GS → Option (α × GS) := fun ρ g => match f ρ g with
  | some r => some r
  | none => k ρ g
theorem do_alt {h k : OF} (h1 : DO X e h) (h2 : DO X e k) : DO X e (altF h k) := by
  obtain ⟨t, pt, qt⟩ := h1
  obtain ⟨u, pu, qu⟩ := h2
  refine ⟨_, pe_alt pt pu, fun B W O σ H ρ g d g' D e Q q => ?_⟩
  unfold altF at e
  split at e
  · rename_i r h1
    cases e
    exact .inl (qt B W O σ H ρ g d g' D h1 Q q)
  · exact .inr (qu B W O σ H ρ g d g' D e Q q)
theorem de_alt {f k : EF} (h1 : DE X e f) (h2 : DE X e k) : DE X e (altF f k) := by
  obtain ⟨t, pt, qt⟩ := h1
  obtain ⟨u, pu, qu⟩ := h2
  refine ⟨_, pe_alt pt pu, fun B W O σ H ρ g d g' D e Q q => ?_⟩
  unfold altF at e
  split at e
  · rename_i r h1
    cases e
    exact .inl (qt B W O σ H ρ g d g' D h1 Q q)
  · exact .inr (qu B W O σ H ρ g d g' D e Q q)

/-! ### fields -/
/-- the field k of an instance of C whose fields are ns -/
def DV.fld (C : Addr) (ns : List Str) (k : Nat) : DV → Option SV
  | .sh (.obj C' ns' xs) => if C' = C ∧ ns' = ns then xs[k]? else none
  | .ins _ C' fs => if C' = C ∧ fs.map (·.1) = ns.take fs.length then fs[k]?.map (·.2) else none
  | _ => none
def fldP (C : Addr) (ns : List Str) (k : Nat) (h : OF) : EF := fun ρ g => (h ρ g).bind fun p => (p.1.fld C ns k).map fun s => (s, p.2)
theorem lookup_at {α : Type} : ∀ {fs : List (Str × α)} {k : Nat} {f : Str} {v : α}, (fs.map (·.1)).Nodup → fs[k]? = some (f, v) → fs.lookup f = some v
  | [], k, f, v, _, e => by simp at e
  | (f0, v0) :: fs, 0, f, v, _, e => by
    have e' := Option.some.inj e
    cases e'
    simp
  | (f0, v0) :: fs, k + 1, f, v, hn, e => by
    have hn' := List.nodup_cons.mp hn
    have e' : fs[k]? = some (f, v) := by simpa using e
    have ne : f ≠ f0 := fun z => hn'.1 (by rw [← z]; exact List.mem_map.mpr ⟨(f, v), List.mem_of_getElem? e', rfl⟩)
    rw [List.lookup_cons, beq_eq_false_iff_ne.mpr ne]
    exact lookup_at hn'.2 e'
theorem rep_lookup {K : Fg} {W : Wd} {H : Hp} {vs : List (Str × V)} {ns : List Str} {xs : List SV} {k : Nat} {f : Str} {s : SV} (hn : vs.map (·.1) = ns) (nd : ns.Nodup) (hf : ns[k]? = some f) (r : RepSs K W H (vs.map (·.2)) xs) (e : xs[k]? = some s) :
    ∃ v, vs.lookup f = some v ∧ RepS K W H v s := by
  obtain ⟨v, e1, r1⟩ := r.get e
  rw [List.getElem?_map] at e1
  obtain ⟨⟨f', v'⟩, e2, e3⟩ := Option.map_eq_some_iff.mp e1
  have e4 : f' = f := by
    rw [← hn, List.getElem?_map, e2] at hf
    exact Option.some.inj hf
  cases e3
  subst e4
  exact ⟨_, lookup_at (by rw [hn]; exact nd) e2, r1⟩
theorem de_fld {C : Addr} {ns : List Str} (k : Nat) {f : Str} (ha : DP X a h) (hc : Cls X.K C) (hnf : NoAttr X.K C f) (nd : ns.Nodup) (hf : ns[k]? = some f := by rfl) (hb : attributeBase a f X.env (eval a X.env) = eval a X.env := by rfl) : DE X (.Attribute a f pos) (fldP C ns k h) := by
  obtain ⟨t, pt, qt⟩ := ha
  refine ⟨_, pe_fld pt hb, fun B W O σ H ρ g s g' D e Q q => ?_⟩
  obtain ⟨⟨d, g1⟩, e1, e2⟩ := Option.bind_eq_some_iff.mp e
  obtain ⟨s1, e3, e4⟩ := Option.map_eq_some_iff.mp e2
  cases e4
  refine qt B W O σ H ρ g d g1 D e1 _ fun v H1 fp x1 h1 r1 => ?_
  cases d with
  | own _ => cases e3
  | tup _ => cases e3
  | sh s =>
    cases s with
    | obj C' ns' xs =>
      have e3' : (if C' = C ∧ ns' = ns then xs[k]? else none) = some _ := e3
      split at e3'
      · rename_i hh
        obtain ⟨hC, hns⟩ := hh
        subst hC hns
        cases r1 with
        | sh r1 =>
          cases r1 with
          | obj hq hn r =>
            obtain ⟨w, e5, r5⟩ := rep_lookup hn nd hf r e3'
            exact ⟨_, _, _, _, w, rfl, (of_msk hq).1, hc, hnf, e5, q w H1 x1 h1 r5⟩
      · cases e3'
    | _ => cases e3
  | ins me C' fs' =>
    have e3' : (if C' = C ∧ fs'.map (·.1) = ns.take fs'.length then fs'[k]?.map (·.2) else none) = some _ := e3
    split at e3'
    · rename_i hh
      obtain ⟨hC, hns⟩ := hh
      subst hC
      cases r1 with
      | ins hO hw hs hq hn r =>
        obtain ⟨⟨f', s'⟩, e6, e7⟩ := Option.map_eq_some_iff.mp e3'
        have hk : k < fs'.length := (List.getElem?_eq_some_iff.mp e6).1
        have hf' : (fs'.map (·.1))[k]? = some f := by rw [hns, List.getElem?_take_of_lt hk]; exact hf
        obtain ⟨w, e5, r5⟩ := rep_lookup (f := f) hn (by rw [hns]; exact nd.sublist (List.take_sublist _ _)) hf' r (by rw [List.getElem?_map, e6]; exact congrArg some e7)
        exact ⟨_, _, _, _, w, rfl, hq, hc, hnf, e5, q w H1 x1 h1 r5⟩
    · cases e3'

/-! ### __init__: a field is stored for the first time -/
/-- the slot i's instance gets the field f behind its fields pre -/
def fldD (i : Nat) (C : Addr) (pre : List Str) (f : Str) (v : EF) : SF := fun ρ g => (v ρ g).bind fun p => match ρ[i]? with
  | some (some (.ins me C' fs)) => if C' = C ∧ fs.map (·.1) = pre then some (.nx (ρ.set i (some (.ins me C' (fs ++ [(f, p.1)])))) p.2) else none
  | _ => none
theorem putF_new {f : Str} {v : V} : ∀ {fs : List (Str × V)}, f ∉ fs.map (·.1) → putF f v fs = fs ++ [(f, v)]
  | [], _ => rfl
  | (f0, v0) :: fs, hn => by
    have h1 : ¬ f0 = f := fun z => hn (by rw [← z]; exact List.mem_cons_self)
    have h2 : f ∉ fs.map (·.1) := fun z => hn (List.mem_cons_of_mem _ z)
    rw [putF, if_neg h1, putF_new h2]
    rfl
theorem Den.ownI {K : Fg} {B : Bs} {W : Wd} {O : List Addr} {σ : St} {H : Hp} {ρ : Env} {g : GS} (D : Den K B W O σ H ρ g) {i : Nat} {me : Bool} {C : Addr} {fs : List (Str × SV)} (h : ρ[i]? = some (some (.ins me C fs))) :
    ∃ a dx vs, σ[i]? = some (some (.ref a)) ∧ H a = some (.ins C dx vs) ∧ vs.map (·.1) = fs.map (·.1) ∧ RepSs K W (msk O H) (vs.map (·.2)) (fs.map (·.2)) ∧
      ∀ vs' fs', vs'.map (·.1) = fs'.map (·.1) → RepSs K W (msk O H) (vs'.map (·.2)) (fs'.map (·.2)) → Keep O H O (upd H a (.ins C dx vs')) ∧ Den K B W O σ (upd H a (.ins C dx vs')) (ρ.set i (some (.ins me C fs'))) g := by
  obtain ⟨fe, re, n, hb⟩ := D.env
  obtain ⟨v, fq, fr, eσ, r, rt, nn, hs⟩ := re.take h n
  cases r with
  | ins ha hw hm hq hn r =>
    rename_i a dx vs
    refine ⟨a, dx, vs, eσ, hq, hn, r, fun vs' fs' hn' r' => ⟨keep_upd ha, ?_⟩⟩
    have ndq : ([a] ++ fr).Nodup := nn
    have hab : B.2 a = none := hb a (hs a (List.mem_append_left _ List.mem_cons_self))
    have na : a ∉ fr := (List.nodup_cons.mp ndq).1
    have r2 : Rep K W O (upd H a (.ins C dx vs')) (.ref a) (.ins me C fs') [a] := .ins ha hw hm upd_same hn' (by rw [msk_upd ha]; exact r')
    obtain ⟨fz, h1, h2, h3⟩ := ERep.put r2 (rt.upd ha na) (lt_of_slot h) eσ ndq
    refine { D.toDen0.upd hw hab with env := ⟨fz, h1, h2, fun b m => ?_⟩ }
    rcases List.mem_append.mp (h3 b m) with z | z
    · rw [List.mem_singleton.mp z]; exact hab
    · exact hb b (hs b (List.mem_append_right _ z))
theorem ds_fldset (i : Nat) {C : Addr} (pre : List Str) {f : Str} {x : Str} {p1 : Pos} (hv : DE X e fa) (hc : Cls X.K C) (hnf : NoAttr X.K C f) (hpre : f ∉ pre) (hpl : pre.length < 1000 := by decide) (hN : X.N[i]? = some x := by rfl)
    (hvis : Vis X.env.scope x := by first | exact Or.inl rfl | exact Or.inr (Or.inl rfl) | exact Or.inr (Or.inr rfl)) (hd : (x == ("__debug__" : Str)) = false := by decide) (hcd : (x == ("__classdict__" : Str)) = false := by decide) (hs : swapsWith e (some (.Attribute (.Name x p1) f pos')) pos.line X.env = pure false := by rfl) :
    DS X (.Assign [.Attribute (.Name x p1) f pos'] e pos) (fldD i C pre f fa) := by
  obtain ⟨t, pt, qt⟩ := hv
  refine ⟨_, ps_fld (pe_var hN hvis hd hcd) pt hs, fun B W O σ H ρ g r D e E q => ?_⟩
  obtain ⟨⟨s, g1⟩, e1, e2⟩ := Option.bind_eq_some_iff.mp e
  refine qt B W O σ H ρ g s g1 D e1 _ fun v H1 x1 h1 r1 => ?_
  have D1 := D.step x1 h1
  dsimp only at e2
  split at e2
  · rename_i me C' fs hi
    split at e2
    · rename_i hh
      obtain ⟨hC, hns⟩ := hh
      subst hC
      cases e2
      obtain ⟨a, dx, vs, eσ, hq, hn, rr, put⟩ := D1.ownI hi
      have ep : vs.map (·.1) = pre := by rw [hn, hns]
      have hl : vs.length < 1000 := by
        have := congrArg List.length ep
        rw [List.length_map] at this
        omega
      obtain ⟨k1, D2⟩ := put (vs ++ [(f, v)]) (fs ++ [(f, s)]) (by rw [List.map_append, List.map_append, hn]; rfl) (by
        rw [List.map_append, List.map_append]
        exact rr.append (.cons r1 .nil))
      refine ⟨.ref a, eσ, a, _, dx, vs, rfl, hq, hc, hnf, hl, ?_⟩
      rw [putF_new (by rw [ep]; exact hpre)]
      exact q σ O _ (Same.trans (D.toDen0.keep x1) k1) D2
    · cases e2
  · cases e2

/-! ### making an instance -/
abbrev FIn := List SV → GS → Option (List (Str × SV) × GS)
def era (x : Addr) (H : Hp) : Hp := fun b => if b = x then none else H b
theorem era_ne {x b : Addr} {H : Hp} (h : b ≠ x) : era x H b = H b := by unfold era; rw [if_neg h]
theorem era_self {x : Addr} {H : Hp} : era x H x = none := by unfold era; rw [if_pos rfl]
theorem era_le {x : Addr} {H : Hp} : Same (era x H) H := fun b o e => by
  by_cases hb : b = x
  · subst hb; rw [era_self] at e; cases e
  · rw [era_ne hb] at e; exact e
/-- __init__: n arguments behind self -/
def spI (K : Fg) (C : Addr) (n : Nat) (F : FIn) : Sp := fun vs H Q _ => ∃ W O x dx vs' ss g fs g', vs = .ref x :: vs' ∧ H x = some (.ins C dx []) ∧ x ∉ O ∧ vs'.length = n ∧ RepSs K W (msk O (era x H)) vs' ss ∧ (∀ a ∈ O, H a ≠ none) ∧ GOk W O H g ∧ F ss g = some (fs, g') ∧
  ∀ H' dx' fs', Ext W (era x H) H' → GOk W O H' g' → H' x = some (.ins C dx' fs') → fs'.map (·.1) = fs.map (·.1) → RepSs K W (msk (x :: O) H') (fs'.map (·.2)) (fs.map (·.2)) → Q .non H'
def makeF (C : Addr) (F : FIn) (fs : AF) : OF := fun ρ g => (fs ρ g).bind fun p => (F p.1 p.2).map fun r => (.ins false C r.1, r.2)
theorem do_make {C : Addr} {F : FIn} {n k : Nat} {fd : FuncData} {fa : Addr} {ps : List Str} (M : Mk X.K C fa) (G : FnOk X.prog X.w X.K X.mg X.base CX0 k fa fd ps (spI X.K C n F)) (ar : ∀ ss g r, F ss g = some r → ss.length = n) (hr : Room (k + 1) X.A) (hg : Gl X x) (hm : X.mg x = some (.ref C)) (hb : Binds X.K fd ps [])
    (ha : DA X (e :: es) fs) (hdb : (x == ("__debug__" : Str)) = false := by decide) (he : starEach (e :: es) X.env = (false, eval e X.env) :: starEach es X.env := by rfl) (hpl : (backTo pos (starEach es X.env)).any (·.1) = false := by rfl) :
    DO X (.Call (.Name x p) (e :: es) [] pos) (makeF C F fs) := by
  obtain ⟨t, pt, qt⟩ := ha
  refine ⟨_, pe_make M G hr hg hm hb .nil pass0 pt hdb he hpl, fun B W O σ H ρ g d g' D e Q q => ?_⟩
  obtain ⟨⟨ss, g1⟩, e1, e2⟩ := Option.bind_eq_some_iff.mp e
  obtain ⟨⟨fl, g2⟩, e3, e4⟩ := Option.map_eq_some_iff.mp e2
  cases e4
  refine qt B W O σ H ρ g ss g1 D e1 _ fun vs H1 x1 h1 r1 => ?_
  rw [List.append_nil]
  intro y dx ny ndx nex
  have D1 := D.step x1 h1
  have yO : y ∉ O := fun z => D1.dom y z ny
  have s1 : Same H1 (upd (upd H1 dx (.own y)) y (.ins C dx [])) := fun b o eb => by
    rw [upd_ne (ne_of_none eb ny), upd_ne (ne_of_none eb ndx)]; exact eb
  have s2 : Same H1 (era y (upd (upd H1 dx (.own y)) y (.ins C dx []))) := fun b o eb => by
    rw [era_ne (ne_of_none eb ny)]; exact s1 b o eb
  refine ⟨W, O, y, dx, vs, ss, g1, fl, _, rfl, upd_same, yO, by rw [r1.length]; exact ar _ _ _ e3, r1.mono (msk_same s2), fun a m => ?_, (h1.re D1.toDen0.was).same s1, e3, fun H' dx' fs' x2 h2 e5 e6 r2 => ⟨rfl, ?_⟩⟩
  · obtain ⟨ob, eb⟩ := Option.ne_none_iff_exists'.mp (D1.dom a m)
    rw [s1 a ob eb]; simp
  · refine q (.ref y) H' [y] (x1.trans fun b o hw eb => x2 b o hw (s2 b o eb)) (h2.re fun a ha => (D.gen.mem a ha).1) (by simp) (fun a m => ?_) (.ins List.mem_cons_self (fun z => yO (D1.toDen0.was y z)) (fun z => by cases z) e5 e6 r2)
    rw [List.mem_singleton.mp m]
    refine ⟨?_, by rw [e5]; simp⟩
    cases q : H y with
    | none => rfl
    | some o =>
      by_cases hw : y ∈ W.as
      · exact absurd (D1.toDen0.was y hw) yO
      · rw [x1 y o hw q] at ny; cases ny
end

/-! ### the body of __init__ -/
def envI (C : Addr) (N : Nat) (ss : List SV) : Env := some (.ins true C []) :: (ss.map (fun s => some (.sh s)) ++ List.replicate (N - 1 - ss.length) none)
def takeI (C : Addr) (g : GS) : Option (Option DV) → Option (List (Str × SV) × GS)
  | some (some (.ins true C' fs)) => if C' = C then some (fs, g) else none
  | _ => none
def fiF (C : Addr) (n N : Nat) (body : SF) : FIn := fun ss g => if ss.length = n then (body (envI C N ss) g).bind fun (r : Fl) => match r with
  | .nx ρ g' => takeI C g' ρ[0]?
  | _ => none
else none
theorem fiF_ar {C : Addr} {n N : Nat} {body : SF} : ∀ ss g r, fiF C n N body ss g = some r → ss.length = n := fun ss g r h => by
  unfold fiF at h
  split at h
  · assumption
  · cases h
theorem RepS.wd {K : Fg} {W W' : Wd} {H : Hp} (hg : W'.gen = W.gen) : ∀ {v : V} {s : SV}, RepS K W H v s → RepS K W' H v s := by
  intro v s r
  refine RepS.rec (motive_1 := fun v s _ => RepS K W' H v s) (motive_2 := fun vs ss _ => RepSs K W' H vs ss) .non .bl .int .str .raw ?_ ?_ ?_ ?_ .nil ?_ r
  · intro a b c h; exact .gen (by rw [hg]; exact h)
  · intro a vs xs h _ r; exact .tup h r
  · intro a vs xs h _ r; exact .lst h r
  · intro a C dx fs ns xs h hn _ r; exact .obj h hn r
  · intro v vs x xs _ _ r rs; exact .cons r rs
theorem RepSs.wd {K : Fg} {W W' : Wd} {H : Hp} (hg : W'.gen = W.gen) : ∀ {vs : List V} {ss : List SV}, RepSs K W H vs ss → RepSs K W' H vs ss
  | _, _, .nil => .nil
  | _, _, .cons h t => .cons (h.wd hg) (RepSs.wd hg t)
theorem Wd.as_eq {W W' : Wd} (hg : W'.gen = W.gen) : W'.as = W.as := by
  obtain ⟨g, s⟩ := W
  obtain ⟨g', s'⟩ := W'
  cases hg
  cases g <;> rfl
theorem GOk.wd {W W' : Wd} {O : List Addr} {H : Hp} {g : GS} (hg : W'.gen = W.gen) (h : GOk W O H g) : GOk W' O H g := by
  unfold GOk at *
  rw [hg]
  exact h
theorem Ext.wd {W W' : Wd} {H H' : Hp} (hg : W'.gen = W.gen) (h : Ext W H H') : Ext W' H H' := fun b o hb e => h b o (by rw [← Wd.as_eq hg]; exact hb) e
theorem fn_okI {P : Program} {w : World} {K : Fg} {mg : Str → Option Value} {base : Heap} {x qual : Str} {st : Stmt} {f : Addr} {fd : FuncData} {N ps : List Str} {k n : Nat} {C : Addr} {body : SF} (F : Fun K x qual st f fd) (S : FnScope N ps (defScope st)) (hps : ps.length = n + 1) (hN : 0 < N.length)
    (hb : ∀ (cdv : Value) (A : Around) (outer : List PySem.Env) (s : Shared) (H : Hp) (E : XK), Room k (A.deeper (PyProof.Rows.envOfC qual (defScope st) s.heap.objs.size f cdv)) → DSs (cxOf CX0 P w K mg base N qual (defScope st) f cdv A outer s H E).nox (defBody st) body) :
    FnOk P w K mg base CX0 (k + 1) f fd ps (spI K C n (fiF C n N.length body)) := by
  refine F.ok S (fun vs H Q E h => ?_) (fun cdv A outer s H vs Q E hr h => ?_)
  · obtain ⟨W, O, y, dx, vs', ss, g, fs, g', rfl, _, _, hl, _⟩ := h
    rw [List.length_cons, hl, hps]
  · obtain ⟨W, O, y, dx, vs', ss, g, fs, g', rfl, hy, yO, hl, rs, hO, hg, e, q⟩ := h
    obtain ⟨t, pt, qt⟩ := hb cdv A outer s H E hr
    refine ⟨t, pt, ?_⟩
    unfold fiF at e
    split at e
    · obtain ⟨r, e1, e2⟩ := Option.bind_eq_some_iff.mp e
      cases r with
      | nx ρ1 g1 =>
        dsimp only at e2
        unfold takeI at e2
        split at e2
        · rename_i C' fs1 h0
          split at e2
          · rename_i hC
            subst hC
            cases e2
            have hgW : (⟨W.gen, some y⟩ : Wd).gen = W.gen := rfl
            have sm : Same (msk O (era y H)) (msk (y :: O) H) := fun b o eb => by
              obtain ⟨e3, e4⟩ := of_msk eb
              by_cases hb : b = y
              · subst hb; rw [era_self] at e3; cases e3
              · rw [era_ne hb] at e3
                exact msk_get (fun z => (List.mem_cons.mp z).elim hb e4) e3
            have was : ∀ a ∈ (⟨W.gen, some y⟩ : Wd).as, a ∈ O := fun a m => (hg.mem a (by rw [← Wd.as_eq hgW]; exact m)).1
            have r0 : Rep K ⟨W.gen, some y⟩ (y :: O) H (.ref y) (.ins true C' []) [y] := .ins List.mem_cons_self (fun z => yO (was y z)) (fun _ => rfl) hy rfl .nil
            have er := erep0 (K := K) (O := y :: O) (N.length - 1 - ss.length) ((rs.wd hgW).mono sm)
            have hlen : (N.length - 1 - ss.length) = N.length - (V.ref y :: vs').length := by rw [List.length_cons, rs.length]; omega
            refine qt (O, era y H) ⟨W.gen, some y⟩ (y :: O) _ H _ g (.nx ρ1 g') ?_ e1 _ ?_
            · refine { base := Same.ext era_le, sub := fun a m => List.mem_cons_of_mem _ m, new := fun a m => ?_, dom := fun a m => ?_, gen := hg.wd hgW, bdom := fun a m => ?_, env := ⟨[y] ++ [], .som r0 ?_, by simp, fun a m => ?_⟩ }
              · rcases List.mem_cons.mp m with m | m
                · subst m; exact .inr era_self
                · exact .inl m
              · rcases List.mem_cons.mp m with m | m
                · subst m; rw [hy]; simp
                · exact hO a m
              · show era y H a ≠ none
                rw [era_ne fun z => yO (by rw [← z]; exact m)]
                exact hO a m
              · show ERep K _ _ H (vs'.map some ++ List.replicate (N.length - (V.ref y :: vs').length) none) _ _
                rw [← hlen]
                exact er
              · have : a = y := by simpa using m
                subst this
                exact era_self
            · intro σ' O' H' _ D'
              obtain ⟨fe, re, _, _⟩ := D'.env
              obtain ⟨v, fq, e5, r5, _⟩ := re.at h0
              cases r5 with
              | ins ha hw hs hq hn rr =>
                have ey := Option.some.inj (hs rfl)
                subst ey
                have rr' : RepSs K ⟨W.gen, some y⟩ (msk O' H') _ _ := rr
                have r6 := RepSs.wd (W := ⟨W.gen, some y⟩) (W' := W) rfl rr'
                refine q H' _ _ (Ext.wd (W := ⟨W.gen, some y⟩) rfl D'.base) (GOk.wd (W := ⟨W.gen, some y⟩) rfl D'.gen) hq hn (r6.mono (msk_le fun b z => ?_))
                rcases List.mem_cons.mp z with z | z
                · rw [z]; exact ha
                · exact D'.sub b z
          · cases e2
        · cases e2
      | rt _ _ => cases e2
      | bk _ _ => cases e2
      | ct _ _ => cases e2
    · cases e

/-! ### methods -/
section
variable {X : Cx} {e a b c o : Expr} {es : List Expr} {f fa fb fc : EF} {h ha' : OF} {fs : AF} {pos p p2 pos' apos : Pos} {x : Str}
def methF (C : Addr) (ns : List Str) (F : FF) (h : EF) (fs : AF) : OF := fun ρ g => (h ρ g).bind fun p => match p.1 with
  | .obj C' ns' xs => if C' = C ∧ ns' = ns then (fs ρ p.2).bind fun q => F (.obj C' ns' xs :: q.1) q.2 else none
  | _ => none
theorem lookup_no {α : Type} : ∀ {fs : List (Str × α)} {m : Str}, m ∉ fs.map (·.1) → fs.lookup m = none
  | [], _, _ => rfl
  | (f0, v0) :: fs, m, h => by
    have h1 : m ≠ f0 := fun z => h (by rw [z]; exact List.mem_cons_self)
    rw [List.lookup_cons, beq_eq_false_iff_ne.mpr h1]
    exact lookup_no fun z => h (List.mem_cons_of_mem _ z)
theorem do_meth {C : Addr} {ns : List Str} {F : FF} {n k : Nat} {fd : FuncData} {fad : Addr} {ps : List Str} {m : Str} {pl : Sem Bool} (hrec : DE X o f) (hc : Cls X.K C) (hm : Meth X.K C m fad) (G : FnOk X.prog X.w X.K X.mg X.base CX0 k fad fd ps (spD X.K n F)) (ar : FF.ar n F) (hr : Room k X.A) (hb : Binds X.K fd ps []) (hnm : m ∉ ns)
    (ha : DA X (e :: es) fs) (hst : starEach (e :: es) X.env = (false, eval e X.env) :: starEach es X.env := by rfl) (hpl : (backTo pos (starEach es X.env)).any (·.1) = false := by rfl)
    (ht : eval (.Call (.Attribute o m apos) (e :: es) [] pos) X.env = (do
      let ov ← eval o X.env
      standAt apos.atName
      let (f, first) ← holding [ov] (getMethod ov m pl)
      callWith pos f first (backTo pos (starEach (e :: es) X.env)) (backToKw pos (keywordEach [] X.env))) := by rfl) :
    DO X (.Call (.Attribute o m apos) (e :: es) [] pos) (methF C ns F f fs) := by
  obtain ⟨t, pt, qt⟩ := hrec
  obtain ⟨u, pu, qu⟩ := ha
  refine ⟨_, pe_meth (pl := pl) pt hc hm G hr hb .nil pass0 pu hst hpl ht, fun B W O σ H ρ g d g' D e Q q => ?_⟩
  obtain ⟨⟨s, g1⟩, e1, e2⟩ := Option.bind_eq_some_iff.mp e
  refine qt B W O σ H ρ g s g1 D e1 _ fun v H1 x1 h1 r1 => ?_
  have D1 := D.step x1 h1
  cases s with
  | obj C' ns' xs =>
    have e2' : (if C' = C ∧ ns' = ns then (fs ρ g1).bind fun q => F (.obj C' ns' xs :: q.1) q.2 else none) = some (d, g') := e2
    split at e2'
    · rename_i hh
      obtain ⟨hC, hns⟩ := hh
      subst hC hns
      obtain ⟨⟨ss, g2⟩, e3, e4⟩ := Option.bind_eq_some_iff.mp e2'
      cases r1 with
      | obj hq hn rr =>
        refine ⟨_, _, _, rfl, (of_msk hq).1, lookup_no (by rw [hn]; exact hnm), ?_⟩
        refine qu B W O σ H1 ρ g1 ss g2 D1 e3 _ fun vs H2 x2 h2 r2 => ?_
        rw [List.append_nil]
        exact sp_of D (x1.trans x2) h2 (.cons ((RepS.obj hq hn rr).mono (D1.toDen0.keep x2)) r2) (ar _ _ _ e4) e4 q
    · cases e2'
  | _ => cases e2
theorem do_meth0 {C : Addr} {ns : List Str} {F : FF} {n k : Nat} {fd : FuncData} {fad : Addr} {ps : List Str} {m : Str} {pl : Sem Bool} (hrec : DE X o f) (hc : Cls X.K C) (hm : Meth X.K C m fad) (G : FnOk X.prog X.w X.K X.mg X.base CX0 k fad fd ps (spD X.K n F)) (ar : FF.ar n F) (hr : Room k X.A) (hb : Binds X.K fd ps []) (hnm : m ∉ ns)
    (ht : eval (.Call (.Attribute o m apos) [] [] pos) X.env = (do
      let ov ← eval o X.env
      standAt apos.atName
      let (f, first) ← holding [ov] (getMethod ov m pl)
      callWith pos f first (backTo pos (starEach [] X.env)) (backToKw pos (keywordEach [] X.env))) := by rfl) :
    DO X (.Call (.Attribute o m apos) [] [] pos) (methF C ns F f aN) := by
  obtain ⟨t, pt, qt⟩ := hrec
  refine ⟨_, pe_meth0 (pl := pl) (E := fun _ _ _ => True) pt hc hm G hr hb .nil pass0 ht, fun B W O σ H ρ g d g' D e Q q => ?_⟩
  obtain ⟨⟨s, g1⟩, e1, e2⟩ := Option.bind_eq_some_iff.mp e
  refine qt B W O σ H ρ g s g1 D e1 _ fun v H1 x1 h1 r1 => ?_
  cases s with
  | obj C' ns' xs =>
    have e2' : (if C' = C ∧ ns' = ns then (aN ρ g1).bind fun q => F (.obj C' ns' xs :: q.1) q.2 else none) = some (d, g') := e2
    split at e2'
    · rename_i hh
      obtain ⟨hC, hns⟩ := hh
      subst hC hns
      obtain ⟨⟨ss, g2⟩, e3, e4⟩ := Option.bind_eq_some_iff.mp e2'
      cases e3
      cases r1 with
      | obj hq hn rr =>
        refine ⟨_, _, _, rfl, (of_msk hq).1, lookup_no (by rw [hn]; exact hnm), ?_⟩
        exact sp_of (E := fun _ _ _ => True) D x1 h1 (.cons (.obj hq hn rr) .nil) (ar _ _ _ e4) e4 q
    · cases e2'
  | _ => cases e2
end
end DL

/-! DL13: lists within own lists: x[i].append(e), x[i][j] = e. -/
namespace DL
open PySem PySem.Spec L2
section
variable {K : Fg} {W : Wd} {O : List Addr} {H : Hp} {B : Bs} {σ : St} {ρ : Env} {g : GS}
/-- one item of a list at hand, the others as they are carried over -/
theorem Reps.focus {d : DV} : ∀ {vs : List V} {ds : List DV} {fp : List Addr} {j : Nat}, Reps K W O H vs ds fp → ds[j]? = some d → fp.Nodup →
    ∃ v fq fr, vs[j]? = some v ∧ Rep K W O H v d fq ∧ (fq ++ fr).Nodup ∧ (∀ a, a ∈ fq ++ fr → a ∈ fp) ∧
      ∀ (O' : List Addr) (H' : Hp) d' fq', (∀ u e f, (∀ x ∈ f, x ∈ fr) → Rep K W O H u e f → Rep K W O' H' u e f) → Rep K W O' H' v d' fq' → (fq' ++ fr).Nodup → ∃ fp', Reps K W O' H' vs (ds.set j d') fp' ∧ fp'.Nodup ∧ ∀ a ∈ fp', a ∈ fq' ++ fr
  | _, _, _, _, .nil, h, _ => by simp at h
  | _, _, _, 0, .cons (v := v) (fp := f1) (fq := f2) r t, h, hn => by
    cases (Option.some.inj h)
    refine ⟨v, f1, f2, rfl, r, hn, fun a m => m, fun O' H' d' fq' tr r' n' => ⟨fq' ++ f2, .cons r' ?_, n', fun a m => m⟩⟩
    have all : ∀ {vs : List V} {ds : List DV} {f : List Addr}, (∀ x ∈ f, x ∈ f2) → Reps K W O H vs ds f → Reps K W O' H' vs ds f := by
      intro vs ds f hf rs
      induction ds generalizing vs f with
      | nil => cases rs; exact .nil
      | cons e ds ih =>
        cases rs with
        | cons r t => exact .cons (tr _ _ _ (fun x m => hf x (List.mem_append_left _ m)) r) (ih (fun x m => hf x (List.mem_append_right _ m)) t)
    exact all (fun x m => m) t
  | _, _, _, j + 1, .cons (v := v0) (d := d0) (fp := f1) (fq := f2) r t, h, hn => by
    have hn' := List.nodup_append.mp hn
    obtain ⟨v, fq, fr, e, r', n, hs, back⟩ := Reps.focus (j := j) t (by simpa using h) hn'.2.1
    have n' := List.nodup_append.mp n
    refine ⟨v, fq, f1 ++ fr, by simpa using e, r', ?_, fun a m => ?_, fun O' H' d' fq' tr r2 n2 => ?_⟩
    · rw [List.nodup_append]
      refine ⟨n'.1, ?_, fun a ha b hb z => ?_⟩
      · rw [List.nodup_append]
        exact ⟨hn'.1, n'.2.1, fun a ha b hb => hn'.2.2 a ha b (hs b (List.mem_append_right _ hb))⟩
      · rcases List.mem_append.mp hb with hb | hb
        · exact hn'.2.2 b hb a (hs a (List.mem_append_left _ ha)) z.symm
        · exact n'.2.2 a ha b hb z
    · rcases List.mem_append.mp m with m | m
      · exact List.mem_append_right _ (hs a (List.mem_append_left _ m))
      · rcases List.mem_append.mp m with m | m
        · exact List.mem_append_left _ m
        · exact List.mem_append_right _ (hs a (List.mem_append_right _ m))
    · have n3 := List.nodup_append.mp n2
      have n4 := List.nodup_append.mp n3.2.1
      obtain ⟨fp', k1, k2, k3⟩ := back O' H' d' fq' (fun u e f hf => tr u e f fun x m => List.mem_append_right _ (hf x m)) r2 (by
        rw [List.nodup_append]
        exact ⟨n3.1, n4.2.1, fun a ha b hb => n3.2.2 a ha b (List.mem_append_right _ hb)⟩)
      refine ⟨f1 ++ fp', .cons (tr _ _ _ (fun x m => List.mem_append_left _ m) r) k1, ?_, fun a m => ?_⟩
      · rw [List.nodup_append]
        refine ⟨n4.1, k2, fun a ha b hb z => ?_⟩
        rcases List.mem_append.mp (k3 b hb) with m | m
        · exact n3.2.2 b m a (List.mem_append_left _ ha) z.symm
        · exact n4.2.2 a ha b m z
      · rcases List.mem_append.mp m with m | m
        · exact List.mem_append_right _ (List.mem_append_left _ m)
        · rcases List.mem_append.mp (k3 a m) with m | m
          · exact List.mem_append_left _ m
          · exact List.mem_append_right _ (List.mem_append_right _ m)
/-- a list within a slot's own list, and a value that stands apart -/
theorem DenV.own2 {v : V} {d : DV} (D : DenV K B W O σ H ρ g v d) {i j : Nat} {ds es : List DV} (h : ρ[i]? = some (some (.own ds))) (hj : ds[j]? = some (.own es)) :
    ∃ a a2 vs ws fq2 fp, σ[i]? = some (some (.ref a)) ∧ (a ∉ W.as ∧ a2 ∉ W.as ∧ vs.length = ds.length ∧ a ≠ a2) ∧ H a = some (.lst vs) ∧ vs[j]? = some (.ref a2) ∧ H a2 = some (.lst ws) ∧ Reps K W O H ws es fq2 ∧ Rep K W O H v d fp ∧ (fq2 ++ fp).Nodup ∧
      ∀ ws' es' fq', Reps K W O H ws' es' fq' → fq'.Nodup → (∀ x ∈ fq', x ∈ fq2 ∨ x ∈ fp) → Keep O H O (upd H a2 (.lst ws')) ∧ Den K B W O σ (upd H a2 (.lst ws')) (ρ.set i (some (.own (ds.set j (.own es'))))) g := by
  obtain ⟨fe, fp, re, rv, nn, hb⟩ := D.env
  have n0 := List.nodup_append.mp nn
  obtain ⟨v0, fq0, fr, eσ, r0, rt, n1, hs⟩ := re.take h n0.1
  cases r0 with
  | own ha hw hl rs =>
    rename_i a vs fq
    have n2 := List.nodup_append.mp n1
    have n3 := List.nodup_cons.mp n2.1
    obtain ⟨v2, f2, f3, e2, r2, n4, hs2, back⟩ := Reps.focus rs hj n3.2
    cases r2 with
    | own ha2 hw2 hl2 rs2 =>
      rename_i a2 ws fq2
      have n5 := List.nodup_append.mp n4
      have n6 := List.nodup_cons.mp n5.1
      have inq : ∀ x, x ∈ (a2 :: fq2) ++ f3 → x ∈ fe := fun x m => hs x (List.mem_append_left _ (List.mem_cons_of_mem _ (hs2 x m)))
      have apart : ∀ x ∈ fe, x ∉ fp := fun x m z => n0.2.2 x m x z rfl
      refine ⟨a, a2, vs, ws, fq2, fp, eσ, ⟨hw, hw2, rs.length, fun z => n3.1 (by rw [z]; exact hs2 a2 (List.mem_append_left _ List.mem_cons_self))⟩, hl, e2, hl2, rs2, rv, ?_, fun ws' es' fq' r' nd' sub => ⟨keep_upd ha2, ?_⟩⟩
      · rw [List.nodup_append]
        exact ⟨n6.2, n0.2.1, fun x hx y hy z => apart x (inq x (List.mem_append_left _ (List.mem_cons_of_mem _ hx))) (by rw [z]; exact hy)⟩
      · have a2fe : a2 ∈ fe := inq a2 (List.mem_append_left _ List.mem_cons_self)
        have a2q' : a2 ∉ fq' := fun z => by
          rcases sub a2 z with z | z
          · exact n6.1 z
          · exact apart a2 a2fe z
        have ne : a ≠ a2 := fun z => n3.1 (by rw [z]; exact hs2 a2 (List.mem_append_left _ List.mem_cons_self))
        have a2f3 : a2 ∉ f3 := fun z => n5.2.2 a2 List.mem_cons_self a2 z rfl
        have a2fr : a2 ∉ fr := fun z => n2.2.2 a2 (List.mem_cons_of_mem _ (hs2 a2 (List.mem_append_left _ List.mem_cons_self))) a2 z rfl
        have rin : Rep K W O (upd H a2 (.lst ws')) (.ref a2) (.own es') (a2 :: fq') := .own ha2 hw2 upd_same (r'.upd ha2 a2q')
        obtain ⟨fp', k1, k2, k3⟩ := back O (upd H a2 (.lst ws')) _ _ (fun u e f hf r => r.upd ha2 fun z => a2f3 (hf _ z)) rin (by
          rw [List.nodup_append]
          refine ⟨List.nodup_cons.mpr ⟨a2q', nd'⟩, n5.2.1, fun x hx y hy z => ?_⟩
          rcases List.mem_cons.mp hx with m | m
          · exact a2f3 (by rw [← m, z]; exact hy)
          · rcases sub x m with m | m
            · exact n5.2.2 x (List.mem_cons_of_mem _ m) y hy z
            · exact apart y (inq y (List.mem_append_right _ hy)) (by rw [← z]; exact m))
        have infp : ∀ x ∈ fp', x ∈ fe ∨ x ∈ fp := fun x m => by
          rcases List.mem_append.mp (k3 x m) with m | m
          · rcases List.mem_cons.mp m with m | m
            · rw [m]; exact .inl a2fe
            · rcases sub x m with m | m
              · exact .inl (inq x (List.mem_append_left _ (List.mem_cons_of_mem _ m)))
              · exact .inr m
          · exact .inl (inq x (List.mem_append_right _ m))
        have afe : a ∈ fe := hs a (List.mem_append_left _ List.mem_cons_self)
        have afp' : a ∉ fp' := fun z => by
          rcases List.mem_append.mp (k3 a z) with m | m
          · rcases List.mem_cons.mp m with m | m
            · exact ne m
            · rcases sub a m with m | m
              · exact n3.1 (hs2 a (List.mem_append_left _ (List.mem_cons_of_mem _ m)))
              · exact apart a afe m
          · exact n3.1 (hs2 a (List.mem_append_right _ m))
        have rout : Rep K W O (upd H a2 (.lst ws')) (.ref a) (.own (ds.set j (.own es'))) (a :: fp') := .own ha hw (by rw [upd_ne ne]; exact hl) k1
        have nput : ((a :: fp') ++ fr).Nodup := by
          rw [List.nodup_append]
          refine ⟨List.nodup_cons.mpr ⟨afp', k2⟩, n2.2.1, fun x hx y hy z => ?_⟩
          have yfe : y ∈ fe := hs y (List.mem_append_right _ hy)
          rcases List.mem_cons.mp hx with m | m
          · exact n2.2.2 a List.mem_cons_self y hy (by rw [← m]; exact z)
          · rcases List.mem_append.mp (k3 x m) with m | m
            · rcases List.mem_cons.mp m with m | m
              · exact a2fr (by rw [← m, z]; exact hy)
              · rcases sub x m with m | m
                · exact n2.2.2 x (List.mem_cons_of_mem _ (hs2 x (List.mem_append_left _ (List.mem_cons_of_mem _ m)))) y hy z
                · exact apart y yfe (by rw [← z]; exact m)
            · exact n2.2.2 x (List.mem_cons_of_mem _ (hs2 x (List.mem_append_right _ m))) y hy z
        obtain ⟨fz, z1, z2, z3⟩ := ERep.put rout (rt.upd ha2 a2fr) (lt_of_slot h) eσ nput
        refine { D.toDen0.upd hw2 (hb a2 (List.mem_append_left _ a2fe)) with env := ⟨fz, z1, z2, fun x m => ?_⟩ }
        rcases List.mem_append.mp (z3 x m) with m | m
        · rcases List.mem_cons.mp m with m | m
          · rw [m]; exact hb a (List.mem_append_left _ afe)
          · rcases infp x m with m | m
            · exact hb x (List.mem_append_left _ m)
            · exact hb x (List.mem_append_right _ m)
        · exact hb x (List.mem_append_left _ (hs x (List.mem_append_right _ m)))
end
section
variable {X : Cx} {e a b c o : Expr} {es : List Expr} {f fa fb fc : EF} {h ha' : OF} {fs : AF} {pos p p1 p2 p3 pos' : Pos} {x : Str}
/-- x[i][j] = v, x an own slot of own lists -/
def slotL (ρ : Env) (i : Nat) : Option (List DV) := match ρ[i]? with
  | some (some (.own ds)) => some ds
  | _ => none
theorem slotL_of {ρ : Env} {i : Nat} {ds : List DV} (h : slotL ρ i = some ds) : ρ[i]? = some (some (.own ds)) := by
  unfold slotL at h
  split at h
  · rename_i h1; cases h; exact h1
  · cases h
def DV.ownL? : DV → Option (List DV)
  | .own ds => some ds
  | _ => none
theorem ownL_of {d : DV} {ds : List DV} (h : d.ownL? = some ds) : d = .own ds := by
  cases d with
  | own _ => cases h; rfl
  | _ => cases h
theorem i_of {s : SV} {k : Int} (h : s.i? = some k) : s = .int k := by
  cases s with
  | int _ => cases h; rfl
  | _ => cases h
def gIx2 (i : Nat) (fi fj : EF) : GF := fun d ρ g => (fi ρ g).bind fun p => (fj ρ p.2).bind fun q => (slotL ρ i).bind fun ds => p.1.i?.bind fun k => q.1.i?.bind fun l => (ixN ds.length k).bind fun k' => (ds[k']?.bind DV.ownL?).bind fun es =>
  (ixN es.length l).map fun l' => (ρ.set i (some (.own (ds.set k' (.own (es.set l' d))))), q.2)
theorem DenV.step {K : Fg} {B : Bs} {W : Wd} {O : List Addr} {σ : St} {H H' : Hp} {ρ : Env} {g g' : GS} {v : V} {d : DV} (D : DenV K B W O σ H ρ g v d) (e : Ext W H H') (hg : GOk W B.1 H' g') : DenV K B W O σ H' ρ g' v d := by
  obtain ⟨fe, fp, re, rv, n, hb⟩ := D.env
  have kp := D.toDen0.keep e
  exact { D.toDen0.grow (fp := []) e hg (fun a z => by simp at z) with env := ⟨fe, fp, re.mono kp e fun a m => (re.inO a m).1, rv.mono kp e fun a m => (rv.inO a m).1, n, hb⟩ }
theorem atI_ix {α : Type} {xs : List α} {k : Int} {j : Nat} {y : α} (h : ixN xs.length k = some j) (e : xs[j]? = some y) : atI xs k = some y := by
  unfold atI
  rw [h]
  exact e
theorem dg_ix2 (i : Nat) {x : Str} {pt : Pos} (hi : DE X a fa) (hj : DE X b fb) (hN : X.N[i]? = some x := by rfl) (hv : Vis X.env.scope x := by first | exact Or.inl rfl | exact Or.inr (Or.inl rfl) | exact Or.inr (Or.inr rfl)) (hd : (x == ("__debug__" : Str)) = false := by decide)
    (hcd : (x == ("__classdict__" : Str)) = false := by decide) (hpl : PlainIx a := by exact fun _ _ => rfl)
    (ha : ∀ v, assign (.Subscript (.Subscript (.Name x p1) a p2) b pos) X.env v = (do
      let ov ← holding [v] (eval (.Subscript (.Name x p1) a p2) X.env)
      let iv ← holding [v, ov] (eval b X.env)
      standAt pos
      holding [v, ov, iv] (setItem ov iv v)
      release [v, ov, iv] []) := by intro _; rfl) : DG X (.Subscript (.Subscript (.Name x p1) a p2) b pos) (gIx2 i fa fb) := by
  obtain ⟨t, pt, qt⟩ := hi
  obtain ⟨u, pu, qu⟩ := hj
  refine ⟨_, pg_sub (pe_ix ix_list (pe_var hN hv hd hcd) pt hpl) pu set_list ha, fun B W O σ H ρ g d v ρ' g' D e Q q => ?_⟩
  have D' := D.den
  obtain ⟨⟨y1, g1⟩, e1, e⟩ := Option.bind_eq_some_iff.mp e
  obtain ⟨⟨y2, g2⟩, e2, e⟩ := Option.bind_eq_some_iff.mp e
  obtain ⟨ds, e3, e⟩ := Option.bind_eq_some_iff.mp e
  obtain ⟨k, e4, e⟩ := Option.bind_eq_some_iff.mp e
  obtain ⟨l, e5, e⟩ := Option.bind_eq_some_iff.mp e
  obtain ⟨k', ek, e⟩ := Option.bind_eq_some_iff.mp e
  obtain ⟨es, e6, e⟩ := Option.bind_eq_some_iff.mp e
  obtain ⟨dd, e7, e8⟩ := Option.bind_eq_some_iff.mp e6
  obtain ⟨l', el, e9⟩ := Option.map_eq_some_iff.mp e
  cases e9
  have hi1 := slotL_of e3
  have hy1 := i_of e4
  have hy2 := i_of e5
  have hd2 := ownL_of e8
  dsimp only at hy1 hy2
  subst hy1 hy2 hd2
  have hes := e7
  obtain ⟨a, a2, vs, ws, fq2, fp, eσ, ⟨hw, hw2, hlv, _⟩, hq, hj, hq2, rs, rv, nn, put⟩ := D.own2 hi1 hes
  refine ⟨.ref a, eσ, ?_⟩
  refine qt B W O σ H ρ g _ g1 D' e1 _ fun w1 H1 x1 h1 r1 => ?_
  cases r1
  have D1 := D.step x1 h1
  refine ⟨a, vs, k, .ref a2, rfl, rfl, .inl (.inl (x1 a _ hw hq)), atI_ix (by rw [hlv]; exact ek) hj, ?_⟩
  refine qu B W O σ H1 ρ g1 _ _ D1.den e2 _ fun w2 H2 x2 h2 r2 => ?_
  cases r2
  have D2 := D1.step x2 h2
  obtain ⟨b, b2, vs', ws', fq2', fp', eσ', _, hq', hj', hq2', rs', rv', nn', put'⟩ := D2.own2 hi1 hes
  rw [eσ] at eσ'
  cases eσ'
  rw [x2 a _ hw (x1 a _ hw hq)] at hq'
  cases hq'
  rw [hj] at hj'
  cases hj'
  obtain ⟨fq', k1, k2, k3⟩ := Reps.set rv' l' rs' nn'
  obtain ⟨kp, Dn⟩ := put' _ _ _ k1 k2 k3
  refine ⟨a2, ws', l, l', rfl, rfl, hq2', by rw [rs'.length]; exact el, ?_⟩
  exact q σ O _ (Same.trans (Same.trans (D.toDen0.keep x1) (D1.toDen0.keep x2)) kp) Dn
/-- x[i].append(e), x an own slot of own lists -/
def appD2 (i : Nat) (fi : EF) (h : OF) : SF := fun ρ g => (fi ρ g).bind fun p => (h ρ p.2).bind fun q => (slotL ρ i).bind fun ds => p.1.i?.bind fun k => (ixN ds.length k).bind fun k' => (ds[k']?.bind DV.ownL?).bind fun es =>
  if lenOk es.length = true then some (.nx (ρ.set i (some (.own (ds.set k' (.own (es ++ [q.1])))))) q.2) else none
theorem ds_append2 (i : Nat) {x : Str} (hi : DE X a fa) (he : DO X e h) (hN : X.N[i]? = some x := by rfl) (hv : Vis X.env.scope x := by first | exact Or.inl rfl | exact Or.inr (Or.inl rfl) | exact Or.inr (Or.inr rfl)) (hd : (x == ("__debug__" : Str)) = false := by decide)
    (hcd : (x == ("__classdict__" : Str)) = false := by decide) (hpl : PlainIx a := by exact fun _ _ => rfl)
    (hbase : attributeBase (.Subscript (.Name x p1) a p2) "append" X.env (eval (.Subscript (.Name x p1) a p2) X.env) = eval (.Subscript (.Name x p1) a p2) X.env := by rfl)
    (hfew : ((backTo p3 (starEach [e] X.env)).all (fun x => !x.1) && (backToKw p3 (keywordEach [] X.env)).all (fun x => x.1.isSome)
      && decide ([e].length + ([] : List Keyword).length + (if ([] : List Keyword).isEmpty then 0 else 1) < 30)) = true := by rfl)
    (hline : (pos'.endLine == p3.line) = true := by rfl) (hs : starEach [e] X.env = (false, eval e X.env) :: starEach [] X.env := by rfl) (hplain : (backTo p3 (starEach [] X.env)).any (·.1) = false := by rfl)
    (hs2 : swapsWith (.Call (.Attribute (.Subscript (.Name x p1) a p2) "append" pos') [e] [] p3) none pos.line X.env = pure false := by rfl) :
    DS X (.Expr (.Call (.Attribute (.Subscript (.Name x p1) a p2) "append" pos') [e] [] p3) pos) (appD2 i fa h) := by
  obtain ⟨t, pt, qt⟩ := hi
  obtain ⟨u, pu, qu⟩ := he
  refine ⟨_, ps_expr (pe_bm PySem.F.plainAttrs_list PySem.F.slot_list_append PySem.F.type_list_append mt_append (pe_ix ix_list (pe_var hN hv hd hcd) pt hpl) (pa_cons pu pa_nil hs) hbase hfew hline hs hplain) hs2, fun B W O σ H ρ g r D e E q => ?_⟩
  obtain ⟨⟨y1, g1⟩, e1, e⟩ := Option.bind_eq_some_iff.mp e
  obtain ⟨⟨d, g2⟩, e2, e⟩ := Option.bind_eq_some_iff.mp e
  obtain ⟨ds, e3, e⟩ := Option.bind_eq_some_iff.mp e
  obtain ⟨k, e4, e⟩ := Option.bind_eq_some_iff.mp e
  obtain ⟨k', ek, e⟩ := Option.bind_eq_some_iff.mp e
  obtain ⟨es, e6, e⟩ := Option.bind_eq_some_iff.mp e
  obtain ⟨dd, hes, e8⟩ := Option.bind_eq_some_iff.mp e6
  split at e
  case isFalse => cases e
  rename_i hlen
  cases e
  have hi1 := slotL_of e3
  have hy1 := i_of e4
  have hd2 := ownL_of e8
  dsimp only at hy1
  subst hy1 hd2
  have Dn : DenV X.K B W O σ H ρ g .non (.sh .non) := DenV.withS D .non
  obtain ⟨a, a2, vs, ws, fq2, fp, eσ, ⟨hw, hw2, hlv, _⟩, hq, hj, hq2, rs, rv, nn, put⟩ := Dn.own2 hi1 hes
  refine ⟨.ref a, eσ, ?_⟩
  refine qt B W O σ H ρ g _ g1 D e1 _ fun w1 H1 x1 h1 r1 => ?_
  cases r1
  have D1 := D.step x1 h1
  refine ⟨a, vs, k, .ref a2, rfl, rfl, .inl (.inl (x1 a _ hw hq)), atI_ix (by rw [hlv]; exact ek) hj, ?_⟩
  refine ⟨.inl ⟨rfl, ws, .inl (.inl (x1 a2 _ hw2 hq2))⟩, ?_⟩
  refine qu B W O σ H1 ρ g1 d _ D1 e2 _ fun v H2 fp2 x2 h2 n2 f2 r2 => ?_
  have D2 := D1.withV x2 h2 n2 f2 r2
  obtain ⟨b, b2, vs', ws', fq2', fp', eσ', _, hq', hj', hq2', rs', rv', nn', put'⟩ := D2.own2 hi1 hes
  rw [eσ] at eσ'
  cases eσ'
  rw [x2 a _ hw (x1 a _ hw hq)] at hq'
  cases hq'
  rw [hj] at hj'
  cases hj'
  have rn : Reps X.K W (fp2 ++ O) H2 (ws' ++ [v]) (es ++ [d]) (fq2' ++ (fp' ++ [])) := rs'.append (.cons rv' .nil)
  obtain ⟨kp, Dk⟩ := put' _ _ _ rn (by rw [List.append_nil]; exact nn') (fun y m => by
    rw [List.append_nil] at m
    exact List.mem_append.mp m)
  refine ⟨a2, ws', v, rfl, rfl, hq2', ?_, ?_⟩
  · rw [rs'.length]
    have z : sizeLine = 16777216 := by decide
    have := lenOk_lt hlen
    omega
  · exact q σ _ _ (Same.trans (Same.trans (D.toDen0.keep x1) (D1.toDen0.keeps x2 fun y m => (f2 y m).1)) kp) Dk
end
end DL

/-! DL14: list(reversed(a list)). -/
namespace RT
open PySem PySem.Spec PyProof.Rows L2
section
variable {prog : Program} {w : World} {A : Around} {E : Value → Shared → Prop} {s : Shared}
theorem call_list_rev {it l : Addr} {items : Array Value} {Q : Value → Shared → Prop} (hh : A.handled = none) (hit : s.heap.IsRevIter it l ((items.size : Int) - 1)) (hl : s.heap.IsList l items) (hne : l ≠ it) (hn : items.size ≤ sizeLine)
    (hQ : ∀ (h' : Heap) (tk : Nat) (acc : Array Value) (c : Nat), (∀ b o, b ≠ it → s.heap.get? b = some o → h'.get? b = some o) → h'.get? s.heap.objs.size = some (lstObj acc c) → ItemsOf (fun i v => items[items.size - 1 - i]? = some v) acc items.size →
      Q (.ref s.heap.objs.size) { s with heap := h', toks := tk }) :
    wpAny (model prog w) A (call (.type "list") [.ref it]) Q E s := by
  have W := (Walks.listRev (prog := prog) (w := w) (A := A.in1.in1) hh it l hne items).toS
  obtain ⟨oi, hoi, _⟩ := id hit
  obtain ⟨ol, hol, _⟩ := id hl
  have hSi : s.heap.objs.size ≠ it := Nat.ne_of_gt (Heap.lt_size hoi)
  have hSl : s.heap.objs.size ≠ l := Nat.ne_of_gt (Heap.lt_size hol)
  have hSf : s.heap.objs.size ∉ [it, l] := by simp only [List.mem_cons, List.not_mem_nil, or_false, not_or]; exact ⟨hSi, hSl⟩
  refine callType_codes (Q₁ := fun obj s₁ => obj = .ref s.heap.objs.size ∧ s₁ = { s with heap := s.heap.push { cls := .type "list", data := .seq #[] } }) F.called_list (F.typeCall_list_1 _) F.entry_list_init
    (code_list_new _ ⟨rfl, rfl⟩) fun obj s₁ h₁ => ?_
  obtain ⟨rfl, rfl⟩ := h₁
  have hS : (s.heap.push { cls := .type "list", data := .seq #[] }).get? s.heap.objs.size = some { cls := .type "list", data := .seq #[] } := Heap.get?_push_size _ rfl
  refine ⟨⟨_, hS, rfl⟩, F.args_list_init_2 _ _, ?_⟩
  show wpAny _ A.in1.in1 (do let old ← Builtin.List.listItems (.ref s.heap.objs.size); Builtin.List.listUpdate (.ref s.heap.objs.size) (fun _ => #[]); letGo old.toList.reverse; Builtin.List.listExtendWith (.ref s.heap.objs.size) (.ref it) .none) _ _ _
  refine wpAny_bind ?_
  unfold Builtin.List.listItems
  refine wpAny_bind (wpAny_seqItems hS rfl (wpAny_pure ?_))
  show wpAny _ A.in1.in1 (updateSeq s.heap.objs.size (fun _ => #[]) >>= fun _ => letGo (#[] : Array Value).toList.reverse >>= fun _ => Builtin.List.listExtendWith (.ref s.heap.objs.size) (.ref it) .none) _ _ _
  refine wpAny_bind (wpAny_updateSeq hS rfl ?_)
  have hS2 := Heap.get?_update_self (Obj.mapSeq (fun _ => (#[] : Array Value))) hS rfl
  refine wpAny_bind (wpAny_letGo ?_)
  have up : ∀ b o, s.heap.get? b = some o → ((s.heap.push { cls := .type "list", data := .seq #[] }).update s.heap.objs.size (Obj.mapSeq (fun _ => (#[] : Array Value)))).get? b = some o := fun b o e =>
    (Heap.get?_update_other _ _ (Ne.symm (Nat.ne_of_lt (Heap.lt_size e)))).trans (Heap.get?_push_of_some _ e)
  have hit1 : ((s.heap.push { cls := .type "list", data := .seq #[] }).update s.heap.objs.size (Obj.mapSeq (fun _ => (#[] : Array Value)))).IsRevIter it l ((items.size : Int) - 1) := hit.at fun o e => up _ _ e
  have hl1 : ((s.heap.push { cls := .type "list", data := .seq #[] }).update s.heap.objs.size (Obj.mapSeq (fun _ => (#[] : Array Value)))).IsList l items := hl.at fun o e => up _ _ e
  generalize hH : (s.heap.push { cls := .type "list", data := .seq #[] }).update s.heap.objs.size (Obj.mapSeq (fun _ => (#[] : Array Value))) = HH at *
  have hT : ({ s with heap := HH } : Shared).TypeIs (.ref it) "list_reverseiterator" := Heap.IsRevIter.typeIs (s := { s with heap := HH }) hit1
  have h1 : Builtin.List.listSameRef (.ref s.heap.objs.size) (.ref it) = false := by simp [Builtin.List.listSameRef, hSi]
  show wpAny _ A.in1.in1 (Builtin.List.listExtendWith (.ref s.heap.objs.size) (.ref it) .none) _ _ _
  unfold Builtin.List.listExtendWith
  refine wpAny_bind (wpAny_typeOf hT ?_)
  rw [if_neg (by rw [h1]; decide)]
  refine wpAny_bind (wpAny_pyIter_revIter (s := { s with heap := HH }) hit1 ?_)
  refine wpAny_bind (wpAny_holding ?_)
  unfold Builtin.List.listLengthHint
  refine wpAny_bind (wpAny_specialOf hT nolen_lri ?_)
  show wpAny _ A.in1.in1 (specialOf (Value.ref it) (Str.ofString "__length_hint__") >>= _) _ _ _
  refine wpAny_bind (wpAny_specialOf hT hint_lri ?_)
  generalize hid : ("list_reverseiterator.__length_hint__" : String) = id0
  wp_delta
  rw [show splitId id0 = some ("list_reverseiterator", "__length_hint__") from by subst hid; decide +kernel]
  subst hid
  refine wpAny_bind (wpAny_isInstance (b := true) hT (by rw [isSubtype_type]; kernel_rfl) ?_)
  refine wpAny_pure ?_
  rw [if_neg (by decide)]
  have e0 : ((items.size : Nat) : Int) - 1 - ((0 : Nat) : Int) = (items.size : Int) - 1 := by omega
  refine wpAny_pure ⟨plainId_quiet F.plain_extend_loop _, codeAny_extend_loopS W hn _ hSf _ items.size 0 _ _ _ rfl (Nat.zero_le _) ⟨Nat.zero_le _, by rw [e0]; exact hit1, hl1⟩ hS2 (ItemsOf.nil _) fun s' acc' c' hm hS' hacc => ?_⟩
  refine ⟨rfl, ?_⟩
  rw [Moved.eq_with hm]
  refine hQ s'.heap s'.toks acc' c' (fun b o hb e => hm.heap b o (fun hmem => ?_) (up b o e)) hS' hacc
  rcases List.mem_cons.mp hmem with e' | hmem
  · exact absurd (Heap.lt_size e) (by rw [e']; exact Nat.lt_irrefl _)
  · exact hb (List.mem_singleton.mp hmem)
end
/-- list(reversed(x)), x a list: a new list -/
def tListRev (K : PySem.W.Frag) (te : TE) : TE := fun σ H Q => te σ H fun v H1 => ∃ (a : Addr) (xs : List V), v = .ref a ∧ SqL K H1 a xs ∧ ∀ q, H1 q = none → Q (.ref q) (upd H1 q (.lst xs.reverse))
theorem pe_listRev {X : Cx} {e : Expr} {te : TE} {p p2 pos pos2 : Pos} (hc : X.calm = true) (hg : Gl X "list") (hm : X.mg "list" = none) (hg2 : Gl X "reversed") (hm2 : X.mg "reversed" = none) (he : PE X e te)
    (hs : starEach [e] X.env = (false, eval e X.env) :: starEach [] X.env := by rfl)
    (hs2 : starEach [.Call (.Name "reversed" p2) [e] [] pos2] X.env = (false, eval (.Call (.Name "reversed" p2) [e] [] pos2) X.env) :: starEach [] X.env := by rfl) :
    PE X (.Call (.Name "list" p) [.Call (.Name "reversed" p2) [e] [] pos2] [] pos) (tListRev X.K te) := by
  refine ⟨fun pins s σ H Q I h => ?_⟩
  refine Call_ (ld_blt I hg hm PyProof.Rows.boot_list (PyProof.Rows.callWith_type1 (args_cons (Call_ (ld_blt I hg2 hm2 PyProof.Rows.boot_reversed (PyProof.Rows.callWith_type1 (args_cons (thn (he.run pins s σ H _ I h) fun u s1 ⟨v, H1, I1, r1, q1⟩ => args_nil ?_) hs) hs rfl))) hs2) hs2 rfl))
  obtain ⟨a, xs, ev, hq, q⟩ := q1
  subst ev
  obtain rfl : u = Value.ref a := r1
  obtain ⟨its, rv, p', hz⟩ := I1.list hq
  refine call_reversed_list p'.isList (args_nil ?_)
  have k0 : ∀ b o, s1.heap.get? b = some o → (s1.heap.push (revObj a ((its.toArray.size : Int) - 1))).get? b = some o := fun b o e => Heap.get?_push_of_some _ e
  have I2 : Inv X pins σ H1 { s1 with heap := s1.heap.push (revObj a ((its.toArray.size : Int) - 1)) } := I1.kept (t' := s1.toks) k0
  obtain ⟨f0, f1, f2, f3, f4, f5⟩ := I1.fpOk (H' := H1) (b := s1.heap.objs.size) (Nat.le_refl _) (I1.hok.fresh (Nat.le_refl _))
  have hl := p'.isList
  obtain ⟨ol, hol, _⟩ := id hl
  have hne : a ≠ s1.heap.objs.size := Nat.ne_of_lt (Heap.lt_size hol)
  have hn : its.toArray.size ≤ sizeLine := by rw [List.size_toArray, ← rv.length]; exact hz
  have nS : H1 (s1.heap.push (revObj a ((its.toArray.size : Int) - 1))).objs.size = none := I2.hok.fresh (Nat.le_refl _)
  refine call_list_rev (s := { s1 with heap := s1.heap.push (revObj a ((its.toArray.size : Int) - 1)) }) (I1.ok.hd hc) ⟨_, Heap.get?_push_size _ rfl, rfl, rfl⟩ (hl.push _) hne hn fun h' tk acc c hk hS' hi => ?_
  have k1 : ∀ b o, s1.heap.get? b = some o → h'.get? b = some o := fun b o e => hk b o (Nat.ne_of_lt (Heap.lt_size e)) (k0 b o e)
  have sz : s1.heap.objs.size ≤ (s1.heap.push (revObj a ((its.toArray.size : Int) - 1))).objs.size := by simp [Heap.push]
  exact ⟨.ref _, _, I1.laid (t' := tk) k1 sz (show ObjOk X.prog X.w _ h' _ (.lst xs.reverse) from ⟨by rw [List.length_reverse]; exact hz, acc.toList, c, vals_rev rv hi, by rw [hS']⟩), rfl, q _ nS⟩
end RT
namespace DL
open PySem PySem.Spec L2
section
variable {X : Cx} {e a b c : Expr} {f fa fb fc : EF} {h ha' : OF} {fs : AF} {pos p p2 pos2 : Pos} {x : Str}
def listRevP (h : OF) : OF := fun ρ g => (h ρ g).bind fun p => p.1.lst?.map fun xs => (.own (xs.reverse.map .sh), p.2)
theorem do_listRev (hc : X.calm = true) (hg : Gl X "list") (hm : X.mg "list" = none) (hg2 : Gl X "reversed") (hm2 : X.mg "reversed" = none) (ha : DP X a h)
    (hs : starEach [a] X.env = (false, eval a X.env) :: starEach [] X.env := by rfl)
    (hs2 : starEach [.Call (.Name "reversed" p2) [a] [] pos2] X.env = (false, eval (.Call (.Name "reversed" p2) [a] [] pos2) X.env) :: starEach [] X.env := by rfl) :
    DO X (.Call (.Name "list" p) [.Call (.Name "reversed" p2) [a] [] pos2] [] pos) (listRevP h) := by
  obtain ⟨t, pt, qt⟩ := ha
  refine ⟨_, RT.pe_listRev hc hg hm hg2 hm2 pt hs hs2, fun B W O σ H ρ g d g' D e Q q => ?_⟩
  obtain ⟨⟨d, g1⟩, e1, e2⟩ := Option.bind_eq_some_iff.mp e
  obtain ⟨xs, e3, e4⟩ := Option.map_eq_some_iff.mp e2
  cases e4
  refine qt B W O σ H ρ g d g1 D e1 _ fun v H1 fp x1 h1 r1 => ?_
  obtain ⟨pp, vs, rfl, hs, rs⟩ := r1.list e3
  exact ⟨pp, vs, rfl, .inl (.inl hs), fun l hl => new_own D x1 h1 hl rs.reverse q⟩
/-- for x in reversed(a list) -/
def iRev (h : OF) : IF := fun ρ g => (h ρ g).bind fun p => match p.1 with
  | .sh (.lst xs) => some (xs.reverse, p.2)
  | _ => none
/-! ### == of things that are looked at -/
def b2P (k : SV → SV → Option SV) (fa fb : OF) : EF := fun ρ g => (fa ρ g).bind fun p => (fb ρ p.2).bind fun q => (k p.1.frz q.1.frz).bind fun s => match s with
  | .bl b => some (.bl b, q.2)
  | _ => none
theorem op2p {K : Fg} {r : R2} {k : SV → SV → Option SV} {ha hb : OF} {ta tb : TE} (hr : R2S K r k) (qa : DPs K ta ha) (qb : DPs K tb hb) : DEs K (tOp r ta tb) (b2P k ha hb) := by
  intro B W O σ H ρ g s g' D e Q q
  obtain ⟨⟨a, g1⟩, e1, e⟩ := Option.bind_eq_some_iff.mp e
  obtain ⟨⟨b, g2⟩, e2, e⟩ := Option.bind_eq_some_iff.mp e
  obtain ⟨s1, e3, e4⟩ := Option.bind_eq_some_iff.mp e
  cases s1 with
  | bl bb =>
    cases e4
    refine qa B W O σ H ρ g a g1 D e1 _ fun x H1 fp x1 h1 r1 => ?_
    have D1 := D.step x1 h1
    refine qb B W O σ H1 ρ g1 b _ D1 e2 _ fun y H2 fp2 x2 h2 r2 => ?_
    have D2 := D1.step x2 h2
    have r1' := r1.mono (D1.toDen0.keep x2) x2 (fun a m => (r1.inO a m).1)
    refine hr W [] H2 x y _ _ _ (r1'.freeze (O' := []) (fun b z => by simp at z) (fun _ _ z => by simp at z)) (r2.freeze (O' := []) (fun b z => by simp at z) (fun _ _ z => by simp at z)) e3 (fun a z => by simp at z) _ fun v H3 sm r3 => ?_
    cases r3
    exact q _ H3 ((x1.trans x2).trans (Same.ext sm)) (D2.gen.same sm) .bl
  | _ => cases e4
theorem de_eqP {hb' : OF} (hu : X.A.units + 64 < cLine) (ha : DP X a h) (hb : DP X b hb') : DE X (.Compare a [.Eq] [b] pos) (b2P hEq h hb') := by
  obtain ⟨ta, pa, qa⟩ := ha
  obtain ⟨tb, pb, qb⟩ := hb
  exact ⟨_, pe_cmpR (op_eqX hu) pa pb (nomark _), op2p r2_eq qa qb⟩
theorem de_neP {hb' : OF} (hu : X.A.units + 64 < cLine) (ha : DP X a h) (hb : DP X b hb') : DE X (.Compare a [.NotEq] [b] pos) (b2P hNe h hb') := by
  obtain ⟨ta, pa, qa⟩ := ha
  obtain ⟨tb, pb, qb⟩ := hb
  exact ⟨_, pe_cmpR (op_neX hu) pa pb (nomark _), op2p r2_ne qa qb⟩
theorem dt_eqP {hb' : OF} (hu : X.A.units + 64 < cLine) (ha : DP X a h) (hb : DP X b hb') : DT X (.Compare a [.Eq] [b] pos) (tB1 (b2P hEq h hb')) := by
  obtain ⟨ta, pa, qa⟩ := ha
  obtain ⟨tb, pb, qb⟩ := hb
  refine ⟨_, pt_cmpR (op_eqX hu) pa pb (nomark _), fun B W O σ H ρ g s g' D e Q q => ?_⟩
  obtain ⟨⟨x, g1⟩, e1, e2⟩ := Option.bind_eq_some_iff.mp e
  cases x with
  | bl bb => cases e2; exact op2p r2_eq qa qb B W O σ H ρ g _ _ D e1 _ fun v H1 x1 h1 r1 => by cases r1; exact ⟨_, rfl, q H1 x1 h1⟩
  | _ => cases e2
theorem dt_neP {hb' : OF} (hu : X.A.units + 64 < cLine) (ha : DP X a h) (hb : DP X b hb') : DT X (.Compare a [.NotEq] [b] pos) (tB1 (b2P hNe h hb')) := by
  obtain ⟨ta, pa, qa⟩ := ha
  obtain ⟨tb, pb, qb⟩ := hb
  refine ⟨_, pt_cmpR (op_neX hu) pa pb (nomark _), fun B W O σ H ρ g s g' D e Q q => ?_⟩
  obtain ⟨⟨x, g1⟩, e1, e2⟩ := Option.bind_eq_some_iff.mp e
  cases x with
  | bl bb => cases e2; exact op2p r2_ne qa qb B W O σ H ρ g _ _ D e1 _ fun v H1 x1 h1 r1 => by cases r1; exact ⟨_, rfl, q H1 x1 h1⟩
  | _ => cases e2
end
end DL

/-! DL15: sum, max, min of a list of numbers; sorted(.., reverse=..). -/
namespace DL
open PySem PySem.Spec PyProof.Rows L2
section
variable {X : Cx} {a : Expr} {p pos : Pos} {h : OF}
def intsP (p : DV) : Option (List Int) := p.lst?.bind fun xs => xs.mapM SV.i?
def sumP (h : OF) : EF := fun ρ g => (h ρ g).bind fun p => (intsP p.1).map fun ns => (.int ns.sum, p.2)
theorem de_sum (hc : X.calm = true) (hg : Gl X "sum") (hm : X.mg "sum" = none) (ha : DP X a h) (he : starEach [a] X.env = (false, eval a X.env) :: starEach [] X.env := by rfl) (hpl : (backTo pos (starEach [] X.env)).any (·.1) = false := by rfl) :
    DE X (.Call (.Name "sum" p) [a] [] pos) (sumP h) := by
  obtain ⟨t, pt, qt⟩ := ha
  refine ⟨_, pe_callB (cr_sum hc) hg hm PyProof.Rows.boot_sum (pa_cons pt pa_nil he) (by decide) (by decide) he hpl, fun B W O σ H ρ g s g' D e Q q => ?_⟩
  obtain ⟨⟨d, g1⟩, e1, e2⟩ := Option.bind_eq_some_iff.mp e
  obtain ⟨ns, e3, e4⟩ := Option.map_eq_some_iff.mp e2
  obtain ⟨xs, e5, e6⟩ := Option.bind_eq_some_iff.mp e3
  cases e4
  refine tCons1 (qt B W O σ H ρ g d g1 D e1 _ fun v H1 fp x1 h1 r1 => ?_)
  obtain ⟨pp, vs, rfl, hs, rs⟩ := r1.list e5
  rw [of_mapM_i e6] at rs
  have ev := rs.ints
  subst ev
  exact ⟨pp, ns, rfl, .inl (.inl hs), q _ H1 x1 h1 .int⟩
def maxL : List Int → Option Int
  | [] => none
  | n :: ns => some (ns.foldl max n)
def minL : List Int → Option Int
  | [] => none
  | n :: ns => some (ns.foldl min n)
theorem foldl_max_mem : ∀ (ns : List Int) (n : Int), ns.foldl max n ∈ n :: ns ∧ ∀ y ∈ n :: ns, y ≤ ns.foldl max n
  | [], n => ⟨List.mem_cons_self, fun y hy => by rw [List.mem_singleton.mp hy]; exact Int.le_refl _⟩
  | m :: ns, n => by
    obtain ⟨h1, h2⟩ := foldl_max_mem ns (max n m)
    show ns.foldl max (max n m) ∈ _ ∧ ∀ y ∈ _, y ≤ ns.foldl max (max n m)
    refine ⟨?_, fun y hy => ?_⟩
    · rcases List.mem_cons.mp h1 with e | e
      · rw [e]
        rcases Int.le_total n m with h | h
        · rw [Int.max_eq_right h]; exact List.mem_cons_of_mem _ List.mem_cons_self
        · rw [Int.max_eq_left h]; exact List.mem_cons_self
      · exact List.mem_cons_of_mem _ (List.mem_cons_of_mem _ e)
    · have h3 := h2 (max n m) List.mem_cons_self
      rcases List.mem_cons.mp hy with rfl | hy
      · exact Int.le_trans (Int.le_max_left _ _) h3
      · rcases List.mem_cons.mp hy with rfl | hy
        · exact Int.le_trans (Int.le_max_right _ _) h3
        · exact h2 y (List.mem_cons_of_mem _ hy)
theorem foldl_min_mem : ∀ (ns : List Int) (n : Int), ns.foldl min n ∈ n :: ns ∧ ∀ y ∈ n :: ns, ns.foldl min n ≤ y
  | [], n => ⟨List.mem_cons_self, fun y hy => by rw [List.mem_singleton.mp hy]; exact Int.le_refl _⟩
  | m :: ns, n => by
    obtain ⟨h1, h2⟩ := foldl_min_mem ns (min n m)
    show ns.foldl min (min n m) ∈ _ ∧ ∀ y ∈ _, ns.foldl min (min n m) ≤ y
    refine ⟨?_, fun y hy => ?_⟩
    · rcases List.mem_cons.mp h1 with e | e
      · rw [e]
        rcases Int.le_total n m with h | h
        · rw [Int.min_eq_left h]; exact List.mem_cons_self
        · rw [Int.min_eq_right h]; exact List.mem_cons_of_mem _ List.mem_cons_self
      · exact List.mem_cons_of_mem _ (List.mem_cons_of_mem _ e)
    · have h3 := h2 (min n m) List.mem_cons_self
      rcases List.mem_cons.mp hy with rfl | hy
      · exact Int.le_trans h3 (Int.min_le_left _ _)
      · rcases List.mem_cons.mp hy with rfl | hy
        · exact Int.le_trans h3 (Int.min_le_right _ _)
        · exact h2 y (List.mem_cons_of_mem _ hy)
def maxP (h : OF) : EF := fun ρ g => (h ρ g).bind fun p => ((intsP p.1).bind maxL).map fun n => (.int n, p.2)
def minP (h : OF) : EF := fun ρ g => (h ρ g).bind fun p => ((intsP p.1).bind minL).map fun n => (.int n, p.2)
theorem de_maxL (hc : X.calm = true) (hg : Gl X "max") (hm : X.mg "max" = none) (ha : DP X a h) (he : starEach [a] X.env = (false, eval a X.env) :: starEach [] X.env := by rfl) (hpl : (backTo pos (starEach [] X.env)).any (·.1) = false := by rfl) :
    DE X (.Call (.Name "max" p) [a] [] pos) (maxP h) := by
  obtain ⟨t, pt, qt⟩ := ha
  refine ⟨_, pe_callB (cr_max hc) hg hm PyProof.Rows.boot_max (pa_cons pt pa_nil he) (by decide) (by decide) he hpl, fun B W O σ H ρ g s g' D e Q q => ?_⟩
  obtain ⟨⟨d, g1⟩, e1, e2⟩ := Option.bind_eq_some_iff.mp e
  obtain ⟨m, e3, e4⟩ := Option.map_eq_some_iff.mp e2
  obtain ⟨ns, e7, e8⟩ := Option.bind_eq_some_iff.mp e3
  obtain ⟨xs, e5, e6⟩ := Option.bind_eq_some_iff.mp e7
  cases e4
  refine tCons1 (qt B W O σ H ρ g d g1 D e1 _ fun v H1 fp x1 h1 r1 => ?_)
  obtain ⟨pp, vs, rfl, hs, rs⟩ := r1.list e5
  rw [of_mapM_i e6] at rs
  have ev := rs.ints
  subst ev
  cases ns with
  | nil => cases e8
  | cons n ns =>
    cases e8
    obtain ⟨f1, f2⟩ := foldl_max_mem ns n
    refine ⟨pp, n :: ns, rfl, .inl (.inl hs), Nat.zero_lt_succ _, fun m' hm' hy => ?_⟩
    have : m' = ns.foldl max n := Int.le_antisymm (f2 m' hm') (hy _ f1)
    subst this
    exact q _ H1 x1 h1 .int
theorem de_minL (hc : X.calm = true) (hg : Gl X "min") (hm : X.mg "min" = none) (ha : DP X a h) (he : starEach [a] X.env = (false, eval a X.env) :: starEach [] X.env := by rfl) (hpl : (backTo pos (starEach [] X.env)).any (·.1) = false := by rfl) :
    DE X (.Call (.Name "min" p) [a] [] pos) (minP h) := by
  obtain ⟨t, pt, qt⟩ := ha
  refine ⟨_, pe_callB (cr_min hc) hg hm PyProof.Rows.boot_min (pa_cons pt pa_nil he) (by decide) (by decide) he hpl, fun B W O σ H ρ g s g' D e Q q => ?_⟩
  obtain ⟨⟨d, g1⟩, e1, e2⟩ := Option.bind_eq_some_iff.mp e
  obtain ⟨m, e3, e4⟩ := Option.map_eq_some_iff.mp e2
  obtain ⟨ns, e7, e8⟩ := Option.bind_eq_some_iff.mp e3
  obtain ⟨xs, e5, e6⟩ := Option.bind_eq_some_iff.mp e7
  cases e4
  refine tCons1 (qt B W O σ H ρ g d g1 D e1 _ fun v H1 fp x1 h1 r1 => ?_)
  obtain ⟨pp, vs, rfl, hs, rs⟩ := r1.list e5
  rw [of_mapM_i e6] at rs
  have ev := rs.ints
  subst ev
  cases ns with
  | nil => cases e8
  | cons n ns =>
    cases e8
    obtain ⟨f1, f2⟩ := foldl_min_mem ns n
    refine ⟨pp, n :: ns, rfl, .inl (.inl hs), Nat.zero_lt_succ _, fun m' hm' hy => ?_⟩
    have : m' = ns.foldl min n := Int.le_antisymm (hy _ f1) (f2 m' hm')
    subst this
    exact q _ H1 x1 h1 .int
/-- sorted(xs, reverse=True) -/
def sortRP (h : OF) : OF := fun ρ g => (h ρ g).bind fun p => (intsP p.1).map fun ns => (.own ((((sortI ns).reverse).map SV.int).map .sh), p.2)
theorem do_sortedR {kp cp : Pos} {kn : Nat} (hg : Gl X "sorted") (hm : X.mg "sorted" = none) (ha : DP X a h) (he : starEach [a] X.env = (false, eval a X.env) :: starEach [] X.env := by rfl) (hpl : (backTo pos (starEach [a] X.env)).any (·.1) = false := by rfl)
    (hall : (backToKw pos (keywordEach [⟨some "reverse", .Constant (.bool true) kn cp, kp⟩] X.env)).all (·.1.isSome) = true := by rfl) (hnone : (backToKw pos (keywordEach [⟨some "reverse", .Constant (.bool true) kn cp, kp⟩] X.env)).any (·.1.isNone) = false := by rfl)
    (hks : (backToKw pos (keywordEach [⟨some "reverse", .Constant (.bool true) kn cp, kp⟩] X.env)).filterMap (·.1) = [Str.ofString "reverse"] := by rfl)
    (he2 : backTo pos (starEach [a] X.env) = (false, eval a X.env) :: backTo pos (starEach [] X.env) := by rfl) :
    DO X (.Call (.Name "sorted" p) [a] [⟨some "reverse", .Constant (.bool true) kn cp, kp⟩] pos) (sortRP h) := by
  obtain ⟨t, pt, qt⟩ := ha
  refine ⟨_, pe_callBK (cr_sortedRev (b := true)) hg hm PyProof.Rows.boot_sorted (pa_cons pt pa_nil he) (pk_cons pe_bl pk_nil) (by decide) (by decide) he2 hpl hall hnone hks, fun B W O σ H ρ g s g' D e Q q => ?_⟩
  obtain ⟨⟨d, g1⟩, e1, e2⟩ := Option.bind_eq_some_iff.mp e
  obtain ⟨ns, e3, e4⟩ := Option.map_eq_some_iff.mp e2
  obtain ⟨xs, e5, e6⟩ := Option.bind_eq_some_iff.mp e3
  cases e4
  refine qt B W O σ H ρ g d g1 D e1 _ fun v H1 fp x1 h1 r1 => ?_
  obtain ⟨pp, vs, rfl, hs, rs⟩ := r1.list e5
  rw [of_mapM_i e6] at rs
  have ev := rs.ints
  subst ev
  refine ⟨pp, ns, rfl, rfl, .inl (.inl hs), fun ns' l hp ho hl => ?_⟩
  have ho' : ns'.Pairwise (· ≥ ·) := ho
  have e7 := List.Perm.eq_of_pairwise (fun a b _ _ h1 h2 => Int.le_antisymm h2 h1) ho' (List.pairwise_reverse.mpr (sortI_le ns)) (hp.trans ((sortI_perm ns).symm.trans (List.reverse_perm _).symm))
  subst e7
  exact new_own D x1 h1 hl (RepSs.ofInts _) q
end
end DL

/-! DL16: the last own thing of a list becomes shared (before it is popped); a loop over the own lists of an own list that changes them. -/
namespace DL
open PySem PySem.Spec PyProof.Rows L2
/-! ### freezing the last entry -/
theorem Reps.splitLast {K : Fg} {W : Wd} {O : List Addr} {H : Hp} : ∀ {vs : List V} {ds : List DV} {fp : List Addr} {d : DV}, Reps K W O H vs (ds ++ [d]) fp → ∃ vs0 v f0 f1, vs = vs0 ++ [v] ∧ Reps K W O H vs0 ds f0 ∧ Rep K W O H v d f1 ∧ fp = f0 ++ f1
  | _, [], _, d, .cons r .nil => ⟨[], _, [], _, rfl, .nil, r, by simp⟩
  | _, e :: ds, _, d, .cons (fp := f1) r t => by
    obtain ⟨vs0, v, f0, g1, h1, h2, h3, h4⟩ := Reps.splitLast t
    subst h1 h4
    exact ⟨_ :: vs0, v, f1 ++ f0, g1, rfl, .cons r h2, h3, by rw [List.append_assoc]⟩
def frzL (ds : List DV) : List DV := match ds.getLast? with
  | some d => ds.dropLast ++ [.sh d.frz]
  | none => ds
def frzLE (i : Nat) (ρ : Env) : Env := match ρ[i]? with
  | some (some (.own ds)) => ρ.set i (some (.own (frzL ds)))
  | _ => ρ
theorem Den.frzLast {K : Fg} {B : Bs} {W : Wd} {O : List Addr} {σ : L2.St} {H : Hp} {ρ : Env} {g : GS} (D : Den K B W O σ H ρ g) (i : Nat) : ∃ O', Keep O H O' H ∧ Den K B W O' σ H (frzLE i ρ) g := by
  unfold frzLE
  split
  · rename_i ds h1
    unfold frzL
    cases hg : ds.getLast? with
    | none =>
      refine ⟨O, Keep.refl, ?_⟩
      have e : ρ.set i (some (.own ds)) = ρ := List.ext_getElem? fun k => by
        by_cases hk : k = i
        · subst hk
          have := (List.getElem?_eq_some_iff.mp h1).1
          rw [List.getElem?_set_self this, h1]
        · rw [List.getElem?_set_ne (Ne.symm hk)]
      dsimp only
      rw [e]
      exact D
    | some d =>
      dsimp only
      have eds : ds = ds.dropLast ++ [d] := by
        obtain ⟨ys, e⟩ := List.getLast?_eq_some_iff.mp hg
        rw [e, List.dropLast_concat]
      obtain ⟨a, vs, fq, fr, eσ, ha, hw, hv, rs, rt, n, hb⟩ := D.own h1
      rw [eds] at rs
      obtain ⟨vs0, v, f0, f1, e1, r0, r1, e2⟩ := rs.splitLast
      subst e1 e2
      generalize ds.dropLast = ds0 at *
      have n1 := List.nodup_append.mp n
      have n2 := List.nodup_cons.mp n1.1
      have n3 := List.nodup_append.mp n2.2
      have sub : ∀ b, b ∈ O.filter (fun x => decide (x ∉ f1)) → b ∈ O := fun b m => (List.mem_filter.mp m).1
      have inO : ∀ b, b ∈ O → b ∉ f1 → b ∈ O.filter (fun x => decide (x ∉ f1)) := fun b m n => List.mem_filter.mpr ⟨m, decide_eq_true n⟩
      have nq : ∀ b, b ∈ f1 → b ∉ O.filter (fun x => decide (x ∉ f1)) := fun b m z => of_decide_eq_true (List.mem_filter.mp z).2 m
      have keep : Keep O H (O.filter (fun x => decide (x ∉ f1))) H := msk_le sub
      have r1' : RepS K W (msk (O.filter (fun x => decide (x ∉ f1))) H) v d.frz := r1.freeze sub nq
      have af1 : a ∉ f1 := fun z => n2.1 (List.mem_append_right _ z)
      have t' := rt.mono (O' := O.filter (fun x => decide (x ∉ f1))) keep Ext.refl (fun b m => inO b (rt.inO b m).1 fun z => n1.2.2 b (List.mem_cons_of_mem _ (List.mem_append_right _ z)) b m rfl)
      have r0' := r0.mono (O' := O.filter (fun x => decide (x ∉ f1))) keep Ext.refl (fun b m => inO b (r0.inO b m).1 fun z => n3.2.2 b m b z rfl)
      have rs' : Reps K W (O.filter (fun x => decide (x ∉ f1))) H (vs0 ++ [v]) (ds0 ++ [.sh d.frz]) (f0 ++ ([] ++ [])) := r0'.append (.cons (.sh r1') .nil)
      have ro : Rep K W (O.filter (fun x => decide (x ∉ f1))) H (.ref a) (.own (ds0 ++ [.sh d.frz])) (a :: (f0 ++ ([] ++ []))) := .own (inO a ha af1) hw hv rs'
      have nd : ((a :: (f0 ++ ([] ++ []))) ++ fr).Nodup := by
        rw [List.append_nil, List.append_nil, List.nodup_append]
        refine ⟨List.nodup_cons.mpr ⟨fun z => n2.1 (List.mem_append_left _ z), n3.1⟩, n1.2.1, fun x hx y hy z => ?_⟩
        rcases List.mem_cons.mp hx with m | m
        · exact n1.2.2 x (by rw [m]; exact List.mem_cons_self) y hy z
        · exact n1.2.2 x (List.mem_cons_of_mem _ (List.mem_append_left _ m)) y hy z
      obtain ⟨fe', h2, h3, h4⟩ := ERep.put ro t' (lt_of_slot h1) eσ nd
      refine ⟨_, keep, ?_⟩
      exact { base := D.base, sub := fun b m => inO b (D.sub b m) fun z => D.bdom b m (hb b (List.mem_append_left _ (List.mem_cons_of_mem _ (List.mem_append_right _ z)))), new := fun b m => D.new b (sub b m), dom := fun b m => D.dom b (sub b m), gen := D.gen, bdom := D.bdom
              env := ⟨fe', h2, h3, fun b m => by
                rcases List.mem_append.mp (h4 b m) with m | m
                · rcases List.mem_cons.mp m with m | m
                  · rw [m]; exact hb _ (List.mem_append_left _ List.mem_cons_self)
                  · rw [List.append_nil, List.append_nil] at m
                    exact hb _ (List.mem_append_left _ (List.mem_cons_of_mem _ (List.mem_append_left _ m)))
                · exact hb _ (List.mem_append_right _ m)⟩ }
  · exact ⟨O, Keep.refl, D⟩
/-- the last own thing of slot i's list is shared from here on -/
def frzLD (i : Nat) (s : SF) : SF := fun ρ g => s (frzLE i ρ) g
theorem ds_frzL {X : Cx} {st : Stmt} {s : SF} (i : Nat) (hs : DS X st s) : DS X st (frzLD i s) := by
  obtain ⟨t, pt, qt⟩ := hs
  refine ⟨t, pt, fun B W O σ H ρ g r D e E q => ?_⟩
  obtain ⟨O', k, D'⟩ := D.frzLast i
  exact qt B W O' σ H _ g r D' e E (q.keep k)
/-! ### for v in xs: v.append(e); v.reverse() -/
/-- slot j names the k-th entry, a list, of the list in slot i -/
structure Al (i j k : Nat) (a a2 : Addr) (vs : List V) (σ : L2.St) (H : Hp) : Prop where
  si : σ[i]? = some (some (.ref a))
  ha : H a = some (.lst vs)
  hk : vs[k]? = some (.ref a2)
  sj : σ[j]? = some (some (.ref a2))
abbrev AFl := Nat → Env → GS → Option (Env × GS)
def DAl (K : Fg) (i j : Nat) (t : TS) (f : AFl) : Prop := ∀ k B W O σ H ρ g ρ' g' a a2 vs, Den K B W O σ H ρ g → Al i j k a a2 vs σ H → f k ρ g = some (ρ', g') →
  ∀ D : Ends, (∀ σ' O' H', Keep O H O' H' → Den K B W O' σ' H' ρ' g' → Al i j k a a2 vs σ' H' → D.nx σ' H') → t D σ H
def DA1 (X : Cx) (i j : Nat) (st : Stmt) (f : AFl) : Prop := ∃ t, PS X st t ∧ DAl X.K i j t f
def DA1s (X : Cx) (i j : Nat) (st : List Stmt) (f : AFl) : Prop := ∃ t, PSs X st t ∧ DAl X.K i j t f
section
variable {X : Cx} {st : Stmt} {ss : List Stmt} {i j : Nat} {f f2 : AFl}
theorem dal_one (h : DA1 X i j st f) : DA1s X i j [st] f := by
  obtain ⟨t, pt, qt⟩ := h
  exact ⟨t, pss_one pt, qt⟩
theorem dal_cons (h : DA1 X i j st f) (hr : DA1s X i j ss f2) : DA1s X i j (st :: ss) (fun k ρ g => (f k ρ g).bind fun p => f2 k p.1 p.2) := by
  obtain ⟨t, pt, qt⟩ := h
  obtain ⟨u, pu, qu⟩ := hr
  refine ⟨_, pss_cons pt pu, fun k B W O σ H ρ g ρ' g' a a2 vs D A e E q => ?_⟩
  obtain ⟨⟨ρ1, g1⟩, e1, e2⟩ := Option.bind_eq_some_iff.mp e
  exact qt k B W O σ H ρ g ρ1 g1 a a2 vs D A e1 _ fun σ' O' H' kp D' A' => qu k B W O' σ' H' ρ1 g1 ρ' g' a a2 vs D' A' e2 E fun σ2 O2 H2 k2 D2 A2 => q σ2 O2 H2 (kp.trans k2) D2 A2
def appA (i : Nat) (h : OF) : AFl := fun k ρ g => (slotL ρ i).bind fun ds => (ds[k]?.bind DV.ownL?).bind fun es => (h ρ g).bind fun q =>
  if lenOk es.length = true then some (ρ.set i (some (.own (ds.set k (.own (es ++ [q.1]))))), q.2) else none
def revA (i : Nat) : AFl := fun k ρ g => (slotL ρ i).bind fun ds => (ds[k]?.bind DV.ownL?).bind fun es => (es.mapM DV.sh?).map fun xs => (ρ.set i (some (.own (ds.set k (.own (xs.reverse.map .sh))))), g)
theorem dal_append {h : OF} {e : Expr} {y : Str} {p1 p2 p3 pos : Pos} (he : DO X e h) (hN : X.N[j]? = some y := by rfl) (hv : Vis X.env.scope y := by first | exact Or.inl rfl | exact Or.inr (Or.inl rfl) | exact Or.inr (Or.inr rfl)) (hd : (y == ("__debug__" : Str)) = false := by decide)
    (hcd : (y == ("__classdict__" : Str)) = false := by decide)
    (hbase : attributeBase (.Name y p1) "append" X.env (eval (.Name y p1) X.env) = eval (.Name y p1) X.env := by rfl)
    (hfew : ((backTo p3 (starEach [e] X.env)).all (fun x => !x.1) && (backToKw p3 (keywordEach [] X.env)).all (fun x => x.1.isSome)
      && decide ([e].length + ([] : List Keyword).length + (if ([] : List Keyword).isEmpty then 0 else 1) < 30)) = true := by rfl)
    (hline : (p2.endLine == p3.line) = true := by rfl) (hs : starEach [e] X.env = (false, eval e X.env) :: starEach [] X.env := by rfl) (hplain : (backTo p3 (starEach [] X.env)).any (·.1) = false := by rfl)
    (hs2 : swapsWith (.Call (.Attribute (.Name y p1) "append" p2) [e] [] p3) none pos.line X.env = pure false := by rfl) :
    DA1 X i j (.Expr (.Call (.Attribute (.Name y p1) "append" p2) [e] [] p3) pos) (appA i h) := by
  obtain ⟨u, pu, qu⟩ := he
  refine ⟨_, ps_expr (pe_bm PySem.F.plainAttrs_list PySem.F.slot_list_append PySem.F.type_list_append mt_append (pe_var hN hv hd hcd) (pa_cons pu pa_nil hs) hbase hfew hline hs hplain) hs2, fun k B W O σ H ρ g ρ' g' a a2 vs D A e E q => ?_⟩
  obtain ⟨ds, e3, e⟩ := Option.bind_eq_some_iff.mp e
  obtain ⟨es, e6, e⟩ := Option.bind_eq_some_iff.mp e
  obtain ⟨dd, hes, e8⟩ := Option.bind_eq_some_iff.mp e6
  obtain ⟨⟨d, g2⟩, e2, e⟩ := Option.bind_eq_some_iff.mp e
  split at e
  case isFalse => cases e
  rename_i hlen
  cases e
  have hi1 := slotL_of e3
  have hd2 := ownL_of e8
  subst hd2
  have Dn : DenV X.K B W O σ H ρ g .non (.sh .non) := DenV.withS D .non
  obtain ⟨b, b2, vs', ws, fq2, fp, eσ, ⟨hw, hw2, hlv, hne⟩, hq, hj, hq2, rs, rv, nn, put⟩ := Dn.own2 hi1 hes
  rw [A.si] at eσ
  cases eσ
  rw [A.ha] at hq
  cases hq
  rw [A.hk] at hj
  cases hj
  refine ⟨.ref a2, A.sj, ?_⟩
  refine ⟨.inl ⟨rfl, ws, .inl (.inl hq2)⟩, ?_⟩
  refine qu B W O σ H ρ g d _ D e2 _ fun v H2 fp2 x2 h2 n2 f2 r2 => ?_
  have D2 := D.withV x2 h2 n2 f2 r2
  obtain ⟨c, c2, vs2, ws', fq2', fp', eσ', ⟨_, _, _, hne'⟩, hq', hj', hq2', rs', rv', nn', put'⟩ := D2.own2 hi1 hes
  rw [A.si] at eσ'
  cases eσ'
  rw [x2 a _ hw A.ha] at hq'
  cases hq'
  rw [A.hk] at hj'
  cases hj'
  have rn : Reps X.K W (fp2 ++ O) H2 (ws' ++ [v]) (es ++ [d]) (fq2' ++ (fp' ++ [])) := rs'.append (.cons rv' .nil)
  obtain ⟨kp, Dk⟩ := put' _ _ _ rn (by rw [List.append_nil]; exact nn') (fun y m => by
    rw [List.append_nil] at m
    exact List.mem_append.mp m)
  refine ⟨a2, ws', v, rfl, rfl, hq2', ?_, ?_⟩
  · rw [rs'.length]
    have z : sizeLine = 16777216 := by decide
    have := lenOk_lt hlen
    omega
  · exact q σ _ _ (Same.trans (D.toDen0.keeps x2 fun y m => (f2 y m).1) kp) Dk ⟨A.si, by rw [upd_ne hne]; exact x2 a _ hw A.ha, A.hk, A.sj⟩
theorem dal_reverse {y : Str} {p1 p2 p3 pos : Pos} (hN : X.N[j]? = some y := by rfl) (hv : Vis X.env.scope y := by first | exact Or.inl rfl | exact Or.inr (Or.inl rfl) | exact Or.inr (Or.inr rfl)) (hd : (y == ("__debug__" : Str)) = false := by decide)
    (hcd : (y == ("__classdict__" : Str)) = false := by decide) (hbase : attributeBase (.Name y p1) "reverse" X.env (eval (.Name y p1) X.env) = eval (.Name y p1) X.env := by rfl) (hline : (p2.endLine == p3.line) = true := by rfl)
    (hs2 : swapsWith (.Call (.Attribute (.Name y p1) "reverse" p2) [] [] p3) none pos.line X.env = pure false := by rfl) : DA1 X i j (.Expr (.Call (.Attribute (.Name y p1) "reverse" p2) [] [] p3) pos) (revA i) := by
  refine ⟨_, ps_expr (pe_bm0 PySem.F.plainAttrs_list PySem.F.slot_list_reverse PySem.F.type_list_reverse mt_reverse (pe_var hN hv hd hcd) hbase hline) hs2, fun k B W O σ H ρ g ρ' g' a a2 vs D A e E q => ?_⟩
  obtain ⟨ds, e3, e⟩ := Option.bind_eq_some_iff.mp e
  obtain ⟨es, e6, e⟩ := Option.bind_eq_some_iff.mp e
  obtain ⟨dd, hes, e8⟩ := Option.bind_eq_some_iff.mp e6
  obtain ⟨xs, e2, e4⟩ := Option.map_eq_some_iff.mp e
  cases e4
  have hi1 := slotL_of e3
  have hd2 := ownL_of e8
  subst hd2
  have e' := of_mapM_sh e2
  subst e'
  have Dn : DenV X.K B W O σ H ρ g .non (.sh .non) := DenV.withS D .non
  obtain ⟨b, b2, vs', ws, fq2, fp, eσ, ⟨hw, hw2, hlv, hne⟩, hq, hj, hq2, rs, rv, nn, put⟩ := Dn.own2 hi1 hes
  rw [A.si] at eσ
  cases eσ
  rw [A.ha] at hq
  cases hq
  rw [A.hk] at hj
  cases hj
  obtain ⟨kp, Dk⟩ := put ws.reverse (xs.reverse.map .sh) [] (Reps.ofS (Reps.toS rs).1.reverse) List.nodup_nil (fun y m => by simp at m)
  exact ⟨.ref a2, A.sj, .inl ⟨rfl, ws, .inl (.inl hq2)⟩, a2, ws, rfl, rfl, hq2, q σ _ _ kp Dk ⟨A.si, by rw [upd_ne hne]; exact A.ha, A.hk, A.sj⟩⟩
/-- the loop -/
def loopA (i j : Nat) (f : AFl) : Nat → Nat → Env → GS → Option (Env × GS)
  | 0, _, ρ, g => some (ρ, g)
  | n + 1, k, ρ, g => ((slotL ρ i).bind fun ds => ds[k]?.bind DV.ownL?).bind fun _ => if j < ρ.length then (f k (ρ.set j none) g).bind fun p => loopA i j f n (k + 1) p.1 p.2 else none
def forA (i j : Nat) (f : AFl) : SF := fun ρ g => (slotL ρ i).bind fun ds => if i = j then none else (loopA i j f ds.length 0 ρ g).map fun p => .nx p.1 p.2
theorem ERep.lens {K : Fg} {W : Wd} {O : List Addr} {H : Hp} : ∀ {σ : L2.St} {ρ : Env} {fp : List Addr}, ERep K W O H σ ρ fp → σ.length = ρ.length
  | _, _, _, .nil => rfl
  | _, _, _, .non t => by rw [List.length_cons, List.length_cons, ERep.lens t]
  | _, _, _, .som r t => by rw [List.length_cons, List.length_cons, ERep.lens t]
theorem Den.point {K : Fg} {B : Bs} {W : Wd} {O : List Addr} {σ : L2.St} {H : Hp} {ρ : Env} {g : GS} (D : Den K B W O σ H ρ g) (j : Nat) (v : V) (hj : j < ρ.length) : Den K B W O (σ.set j (some v)) H (ρ.set j none) g := by
  have D2 : Den K B W O (σ.set j (some v)) H (ρ.set j (some (.sh (.raw v)))) g := (DenV.withS D (.raw (v := v))).set j
  obtain ⟨fe, re, n, hh⟩ := D2.env
  obtain ⟨u, fq, fr, e, r, t, n', hs⟩ := re.take (i := j) (List.getElem?_set_self hj) n
  rw [List.set_set] at t
  exact { D2.toDen0 with env := ⟨fr, t, (List.nodup_append.mp n').2.1, fun a m => hh a (hs a (List.mem_append_right _ m))⟩ }
theorem ds_forA {x y : Str} {p1 p2 pos : Pos} (hc : X.calm = true) (hp : PassesOwn (model X.prog X.w) X.A X.env X.xe) (hN : X.N.Nodup) (hj : X.N[j]? = some y) (hjl : Loc X.env.scope y) (hb : DA1s X i j ss f)
    (hi : X.N[i]? = some x := by rfl) (hv : Vis X.env.scope x := by first | exact Or.inl rfl | exact Or.inr (Or.inl rfl) | exact Or.inr (Or.inr rfl)) (hd : (x == ("__debug__" : Str)) = false := by decide) (hcd : (x == ("__classdict__" : Str)) = false := by decide)
    (hs : ∀ z, foldedSetIterable (.Name x p2) X.env z = pure z := by intro _; rfl) (hf : X.fn y = true ∨ X.env.scope.names.lookup y = some .local := by first | exact .inl rfl | exact .inr rfl | assumption) :
    DS X (.For (.Name y p1) (.Name x p2) ss [] pos) (forA i j f) := by
  obtain ⟨tb, pb, qb⟩ := hb
  refine ⟨_, ps_for hp hc (pi_list (pe_var hi hv hd hcd)) (pg_name hN hj hjl hf) pb hs, fun B W O σ H ρ g r D e E q => ?_⟩
  obtain ⟨ds, e1, e2⟩ := Option.bind_eq_some_iff.mp e
  split at e2
  case isTrue => cases e2
  rename_i hij
  obtain ⟨⟨ρf, gf⟩, e3, e4⟩ := Option.map_eq_some_iff.mp e2
  cases e4
  have h1 := slotL_of e1
  obtain ⟨a, vs, fq, fr, eσ, ha, hw, hv', rs, rt, n, hbb⟩ := D.own h1
  have hlen := rs.length
  refine ⟨.ref a, eσ, a, rfl, ⟨vs, .inl (.inl hv')⟩, ?_⟩
  refine ⟨fun k m σ' H' => k ≤ vs.length ∧ m = vs.length - k ∧ ∃ O' ρ' g', Keep O H O' H' ∧ Den X.K B W O' σ' H' ρ' g' ∧ σ'[i]? = some (some (.ref a)) ∧ H' a = some (.lst vs) ∧ loopA i j f (vs.length - k) k ρ' g' = some (ρf, gf),
    ⟨vs.length, Nat.zero_le _, by omega, O, ρ, g, Keep.refl, D, eσ, hv', by rw [Nat.sub_zero, hlen]; exact e3⟩, ?_⟩
  rintro k m σ' H' ⟨hk, rfl, O', ρ', g', kp, D', eσ', hv2, el⟩
  by_cases hlt : k < vs.length
  · obtain ⟨z, hz⟩ : ∃ z, vs.length - k = z + 1 := ⟨vs.length - k - 1, by omega⟩
    rw [hz] at el
    unfold loopA at el
    obtain ⟨es, k1, k2⟩ := Option.bind_eq_some_iff.mp el
    obtain ⟨ds', k3, k4⟩ := Option.bind_eq_some_iff.mp k1
    obtain ⟨dd, hes, k5⟩ := Option.bind_eq_some_iff.mp k4
    split at k2
    case isFalse => cases k2
    rename_i jl1
    obtain ⟨⟨ρ2, g2⟩, k6, k7⟩ := Option.bind_eq_some_iff.mp k2
    have hd2 := ownL_of k5
    subst hd2
    have Dn : DenV X.K B W O' σ' H' ρ' g' .non (.sh .non) := DenV.withS D' .non
    obtain ⟨b, b2, vs', ws, fq2, fp, eσ2, ⟨hw1, hw2, hlv, hne⟩, hq, hj2, hq2, rs2, rv, nn, put⟩ := Dn.own2 (slotL_of k3) hes
    rw [eσ'] at eσ2
    cases eσ2
    rw [hv2] at hq
    cases hq
    refine .inr ⟨⟨vs, _, .inl (.inl hv2), hj2⟩, fun σ'' H'' => ∃ O'' ρ'' g'', Keep O H O'' H'' ∧ Den X.K B W O'' σ'' H'' ρ'' g'' ∧ σ''[i]? = some (some (.ref a)) ∧ H'' a = some (.lst vs) ∧ loopA i j f (vs.length - (k + 1)) (k + 1) ρ'' g'' = some (ρf, gf),
      fun σ'' H'' hN => ⟨vs.length - (k + 1), by omega, hlt, rfl, hN⟩, fun v H2 hy => ?_⟩
    obtain ⟨rfl, hy2⟩ := hy
    have ev := hy2 vs (.inl (.inl hv2))
    rw [hj2] at ev
    cases ev
    have jl : j < ρ'.length ∧ j < σ'.length := by
      obtain ⟨fe, re, _⟩ := D'.env
      exact ⟨jl1, by rw [re.lens]; exact jl1⟩
    have Dp := D'.point j (.ref b2) jl.1
    refine qb k B W O' _ _ _ g' ρ2 g2 a b2 vs Dp ⟨by rw [List.getElem?_set_ne (Ne.symm hij)]; exact eσ', hv2, hj2, List.getElem?_set_self jl.2⟩ k6 _ fun σ3 O3 H3 kp3 D3 A3 => ?_
    exact ⟨O3, ρ2, g2, kp.trans kp3, D3, A3.si, A3.ha, by rw [show vs.length - (k + 1) = z by omega]; exact k7⟩
  · have hke : vs.length - k = 0 := by omega
    rw [hke] at el
    cases el
    exact .inl ⟨⟨vs, .inl (.inl hv2), by omega⟩, q σ' O' H' kp D'⟩
end
end DL

/-! DL17: isinstance(x, (A, B)); list(range(..)). -/
namespace DL
open PySem PySem.Spec PyProof.Rows L2
section
variable {X : Cx} {a : Expr} {p pos : Pos} {h : OF}
def isi2P (A B : String) (f : OF) : EF := fun ρ g => (f ρ g).bind fun p => p.1.ty?.bind fun t => (kitB t A).bind fun b1 => (kitB t B).map fun b2 => (.bl (b1 || b2), p.2)
theorem de_isi2 {A B : String} {xa xb : Str} {p2 p3 p4 : Pos} {kk : Nat} (hg : Gl X "isinstance") (hm : X.mg "isinstance" = none) (ha : DP X a h) (hgA : Gl X xa) (hmA : X.mg xa = none) (hvA : bootBuiltins xa = some (.type A)) (hgB : Gl X xb) (hmB : X.mg xb = none) (hvB : bootBuiltins xb = some (.type B))
    (hnA : xa ≠ "__name__" := by decide) (hdA : (xa == ("__debug__" : Str)) = false := by decide) (hnB : xb ≠ "__name__" := by decide) (hdB : (xb == ("__debug__" : Str)) = false := by decide)
    (he : starEach [a, .Tuple [.Name xa p2, .Name xb p3] kk p4] X.env = (false, eval a X.env) :: starEach [.Tuple [.Name xa p2, .Name xb p3] kk p4] X.env := by rfl)
    (he2 : starEach [.Tuple [.Name xa p2, .Name xb p3] kk p4] X.env = (false, eval (.Tuple [.Name xa p2, .Name xb p3] kk p4) X.env) :: starEach [] X.env := by rfl)
    (he3 : starEach [.Name xa p2, .Name xb p3] X.env = (false, eval (.Name xa p2) X.env) :: starEach [.Name xb p3] X.env := by rfl) (he4 : starEach [.Name xb p3] X.env = (false, eval (.Name xb p3) X.env) :: starEach [] X.env := by rfl)
    (hpl : (backTo pos (starEach [.Tuple [.Name xa p2, .Name xb p3] kk p4] X.env)).any (·.1) = false := by rfl) :
    DE X (.Call (.Name "isinstance" p) [a, .Tuple [.Name xa p2, .Name xb p3] kk p4] [] pos) (isi2P A B h) := by
  obtain ⟨t, pt, qt⟩ := ha
  refine ⟨_, pe_callB call_isiT hg hm PyProof.Rows.boot_isinstance (pa_cons pt (pa_cons (pe_tup (pa_cons (pe_bltn (v := .ty A) hgA hmA hvA rfl hnA hdA) (pa_cons (pe_bltn (v := .ty B) hgB hmB hvB rfl hnB hdB) pa_nil he4) he3)) pa_nil he2) he) (by decide) (by decide) he hpl, fun B' W O σ H ρ g s g' D e Q q => ?_⟩
  obtain ⟨⟨d, g1⟩, e1, e2⟩ := Option.bind_eq_some_iff.mp e
  obtain ⟨tt, e3, e4⟩ := Option.bind_eq_some_iff.mp e2
  obtain ⟨b1, e5, e6⟩ := Option.bind_eq_some_iff.mp e4
  obtain ⟨b2, e7, e8⟩ := Option.map_eq_some_iff.mp e6
  cases e8
  refine qt B' W O σ H ρ g d g1 D e1 _ fun v H1 fp x1 h1 r1 => ?_
  refine ⟨show (2 : Nat) ≤ sizeLine by decide, fun tp hp => ?_⟩
  have hx := r1.ty e3
  have hx' : TyX X.K (upd H1 tp (.tup [.ty A, .ty B])) v (.type tt) := by
    have D1 := D.step x1 h1
    exact (r1.mono (O' := O) (msk_same (keep_new hp)) (Same.ext (keep_new hp)) (fun b m => (r1.inO b m).1)).ty e3
  refine ⟨v, tp, [.ty A, .ty B], _, [.type A, .type B], b1 || b2, rfl, upd_same, .cons (.ty A) (.cons (.ty B) .nil), hx', ?_, q _ _ (x1.trans (Same.ext (keep_new hp))) (h1.same (keep_new hp)) .bl⟩
  refine kitAny_cons (kit_ty e5) (fun hb => ?_) fun hb => by rw [hb]; rfl
  subst hb
  refine kitAny_cons (kit_ty e7) (fun hb => ?_) fun hb => by rw [hb]; rfl
  subst hb
  rfl
/-! ### list(range(..)) -/
theorem rgV_ints (a b : Int) : rgV a b = ((List.range (b - a).toNat).map fun (i : Nat) => a + (i : Int)).map V.int := by
  unfold rgV
  rw [List.map_map]
  rfl
def rgOk2 (a b : Int) : Bool := decide (0 ≤ a ∧ a ≤ 16777216 ∧ 0 ≤ b ∧ b ≤ 16777216)
theorem rgOk2_ok {a b : Int} (h : rgOk2 a b = true) : RgOk a b := by
  have z := of_decide_eq_true h
  exact RgOk.of_le z.1 z.2.2.2 z.2.1 z.2.2.1
theorem rng_svs (a : Int) (n : Nat) : rngL a n = ((List.range n).map fun (i : Nat) => a + (i : Int)).map SV.int := by
  unfold rngL
  rw [List.map_map]
  rfl
/-- list(range(n)), list(range(a, b)) -/
def lRg1 (f : EF) : OF := fun ρ g => (f ρ g).bind fun p => match p.1 with
  | .int n => if rgOk2 0 n = true then some (.own ((rngL 0 n.toNat).map .sh), p.2) else none
  | _ => none
def lRg2 (fa fb : EF) : OF := fun ρ g => (fa ρ g).bind fun p => (fb ρ p.2).bind fun q => match p.1, q.1 with
  | .int a, .int b => if rgOk2 a b = true then some (.own ((rngL a (b - a).toNat).map .sh), q.2) else none
  | _, _ => none
theorem do_lRg1 {f : EF} {p2 pos2 : Pos} (hc : X.calm = true) (hg : Gl X "list") (hm : X.mg "list" = none) (hg2 : Gl X "range") (hm2 : X.mg "range" = none) (ha : DE X a f)
    (na : starEach [a] X.env = (false, eval a X.env) :: starEach [] X.env := by rfl) (na2 : starEach [.Call (.Name "range" p2) [a] [] pos2] X.env = (false, eval (.Call (.Name "range" p2) [a] [] pos2) X.env) :: starEach [] X.env := by rfl) :
    DO X (.Call (.Name "list" p) [.Call (.Name "range" p2) [a] [] pos2] [] pos) (lRg1 f) := by
  obtain ⟨t, pt, qt⟩ := ha
  refine ⟨_, pe_listRg hc hg hm (prg_1 hg2 hm2 pt na) na2, fun B W O σ H ρ g s g' D e Q q => ?_⟩
  obtain ⟨⟨v, g1⟩, e1, e2⟩ := Option.bind_eq_some_iff.mp e
  cases v with
  | int n =>
    by_cases hok : rgOk2 0 n = true
    case neg => simp only [hok] at e2; cases e2
    dsimp only at e2
    rw [if_pos hok] at e2
    cases e2
    refine qt B W O σ H ρ g _ _ D e1 _ fun w H1 x1 h1 r1 => ?_
    cases r1
    refine ⟨n, rfl, rgOk2_ok hok, fun l hl => ?_⟩
    rw [rgV_ints, Int.sub_zero]
    rw [rng_svs] at q
    exact new_own D x1 h1 hl (RepSs.ofInts _) q
  | _ => cases e2
end
end DL

/-! DL30: tuples that hold own lists; own lists lent to an expression whose answer holds no old list. -/
namespace DL
open PySem PySem.Spec PyProof.Rows L2
/-! ### a tuple with own parts -/
def tupO (f : AOF) : OF := fun ρ g => (f ρ g).bind fun p => if p.1.length ≤ 1000 then some (.tup p.1, p.2) else none
section
variable {X : Cx} {e a b c : Expr} {es : List Expr} {f fa fb : EF} {h : OF} {os : AOF} {pos : Pos}
theorem do_tupO {k : Nat} (ha : DAO X es os) : DO X (.Tuple es k pos) (tupO os) := by
  obtain ⟨t, pt, qt⟩ := ha
  refine ⟨_, pe_tup pt, fun B W O σ H ρ g s g' D e Q q => ?_⟩
  obtain ⟨⟨ds, g1⟩, e1, e2⟩ := Option.bind_eq_some_iff.mp e
  split at e2
  case isFalse => cases e2
  rename_i hl
  cases e2
  refine qt B W O σ H ρ g ds g1 D e1 _ fun vs H1 fp x1 h1 n1 f1 r1 => ⟨by rw [r1.length]; exact le1000 hl, fun T hT => ?_⟩
  have D1 := D.grow (fp := fp) x1 h1 f1
  have kT : Same H1 (upd H1 T (.tup vs)) := keep_new hT
  have nT : T ∉ fp ++ O := fun z => D1.dom T z hT
  refine q _ _ fp (x1.trans (Same.ext kT)) (h1.same kT) n1 (fun y m => ⟨(f1 y m).1, ?_⟩) (.tup (.inl (.inl (msk_get nT upd_same))) (r1.mono (msk_same kT) (Same.ext kT) fun y m => (r1.inO y m).1))
  rw [upd_ne fun z => (f1 y m).2 (by rw [z]; exact hT)]
  exact (f1 y m).2
/-! ### a, b = a tuple that may have own parts -/
def setAll : List Nat → List DV → Env → Env
  | i :: is, d :: ds, ρ => setAll is ds (ρ.set i (some d))
  | _, _, ρ => ρ
def gTo (is : List Nat) : GF := fun d ρ g => match d with
  | .sh (.tup xs) => if xs.length = is.length then some (setAll is (xs.map .sh) ρ, g) else none
  | .tup ds => if ds.length = is.length then some (setAll is ds ρ, g) else none
  | _ => none
def DenVs (K : Fg) (B : Bs) (W : Wd) (O : List Addr) (σ : L2.St) (H : Hp) (ρ : Env) (g : GS) (vs : List V) (ds : List DV) : Prop := Den0 B W O H g ∧ ∃ fe fp, ERep K W O H σ ρ fe ∧ Reps K W O H vs ds fp ∧ (fe ++ fp).Nodup ∧ ∀ a ∈ fe ++ fp, B.2 a = none
def DGo (X : Cx) (ts : List Expr) (is : List Nat) : Prop := ∃ t, PGs X ts t ∧ ∀ B W O σ H ρ g vs ds, DenVs X.K B W O σ H ρ g vs ds → ds.length = is.length →
  ∀ Q : L2.St → Hp → Prop, (∀ σ', Den X.K B W O σ' H (setAll is ds ρ) g → Q σ' H) → t vs σ H Q
theorem dgo_nil : DGo X [] [] := ⟨_, pgs_nil, fun B W O σ H ρ g vs ds D hl Q q => by
  obtain ⟨D0, fe, fp, re, r, n, hb⟩ := D
  match ds, r, hl with
  | [], .nil, _ => exact ⟨rfl, q σ { D0 with env := ⟨fe, re, (List.nodup_append.mp n).1, fun a m => hb a (List.mem_append_left _ m)⟩ }⟩⟩
theorem dgo_cons {i : Nat} {is : List Nat} {x : Str} {p1 : Pos} (hN : X.N.Nodup) (hi : X.N[i]? = some x) (hx : Loc X.env.scope x) (h2 : DGo X es is) (hs : (assignEach (.Name x p1 :: es) X.env).map (·.2) = assign (.Name x p1) X.env :: (assignEach es X.env).map (·.2) := by rfl)
    (hf : X.fn x = true ∨ X.env.scope.names.lookup x = some .local := by first | exact .inl rfl | exact .inr rfl | assumption) : DGo X (.Name x p1 :: es) (i :: is) := by
  obtain ⟨u, pu, qu⟩ := h2
  refine ⟨_, pgs_cons (pg_name hN hi hx hf) pu hs, fun B W O σ H ρ g vs ds D hl Q q => ?_⟩
  obtain ⟨D0, fe, fp, re, r, n, hb⟩ := D
  cases r with
  | nil => cases hl
  | cons r1 rr =>
    rename_i v vs d ds f1 f2
    refine ⟨v, vs, rfl, ?_⟩
    have n1 := List.nodup_append.mp n
    have n2 := List.nodup_append.mp n1.2.1
    obtain ⟨fq, k1, k2, k3⟩ := ERep.set r1 i re (by
      rw [List.nodup_append]
      exact ⟨n1.1, n2.1, fun a ha b hb' => n1.2.2 a ha b (List.mem_append_left _ hb')⟩)
    refine qu B W O _ H _ g vs ds ⟨D0, fq, f2, k1, rr, ?_, fun y m => ?_⟩ (by simpa using hl) Q q
    · rw [List.nodup_append]
      refine ⟨k2, n2.2.1, fun a ha b hb' z => ?_⟩
      rcases k3 a ha with m | m
      · exact n1.2.2 a m b (List.mem_append_right _ hb') z
      · exact n2.2.2 a m b hb' z
    · rcases List.mem_append.mp m with m | m
      · rcases k3 y m with m | m
        · exact hb y (List.mem_append_left _ m)
        · exact hb y (List.mem_append_right _ (List.mem_append_left _ m))
      · exact hb y (List.mem_append_right _ (List.mem_append_right _ m))
theorem dg_tupO {k : Nat} {is : List Nat} (hc : X.calm = true) (h : DGo X es is) (hn : (assignEach es X.env).length = is.length := by rfl) (hst : (assignEach es X.env).findIdx? (·.1) = none := by rfl) : DG X (.Tuple es k pos) (gTo is) := by
  obtain ⟨t, pt, qt⟩ := h
  refine ⟨_, pg_tup hc pt hn hst, fun B W O σ H ρ g d v ρ' g' D e Q q => ?_⟩
  obtain ⟨fe, fp, re, r, nn, hb⟩ := D.env
  unfold gTo at e
  split at e
  · rename_i xs
    split at e
    case isFalse => cases e
    rename_i hl
    cases e
    cases r with
    | sh r =>
      cases r with
      | tup hq rs =>
        refine ⟨_, _, rfl, sqT_mono msk_sub hq, by rw [rs.length]; exact hl, ?_⟩
        exact qt B W O σ H ρ g _ _ ⟨D.toDen0, fe, [], re, Reps.ofS rs, by simpa using nn, by simpa using hb⟩ (by rw [List.length_map]; exact hl) Q fun σ' D' => q σ' O H Keep.refl D'
  · rename_i ds
    split at e
    case isFalse => cases e
    rename_i hl
    cases e
    cases r with
    | tup hq rs =>
      refine ⟨_, _, rfl, sqT_mono msk_sub hq, by rw [rs.length]; exact hl, ?_⟩
      exact qt B W O σ H ρ g _ _ ⟨D.toDen0, fe, fp, re, rs, nn, hb⟩ hl Q fun σ' D' => q σ' O H Keep.refl D'
  · cases e
/-! ### lending a slot to an expression -/
theorem Den.lend {K : Fg} {B : Bs} {W : Wd} {O : List Addr} {σ : L2.St} {H : Hp} {ρ : Env} {g : GS} (D : Den K B W O σ H ρ g) (i : Nat) : ∃ (O' fq : List Addr), (∀ b, b ∈ O → b ∈ O' ∨ b ∈ fq) ∧ (∀ b, b ∈ O' → b ∈ O) ∧ (∀ a ∈ fq, a ∉ W.as ∧ ∃ o, H a = some o ∧ IsO o) ∧ Den K B W O' σ H (frzEnv i ρ) g := by
  unfold frzEnv
  split
  · rename_i d h1
    obtain ⟨fe, re, n, hh⟩ := D.env
    obtain ⟨v, fq, fr, e1, r, t, n', hs⟩ := re.take h1 n
    have n1 := List.nodup_append.mp n'
    have sub : ∀ b, b ∈ O.filter (fun x => decide (x ∉ fq)) → b ∈ O := fun b m => (List.mem_filter.mp m).1
    have inO : ∀ b, b ∈ O → b ∉ fq → b ∈ O.filter (fun x => decide (x ∉ fq)) := fun b m n => List.mem_filter.mpr ⟨m, decide_eq_true n⟩
    have nq : ∀ b, b ∈ fq → b ∉ O.filter (fun x => decide (x ∉ fq)) := fun b m z => of_decide_eq_true (List.mem_filter.mp z).2 m
    have keep : Keep O H (O.filter (fun x => decide (x ∉ fq))) H := msk_le sub
    have r' : RepS K W (msk (O.filter (fun x => decide (x ∉ fq))) H) v d.frz := r.freeze sub nq
    have t' := t.mono (O' := O.filter (fun x => decide (x ∉ fq))) keep Ext.refl (fun a m => inO a (t.inO a m).1 fun z => n1.2.2 a z a m rfl)
    obtain ⟨fe', h2, h3, h4⟩ := ERep.put (fq := []) (Rep.sh r') t' (lt_of_slot h1) e1 (by simpa using n1.2.1)
    refine ⟨_, fq, fun b m => ?_, sub, fun a m => ⟨(r.inO a m).2.1, r.isL a m⟩, ?_⟩
    · by_cases hb : b ∈ fq
      · exact .inr hb
      · exact .inl (inO b m hb)
    · exact { base := D.base, sub := fun a m => inO a (D.sub a m) fun z => D.bdom a m (hh a (hs a (List.mem_append_left _ z))), new := fun a m => D.new a (sub a m), dom := fun a m => D.dom a (sub a m), gen := D.gen, bdom := D.bdom
              env := ⟨fe', h2, h3, fun a m => hh a (hs a (List.mem_append_right _ (by simpa using h4 a m)))⟩ }
  · exact ⟨O, [], fun b m => .inl m, fun b m => m, fun a m => by simp at m, D⟩
def lendS (i : Nat) (f : EF) : EF := fun ρ g => (f (frzEnv i ρ) g).bind fun r => if r.1.noL = true then some r else none
def lendO (i : Nat) (f : OF) : OF := fun ρ g => (f (frzEnv i ρ) g).bind fun r => if r.1.noL = true then some r else none
def lendT (i : Nat) (f : TF) : TF := fun ρ g => f (frzEnv i ρ) g
theorem de_lend (i : Nat) (h : DE X e f) : DE X e (lendS i f) := by
  obtain ⟨t, pt, qt⟩ := h
  refine ⟨t, pt, fun B W O σ H ρ g s g' D e Q q => ?_⟩
  obtain ⟨⟨s1, g1⟩, e1, e2⟩ := Option.bind_eq_some_iff.mp e
  split at e2
  case isFalse => cases e2
  rename_i hn
  cases e2
  obtain ⟨O', fq, h1, h2, h3, D'⟩ := D.lend i
  refine qt B W O' σ H _ g _ _ D' e1 Q fun v H' x1 hg r => ?_
  exact q v H' x1 hg (r.thaw h1 (fun a m => by obtain ⟨k1, o, k2, k3⟩ := h3 a m; exact ⟨o, x1 a o k1 k2, k3⟩) hn)
theorem do_lend (i : Nat) (hh : DO X e h) : DO X e (lendO i h) := by
  obtain ⟨t, pt, qt⟩ := hh
  refine ⟨t, pt, fun B W O σ H ρ g s g' D e Q q => ?_⟩
  obtain ⟨⟨s1, g1⟩, e1, e2⟩ := Option.bind_eq_some_iff.mp e
  split at e2
  case isFalse => cases e2
  rename_i hn
  cases e2
  obtain ⟨O', fq, h1, h2, h3, D'⟩ := D.lend i
  refine qt B W O' σ H _ g _ _ D' e1 Q fun v H' fp x1 hg nd hf r => ?_
  refine q v H' fp x1 hg nd hf (r.thaw (fp := fq) (fun b m => ?_) (fun b m => ?_) (fun a m => by obtain ⟨k1, o, k2, k3⟩ := h3 a m; exact ⟨o, x1 a o k1 k2, k3⟩) hn)
  · rcases List.mem_append.mp m with m | m
    · exact .inl (List.mem_append_left _ m)
    · exact (h1 b m).imp_left (List.mem_append_right _)
  · rcases List.mem_append.mp m with m | m
    · exact List.mem_append_left _ m
    · exact List.mem_append_right _ (h2 b m)
theorem dt_lend (i : Nat) {c1 : TF} (h : DT X e c1) : DT X e (lendT i c1) := by
  obtain ⟨t, pt, qt⟩ := h
  refine ⟨t, pt, fun B W O σ H ρ g s g' D e Q q => ?_⟩
  obtain ⟨O', fq, h1, h2, h3, D'⟩ := D.lend i
  exact qt B W O' σ H _ g _ _ D' e Q q
theorem DOs.lend {K : Fg} {t : TE} {f : OF} (h : DOs K t f) (i : Nat) : DOs K t (lendO i f) := by
  intro B W O σ H ρ g s g' D e Q q
  obtain ⟨⟨s1, g1⟩, e1, e2⟩ := Option.bind_eq_some_iff.mp e
  split at e2
  case isFalse => cases e2
  rename_i hn
  cases e2
  obtain ⟨O', fq, h1, h2, h3, D'⟩ := D.lend i
  refine h B W O' σ H _ g _ _ D' e1 Q fun v H' fp x1 hg nd hf r => ?_
  refine q v H' fp x1 hg nd hf (r.thaw (fp := fq) (fun b m => ?_) (fun b m => ?_) (fun a m => by obtain ⟨k1, o, k2, k3⟩ := h3 a m; exact ⟨o, x1 a o k1 k2, k3⟩) hn)
  · rcases List.mem_append.mp m with m | m
    · exact .inl (List.mem_append_left _ m)
    · exact (h1 b m).imp_left (List.mem_append_right _)
  · rcases List.mem_append.mp m with m | m
    · exact List.mem_append_left _ m
    · exact List.mem_append_right _ (h2 b m)
theorem ds_setLcG {tg iter elt : Expr} {ifs : List Expr} {scope : Scope} {own : List (Str × Nat)} {spos py : Pos} {fi : IF} {wf : WF} {ct : TF} {g : TG} {f1 F : OF} {i : Nat} {y : Str} (hF : ∀ t, DOs X.K t (compD fi wf ct f1 (own.map (·.2))) → DOs X.K t F) (hc : X.calm = true) (hN : X.N.Nodup) (hy : X.N[i]? = some y) (hyl : X.env.scope.names.lookup y = some .local)
    (hsw : swapsWith (.ListComp elt [⟨tg, iter, ifs, 0⟩] scope pos) (some (.Name y py)) spos.line X.env = pure true) (hi : DI X tg iter fi) (ok : BlkOk X.N X.env.scope scope own) (hg : Blk X scope fun Y => PG Y tg g) (hw : DGw X.K g (own.map (·.2)) wf) (ht : Blk X scope fun Y => DTs1 Y ifs ct) (he : Blk X scope fun Y => DO Y elt f1)
    (hs : ∀ x, foldedSetIterable iter X.env x = pure x := by intro _; rfl) : DS X (.Assign [.Name y py] (.ListComp elt [⟨tg, iter, ifs, 0⟩] scope pos) spos) (setD i F) := by
  obtain ⟨wi, pi, qi⟩ := hi
  refine ⟨_, ps_setLc (tt := tTf X.K ct) (te := tOf X.K f1) hc hN hy hyl hsw pi ok hg ht (fun s H C cl fp => (he s H C cl fp).pe) hs, fun B W O σ H ρ g r D e E q => ?_⟩
  obtain ⟨⟨d, g1⟩, e1, e2⟩ := Option.map_eq_some_iff.mp e
  cases e2
  refine hF _ (lc_s qi hw tTf_s tOf_s) B W O σ H ρ g d g1 D e1 _ fun v H1 fp x1 h1 n1 f1 r1 => ?_
  have D2 := D.withV x1 h1 n1 f1 r1
  exact q _ _ H1 (D.toDen0.keeps x1 fun a z => (f1 a z).1) (D2.set i)
def seqA (a b : AFl) : AFl := fun k ρ g => (a k ρ g).bind fun p => b k p.1 p.2
theorem dal_seq {st : Stmt} {ss : List Stmt} {i j : Nat} {a b : AFl} (h : DA1 X i j st a) (hr : DA1s X i j ss b) : DA1s X i j (st :: ss) (seqA a b) := dal_cons h hr
end
end DL

namespace DL
open L2
class CA where
  Book : PySem.Addr
variable [CA]
def ns_Book : List PySem.Str := ["buyers", "size", "counts", "row_count", "_weights"]
def c_MOST_BUYERS : SV := .int 6
def c_MOST_ROWS : SV := .int 144
def c_MOST_WORTHS : SV := .int 6
def c_NUMBER_END : SV := .int 10000000000000000000000000000000000000000
def c_ZERO : SV := .tup [.int 0, .int 1]
abbrev L_check_pairs_1 : SF := seqD (ifD (tOr1 (tB1 (b2 hLe (vS 3) (vS 2))) (tB1 (b2 hGe (vS 3) (kS c_NUMBER_END)))) (noD) (skipD))
  (seqD (ifD (tOr1 (tB1 (b2 hLt (vS 4) (kS (.int 1)))) (tB1 (b2 hGe (vS 4) (kS c_NUMBER_END)))) (noD) (skipD))
  (setD 2 (oS (vS 3))))
def B_check_pairs : SF := seqD (ifD (tB1 (b2 hEq (lenP (vP 1)) (kS (.int 0)))) (noD) (skipD))
  (seqD (ifD (tB1 (b2 hGt (lenP (vP 1)) (kS c_MOST_WORTHS))) (noD) (skipD))
  (seqD (setD 2 (oS (u1 hNeg (kS (.int 1)))))
  (forD (iSeq (vS 1)) (gT 2 (gLC (gN 3) (gLC (gN 4) (gLN))))
  (L_check_pairs_1))))
def F_check_pairs : FF := fnF 2 5 B_check_pairs
def B_fixed_pairs : SF := retD (oS (tupleP (oS (fz (compD (iSeq (vS 0)) (wT 2 (wLC (wN 1) (wLC (wN 2) (wLN)))) (yesT) (oS (tupF (aC (vS 1) (aC (vS 2) (aN))))) [1, 2])))))
def F_fixed_pairs : FF := fnF 1 3 B_fixed_pairs
abbrev L_weight_of_1 : SF := setD 1 (oS (b2 hAdd (vS 1) (b2 hIx (vS 2) (kS (.int 1)))))
def B_weight_of : SF := seqD (setD 1 (oS (kS (.int 0))))
  (seqD (forD (iSeq (vS 0)) (gN 2)
  (L_weight_of_1))
  (retD (oS (vS 1))))
def F_weight_of : FF := fnF 1 3 B_weight_of
abbrev L_Book_init_1 : SF := seqD (exprD (fz (callF F_check_pairs (aC (vS 3) (aC (vS 4) (aN))))))
  (setD 2 (oS (b2 hMul (vS 2) (lenP (vP 4)))))
def B_Book_init : SF := seqD (ifD (tB1 (b2 hEq (lenP (vP 1)) (kS (.int 0)))) (noD) (skipD))
  (seqD (ifD (tB1 (b2 hGt (lenP (vP 1)) (kS c_MOST_BUYERS))) (noD) (skipD))
  (seqD (setD 2 (oS (kS (.int 1))))
  (seqD (forD (iNum (vS 1)) (gT 2 (gLC (gN 3) (gLC (gN 4) (gLN))))
  (L_Book_init_1))
  (seqD (ifD (tB1 (b2 hGt (vS 2) (kS c_MOST_ROWS))) (noD) (skipD))
  (seqD (fldD 0 CA.Book [] "buyers" (tupleP (oS (fz (compD (iSeq (vS 1)) (wN 5) (yesT) (callF F_fixed_pairs (aC (vS 5) (aN))) [5])))))
  (seqD (fldD 0 CA.Book ["buyers"] "size" (lenP (oS (fldP CA.Book ns_Book 0 (vP 0)))))
  (seqD (fldD 0 CA.Book ["buyers", "size"] "counts" (tupleP (oS (fz (compD (iSeq (fldP CA.Book ns_Book 0 (vP 0))) (wN 5) (yesT) (oS (lenP (vP 5))) [5])))))
  (seqD (fldD 0 CA.Book ["buyers", "size", "counts"] "row_count" (vS 2))
  (fldD 0 CA.Book ["buyers", "size", "counts", "row_count"] "_weights" (tupleP (oS (fz (compD (iSeq (fldP CA.Book ns_Book 0 (vP 0))) (wN 5) (yesT) (callF F_weight_of (aC (vS 5) (aN))) [5])))))))))))))
def F_Book_init : FIn := fiF CA.Book 1 6 B_Book_init
abbrev L_law_any_list_1 : SF := seqD (setD 12 (oS (b2 hAdd (vS 12) (b2 hMul (b2 hSub (b2 hMul (b2 hIx (b2 hIx (vS 1) (vS 14)) (kS (.int 1))) (b2 hIx (vS 6) (vS 14))) (b2 hMul (b2 hIx (vS 2) (vS 14)) (vS 7))) (b2 hIx (vS 11) (vS 14))))))
  (ifD (tB1 (b2 hGt (vS 14) (kS (.int 0)))) (setD 13 (oS (b2 hAdd (vS 13) (b2 hMul (b2 hIx (vS 8) (vS 14)) (b2 hSub (b2 hIx (vS 11) (vS 14)) (b2 hIx (vS 11) (b2 hSub (vS 14) (kS (.int 1))))))))) (skipD))
abbrev L_law_any_list_2 : SF := seqD (frzD 11 (setD 11 (compD (iSeq (vS 1)) (wN 15) (yesT) (oS (b2 hSub (fz (callF drawF (aC (vS 0) (aC (kS (.int 19)) (aN))))) (kS (.int 9)))) [15])))
  (seqD (ifD (tB1 (b2 hEq (vS 10) (kS (.int 1)))) (setD 11 (oS (fz (sortP (vP 11))))) (skipD))
  (seqD (setD 12 (oS (kS (.int 0))))
  (seqD (setD 13 (oS (kS (.int 0))))
  (seqD (forD (iR1 (lenP (vP 1))) (gN 14)
  (L_law_any_list_1))
  (ifD (tOr1 (tB1 (b2 hNe (b2 hMul (vS 12) (vS 9)) (b2 hMul (b2 hMul (vS 13) (vS 5)) (vS 7)))) (tAnd1 (tB1 (b2 hEq (vS 10) (kS (.int 1)))) (tB1 (b2 hLt (vS 12) (kS (.int 0)))))) (retD (oS (kS (.bl false)))) (skipD))))))
def B_law_any_list : SF := seqD (setD 5 (oS (sumP (oS (fz (compD (iSeq (vS 1)) (wN 15) (yesT) (oS (b2 hIx (vS 15) (kS (.int 1)))) [15]))))))
  (seqD (asgD (oS (vS 3)) (gT 2 (gLC (gN 6) (gLC (gN 7) (gLN)))))
  (seqD (asgD (oS (vS 4)) (gT 2 (gLC (gN 8) (gLC (gN 9) (gLN)))))
  (seqD (forD (iR1 (kS (.int 3))) (gN 10)
  (L_law_any_list_2))
  (retD (oS (kS (.bl true)))))))
def F_law_any_list : FF := fnF 5 16 B_law_any_list
abbrev L_law_gcd_1 : SF := seqD (ifD (tB1 (b2 hEq (vS 1) (kS (.int 0)))) (brkD) (skipD))
  (seqD (setD 3 (oS (b2 hMod (c1 hInt (aC (vS 0) (aN))) (vS 1))))
  (seqD (setD 0 (oS (vS 1)))
  (setD 1 (oS (vS 3)))))
def B_law_gcd : SF := seqD (setD 0 (oS (c1 hAbs (aC (vS 0) (aN)))))
  (seqD (setD 1 (oS (c1 hAbs (aC (vS 1) (aN)))))
  (seqD (forD (iR1 (kS (.int 4000))) (gN 2)
  (L_law_gcd_1))
  (retD (oS (vS 0)))))
def F_law_gcd : FF := fnF 2 4 B_law_gcd
def B_law_is_integer : SF := retD (oS (vAnd (isiP "int" (vP 0)) (u1 hNot (isiP "bool" (vP 0)))))
def F_law_is_integer : FF := fnF 1 1 B_law_is_integer
def B_law_same : SF := seqD (ifD (tOr1 (tNot1 (tB1 (isiP "tuple" (vP 0)))) (tB1 (b2 hNe (lenP (vP 0)) (kS (.int 2))))) (retD (oS (kS (.bl false)))) (skipD))
  (seqD (ifD (tOr1 (tNot1 (tB1 (fz (callF F_law_is_integer (aC (b2 hIx (vS 0) (kS (.int 0))) (aN)))))) (tNot1 (tB1 (fz (callF F_law_is_integer (aC (b2 hIx (vS 0) (kS (.int 1))) (aN))))))) (retD (oS (kS (.bl false)))) (skipD))
  (seqD (ifD (tOr1 (tB1 (b2 hLt (b2 hIx (vS 0) (kS (.int 1))) (kS (.int 1)))) (tB1 (b2 hNe (fz (callF F_law_gcd (aC (b2 hIx (vS 0) (kS (.int 0))) (aC (b2 hIx (vS 0) (kS (.int 1))) (aN))))) (kS (.int 1))))) (retD (oS (kS (.bl false)))) (skipD))
  (retD (oS (b2 hEq (b2 hMul (b2 hIx (vS 0) (kS (.int 0))) (vS 2)) (b2 hMul (vS 1) (b2 hIx (vS 0) (kS (.int 1)))))))))
def F_law_same : FF := fnF 3 3 B_law_same
abbrev L_law_is_list_1 : SF := ifD (tOr1 (tNot1 (tB1 (isiP "tuple" (vP 2)))) (tOr1 (tB1 (b2 hNe (lenP (vP 2)) (kS (.int 2)))) (tNot1 (tB1 (fz (callF F_law_same (aC (vS 2) (aC (b2 hIx (vS 2) (kS (.int 0))) (aC (b2 hIx (vS 2) (kS (.int 1))) (aN)))))))))) (retD (oS (kS (.bl false)))) (skipD)
def B_law_is_list : SF := seqD (ifD (tOr1 (tNot1 (tB1 (isiP "list" (vP 0)))) (tB1 (b2 hNe (lenP (vP 0)) (vS 1)))) (retD (oS (kS (.bl false)))) (skipD))
  (seqD (forD (iSeq (vS 0)) (gN 2)
  (L_law_is_list_1))
  (retD (oS (kS (.bl true)))))
def F_law_is_list : FF := fnF 2 3 B_law_is_list
def B_ratio : SF := seqD (ifD (tB1 (b2 hLt (vS 1) (kS (.int 0)))) (seqD (setD 0 (oS (u1 hNeg (vS 0))))
  (setD 1 (oS (u1 hNeg (vS 1))))) (skipD))
  (seqD (setD 2 (oS (c1 hGcd (aC (vS 0) (aC (vS 1) (aN))))))
  (retD (oS (tupF (aC (b2 hDiv (vS 0) (vS 2)) (aC (b2 hDiv (vS 1) (vS 2)) (aN)))))))
def F_ratio : FF := fnF 2 3 B_ratio
def B_Book_upper : SF := retD (callF F_ratio (aC (fz (callF F_weight_of (aC (fz (slP (oS (b2 hIx (fldP CA.Book ns_Book 0 (vP 0)) (vS 1))) (ptS (vS 2)) (ptN))) (aN)))) (aC (b2 hIx (fldP CA.Book ns_Book 4 (vP 0)) (vS 1)) (aN))))
def F_Book_upper : FF := fnF 3 3 B_Book_upper
def B_Book_worth : SF := retD (oS (b2 hIx (b2 hIx (b2 hIx (fldP CA.Book ns_Book 0 (vP 0)) (vS 1)) (vS 2)) (kS (.int 0))))
def F_Book_worth : FF := fnF 3 3 B_Book_worth
def B_mul : SF := retD (callF F_ratio (aC (b2 hMul (b2 hIx (vS 0) (kS (.int 0))) (b2 hIx (vS 1) (kS (.int 0)))) (aC (b2 hMul (b2 hIx (vS 0) (kS (.int 1))) (b2 hIx (vS 1) (kS (.int 1)))) (aN))))
def F_mul : FF := fnF 2 2 B_mul
abbrev L_curve_1 : SF := seqD (setD 4 (oS (fz (methF CA.Book ns_Book F_Book_upper (vS 0) (aC (vS 1) (aC (vS 3) (aN)))))))
  (appD 2 (oS (tupF (aC (vS 4) (aC (fz (callF F_mul (aC (vS 4) (aC (tupF (aC (fz (methF CA.Book ns_Book F_Book_worth (vS 0) (aC (vS 1) (aC (vS 3) (aN))))) (aC (kS (.int 1)) (aN)))) (aN))))) (aN))))))
def B_curve : SF := seqD (setD 2 (lstF (oC (oS (tupF (aC (kS c_ZERO) (aC (kS c_ZERO) (aN))))) (oN))))
  (seqD (forD (iR3 (b2 hSub (b2 hIx (fldP CA.Book ns_Book 2 (vP 0)) (vS 1)) (kS (.int 1))) (u1 hNeg (kS (.int 1)))) (gN 3)
  (L_curve_1))
  (retV 2))
def F_curve : FF := fnF 2 5 B_curve
def B_is_above : SF := seqD (setD 5 (oS (b2 hMul (b2 hSub (b2 hIx (vS 1) (vS 3)) (b2 hIx (vS 1) (vS 2))) (b2 hSub (b2 hIx (vS 0) (vS 4)) (b2 hIx (vS 0) (vS 2))))))
  (retD (oS (b2 hGt (vS 5) (b2 hMul (b2 hSub (b2 hIx (vS 1) (vS 4)) (b2 hIx (vS 1) (vS 2))) (b2 hSub (b2 hIx (vS 0) (vS 3)) (b2 hIx (vS 0) (vS 2)))))))
def F_is_above : FF := fnF 5 6 B_is_above
abbrev L_hull_places_1 : SF := pop0D 2
abbrev L_hull_places_2 : SF := seqD (whileD (tAnd1 (tB1 (b2 hGt (lenP (vP 2)) (kS (.int 1)))) (tNot1 (tB1 (fz (callF F_is_above (aC (vS 0) (aC (vS 1) (aC (un (ixP (vP 2) (u1 hNeg (kS (.int 2))))) (aC (un (ixP (vP 2) (u1 hNeg (kS (.int 1))))) (aC (vS 3) (aN)))))))))))
  (L_hull_places_1))
  (appD 2 (oS (vS 3)))
def B_hull_places : SF := seqD (setD 2 (lstF (oN)))
  (seqD (forD (iR1 (lenP (vP 0))) (gN 3)
  (L_hull_places_2))
  (retV 2))
def F_hull_places : FF := fnF 2 4 B_hull_places
abbrev L_scaled_1 : SF := setD 1 (oS (c1 hLcm (aC (vS 1) (aC (b2 hIx (vS 2) (kS (.int 1))) (aN)))))
def B_scaled : SF := seqD (setD 1 (oS (kS (.int 1))))
  (seqD (forD (iSeq (vS 0)) (gN 2)
  (L_scaled_1))
  (retD (oS (tupF (aC (fz (compD (iSeq (vS 0)) (wN 2) (yesT) (oS (b2 hMul (b2 hIx (vS 2) (kS (.int 0))) (b2 hDiv (vS 1) (b2 hIx (vS 2) (kS (.int 1)))))) [2])) (aC (vS 1) (aN)))))))
def F_scaled : FF := fnF 1 3 B_scaled
abbrev L_upper_heights_1 : SF := appD 5 (callF F_ratio (aC (b2 hAdd (b2 hMul (b2 hIx (vS 2) (vS 6)) (vS 8)) (b2 hMul (vS 9) (b2 hSub (b2 hIx (vS 1) (vS 10)) (b2 hIx (vS 1) (vS 6))))) (aC (b2 hMul (vS 8) (vS 3)) (aN))))
abbrev L_upper_heights_2 : SF := seqD (setD 8 (oS (b2 hSub (b2 hIx (vS 1) (vS 7)) (b2 hIx (vS 1) (vS 6)))))
  (seqD (setD 9 (oS (b2 hSub (b2 hIx (vS 2) (vS 7)) (b2 hIx (vS 2) (vS 6)))))
  (forD (iR2 (b2 hAdd (vS 6) (kS (.int 1))) (b2 hAdd (vS 7) (kS (.int 1)))) (gN 10)
  (L_upper_heights_1)))
def B_upper_heights : SF := seqD (setD 1 (oS (b2 hIx (fz (callF F_scaled (aC (fz (compD (iSeq (vS 0)) (wN 11) (yesT) (oS (b2 hIx (vS 11) (kS (.int 0)))) [11])) (aN)))) (kS (.int 0)))))
  (seqD (asgD (oS (fz (callF F_scaled (aC (fz (compD (iSeq (vS 0)) (wN 11) (yesT) (oS (b2 hIx (vS 11) (kS (.int 1)))) [11])) (aN))))) (gT 2 (gLC (gN 2) (gLC (gN 3) (gLN)))))
  (seqD (setD 4 (oS (fz (callF F_hull_places (aC (vS 1) (aC (vS 2) (aN)))))))
  (seqD (setD 5 (lstF (oC (oS (b2 hIx (b2 hIx (vS 0) (kS (.int 0))) (kS (.int 1)))) (oN))))
  (seqD (forD (iZp (vS 4) (fz (slP (vP 4) (ptS (kS (.int 1))) (ptN)))) (gT 2 (gLC (gN 6) (gLC (gN 7) (gLN))))
  (L_upper_heights_2))
  (retV 5)))))
def F_upper_heights : FF := fnF 1 12 B_upper_heights
abbrev L_law_curve_right_1 : SF := seqD (setD 10 (oS (b2 hSub (b2 hSub (lenP (vP 2)) (kS (.int 1))) (vS 9))))
  (seqD (setD 8 (oS (b2 hAdd (vS 8) (b2 hIx (b2 hIx (vS 2) (vS 10)) (kS (.int 1))))))
  (seqD (setD 11 (oS (b2 hIx (vS 5) (b2 hAdd (vS 9) (kS (.int 1))))))
  (seqD (ifD (tOr1 (tNot1 (tB1 (isiP "tuple" (vP 11)))) (tOr1 (tB1 (b2 hNe (lenP (vP 11)) (kS (.int 2)))) (tNot1 (tB1 (fz (callF F_law_same (aC (b2 hIx (vS 11) (kS (.int 0))) (aC (vS 8) (aC (vS 7) (aN)))))))))) (retD (oS (kS (.bl false)))) (skipD))
  (seqD (ifD (tNot1 (tB1 (fz (callF F_law_same (aC (b2 hIx (vS 11) (kS (.int 1))) (aC (b2 hMul (vS 8) (b2 hIx (b2 hIx (vS 2) (vS 10)) (kS (.int 0)))) (aC (vS 7) (aN)))))))) (retD (oS (kS (.bl false)))) (skipD))
  (ifD (tNot1 (tB1 (fz (callF F_law_same (aC (b2 hIx (vS 6) (b2 hAdd (vS 9) (kS (.int 1)))) (aC (b2 hAdd (b2 hMul (b2 hMul (vS 8) (b2 hIx (b2 hIx (vS 2) (vS 10)) (kS (.int 0)))) (vS 4)) (b2 hMul (b2 hIx (vS 3) (vS 10)) (vS 7))) (aC (b2 hMul (vS 7) (vS 4)) (aN)))))))) (retD (oS (kS (.bl false)))) (skipD))))))
def B_law_curve_right : SF := seqD (setD 5 (oS (fz (callF F_curve (aC (vS 0) (aC (vS 1) (aN)))))))
  (seqD (setD 6 (oS (fz (callF F_upper_heights (aC (vS 5) (aN))))))
  (seqD (setD 7 (oS (sumP (oS (fz (compD (iSeq (vS 2)) (wN 12) (yesT) (oS (b2 hIx (vS 12) (kS (.int 1)))) [12]))))))
  (seqD (ifD (tOr1 (tNot1 (tB1 (isiP "list" (vP 5)))) (tOr1 (tB1 (b2 hNe (lenP (vP 5)) (b2 hAdd (lenP (vP 2)) (kS (.int 1))))) (tNot1 (tB1 (fz (callF F_law_is_list (aC (vS 6) (aC (lenP (vP 5)) (aN))))))))) (retD (oS (kS (.bl false)))) (skipD))
  (seqD (ifD (tOr1 (tNot1 (tB1 (isiP "tuple" (oS (b2 hIx (vS 5) (kS (.int 0))))))) (tOr1 (tB1 (b2 hNe (lenP (oS (b2 hIx (vS 5) (kS (.int 0))))) (kS (.int 2)))) (tNot1 (tB1 (fz (callF F_law_same (aC (b2 hIx (vS 6) (kS (.int 0))) (aC (kS (.int 0)) (aC (kS (.int 1)) (aN)))))))))) (retD (oS (kS (.bl false)))) (skipD))
  (seqD (ifD (tOr1 (tNot1 (tB1 (fz (callF F_law_same (aC (b2 hIx (b2 hIx (vS 5) (kS (.int 0))) (kS (.int 0))) (aC (kS (.int 0)) (aC (kS (.int 1)) (aN)))))))) (tNot1 (tB1 (fz (callF F_law_same (aC (b2 hIx (b2 hIx (vS 5) (kS (.int 0))) (kS (.int 1))) (aC (kS (.int 0)) (aC (kS (.int 1)) (aN))))))))) (retD (oS (kS (.bl false)))) (skipD))
  (seqD (setD 8 (oS (kS (.int 0))))
  (seqD (forD (iR1 (lenP (vP 2))) (gN 9)
  (L_law_curve_right_1))
  (retD (oS (kS (.bl true)))))))))))
def F_law_curve_right : FF := fnF 5 13 B_law_curve_right
abbrev L_law_never_falls_1 : SF := ifD (tB1 (b2 hGt (b2 hMul (b2 hIx (vS 1) (vS 2)) (b2 hIx (b2 hIx (vS 0) (b2 hAdd (vS 2) (kS (.int 1)))) (kS (.int 1)))) (b2 hMul (b2 hIx (vS 1) (b2 hAdd (vS 2) (kS (.int 1)))) (b2 hIx (b2 hIx (vS 0) (vS 2)) (kS (.int 1)))))) (retD (oS (kS (.bl false)))) (skipD)
def B_law_never_falls : SF := seqD (forD (iR1 (b2 hSub (lenP (vP 0)) (kS (.int 1)))) (gN 2)
  (L_law_never_falls_1))
  (retD (oS (kS (.bl true))))
def F_law_never_falls : FF := fnF 2 3 B_law_never_falls
abbrev L_law_paired_1 : SF := seqD (setD 10 (oS (kS (.int 0))))
  (seqD (ifD (tB1 (b2 hLt (b2 hAdd (vS 9) (kS (.int 1))) (lenP (vP 0)))) (setD 10 (oS (b2 hIx (vS 7) (b2 hAdd (vS 9) (kS (.int 1)))))) (skipD))
  (seqD (setD 11 (oS (b2 hSub (b2 hMul (b2 hIx (b2 hIx (vS 0) (vS 9)) (kS (.int 1))) (b2 hIx (vS 5) (vS 9))) (b2 hMul (b2 hIx (vS 1) (vS 9)) (vS 6)))))
  (seqD (ifD (tOr1 (tB1 (b2 hLt (b2 hIx (vS 7) (vS 9)) (kS (.int 0)))) (tB1 (b2 hNe (b2 hMul (vS 11) (vS 8)) (b2 hMul (b2 hMul (b2 hSub (b2 hIx (vS 7) (vS 9)) (vS 10)) (vS 4)) (vS 6))))) (retD (oS (kS (.bl false)))) (skipD))
  (ifD (tAnd1 (tB1 (b2 hGt (vS 9) (kS (.int 0)))) (tOr1 (tB1 (b2 hLt (b2 hIx (vS 5) (vS 9)) (b2 hIx (vS 5) (b2 hSub (vS 9) (kS (.int 1)))))) (tAnd1 (tB1 (b2 hGt (b2 hIx (vS 7) (vS 9)) (kS (.int 0)))) (tB1 (b2 hNe (b2 hIx (vS 5) (vS 9)) (b2 hIx (vS 5) (b2 hSub (vS 9) (kS (.int 1))))))))) (retD (oS (kS (.bl false)))) (skipD)))))
def B_law_paired : SF := seqD (setD 4 (oS (sumP (oS (fz (compD (iSeq (vS 0)) (wN 12) (yesT) (oS (b2 hIx (vS 12) (kS (.int 1)))) [12]))))))
  (seqD (asgD (oS (vS 2)) (gT 2 (gLC (gN 5) (gLC (gN 6) (gLN)))))
  (seqD (asgD (oS (vS 3)) (gT 2 (gLC (gN 7) (gLC (gN 8) (gLN)))))
  (seqD (ifD (tB1 (b2 hNe (b2 hIx (vS 7) (kS (.int 0))) (kS (.int 0)))) (retD (oS (kS (.bl false)))) (skipD))
  (seqD (forD (iR1 (lenP (vP 0))) (gN 9)
  (L_law_paired_1))
  (retD (oS (kS (.bl true))))))))
def F_law_paired : FF := fnF 4 13 B_law_paired
abbrev L_law_scaled_1 : SF := setD 1 (oS (b2 hMul (b2 hDiv (vS 1) (fz (callF F_law_gcd (aC (vS 1) (aC (b2 hIx (vS 2) (kS (.int 1))) (aN)))))) (b2 hIx (vS 2) (kS (.int 1)))))
def B_law_scaled : SF := seqD (setD 1 (oS (kS (.int 1))))
  (seqD (forD (iSeq (vS 0)) (gN 2)
  (L_law_scaled_1))
  (retD (tupO (oC (compD (iSeq (vS 0)) (wN 2) (yesT) (oS (b2 hMul (b2 hIx (vS 2) (kS (.int 0))) (b2 hDiv (vS 1) (b2 hIx (vS 2) (kS (.int 1)))))) [2]) (oC (oS (vS 1)) (oN))))))
def F_law_scaled : FF := fnF 1 3 B_law_scaled
abbrev L_law_seller_1 : SF := seqD (setD 2 (oS (b2 hSub (vS 2) (b2 hIx (b2 hIx (vS 0) (vS 3)) (kS (.int 1))))))
  (seqD (setD 4 (oS (kS (.int 0))))
  (seqD (ifD (tB1 (b2 hLt (b2 hAdd (vS 3) (kS (.int 1))) (lenP (vP 0)))) (setD 4 (oS (b2 hMul (b2 hSub (b2 hIx (b2 hIx (vS 0) (b2 hAdd (vS 3) (kS (.int 1)))) (kS (.int 0))) (b2 hIx (b2 hIx (vS 0) (vS 3)) (kS (.int 0)))) (vS 2)))) (skipD))
  (appD 1 (oS (b2 hSub (b2 hMul (b2 hIx (b2 hIx (vS 0) (vS 3)) (kS (.int 0))) (b2 hIx (b2 hIx (vS 0) (vS 3)) (kS (.int 1)))) (vS 4))))))
def B_law_seller : SF := seqD (setD 1 (lstF (oN)))
  (seqD (setD 2 (oS (sumP (oS (fz (compD (iSeq (vS 0)) (wN 5) (yesT) (oS (b2 hIx (vS 5) (kS (.int 1)))) [5]))))))
  (seqD (forD (iR1 (lenP (vP 0))) (gN 3)
  (L_law_seller_1))
  (retV 1)))
def F_law_seller : FF := fnF 1 6 B_law_seller
def B_div : SF := retD (callF F_ratio (aC (b2 hMul (b2 hIx (vS 0) (kS (.int 0))) (b2 hIx (vS 1) (kS (.int 1)))) (aC (b2 hMul (b2 hIx (vS 0) (kS (.int 1))) (b2 hIx (vS 1) (kS (.int 0)))) (aN))))
def F_div : FF := fnF 2 2 B_div
def B_sub : SF := retD (callF F_ratio (aC (b2 hSub (b2 hMul (b2 hIx (vS 0) (kS (.int 0))) (b2 hIx (vS 1) (kS (.int 1)))) (b2 hMul (b2 hIx (vS 1) (kS (.int 0))) (b2 hIx (vS 0) (kS (.int 1))))) (aC (b2 hMul (b2 hIx (vS 0) (kS (.int 1))) (b2 hIx (vS 1) (kS (.int 1)))) (aN))))
def F_sub : FF := fnF 2 2 B_sub
abbrev L_evened_worths_1 : SF := seqD (setD 6 (oS (fz (callF F_sub (aC (b2 hIx (b2 hIx (vS 2) (vS 5)) (kS (.int 0))) (aC (b2 hIx (b2 hIx (vS 2) (b2 hSub (vS 5) (kS (.int 1)))) (kS (.int 0))) (aN)))))))
  (appD 4 (callF F_div (aC (fz (callF F_sub (aC (b2 hIx (vS 3) (vS 5)) (aC (b2 hIx (vS 3) (b2 hSub (vS 5) (kS (.int 1)))) (aN))))) (aC (vS 6) (aN)))))
def B_evened_worths : SF := seqD (setD 2 (oS (fz (callF F_curve (aC (vS 0) (aC (vS 1) (aN)))))))
  (seqD (setD 3 (oS (fz (callF F_upper_heights (aC (vS 2) (aN))))))
  (seqD (setD 4 (lstF (oN)))
  (seqD (forD (iR3 (b2 hSub (lenP (vP 2)) (kS (.int 1))) (kS (.int 0))) (gN 5)
  (L_evened_worths_1))
  (retV 4))))
def F_evened_worths : FF := fnF 2 7 B_evened_worths
def B_lifts : SF := seqD (setD 2 (oS (fz (callF F_curve (aC (vS 0) (aC (vS 1) (aN)))))))
  (seqD (setD 3 (oS (fz (callF F_upper_heights (aC (vS 2) (aN))))))
  (retD (compD (iR3 (b2 hSub (lenP (vP 2)) (kS (.int 1))) (kS (.int 0))) (wN 4) (yesT) (callF F_sub (aC (b2 hIx (vS 3) (vS 4)) (aC (b2 hIx (b2 hIx (vS 2) (vS 4)) (kS (.int 1))) (aN)))) [4])))
def F_lifts : FF := fnF 2 5 B_lifts
def B_Book_chance : SF := retD (callF F_ratio (aC (b2 hIx (b2 hIx (b2 hIx (fldP CA.Book ns_Book 0 (vP 0)) (vS 1)) (vS 2)) (kS (.int 1))) (aC (b2 hIx (fldP CA.Book ns_Book 4 (vP 0)) (vS 1)) (aN))))
def F_Book_chance : FF := fnF 3 3 B_Book_chance
abbrev L_seller_worths_1 : SF := seqD (setD 5 (oS (fz (methF CA.Book ns_Book F_Book_worth (vS 0) (aC (vS 1) (aC (vS 4) (aN)))))))
  (seqD (setD 6 (oS (tupF (aC (b2 hSub (fz (methF CA.Book ns_Book F_Book_worth (vS 0) (aC (vS 1) (aC (b2 hAdd (vS 4) (kS (.int 1))) (aN))))) (vS 5)) (aC (kS (.int 1)) (aN))))))
  (seqD (setD 7 (oS (fz (callF F_div (aC (fz (methF CA.Book ns_Book F_Book_upper (vS 0) (aC (vS 1) (aC (b2 hAdd (vS 4) (kS (.int 1))) (aN))))) (aC (fz (methF CA.Book ns_Book F_Book_chance (vS 0) (aC (vS 1) (aC (vS 4) (aN))))) (aN)))))))
  (appD 2 (callF F_sub (aC (tupF (aC (vS 5) (aC (kS (.int 1)) (aN)))) (aC (fz (callF F_mul (aC (vS 6) (aC (vS 7) (aN))))) (aN)))))))
def B_seller_worths : SF := seqD (setD 2 (lstF (oN)))
  (seqD (setD 3 (oS (b2 hSub (b2 hIx (fldP CA.Book ns_Book 2 (vP 0)) (vS 1)) (kS (.int 1)))))
  (seqD (frzD 2 (forD (iR1 (vS 3)) (gN 4)
  (L_seller_worths_1)))
  (retD (catF (vP 2) (oS (fz (lstF (oC (oS (tupF (aC (fz (methF CA.Book ns_Book F_Book_worth (vS 0) (aC (vS 1) (aC (vS 3) (aN))))) (aC (kS (.int 1)) (aN))))) (oN)))))))))
def F_seller_worths : FF := fnF 2 8 B_seller_worths
abbrev L_law_buyer_right_1 : SF := ifD (tNot1 (tB1 (fz (callF F_law_same (aC (un (ixP (ixP (vP 5) (kS (.int 0))) (vS 8))) (aC (b2 hIx (vS 7) (vS 8)) (aC (b2 hIx (b2 hIx (vS 3) (vS 8)) (kS (.int 1))) (aN)))))))) (retD (oS (kS (.bl false)))) (skipD)
def B_law_buyer_right : SF := seqD (setD 4 (oS (lenP (vP 3))))
  (seqD (setD 5 (lstF (oC (callF F_seller_worths (aC (vS 1) (aC (vS 2) (aN)))) (oC (callF F_evened_worths (aC (vS 1) (aC (vS 2) (aN)))) (oC (callF F_lifts (aC (vS 1) (aC (vS 2) (aN)))) (oN))))))
  (seqD (ifD (lendT 5 (tB1 (b2 (hInD fun x => x) (kS (.bl false)) (fz (compD (iSeq (vS 5)) (wN 6) (yesT) (callF F_law_is_list (aC (vS 6) (aC (vS 4) (aN)))) [6]))))) (retD (oS (kS (.bl false)))) (skipD))
  (seqD (setD 7 (oS (fz (callF F_law_seller (aC (vS 3) (aN))))))
  (seqD (forD (iR1 (vS 4)) (gN 8)
  (L_law_buyer_right_1))
  (seqD (frzD 9 (setD 9 (lendO 5 (callF F_law_scaled (aC (b2 hIx (vS 5) (kS (.int 1))) (aN))))))
  (seqD (frzD 10 (setD 10 (lendO 5 (callF F_law_scaled (aC (b2 hIx (vS 5) (kS (.int 2))) (aN))))))
  (seqD (ifD (tNot1 (tB1 (fz (callF F_law_paired (aC (vS 3) (aC (vS 7) (aC (vS 9) (aC (vS 10) (aN))))))))) (retD (oS (kS (.bl false)))) (skipD))
  (seqD (ifD (tNot1 (tB1 (fz (callF F_law_any_list (aC (vS 0) (aC (vS 3) (aC (vS 7) (aC (vS 9) (aC (vS 10) (aN)))))))))) (retD (oS (kS (.bl false)))) (skipD))
  (seqD (ifD (tB1 (b2 hNe (b2 hEq (maxP (oS (b2 hIx (vS 10) (kS (.int 0))))) (kS (.int 0))) (fz (callF F_law_never_falls (aC (vS 3) (aC (vS 7) (aN))))))) (retD (oS (kS (.bl false)))) (skipD))
  (seqD (ifD (tNot1 (tB1 (fz (callF F_law_curve_right (aC (vS 1) (aC (vS 2) (aC (vS 3) (aC (b2 hIx (vS 10) (kS (.int 0))) (aC (b2 hIx (vS 10) (kS (.int 1))) (aN)))))))))) (retD (oS (kS (.bl false)))) (skipD))
  (seqD (frzD 11 (setD 11 (lendO 5 (compD (iSeq (vS 5)) (wN 6) (yesT) (oS (tupleP (vP 6))) [6]))))
  (seqD (forA 5 6 (seqA (appA 5 (oS (tupF (aC (kS (.int 3)) (aC (kS (.int 1)) (aN)))))) (revA 5)))
  (seqD (setD 12 (oS (fz (lstF (oC (callF F_seller_worths (aC (vS 1) (aC (vS 2) (aN)))) (oC (callF F_evened_worths (aC (vS 1) (aC (vS 2) (aN)))) (oC (callF F_lifts (aC (vS 1) (aC (vS 2) (aN)))) (oN))))))))
  (retD (oS (b2 hEq (fz (compD (iSeq (vS 12)) (wN 6) (yesT) (oS (tupleP (vP 6))) [6])) (vS 11)))))))))))))))))
def F_law_buyer_right : FF := fnF 4 13 B_law_buyer_right
abbrev L_law_great_1 : SF := setD 2 (oS (b2 hAdd (b2 hMul (vS 2) (b2 hPow (kS (.int 10)) (kS (.int 8)))) (fz (callF drawF (aC (vS 0) (aC (b2 hPow (kS (.int 10)) (kS (.int 8))) (aN)))))))
def B_law_great : SF := seqD (ifD (tNot1 (tB1 (vS 1))) (retD (callF drawF (aC (vS 0) (aC (kS (.int 1000)) (aN))))) (skipD))
  (seqD (setD 2 (oS (kS (.int 0))))
  (seqD (forD (iR1 (kS (.int 5))) (gN 3)
  (L_law_great_1))
  (retD (oS (vS 2)))))
def F_law_great : FF := fnF 2 4 B_law_great
abbrev L_law_crowd_1 : SF := seqD (ifD (tAnd1 (tB1 (vS 2)) (tNot1 (tB1 (vS 5)))) (seqD (setD 7 (oS (b2 hAdd (kS (.int 1)) (b2 hDiv (fz (callF F_law_great (aC (vS 0) (aC (kS (.bl true)) (aN))))) (kS (.int 2))))))
  (setD 8 (oS (b2 hAdd (kS (.int 1)) (b2 hDiv (fz (callF F_law_great (aC (vS 0) (aC (kS (.bl true)) (aN))))) (kS (.int 8))))))) (ifD (tNot1 (tB1 (vS 5))) (seqD (setD 7 (oS (b2 hAdd (kS (.int 1)) (fz (callF drawF (aC (vS 0) (aC (kS (.int 9)) (aN))))))))
  (setD 8 (oS (b2 hAdd (kS (.int 1)) (fz (callF drawF (aC (vS 0) (aC (kS (.int 9)) (aN))))))))) (skipD)))
  (seqD (appD 9 (oS (tupF (aC (vS 6) (aC (vS 7) (aN))))))
  (setD 6 (oS (b2 hAdd (vS 6) (vS 8)))))
abbrev L_law_crowd_2 : SF := seqD (setD 5 (oS (b2 hEq (fz (callF drawF (aC (vS 0) (aC (kS (.int 3)) (aN))))) (kS (.int 0)))))
  (seqD (setD 6 (oS (fz (callF drawF (aC (vS 0) (aC (kS (.int 4)) (aN)))))))
  (seqD (setD 7 (oS (b2 hAdd (kS (.int 1)) (fz (callF drawF (aC (vS 0) (aC (kS (.int 9)) (aN))))))))
  (seqD (setD 8 (oS (b2 hAdd (kS (.int 1)) (fz (callF drawF (aC (vS 0) (aC (kS (.int 9)) (aN))))))))
  (seqD (setD 9 (lstF (oN)))
  (seqD (frzD 9 (forD (iR1 (vS 4)) (gN 10)
  (L_law_crowd_1)))
  (appD 3 (oS (vS 9))))))))
def B_law_crowd : SF := seqD (setD 1 (oS (fz (slP (oS (fz (lstF (oC (oS (b2 hAdd (kS (.int 1)) (fz (callF drawF (aC (vS 0) (aC (kS (.int 6)) (aN))))))) (oC (oS (b2 hAdd (kS (.int 1)) (fz (callF drawF (aC (vS 0) (aC (kS (.int 6)) (aN))))))) (oC (oS (b2 hAdd (kS (.int 1)) (fz (callF drawF (aC (vS 0) (aC (kS (.int 4)) (aN))))))) (oN))))))) (ptN) (ptS (b2 hAdd (kS (.int 1)) (fz (callF drawF (aC (vS 0) (aC (kS (.int 3)) (aN)))))))))))
  (seqD (ifD (tB1 (b2 hEq (fz (callF drawF (aC (vS 0) (aC (kS (.int 8)) (aN))))) (kS (.int 0)))) (setD 1 (oS (b2 hIx (fz (lstF (oC (lstF (oC (oS (kS (.int 2))) (oC (oS (kS (.int 2))) (oC (oS (kS (.int 2))) (oC (oS (kS (.int 2))) (oC (oS (kS (.int 2))) (oC (oS (kS (.int 2))) (oN)))))))) (oC (lstF (oC (oS (kS (.int 1))) (oC (oS (kS (.int 6))) (oC (oS (kS (.int 1))) (oC (oS (kS (.int 6))) (oC (oS (kS (.int 2))) (oC (oS (kS (.int 2))) (oN)))))))) (oC (lstF (oC (oS (kS (.int 3))) (oC (oS (kS (.int 1))) (oC (oS (kS (.int 4))) (oC (oS (kS (.int 1))) (oC (oS (kS (.int 6))) (oC (oS (kS (.int 2))) (oN)))))))) (oN)))))) (fz (callF drawF (aC (vS 0) (aC (kS (.int 3)) (aN)))))))) (skipD))
  (seqD (setD 2 (oS (b2 hEq (fz (callF drawF (aC (vS 0) (aC (kS (.int 8)) (aN))))) (kS (.int 0)))))
  (seqD (setD 3 (lstF (oN)))
  (seqD (forD (iSeq (vS 1)) (gN 4)
  (L_law_crowd_2))
  (retV 3)))))
def F_law_crowd : FF := fnF 1 11 B_law_crowd
abbrev L_law_evened_1 : SF := ifD (tAnd1 (tB1 (b2 hGt (lenP (vP 1)) (kS (.int 1)))) (tB1 (b2 hGt (b2 hMul (un (ixP (ixP (vP 1) (u1 hNeg (kS (.int 2)))) (kS (.int 0)))) (un (ixP (ixP (vP 1) (u1 hNeg (kS (.int 1)))) (kS (.int 1))))) (b2 hMul (un (ixP (ixP (vP 1) (u1 hNeg (kS (.int 1)))) (kS (.int 0)))) (un (ixP (ixP (vP 1) (u1 hNeg (kS (.int 2)))) (kS (.int 1)))))))) (seqD (frzLD 1 (popD 6 1))
  (seqD (frzLD 1 (popD 7 1))
  (appD 1 (lstF (oC (oS (b2 hAdd (b2 hIx (vS 7) (kS (.int 0))) (b2 hIx (vS 6) (kS (.int 0))))) (oC (oS (b2 hAdd (b2 hIx (vS 7) (kS (.int 1))) (b2 hIx (vS 6) (kS (.int 1))))) (oC (oS (b2 hAdd (b2 hIx (vS 7) (kS (.int 2))) (b2 hIx (vS 6) (kS (.int 2))))) (oN)))))))) (skipD)
abbrev L_law_evened_2 : SF := seqD (setD 4 (oS (b2 hMul (vS 2) (b2 hIx (b2 hIx (vS 0) (vS 3)) (kS (.int 0))))))
  (seqD (setD 2 (oS (b2 hSub (vS 2) (b2 hIx (b2 hIx (vS 0) (vS 3)) (kS (.int 1))))))
  (seqD (ifD (tB1 (b2 hLt (b2 hAdd (vS 3) (kS (.int 1))) (lenP (vP 0)))) (setD 4 (oS (b2 hSub (vS 4) (b2 hMul (vS 2) (b2 hIx (b2 hIx (vS 0) (b2 hAdd (vS 3) (kS (.int 1)))) (kS (.int 0))))))) (skipD))
  (seqD (appD 1 (lstF (oC (oS (vS 4)) (oC (oS (b2 hIx (b2 hIx (vS 0) (vS 3)) (kS (.int 1)))) (oC (oS (kS (.int 1))) (oN))))))
  (forD (iR1 (lenP (vP 0))) (gN 5)
  (L_law_evened_1)))))
abbrev L_law_evened_3 : SF := setD 8 (oS (fz (catF (vP 8) (oS (fz (repF (oS (fz (lstF (oC (oS (tupF (aC (b2 hIx (vS 9) (kS (.int 0))) (aC (b2 hIx (vS 9) (kS (.int 1))) (aN))))) (oN))))) (b2 hIx (vS 9) (kS (.int 2)))))))))
def B_law_evened : SF := seqD (setD 1 (lstF (oN)))
  (seqD (setD 2 (oS (sumP (oS (fz (compD (iSeq (vS 0)) (wN 10) (yesT) (oS (b2 hIx (vS 10) (kS (.int 1)))) [10]))))))
  (seqD (frzD 1 (forD (iR1 (lenP (vP 0))) (gN 3)
  (L_law_evened_2)))
  (seqD (setD 8 (oS (fz (lstF (oN)))))
  (seqD (forD (iSeq (vS 1)) (gN 9)
  (L_law_evened_3))
  (retD (oS (vS 8)))))))
def F_law_evened : FF := fnF 1 11 B_law_evened
abbrev L_law_table_right_1 : SF := seqD (setD 3 (oS (fz (callF F_law_evened (aC (b2 hIx (vS 1) (vS 2)) (aN))))))
  (seqD (ifD (tNot1 (tB1 (fz (callF F_law_is_list (aC (b2 hIx (vS 0) (vS 2)) (aC (lenP (vP 3)) (aN))))))) (retD (oS (kS (.bl false)))) (skipD))
  (ifD (tB1 (b2 (hInD fun x => x) (kS (.bl false)) (fz (compD (iR1 (lenP (vP 3))) (wN 4) (yesT) (callF F_law_same (aC (b2 hIx (b2 hIx (vS 0) (vS 2)) (vS 4)) (aC (b2 hIx (b2 hIx (vS 3) (vS 4)) (kS (.int 0))) (aC (b2 hIx (b2 hIx (vS 3) (vS 4)) (kS (.int 1))) (aN))))) [4])))) (retD (oS (kS (.bl false)))) (skipD)))
def B_law_table_right : SF := seqD (ifD (tOr1 (tNot1 (tB1 (isiP "list" (vP 0)))) (tB1 (b2 hNe (lenP (vP 0)) (lenP (vP 1))))) (retD (oS (kS (.bl false)))) (skipD))
  (seqD (forD (iR1 (lenP (vP 1))) (gN 2)
  (L_law_table_right_1))
  (retD (oS (kS (.bl true)))))
def F_law_table_right : FF := fnF 2 5 B_law_table_right
def B_evened_table : SF := retD (compD (iR1 (fldP CA.Book ns_Book 1 (vP 0))) (wN 1) (yesT) (callF F_evened_worths (aC (vS 0) (aC (vS 1) (aN)))) [1])
def F_evened_table : FF := fnF 1 2 B_evened_table
abbrev L_law_1 : SF := ifD (tNot1 (tB1 (fz (callF F_law_buyer_right (aC (vS 1) (aC (vS 3) (aC (vS 4) (aC (b2 hIx (vS 2) (vS 4)) (aN))))))))) (retD (oS (kS (.bl false)))) (skipD)
abbrev L_law_2 : SF := seqD (setD 6 (callF F_evened_table (aC (vS 3) (aN))))
  (seqD (ifD (tNot1 (tB1 (callB F_law_table_right (oC (vP 6) (oC (vP 2) (oN)))))) (retD (oS (kS (.bl false)))) (skipD))
  (seqD (appD2 6 (kS (.int 0)) (oS (tupF (aC (kS (.int 1)) (aC (kS (.int 1)) (aN))))))
  (revD 6)))
def B_law : SF := seqD (setD 2 (oS (fz (callF F_law_crowd (aC (vS 1) (aN))))))
  (seqD (setD 3 (oS (fz (makeF CA.Book F_Book_init (aC (fz (compD (iSeq (vS 2)) (wN 10) (yesT) (listP (vP 10)) [10])) (aN))))))
  (seqD (forD (iR1 (lenP (vP 2))) (gN 4)
  (L_law_1))
  (seqD (forD (iR1 (kS (.int 2))) (gN 5)
  (L_law_2))
  (seqD (frzD 7 (setD 7 (compD (iSeq (vS 2)) (wN 10) (yesT) (compD (iSeq (vS 10)) (wN 11) (yesT) (oS (tupF (aC (b2 hAdd (b2 hIx (vS 11) (kS (.int 0))) (kS (.int 1))) (aC (b2 hIx (vS 11) (kS (.int 1))) (aN))))) [11]) [10])))
  (seqD (setD 8 (oS (fz (makeF CA.Book F_Book_init (aC (fz (compD (iSeq (vS 7)) (wN 10) (yesT) (listP (vP 10)) [10])) (aN))))))
  (seqD (setD 9 (oS (fz (callF drawF (aC (vS 1) (aC (lenP (vP 2)) (aN)))))))
  (seqD (ifD (tNot1 (tB1 (fz (callF F_law_buyer_right (aC (vS 1) (aC (vS 8) (aC (vS 9) (aC (b2 hIx (vS 7) (vS 9)) (aN))))))))) (retD (oS (kS (.bl false)))) (skipD))
  (retD (callF F_law_buyer_right (aC (vS 1) (aC (vS 3) (aC (vS 9) (aC (b2 hIx (vS 2) (vS 9)) (aN))))))))))))))
end DL

namespace DL
open PySem PySem.Spec L2
variable [CA]
theorem nd_Book : ns_Book.Nodup := by decide +kernel
def topS (i : Nat) : Stmt := PySem.Challenge.pw_soldtoworths_k22_whole_lifts_and_evened.main.body.getD i (.Pass ⟨0, 0, 0, 0⟩)
abbrev s_check_pairs : Stmt := topS 28
theorem sc_check_pairs : FnScope ["buyer", "pairs", "before", "worth", "weight"] ["buyer", "pairs"] (defScope s_check_pairs) := ⟨rfl, rfl, rfl, by decide +kernel, rfl, by decide +kernel, by decide +kernel⟩
abbrev s_fixed_pairs : Stmt := topS 29
theorem sc_fixed_pairs : FnScope ["pairs", "worth", "weight"] ["pairs"] (defScope s_fixed_pairs) := ⟨rfl, rfl, rfl, by decide +kernel, rfl, by decide +kernel, by decide +kernel⟩
abbrev s_weight_of : Stmt := topS 30
theorem sc_weight_of : FnScope ["pairs", "weight", "pair"] ["pairs"] (defScope s_weight_of) := ⟨rfl, rfl, rfl, by decide +kernel, rfl, by decide +kernel, by decide +kernel⟩
abbrev s_Book_init : Stmt := inClass (topS 31) 0
theorem sc_Book_init : FnScope ["self", "buyers", "row_count", "buyer", "pairs", "entry"] ["self", "buyers"] (defScope s_Book_init) := ⟨rfl, rfl, rfl, by decide +kernel, rfl, by decide +kernel, by decide +kernel⟩
abbrev s_law_draw : Stmt := topS 34
theorem sc_law_draw : FnScope ["state", "base", "cells", "rests", "turn", "at", "number"] ["state", "base"] (defScope s_law_draw) := ⟨rfl, rfl, rfl, by decide +kernel, rfl, by decide +kernel, by decide +kernel⟩
abbrev s_law_any_list : Stmt := topS 46
theorem sc_law_any_list : FnScope ["state", "pairs", "seller", "evened", "heights", "whole", "rises", "common", "tops", "under", "turn", "asked", "left", "right", "j", "pair"] ["state", "pairs", "seller", "evened", "heights"] (defScope s_law_any_list) := ⟨rfl, rfl, rfl, by decide +kernel, rfl, by decide +kernel, by decide +kernel⟩
abbrev s_law_gcd : Stmt := topS 36
theorem sc_law_gcd : FnScope ["a", "b", "k", "rest"] ["a", "b"] (defScope s_law_gcd) := ⟨rfl, rfl, rfl, by decide +kernel, rfl, by decide +kernel, by decide +kernel⟩
abbrev s_law_is_integer : Stmt := topS 37
theorem sc_law_is_integer : FnScope ["actual"] ["actual"] (defScope s_law_is_integer) := ⟨rfl, rfl, rfl, by decide +kernel, rfl, by decide +kernel, by decide +kernel⟩
abbrev s_law_same : Stmt := topS 38
theorem sc_law_same : FnScope ["actual", "n", "d"] ["actual", "n", "d"] (defScope s_law_same) := ⟨rfl, rfl, rfl, by decide +kernel, rfl, by decide +kernel, by decide +kernel⟩
abbrev s_law_is_list : Stmt := topS 41
theorem sc_law_is_list : FnScope ["actual", "size", "entry"] ["actual", "size"] (defScope s_law_is_list) := ⟨rfl, rfl, rfl, by decide +kernel, rfl, by decide +kernel, by decide +kernel⟩
abbrev s_ratio : Stmt := topS 4
theorem sc_ratio : FnScope ["n", "d", "common"] ["n", "d"] (defScope s_ratio) := ⟨rfl, rfl, rfl, by decide +kernel, rfl, by decide +kernel, by decide +kernel⟩
abbrev s_Book_upper : Stmt := inClass (topS 31) 4
theorem no_Book_upper : ("upper" : Str) ∉ ns_Book := by decide +kernel
theorem sc_Book_upper : FnScope ["self", "buyer", "index"] ["self", "buyer", "index"] (defScope s_Book_upper) := ⟨rfl, rfl, rfl, by decide +kernel, rfl, by decide +kernel, by decide +kernel⟩
abbrev s_Book_worth : Stmt := inClass (topS 31) 2
theorem no_Book_worth : ("worth" : Str) ∉ ns_Book := by decide +kernel
theorem sc_Book_worth : FnScope ["self", "buyer", "index"] ["self", "buyer", "index"] (defScope s_Book_worth) := ⟨rfl, rfl, rfl, by decide +kernel, rfl, by decide +kernel, by decide +kernel⟩
abbrev s_mul : Stmt := topS 6
theorem sc_mul : FnScope ["a", "b"] ["a", "b"] (defScope s_mul) := ⟨rfl, rfl, rfl, by decide +kernel, rfl, by decide +kernel, by decide +kernel⟩
abbrev s_curve : Stmt := topS 14
theorem sc_curve : FnScope ["book", "buyer", "points", "index", "chance"] ["book", "buyer"] (defScope s_curve) := ⟨rfl, rfl, rfl, by decide +kernel, rfl, by decide +kernel, by decide +kernel⟩
abbrev s_is_above : Stmt := topS 10
theorem sc_is_above : FnScope ["xs", "ys", "start", "middle", "end", "rise"] ["xs", "ys", "start", "middle", "end"] (defScope s_is_above) := ⟨rfl, rfl, rfl, by decide +kernel, rfl, by decide +kernel, by decide +kernel⟩
abbrev s_hull_places : Stmt := topS 11
theorem sc_hull_places : FnScope ["xs", "ys", "kept", "at"] ["xs", "ys"] (defScope s_hull_places) := ⟨rfl, rfl, rfl, by decide +kernel, rfl, by decide +kernel, by decide +kernel⟩
abbrev s_scaled : Stmt := topS 8
theorem sc_scaled : FnScope ["fractions", "common", "fraction"] ["fractions"] (defScope s_scaled) := ⟨rfl, rfl, rfl, by decide +kernel, rfl, by decide +kernel, by decide +kernel⟩
abbrev s_upper_heights : Stmt := topS 12
theorem sc_upper_heights : FnScope ["points", "xs", "ys", "common", "kept", "heights", "start", "end", "wide", "rise", "at", "point"] ["points"] (defScope s_upper_heights) := ⟨rfl, rfl, rfl, by decide +kernel, rfl, by decide +kernel, by decide +kernel⟩
abbrev s_law_curve_right : Stmt := topS 47
theorem sc_law_curve_right : FnScope ["book", "buyer", "pairs", "tops", "under", "points", "heights", "whole", "above", "k", "j", "point", "pair"] ["book", "buyer", "pairs", "tops", "under"] (defScope s_law_curve_right) := ⟨rfl, rfl, rfl, by decide +kernel, rfl, by decide +kernel, by decide +kernel⟩
abbrev s_law_never_falls : Stmt := topS 44
theorem sc_law_never_falls : FnScope ["pairs", "seller", "j"] ["pairs", "seller"] (defScope s_law_never_falls) := ⟨rfl, rfl, rfl, by decide +kernel, rfl, by decide +kernel, by decide +kernel⟩
abbrev s_law_paired : Stmt := topS 45
theorem sc_law_paired : FnScope ["pairs", "seller", "evened", "heights", "whole", "rises", "common", "tops", "under", "j", "following", "gap", "pair"] ["pairs", "seller", "evened", "heights"] (defScope s_law_paired) := ⟨rfl, rfl, rfl, by decide +kernel, rfl, by decide +kernel, by decide +kernel⟩
abbrev s_law_scaled : Stmt := topS 42
theorem sc_law_scaled : FnScope ["actual", "common", "entry"] ["actual"] (defScope s_law_scaled) := ⟨rfl, rfl, rfl, by decide +kernel, rfl, by decide +kernel, by decide +kernel⟩
abbrev s_law_seller : Stmt := topS 43
theorem sc_law_seller : FnScope ["pairs", "found", "above", "j", "cut", "pair"] ["pairs"] (defScope s_law_seller) := ⟨rfl, rfl, rfl, by decide +kernel, rfl, by decide +kernel, by decide +kernel⟩
abbrev s_div : Stmt := topS 7
theorem sc_div : FnScope ["a", "b"] ["a", "b"] (defScope s_div) := ⟨rfl, rfl, rfl, by decide +kernel, rfl, by decide +kernel, by decide +kernel⟩
abbrev s_sub : Stmt := topS 5
theorem sc_sub : FnScope ["a", "b"] ["a", "b"] (defScope s_sub) := ⟨rfl, rfl, rfl, by decide +kernel, rfl, by decide +kernel, by decide +kernel⟩
abbrev s_evened_worths : Stmt := topS 16
theorem sc_evened_worths : FnScope ["book", "buyer", "points", "heights", "slopes", "at", "wide"] ["book", "buyer"] (defScope s_evened_worths) := ⟨rfl, rfl, rfl, by decide +kernel, rfl, by decide +kernel, by decide +kernel⟩
abbrev s_lifts : Stmt := topS 17
theorem sc_lifts : FnScope ["book", "buyer", "points", "heights", "at"] ["book", "buyer"] (defScope s_lifts) := ⟨rfl, rfl, rfl, by decide +kernel, rfl, by decide +kernel, by decide +kernel⟩
abbrev s_Book_chance : Stmt := inClass (topS 31) 3
theorem no_Book_chance : ("chance" : Str) ∉ ns_Book := by decide +kernel
theorem sc_Book_chance : FnScope ["self", "buyer", "index"] ["self", "buyer", "index"] (defScope s_Book_chance) := ⟨rfl, rfl, rfl, by decide +kernel, rfl, by decide +kernel, by decide +kernel⟩
abbrev s_seller_worths : Stmt := topS 15
theorem sc_seller_worths : FnScope ["book", "buyer", "found", "last", "index", "worth", "step", "share"] ["book", "buyer"] (defScope s_seller_worths) := ⟨rfl, rfl, rfl, by decide +kernel, rfl, by decide +kernel, by decide +kernel⟩
abbrev s_law_buyer_right : Stmt := topS 48
theorem sc_law_buyer_right : FnScope ["state", "book", "buyer", "pairs", "size", "told", "entries", "seller", "j", "evened", "heights", "kept", "again"] ["state", "book", "buyer", "pairs"] (defScope s_law_buyer_right) := ⟨rfl, rfl, rfl, by decide +kernel, rfl, by decide +kernel, by decide +kernel⟩
abbrev s_law_great : Stmt := topS 35
theorem sc_law_great : FnScope ["state", "big", "number", "k"] ["state", "big"] (defScope s_law_great) := ⟨rfl, rfl, rfl, by decide +kernel, rfl, by decide +kernel, by decide +kernel⟩
abbrev s_law_crowd : Stmt := topS 40
theorem sc_law_crowd : FnScope ["state", "counts", "big", "buyers", "count", "even", "worth", "weight", "step", "pairs", "k"] ["state"] (defScope s_law_crowd) := ⟨rfl, rfl, rfl, by decide +kernel, rfl, by decide +kernel, by decide +kernel⟩
abbrev s_law_start : Stmt := topS 33
theorem sc_law_start : FnScope ["script", "cells", "cell"] ["script"] (defScope s_law_start) := ⟨rfl, rfl, rfl, by decide +kernel, rfl, by decide +kernel, by decide +kernel⟩
abbrev s_law_evened : Stmt := topS 39
theorem sc_law_evened : FnScope ["pairs", "blocks", "above", "k", "here", "turn", "last", "former", "told", "block", "pair"] ["pairs"] (defScope s_law_evened) := ⟨rfl, rfl, rfl, by decide +kernel, rfl, by decide +kernel, by decide +kernel⟩
abbrev s_law_table_right : Stmt := topS 49
theorem sc_law_table_right : FnScope ["table", "buyers", "buyer", "due", "j"] ["table", "buyers"] (defScope s_law_table_right) := ⟨rfl, rfl, rfl, by decide +kernel, rfl, by decide +kernel, by decide +kernel⟩
abbrev s_evened_table : Stmt := topS 18
theorem sc_evened_table : FnScope ["book", "buyer"] ["book"] (defScope s_evened_table) := ⟨rfl, rfl, rfl, by decide +kernel, rfl, by decide +kernel, by decide +kernel⟩
abbrev s_law : Stmt := topS 50
theorem sc_law : FnScope ["script", "state", "buyers", "book", "buyer", "turn", "table", "raised", "other", "at", "pairs", "pair"] ["script"] (defScope s_law) := ⟨rfl, rfl, rfl, by decide +kernel, rfl, by decide +kernel, by decide +kernel⟩
structure Txt (K : Fg) (mg : Str → Option Value) where
  z_abs : mg "abs" = none
  z_bool : mg "bool" = none
  z_enumerate : mg "enumerate" = none
  z_gcd : mg "gcd" = some (.builtin "math.gcd")
  z_int : mg "int" = none
  z_isinstance : mg "isinstance" = none
  z_lcm : mg "lcm" = some (.builtin "math.lcm")
  z_len : mg "len" = none
  z_list : mg "list" = none
  z_max : mg "max" = none
  z_range : mg "range" = none
  z_sorted : mg "sorted" = none
  z_sum : mg "sum" = none
  z_tuple : mg "tuple" = none
  z_zip : mg "zip" = none
  cl_Book : Cls K CA.Book
  g_Book : mg "Book" = some (.ref CA.Book)
  n_Book_buyers : NoAttr K CA.Book "buyers"
  n_Book_size : NoAttr K CA.Book "size"
  n_Book_counts : NoAttr K CA.Book "counts"
  n_Book_row_count : NoAttr K CA.Book "row_count"
  n_Book_weights : NoAttr K CA.Book "_weights"
  t_MOST_BUYERS : Tok
  g_MOST_BUYERS : mg "MOST_BUYERS" = some (.int 6 t_MOST_BUYERS)
  r_MOST_BUYERS : ∀ W H, RepS K W H (.int 6) c_MOST_BUYERS
  t_MOST_ROWS : Tok
  g_MOST_ROWS : mg "MOST_ROWS" = some (.int 144 t_MOST_ROWS)
  r_MOST_ROWS : ∀ W H, RepS K W H (.int 144) c_MOST_ROWS
  t_MOST_WORTHS : Tok
  g_MOST_WORTHS : mg "MOST_WORTHS" = some (.int 6 t_MOST_WORTHS)
  r_MOST_WORTHS : ∀ W H, RepS K W H (.int 6) c_MOST_WORTHS
  t_NUMBER_END : Tok
  g_NUMBER_END : mg "NUMBER_END" = some (.int 10000000000000000000000000000000000000000 t_NUMBER_END)
  r_NUMBER_END : ∀ W H, RepS K W H (.int 10000000000000000000000000000000000000000) c_NUMBER_END
  a_ZERO : Addr
  g_ZERO : mg "ZERO" = some (.ref a_ZERO)
  r_ZERO : ∀ W H, RepS K W H (.ref a_ZERO) c_ZERO
  a_check_pairs : Addr
  d_check_pairs : FuncData
  F_check_pairs : Fun K "check_pairs" "check_pairs" s_check_pairs a_check_pairs d_check_pairs
  g_check_pairs : mg "check_pairs" = some (.ref a_check_pairs)
  b_check_pairs : Binds K d_check_pairs ["buyer", "pairs"] []
  a_fixed_pairs : Addr
  d_fixed_pairs : FuncData
  F_fixed_pairs : Fun K "fixed_pairs" "fixed_pairs" s_fixed_pairs a_fixed_pairs d_fixed_pairs
  g_fixed_pairs : mg "fixed_pairs" = some (.ref a_fixed_pairs)
  b_fixed_pairs : Binds K d_fixed_pairs ["pairs"] []
  a_weight_of : Addr
  d_weight_of : FuncData
  F_weight_of : Fun K "weight_of" "weight_of" s_weight_of a_weight_of d_weight_of
  g_weight_of : mg "weight_of" = some (.ref a_weight_of)
  b_weight_of : Binds K d_weight_of ["pairs"] []
  a_Book_init : Addr
  d_Book_init : FuncData
  F_Book_init : Fun K "__init__" "Book.__init__" s_Book_init a_Book_init d_Book_init
  m_Book_init : Mk K CA.Book a_Book_init
  b_Book_init : Binds K d_Book_init ["self", "buyers"] []
  a_law_draw : Addr
  d_law_draw : FuncData
  F_law_draw : Fun K "_law_draw" "_law_draw" s_law_draw a_law_draw d_law_draw
  g_law_draw : mg "_law_draw" = some (.ref a_law_draw)
  b_law_draw : Binds K d_law_draw ["state", "base"] []
  a_law_any_list : Addr
  d_law_any_list : FuncData
  F_law_any_list : Fun K "_law_any_list" "_law_any_list" s_law_any_list a_law_any_list d_law_any_list
  g_law_any_list : mg "_law_any_list" = some (.ref a_law_any_list)
  b_law_any_list : Binds K d_law_any_list ["state", "pairs", "seller", "evened", "heights"] []
  a_law_gcd : Addr
  d_law_gcd : FuncData
  F_law_gcd : Fun K "_law_gcd" "_law_gcd" s_law_gcd a_law_gcd d_law_gcd
  g_law_gcd : mg "_law_gcd" = some (.ref a_law_gcd)
  b_law_gcd : Binds K d_law_gcd ["a", "b"] []
  a_law_is_integer : Addr
  d_law_is_integer : FuncData
  F_law_is_integer : Fun K "_law_is_integer" "_law_is_integer" s_law_is_integer a_law_is_integer d_law_is_integer
  g_law_is_integer : mg "_law_is_integer" = some (.ref a_law_is_integer)
  b_law_is_integer : Binds K d_law_is_integer ["actual"] []
  a_law_same : Addr
  d_law_same : FuncData
  F_law_same : Fun K "_law_same" "_law_same" s_law_same a_law_same d_law_same
  g_law_same : mg "_law_same" = some (.ref a_law_same)
  b_law_same : Binds K d_law_same ["actual", "n", "d"] []
  a_law_is_list : Addr
  d_law_is_list : FuncData
  F_law_is_list : Fun K "_law_is_list" "_law_is_list" s_law_is_list a_law_is_list d_law_is_list
  g_law_is_list : mg "_law_is_list" = some (.ref a_law_is_list)
  b_law_is_list : Binds K d_law_is_list ["actual", "size"] []
  a_ratio : Addr
  d_ratio : FuncData
  F_ratio : Fun K "ratio" "ratio" s_ratio a_ratio d_ratio
  g_ratio : mg "ratio" = some (.ref a_ratio)
  b_ratio : Binds K d_ratio ["n", "d"] []
  a_Book_upper : Addr
  d_Book_upper : FuncData
  F_Book_upper : Fun K "upper" "Book.upper" s_Book_upper a_Book_upper d_Book_upper
  m_Book_upper : Meth K CA.Book "upper" a_Book_upper
  b_Book_upper : Binds K d_Book_upper ["self", "buyer", "index"] []
  a_Book_worth : Addr
  d_Book_worth : FuncData
  F_Book_worth : Fun K "worth" "Book.worth" s_Book_worth a_Book_worth d_Book_worth
  m_Book_worth : Meth K CA.Book "worth" a_Book_worth
  b_Book_worth : Binds K d_Book_worth ["self", "buyer", "index"] []
  a_mul : Addr
  d_mul : FuncData
  F_mul : Fun K "mul" "mul" s_mul a_mul d_mul
  g_mul : mg "mul" = some (.ref a_mul)
  b_mul : Binds K d_mul ["a", "b"] []
  a_curve : Addr
  d_curve : FuncData
  F_curve : Fun K "curve" "curve" s_curve a_curve d_curve
  g_curve : mg "curve" = some (.ref a_curve)
  b_curve : Binds K d_curve ["book", "buyer"] []
  a_is_above : Addr
  d_is_above : FuncData
  F_is_above : Fun K "is_above" "is_above" s_is_above a_is_above d_is_above
  g_is_above : mg "is_above" = some (.ref a_is_above)
  b_is_above : Binds K d_is_above ["xs", "ys", "start", "middle", "end"] []
  a_hull_places : Addr
  d_hull_places : FuncData
  F_hull_places : Fun K "hull_places" "hull_places" s_hull_places a_hull_places d_hull_places
  g_hull_places : mg "hull_places" = some (.ref a_hull_places)
  b_hull_places : Binds K d_hull_places ["xs", "ys"] []
  a_scaled : Addr
  d_scaled : FuncData
  F_scaled : Fun K "scaled" "scaled" s_scaled a_scaled d_scaled
  g_scaled : mg "scaled" = some (.ref a_scaled)
  b_scaled : Binds K d_scaled ["fractions"] []
  a_upper_heights : Addr
  d_upper_heights : FuncData
  F_upper_heights : Fun K "upper_heights" "upper_heights" s_upper_heights a_upper_heights d_upper_heights
  g_upper_heights : mg "upper_heights" = some (.ref a_upper_heights)
  b_upper_heights : Binds K d_upper_heights ["points"] []
  a_law_curve_right : Addr
  d_law_curve_right : FuncData
  F_law_curve_right : Fun K "_law_curve_right" "_law_curve_right" s_law_curve_right a_law_curve_right d_law_curve_right
  g_law_curve_right : mg "_law_curve_right" = some (.ref a_law_curve_right)
  b_law_curve_right : Binds K d_law_curve_right ["book", "buyer", "pairs", "tops", "under"] []
  a_law_never_falls : Addr
  d_law_never_falls : FuncData
  F_law_never_falls : Fun K "_law_never_falls" "_law_never_falls" s_law_never_falls a_law_never_falls d_law_never_falls
  g_law_never_falls : mg "_law_never_falls" = some (.ref a_law_never_falls)
  b_law_never_falls : Binds K d_law_never_falls ["pairs", "seller"] []
  a_law_paired : Addr
  d_law_paired : FuncData
  F_law_paired : Fun K "_law_paired" "_law_paired" s_law_paired a_law_paired d_law_paired
  g_law_paired : mg "_law_paired" = some (.ref a_law_paired)
  b_law_paired : Binds K d_law_paired ["pairs", "seller", "evened", "heights"] []
  a_law_scaled : Addr
  d_law_scaled : FuncData
  F_law_scaled : Fun K "_law_scaled" "_law_scaled" s_law_scaled a_law_scaled d_law_scaled
  g_law_scaled : mg "_law_scaled" = some (.ref a_law_scaled)
  b_law_scaled : Binds K d_law_scaled ["actual"] []
  a_law_seller : Addr
  d_law_seller : FuncData
  F_law_seller : Fun K "_law_seller" "_law_seller" s_law_seller a_law_seller d_law_seller
  g_law_seller : mg "_law_seller" = some (.ref a_law_seller)
  b_law_seller : Binds K d_law_seller ["pairs"] []
  a_div : Addr
  d_div : FuncData
  F_div : Fun K "div" "div" s_div a_div d_div
  g_div : mg "div" = some (.ref a_div)
  b_div : Binds K d_div ["a", "b"] []
  a_sub : Addr
  d_sub : FuncData
  F_sub : Fun K "sub" "sub" s_sub a_sub d_sub
  g_sub : mg "sub" = some (.ref a_sub)
  b_sub : Binds K d_sub ["a", "b"] []
  a_evened_worths : Addr
  d_evened_worths : FuncData
  F_evened_worths : Fun K "evened_worths" "evened_worths" s_evened_worths a_evened_worths d_evened_worths
  g_evened_worths : mg "evened_worths" = some (.ref a_evened_worths)
  b_evened_worths : Binds K d_evened_worths ["book", "buyer"] []
  a_lifts : Addr
  d_lifts : FuncData
  F_lifts : Fun K "lifts" "lifts" s_lifts a_lifts d_lifts
  g_lifts : mg "lifts" = some (.ref a_lifts)
  b_lifts : Binds K d_lifts ["book", "buyer"] []
  a_Book_chance : Addr
  d_Book_chance : FuncData
  F_Book_chance : Fun K "chance" "Book.chance" s_Book_chance a_Book_chance d_Book_chance
  m_Book_chance : Meth K CA.Book "chance" a_Book_chance
  b_Book_chance : Binds K d_Book_chance ["self", "buyer", "index"] []
  a_seller_worths : Addr
  d_seller_worths : FuncData
  F_seller_worths : Fun K "seller_worths" "seller_worths" s_seller_worths a_seller_worths d_seller_worths
  g_seller_worths : mg "seller_worths" = some (.ref a_seller_worths)
  b_seller_worths : Binds K d_seller_worths ["book", "buyer"] []
  a_law_buyer_right : Addr
  d_law_buyer_right : FuncData
  F_law_buyer_right : Fun K "_law_buyer_right" "_law_buyer_right" s_law_buyer_right a_law_buyer_right d_law_buyer_right
  g_law_buyer_right : mg "_law_buyer_right" = some (.ref a_law_buyer_right)
  b_law_buyer_right : Binds K d_law_buyer_right ["state", "book", "buyer", "pairs"] []
  a_law_great : Addr
  d_law_great : FuncData
  F_law_great : Fun K "_law_great" "_law_great" s_law_great a_law_great d_law_great
  g_law_great : mg "_law_great" = some (.ref a_law_great)
  b_law_great : Binds K d_law_great ["state", "big"] []
  a_law_crowd : Addr
  d_law_crowd : FuncData
  F_law_crowd : Fun K "_law_crowd" "_law_crowd" s_law_crowd a_law_crowd d_law_crowd
  g_law_crowd : mg "_law_crowd" = some (.ref a_law_crowd)
  b_law_crowd : Binds K d_law_crowd ["state"] []
  a_law_start : Addr
  d_law_start : FuncData
  F_law_start : Fun K "_law_start" "_law_start" s_law_start a_law_start d_law_start
  g_law_start : mg "_law_start" = some (.ref a_law_start)
  b_law_start : Binds K d_law_start ["script"] []
  a_law_evened : Addr
  d_law_evened : FuncData
  F_law_evened : Fun K "_law_evened" "_law_evened" s_law_evened a_law_evened d_law_evened
  g_law_evened : mg "_law_evened" = some (.ref a_law_evened)
  b_law_evened : Binds K d_law_evened ["pairs"] []
  a_law_table_right : Addr
  d_law_table_right : FuncData
  F_law_table_right : Fun K "_law_table_right" "_law_table_right" s_law_table_right a_law_table_right d_law_table_right
  g_law_table_right : mg "_law_table_right" = some (.ref a_law_table_right)
  b_law_table_right : Binds K d_law_table_right ["table", "buyers"] []
  a_evened_table : Addr
  d_evened_table : FuncData
  F_evened_table : Fun K "evened_table" "evened_table" s_evened_table a_evened_table d_evened_table
  g_evened_table : mg "evened_table" = some (.ref a_evened_table)
  b_evened_table : Binds K d_evened_table ["book"] []
  a_law : Addr
  d_law : FuncData
  F_law : Fun K "law" "law" s_law a_law d_law
  g_law : mg "law" = some (.ref a_law)
  b_law : Binds K d_law ["script"] []
end DL
namespace DL
open PySem PySem.Spec L2
variable [CA]
theorem ok_law_draw {P : Program} {w : World} {K : Fg} {mg : Str → Option Value} {base : Heap} (T : Txt K mg) : FnOk P w K mg base CX0 1 T.a_law_draw T.d_law_draw ["state", "base"] (spD K 2 drawF) := by
  refine T.F_law_draw.ok sc_law_draw (fun vs H Q E h => ?_) (fun cdv A outer s H vs Q E hr h => ?_)
  · obtain ⟨W, O, ss, g, d, g', hl, _⟩ := h
    exact hl
  · obtain ⟨W, O, ss, g, d, g', hl, rs, hO, hg, e, q⟩ := h
    have nd := sc_law_draw.nd
    refine ⟨_, pss_cons (ps_set (i := 2) nd rfl (.inl rfl) (pe_ix ix_list (pv 0) pe_int (fun _ _ => rfl)))
      (pss_cons (ps_set (i := 3) nd rfl (.inl rfl) (pe_ix ix_list (pv 0) pe_int (fun _ _ => rfl)))
      (pss_cons (ps_set (i := 4) nd rfl (.inl rfl) (pe_ix ix_list (pv 0) pe_int (fun _ _ => rfl)))
      (pss_cons (ps_set (i := 5) nd rfl (.inl rfl) (pe_op op_mod (pe_callTy call_int1 (by rfl) T.z_int PyProof.Rows.boot_int (pa_cons (pv 4) pa_nil)) (pe_callB call_len_seq (by rfl) T.z_len PySem.boot_len (pa_cons (pv 2) pa_nil))))
      (pss_cons (ps_asg (pe_op op_add (pv 4) pe_int) (pg_sub (pv 0) pe_int set_list))
      (pss_cons (ps_if (PW.pt (pw_and (pt_cmpR op_ge (pe_ix ix_list (pv 2) (pv 5) (fun _ _ => rfl)) (pe_op op_pow pe_int pe_int) (nomark _)) (pw_and1 (pt_cmpR op_gt (pe_ix ix_list (pv 3) (pv 5) (fun _ _ => rfl)) pe_int (nomark _)))))
        (pss_cons (ps_set (i := 6) nd rfl (.inl rfl) (pe_op op_mod (pe_callTy call_int1 (by rfl) T.z_int PyProof.Rows.boot_int (pa_cons (pe_ix ix_list (pv 3) (pv 5) (fun _ _ => rfl)) pa_nil)) (pv 1)))
          (pss_cons (ps_asg (pe_op op_fdivW (pe_ix ix_list (pv 3) (pv 5) (fun _ _ => rfl)) (pv 1)) (pg_sub (pv 3) (pv 5) set_list))
          (pss_one (ps_ret (pv 6))))) pss_nil)
      (pss_cons (ps_set (i := 6) nd rfl (.inl rfl) (pe_op op_mod (pe_callTy call_int1 (by rfl) T.z_int PyProof.Rows.boot_int (pa_cons (pe_op op_add (pe_op op_add (pe_op op_mul (pe_ix ix_list (pv 2) (pv 5) (fun _ _ => rfl)) pe_int) (pe_op op_mul (pv 4) pe_int)) pe_int) pa_nil)) pe_int))
      (pss_cons (ps_set (i := 6) nd rfl (.inl rfl) (pe_op op_mod (pe_callTy call_int1 (by rfl) T.z_int PyProof.Rows.boot_int (pa_cons (pe_op op_add (pe_op op_add (pe_op op_mul (pv 6) (pv 6)) (pe_op op_mul (pv 4) pe_int)) pe_int) pa_nil)) pe_int))
      (pss_one (ps_ret (pe_op op_mod (pe_callTy call_int1 (by rfl) T.z_int PyProof.Rows.boot_int (pa_cons (pv 6) pa_nil)) (pv 1))))))))))), ?_⟩
    unfold drawF at e
    split at e
    case h_2 => cases e
    rename_i b
    split at e
    case isFalse => cases e
    rename_i hb
    cases e
    obtain ⟨v0, v1, rfl, r0, r1⟩ := reps2 rs
    cases r1
    cases r0 with
    | gen hW =>
      rename_i a c r
      obtain ⟨Wg, Ws⟩ := W
      cases hW
      obtain ⟨h1, h2, h3, n1, n2, n3, h4, h5, h6⟩ := hg
      have pc : 0 < g.cells.length := g.ok.1
      have pr : g.rests.length = g.cells.length := g.ok.2
      have pi : (0 : Int) < (g.cells.length : Int) := by omega
      have a0 : 0 ≤ g.turn % (g.cells.length : Int) := Int.emod_nonneg _ (by omega)
      have a1 : g.turn % (g.cells.length : Int) < (g.cells.length : Int) := Int.emod_lt_of_pos _ pi
      have at1 : ((g.at : Nat) : Int) = g.turn % (g.cells.length : Int) := by unfold GS.at; omega
      have at2 : g.at < g.cells.length := by omega
      have gc : (g.cells.map V.int)[g.at]? = some (.int (g.cells.getD g.at 0)) := by
        rw [List.getElem?_map, List.getElem?_eq_getElem at2, List.getD_eq_getElem?_getD, List.getElem?_eq_getElem at2]
        rfl
      have at3 : g.at < g.rests.length := by omega
      have gr : (g.rests.map V.int)[g.at]? = some (.int (g.rests.getD g.at 0)) := by
        rw [List.getElem?_map, List.getElem?_eq_getElem at3, List.getD_eq_getElem?_getD, List.getElem?_eq_getElem at3]
        rfl
      have e0 : atI [V.ref c, V.ref r, V.int g.turn] 0 = some (.ref c) := rfl
      have e1 : atI [V.ref c, V.ref r, V.int g.turn] 1 = some (.ref r) := rfl
      have e2 : atI [V.ref c, V.ref r, V.int g.turn] 2 = some (.int g.turn) := rfl
      refine ⟨.ref a, rfl, a, _, 0, .ref c, rfl, rfl, SqL.of h4, e0, ?_⟩
      refine ⟨.ref a, rfl, a, _, 1, .ref r, rfl, rfl, SqL.of h4, e1, ?_⟩
      refine ⟨.ref a, rfl, a, _, 2, .int g.turn, rfl, rfl, SqL.of h4, e2, ?_⟩
      refine ⟨.int g.turn, rfl, .inl ⟨g.turn, rfl, ?_⟩⟩
      refine ⟨.ref c, rfl, c, _, rfl, .inl (SqL.of h5), g.turn, _, rfl, rfl, ?_, ?_⟩
      · rw [List.length_map]; exact pi
      dsimp only
      rw [show (((g.cells.map V.int).length : Nat) : Int) = (g.cells.length : Int) from by rw [List.length_map], ← at1]
      refine ⟨.int g.turn, rfl, g.turn, 1, rfl, rfl, .ref a, rfl, a, _, 2, 2, rfl, rfl, h4, rfl, ?_⟩
      let H1 := upd H a (.lst [V.ref c, V.ref r, V.int (g.turn + 1)])
      have k5 : H1 c = some (.lst (g.cells.map V.int)) := by show upd H a _ c = _; rw [upd_ne n1.symm]; exact h5
      have k6 : H1 r = some (.lst (g.rests.map V.int)) := by show upd H a _ r = _; rw [upd_ne n2.symm]; exact h6
      have k4 : H1 a = some (.lst [V.ref c, V.ref r, V.int (g.turn + 1)]) := upd_same
      have x1 : Ext ⟨some (a, c, r), Ws⟩ H H1 := fun z o nz hz => by
        show upd H a _ z = _
        rw [upd_ne fun q => nz (by rw [q]; simp [Wd.as])]
        exact hz
      have hb9 : b.natAbs.log2 < 9000 := hb.2
      have fin : ∀ H' g', Ext ⟨some (a, c, r), Ws⟩ H H' → GOk ⟨some (a, c, r), Ws⟩ O H' g' → (g.draw b).2 = g' → Q (.int (g.draw b).1) H' := fun H' g' x hg' eg => by
        subst eg
        exact q _ H' [] x hg' List.nodup_nil (fun z m => by simp at m) (.sh .int)
      have last : ∀ H', H' = H1 → ¬ (1000000000000000000 ≤ g.cells.getD g.at 0 ∧ 0 < g.rests.getD g.at 0) → Q (.int (g.draw b).1) H' := fun H' eh hn => by
        subst eh
        refine fin _ ⟨g.cells, g.rests, g.turn + 1, g.ok⟩ x1 ⟨h1, h2, h3, n1, n2, n3, k4, k5, k6⟩ ?_
        unfold GS.draw
        rw [if_neg hn]
      refine ⟨.ref c, rfl, .int (g.at : Nat), rfl, c, _, (g.at : Nat), .int (g.cells.getD g.at 0), rfl, rfl, SqL.of k5, atI_nat gc, 10, 18, rfl, rfl, ⟨by decide, by decide, by decide⟩, ?_⟩
      have p18 : (10 : Int) ^ (18 : Int).toNat = 1000000000000000000 := by decide
      have rest : ¬ (1000000000000000000 ≤ g.cells.getD g.at 0 ∧ 0 < g.rests.getD g.at 0) → (g.draw b).1 = (((g.cells.getD g.at 0 * 48271 + g.turn * 69621 + 11) % 2147483647 * ((g.cells.getD g.at 0 * 48271 + g.turn * 69621 + 11) % 2147483647) + g.turn * 7919 + 3) % 2147483629) % b := fun hn => by
        unfold GS.draw
        rw [if_neg hn]
      by_cases t1 : 1000000000000000000 ≤ g.cells.getD g.at 0
      · refine ⟨_, _, rfl, rfl, true, congrArg V.bl (decide_eq_true (by rw [p18]; exact t1)), iteT ?_⟩
        by_cases t2 : 0 < g.rests.getD g.at 0
        · refine ⟨.ref r, rfl, .int (g.at : Nat), rfl, r, _, (g.at : Nat), .int (g.rests.getD g.at 0), rfl, rfl, SqL.of k6, atI_nat gr, _, _, rfl, rfl, true, congrArg V.bl (decide_eq_true t2), iteT ?_⟩
          refine ⟨.ref r, rfl, .int (g.at : Nat), rfl, r, _, (g.at : Nat), .int (g.rests.getD g.at 0), rfl, rfl, SqL.of k6, atI_nat gr, .inl ⟨_, rfl, .int b, rfl, _, b, rfl, rfl, hb.1, ?_⟩⟩
          refine ⟨.ref r, rfl, .int (g.at : Nat), rfl, r, _, (g.at : Nat), .int (g.rests.getD g.at 0), rfl, rfl, SqL.of k6, atI_nat gr, .int b, rfl, _, b, rfl, rfl, ⟨hb.1, hb9⟩, .ref r, rfl, .int (g.at : Nat), rfl, r, _, (g.at : Nat), g.at, rfl, rfl, k6, ?_, ?_⟩
          · unfold ixN
            rw [List.length_map, if_pos (by omega), if_pos (by omega)]
            simp
          refine ⟨_, rfl, ?_⟩
          have ed : (g.draw b).1 = g.rests.getD g.at 0 % b := by
            unfold GS.draw
            rw [if_pos ⟨t1, t2⟩]
          have ed2 : (g.draw b).2 = ⟨g.cells, g.rests.set g.at (g.rests.getD g.at 0 / b), g.turn + 1, by rw [List.length_set]; exact g.ok⟩ := by
            unfold GS.draw
            rw [if_pos ⟨t1, t2⟩]
          have z := fin (upd H1 r (.lst ((g.rests.map V.int).set g.at (.int (g.rests.getD g.at 0 / b))))) _ ?_ ?_ ed2
          · rw [ed] at z
            exact z
          · intro y o ny hy
            rw [upd_ne fun q => ny (by rw [q]; simp [Wd.as])]
            exact x1 y o ny hy
          · refine ⟨h1, h2, h3, n1, n2, n3, ?_, ?_, ?_⟩
            · rw [upd_ne n2]; exact k4
            · rw [upd_ne n3]; exact k5
            · rw [upd_same, List.map_set]
        · refine ⟨.ref r, rfl, .int (g.at : Nat), rfl, r, _, (g.at : Nat), .int (g.rests.getD g.at 0), rfl, rfl, SqL.of k6, atI_nat gr, _, _, rfl, rfl, false, congrArg V.bl (decide_eq_false t2), iteF ?_⟩
          have hn := fun (z : 1000000000000000000 ≤ g.cells.getD g.at 0 ∧ 0 < g.rests.getD g.at 0) => t2 z.2
          refine ⟨.ref c, rfl, .int (g.at : Nat), rfl, c, _, (g.at : Nat), .int (g.cells.getD g.at 0), rfl, rfl, SqL.of k5, atI_nat gc, g.cells.getD g.at 0, 48271, rfl, rfl, .inr ⟨by decide, by decide⟩, .int g.turn, rfl, g.turn, 69621, rfl, rfl, .inr ⟨by decide, by decide⟩, _, _, rfl, rfl, _, 11, rfl, rfl, .inl ⟨_, rfl, _, 2147483647, rfl, rfl, by show (0 : Int) < 2147483647; decide, ?_⟩⟩
          have m0 : 0 ≤ (g.cells.getD g.at 0 * 48271 + g.turn * 69621 + 11) % 2147483647 := Int.emod_nonneg _ (by decide)
          have m1 : (g.cells.getD g.at 0 * 48271 + g.turn * 69621 + 11) % 2147483647 < 2147483647 := Int.emod_lt_of_pos _ (by decide)
          refine ⟨_, rfl, _, rfl, _, _, rfl, rfl, .inl ⟨Int.lt_of_lt_of_le (by decide) m0, Int.lt_trans m1 (by decide)⟩, .int g.turn, rfl, g.turn, 7919, rfl, rfl, .inr ⟨by decide, by decide⟩, _, _, rfl, rfl, _, 3, rfl, rfl, .inl ⟨_, rfl, _, 2147483629, rfl, rfl, by show (0 : Int) < 2147483629; decide, ?_⟩⟩
          refine ⟨_, rfl, .inl ⟨_, rfl, .int b, rfl, _, b, rfl, rfl, hb.1, ?_⟩⟩
          have := last H1 rfl hn
          rw [rest hn] at this
          exact this
      · refine ⟨_, _, rfl, rfl, false, congrArg V.bl (decide_eq_false (by rw [p18]; exact t1)), iteF (iteF ?_)⟩
        have hn := fun (z : 1000000000000000000 ≤ g.cells.getD g.at 0 ∧ 0 < g.rests.getD g.at 0) => t1 z.1
        refine ⟨.ref c, rfl, .int (g.at : Nat), rfl, c, _, (g.at : Nat), .int (g.cells.getD g.at 0), rfl, rfl, SqL.of k5, atI_nat gc, g.cells.getD g.at 0, 48271, rfl, rfl, .inr ⟨by decide, by decide⟩, .int g.turn, rfl, g.turn, 69621, rfl, rfl, .inr ⟨by decide, by decide⟩, _, _, rfl, rfl, _, 11, rfl, rfl, .inl ⟨_, rfl, _, 2147483647, rfl, rfl, by show (0 : Int) < 2147483647; decide, ?_⟩⟩
        have m0 : 0 ≤ (g.cells.getD g.at 0 * 48271 + g.turn * 69621 + 11) % 2147483647 := Int.emod_nonneg _ (by decide)
        have m1 : (g.cells.getD g.at 0 * 48271 + g.turn * 69621 + 11) % 2147483647 < 2147483647 := Int.emod_lt_of_pos _ (by decide)
        refine ⟨_, rfl, _, rfl, _, _, rfl, rfl, .inl ⟨Int.lt_of_lt_of_le (by decide) m0, Int.lt_trans m1 (by decide)⟩, .int g.turn, rfl, g.turn, 7919, rfl, rfl, .inr ⟨by decide, by decide⟩, _, _, rfl, rfl, _, 3, rfl, rfl, .inl ⟨_, rfl, _, 2147483629, rfl, rfl, by show (0 : Int) < 2147483629; decide, ?_⟩⟩
        refine ⟨_, rfl, .inl ⟨_, rfl, .int b, rfl, _, b, rfl, rfl, hb.1, ?_⟩⟩
        have := last H1 rfl hn
        rw [rest hn] at this
        exact this
theorem ok_law_start {P : Program} {w : World} {K : Fg} {mg : Str → Option Value} {base : Heap} (T : Txt K mg) : FnOk P w K mg base CX0 1 T.a_law_start T.d_law_start ["script"] (spStart K) := by
  refine T.F_law_start.ok sc_law_start (fun vs H Q E h => ?_) (fun cdv A outer s H vs Q E hr h => ?_)
  · obtain ⟨a, ns, rfl, _⟩ := h
    rfl
  · obtain ⟨a, ns, rfl, hS, hlen, q⟩ := h
    have nd := sc_law_start.nd
    refine ⟨_, pss_cons (ps_setLc (i := 1) (own := [("cell", 2)]) rfl nd rfl rfl (sw_true rfl rfl rfl (by decide +kernel)) (pi_list (pe_slice sl_list (pv 0) po_none (po_some pe_int))) (blkOk_by (N := ["script", "cells", "cell"]) (sc := defScope s_law_start) (by decide +kernel)) (fun _ _ _ _ _ => pg_name (i := 2) nd rfl (Or.inl rfl)) (fun _ _ _ _ _ => pts_nil)
        (fun _ _ _ _ _ => pe_callB call_abs (by rfl) T.z_abs PyProof.Rows.boot_abs (pa_cons (pe_callTy call_int1 (by rfl) T.z_int PyProof.Rows.boot_int (pa_cons (pv 2) pa_nil)) pa_nil)))
      (pss_cons (ps_if (pt_cmpR (op_eqD hr.units) (pv 1) (pe_lst pa_nil) (nomark _)) (pss_one (ps_set (i := 1) nd rfl (.inl rfl) (pe_lst (pa_cons pe_int pa_nil)))) pss_nil)
      (pss_one (ps_ret (pe_lst (pa_cons (pv 1) (pa_cons (pe_callTy call_list_of (by rfl) T.z_list PyProof.Rows.boot_list (pa_cons (pv 1) pa_nil)) (pa_cons pe_int pa_nil))))))), ?_⟩
    refine ⟨.ref a, rfl, 63, rfl, a, _, rfl, hS, fun p hp => ?_⟩
    let cut := ns.take (HT.sIx ns.length ns.length (some 63))
    have ecut : cutV (ns.map V.int) none (some 63) = cut.map V.int := by
      unfold cutV
      rw [HT.sIx_none, List.length_map, List.drop_zero, Nat.sub_zero, ← List.map_take]
    rw [ecut]
    have hp1 : upd H p (.lst (cut.map V.int)) p = some (.lst (cut.map V.int)) := upd_same
    have lcut : cut.length ≤ 63 := by
      show (ns.take _).length ≤ 63
      rw [List.length_take]
      omega
    refine ⟨p, rfl, ⟨_, .inl (.inl hp1)⟩, fun D hD => ?_⟩
    have Dp' : D ≠ p := fun z => by rw [z, upd_same] at hD; cases hD
    have HD : H D = none := by rw [upd_ne Dp'] at hD; exact hD
    let ab := fun i : Int => if i < 0 then -i else i
    refine lc_list (K := K) (a := p) (xs := cut.map V.int) (fun i H' => H' = upd (upd H p (.lst (cut.map V.int))) D (.lst ((cut.take i).map fun i => V.int (ab i)))) ?_ ?_ ?_ ?_
    · rfl
    · rintro i H' hi rfl
      refine .inl (.inl ?_)
      rw [upd_ne Dp'.symm]
      exact hp1
    · rintro i x H' hx rfl
      rw [List.getElem?_map] at hx
      obtain ⟨y, hy, rfl⟩ := Option.map_eq_some_iff.mp hx
      refine ⟨rfl, ?_⟩
      refine ⟨.int y, rfl, .inl ⟨y, rfl, y, rfl, _, upd_same, ?_, ?_⟩⟩
      · rw [List.length_map, List.length_take]
        exact Nat.lt_of_le_of_lt (Nat.min_le_left _ _) (small1000 (by have := (List.getElem?_eq_some_iff.mp hy).1; omega))
      · rw [upd_upd, List.take_add_one, hy, List.map_append]
        rfl
    · rintro H' rfl
      rw [List.length_map, List.take_length]
      refine ⟨.ref D, rfl, Nat.zero_le _, fun E0' hE => ?_⟩
      let H2 := upd (upd H p (.lst (cut.map V.int))) D (.lst (cut.map fun i => V.int (ab i)))
      have dD : Dp K (upd H2 E0' (.lst [])) (.ref D) (.list ((cut.map ab).map PyData.int)) := by
        refine .lst (xs := cut.map fun i => V.int (ab i)) (.inl (.inl ?_)) ?_
        · rw [upd_ne (ne_of_none upd_same hE)]
          exact upd_same
        · have : ∀ l : List Int, DpAll K (upd H2 E0' (.lst [])) (l.map fun i => V.int (ab i)) ((l.map ab).map PyData.int) := fun l => by
            induction l with
            | nil => exact .nil
            | cons x l ih => exact .cons (.int _) ih
          exact this cut
      have dE : Dp K (upd H2 E0' (.lst [])) (.ref E0') (.list []) := .lst (xs := []) (.inl (.inl upd_same)) .nil
      have sh : SeqAt.shaped (.list ((cut.map ab).map PyData.int)) = true := by
        have h1 : ∀ l : List Int, PyData.canLayAll0 (l.map PyData.int) = true ∧ PyData.depthAll (l.map PyData.int) = 0 := fun l => by
          induction l with
          | nil => exact ⟨by simp only [List.map_nil, PyData.canLayAll0], by simp only [List.map_nil, PyData.depthAll]⟩
          | cons x l ih => exact ⟨by simp only [List.map_cons, PyData.canLayAll0, PyData.canLay0, ih.1]; rfl, by simp only [List.map_cons, PyData.depthAll, PyData.depth, ih.2]; rfl⟩
        unfold SeqAt.shaped
        simp only [PyData.canLay0, PyData.depth, (h1 _).1, (h1 _).2]
        rfl
      have shE : SeqAt.shaped (.list []) = true := by unfold SeqAt.shaped; simp only [PyData.canLay0, PyData.canLayAll0, PyData.depth, PyData.depthAll]; rfl
      have ED : E0' ≠ D := fun z => by rw [z, upd_same] at hE; cases hE
      have Ep : E0' ≠ p := fun z => by rw [z, upd_ne Dp'.symm, upd_same] at hE; cases hE
      have HE : H E0' = none := by rw [upd_ne ED, upd_ne Ep] at hE; exact hE
      have finish : ∀ (cs : List Int) (hc : 0 < cs.length) (c : Addr) (H3 : Hp), Same H H3 → H c = none → H3 c = some (.lst (cs.map V.int)) → cs.length ≤ 63 →
          (tRet (tLst (tCons (tVar 1) (tCons (tCB (fun xs H Q => ∃ p ys, xs = [V.ref p] ∧ (SqL K H p ys ∨ SqT K H p ys) ∧ ∀ l, H l = none → Q (.ref l) (upd H l (.lst ys))) (tCons (tVar 1) tNil)) (tCons (tC (.int 0)) tNil))))) { nx := fun _ H' => Q .non H', rt := Q } [some (.ref a), some (.ref c), none] H3 := fun cs hc c H3 sm hcn hcl hlen => by
        refine ⟨V.ref c, rfl, V.ref c, rfl, c, cs.map V.int, rfl, Or.inl (.inl (.inl hcl)), fun r hr => ?_⟩
        refine ⟨show 3 ≤ sizeLine by decide, fun s' hs => ?_⟩
        have rc : c ≠ r := ne_of_none hcl hr
        have sr : r ≠ s' := fun z => by rw [← z, upd_same] at hs; cases hs
        have sc : c ≠ s' := fun z => by rw [← z, upd_ne rc, hcl] at hs; cases hs
        have hs3 : H3 s' = none := by rw [upd_ne sr.symm] at hs; exact hs
        have bk : ∀ x, H3 x = none → H x = none := fun x hx => by
          cases q : H x with
          | none => rfl
          | some o => rw [sm x o q] at hx; cases hx
        refine q ⟨cs, cs, 0, hc, rfl⟩ s' c r _ ?_ (bk _ hs3) hcn (bk _ hr) ?_
        · intro x o hx
          have := sm x o hx
          rw [upd_ne (ne_of_none this hs3), upd_ne (ne_of_none this hr)]
          exact this
        · refine ⟨by simp, by simp, by simp, sc.symm, sr.symm, rc, upd_same, ?_, ?_⟩
          · rw [upd_ne sc, upd_ne rc]; exact hcl
          · rw [upd_ne sr, upd_same]
      by_cases hne : cut = []
      · have e0 : PyData.eqv (.list ((cut.map ab).map PyData.int)) (.list []) = true := by rw [hne]; simp only [List.map_nil, PyData.eqv, PyData.eqvAll]
        refine ⟨_, _, dD, dE, sh, shE, true, congrArg V.bl e0, iteT ?_⟩
        refine ⟨by show 1 ≤ sizeLine; decide, fun c hc => ?_⟩
        have cE : c ≠ E0' := fun z => by rw [z, upd_same] at hc; cases hc
        have cD : c ≠ D := fun z => by rw [z, upd_ne ED.symm, upd_same] at hc; cases hc
        have cp : c ≠ p := fun z => by rw [z, upd_ne Ep.symm, upd_ne Dp'.symm, upd_same] at hc; cases hc
        have Hc : H c = none := by rw [upd_ne cE, upd_ne cD, upd_ne cp] at hc; exact hc
        refine finish [0] (by decide) c _ ?_ Hc upd_same (by decide)
        intro x o hx
        rw [upd_ne (ne_of_none hx Hc), upd_ne (ne_of_none hx HE), upd_ne (ne_of_none hx HD), upd_ne (ne_of_none hx hp)]
        exact hx
      · have e0 : PyData.eqv (.list ((cut.map ab).map PyData.int)) (.list []) = false := by
          cases hcut : cut with
          | nil => exact absurd hcut hne
          | cons x l => simp only [List.map_cons, PyData.eqv, PyData.eqvAll]
        refine ⟨_, _, dD, dE, sh, shE, false, congrArg V.bl e0, iteF ?_⟩
        refine finish (cut.map ab) (by rw [List.length_map]; exact List.length_pos_iff.mpr hne) D _ ?_ HD ?_ (by rw [List.length_map]; exact lcut)
        · intro x o hx
          rw [upd_ne (ne_of_none hx HE), upd_ne (ne_of_none hx HD), upd_ne (ne_of_none hx hp)]
          exact hx
        · rw [upd_ne ED.symm, upd_same, List.map_map]
          rfl

theorem ok_check_pairs {P : Program} {w : World} {K : Fg} {mg : Str → Option Value} {base : Heap} (T : Txt K mg) : FnOk P w K mg base CX0 1 T.a_check_pairs T.d_check_pairs ["buyer", "pairs"] (spD K 2 F_check_pairs) :=
  fn_ok T.F_check_pairs sc_check_pairs fun cdv A outer s H E hr =>
  (dss_cons (ds_if (dt_eq hr.units (de_len (by rfl) T.z_len (dp_var 1)) de_int) (dss_one ds_never) dss_nil)
  (dss_cons (ds_if (dt_gt (de_len (by rfl) T.z_len (dp_var 1)) (de_glob (by rfl) T.g_MOST_WORTHS (by exact ⟨_, rfl⟩) T.r_MOST_WORTHS)) (dss_one ds_never) dss_nil)
  (dss_cons (ds_set (i := 2) sc_check_pairs.nd rfl (.inl rfl) (de_neg de_int).o)
  (dss_one (ds_for rfl PassesOwn.never (di_seq (de_var 1)) (dg_tup rfl (dgl_cons (dg_name (i := 3) sc_check_pairs.nd rfl (.inl rfl)) (dgl_cons (dg_name (i := 4) sc_check_pairs.nd rfl (.inl rfl)) dgl_nil)))
  (dss_cons (ds_if (dw_or (dt_le (de_var 3) (de_var 2)) (dw_or1 (dt_ge (de_var 3) (de_glob (by rfl) T.g_NUMBER_END (by exact ⟨_, rfl⟩) T.r_NUMBER_END)))).t (dss_one ds_never) dss_nil)
  (dss_cons (ds_if (dw_or (dt_lt (de_var 4) de_int) (dw_or1 (dt_ge (de_var 4) (de_glob (by rfl) T.g_NUMBER_END (by exact ⟨_, rfl⟩) T.r_NUMBER_END)))).t (dss_one ds_never) dss_nil)
  (dss_one (ds_set (i := 2) sc_check_pairs.nd rfl (.inl rfl) (de_var 3).o)))))))))
theorem ok_fixed_pairs {P : Program} {w : World} {K : Fg} {mg : Str → Option Value} {base : Heap} (T : Txt K mg) : FnOk P w K mg base CX0 1 T.a_fixed_pairs T.d_fixed_pairs ["pairs"] (spD K 1 F_fixed_pairs) :=
  fn_ok T.F_fixed_pairs sc_fixed_pairs fun cdv A outer s H E hr =>
  (dss_one (ds_ret (de_tuple (by rfl) T.z_tuple (do_lc (own := [("worth", 1), ("weight", 2)]) rfl sc_fixed_pairs.nd (di_seq (de_var 0)) (blkOk_by (N := ["pairs", "worth", "weight"]) (sc := defScope s_fixed_pairs) (by decide +kernel)) (fun _ _ _ _ _ => (pg_tup rfl (pgs_cons (pg_name (i := 1) sc_fixed_pairs.nd rfl (by first | exact Or.inl rfl | exact Or.inr rfl)) (pgs_cons (pg_name (i := 2) sc_fixed_pairs.nd rfl (by first | exact Or.inl rfl | exact Or.inr rfl)) pgs_nil)))) (dgw_tup (dgwl_cons (dgw_name (by decide)) (dgwl_cons (dgw_name (by decide)) dgwl_nil))) (fun _ _ _ _ _ => dts_nil) (fun _ _ _ _ _ => (de_tup (da_cons (de_var 1) (da_cons (de_var 2) da_nil))).o)).s.p).o))
theorem ok_weight_of {P : Program} {w : World} {K : Fg} {mg : Str → Option Value} {base : Heap} (T : Txt K mg) : FnOk P w K mg base CX0 1 T.a_weight_of T.d_weight_of ["pairs"] (spD K 1 F_weight_of) :=
  fn_ok T.F_weight_of sc_weight_of fun cdv A outer s H E hr =>
  (dss_cons (ds_set (i := 1) sc_weight_of.nd rfl (.inl rfl) de_int.o)
  (dss_cons (ds_for rfl PassesOwn.never (di_seq (de_var 0)) (dg_name (i := 2) sc_weight_of.nd rfl (.inl rfl))
  (dss_one (ds_set (i := 1) sc_weight_of.nd rfl (.inl rfl) (de_add (de_var 1) (de_ix (de_var 2) de_int)).o)))
  (dss_one (ds_ret (de_var 1).o))))
theorem ok_Book_init {P : Program} {w : World} {K : Fg} {mg : Str → Option Value} {base : Heap} (T : Txt K mg) : FnOk P w K mg base CX0 2 T.a_Book_init T.d_Book_init ["self", "buyers"] (spI K CA.Book 1 F_Book_init) :=
  fn_okI T.F_Book_init sc_Book_init rfl (by decide) fun cdv A outer s H E hr =>
  (dss_cons (ds_if (dt_eq hr.units (de_len (by rfl) T.z_len (dp_var 1)) de_int) (dss_one ds_never) dss_nil)
  (dss_cons (ds_if (dt_gt (de_len (by rfl) T.z_len (dp_var 1)) (de_glob (by rfl) T.g_MOST_BUYERS (by exact ⟨_, rfl⟩) T.r_MOST_BUYERS)) (dss_one ds_never) dss_nil)
  (dss_cons (ds_set (i := 2) sc_Book_init.nd rfl (.inl rfl) de_int.o)
  (dss_cons (ds_for rfl PassesOwn.never (di_enum (by rfl) T.z_enumerate (de_var 1)) (dg_tup rfl (dgl_cons (dg_name (i := 3) sc_Book_init.nd rfl (.inl rfl)) (dgl_cons (dg_name (i := 4) sc_Book_init.nd rfl (.inl rfl)) dgl_nil)))
  (dss_cons (ds_expr (do_call (ok_check_pairs T) fnF_ar (hr.mono (by decide)) (by rfl) T.g_check_pairs T.F_check_pairs.kp T.b_check_pairs (da_cons (de_var 3) (da_cons (de_var 4) da_nil))).s)
  (dss_one (ds_set (i := 2) sc_Book_init.nd rfl (.inl rfl) (de_mul (de_var 2) (de_len (by rfl) T.z_len (dp_var 4))).o))))
  (dss_cons (ds_if (dt_gt (de_var 2) (de_glob (by rfl) T.g_MOST_ROWS (by exact ⟨_, rfl⟩) T.r_MOST_ROWS)) (dss_one ds_never) dss_nil)
  (dss_cons (ds_fldset 0 [] (de_tuple (by rfl) T.z_tuple (do_lc (own := [("entry", 5)]) rfl sc_Book_init.nd (di_seq (de_var 1)) (blkOk_by (N := ["self", "buyers", "row_count", "buyer", "pairs", "entry"]) (sc := defScope s_Book_init) (by decide +kernel)) (fun _ _ _ _ _ => (pg_name (i := 5) sc_Book_init.nd rfl (by first | exact Or.inl rfl | exact Or.inr rfl))) (dgw_name (by decide)) (fun _ _ _ _ _ => dts_nil) (fun _ _ _ _ _ => (do_call (ok_fixed_pairs T) fnF_ar (hr.mono (by decide)) (by rfl) T.g_fixed_pairs T.F_fixed_pairs.kp T.b_fixed_pairs (da_cons (de_var 5) da_nil)))).s.p) T.cl_Book T.n_Book_buyers (by decide +kernel))
  (dss_cons (ds_fldset 0 ["buyers"] (de_len (by rfl) T.z_len (de_fld (ns := ns_Book) 0 (dp_var 0) T.cl_Book T.n_Book_buyers nd_Book).p) T.cl_Book T.n_Book_size (by decide +kernel))
  (dss_cons (ds_fldset 0 ["buyers", "size"] (de_tuple (by rfl) T.z_tuple (do_lc (own := [("entry", 5)]) rfl sc_Book_init.nd (di_seq (de_fld (ns := ns_Book) 0 (dp_var 0) T.cl_Book T.n_Book_buyers nd_Book)) (blkOk_by (N := ["self", "buyers", "row_count", "buyer", "pairs", "entry"]) (sc := defScope s_Book_init) (by decide +kernel)) (fun _ _ _ _ _ => (pg_name (i := 5) sc_Book_init.nd rfl (by first | exact Or.inl rfl | exact Or.inr rfl))) (dgw_name (by decide)) (fun _ _ _ _ _ => dts_nil) (fun _ _ _ _ _ => (de_len (by rfl) T.z_len (dp_var 5)).o)).s.p) T.cl_Book T.n_Book_counts (by decide +kernel))
  (dss_cons (ds_fldset 0 ["buyers", "size", "counts"] (de_var 2) T.cl_Book T.n_Book_row_count (by decide +kernel))
  (dss_one (ds_fldset 0 ["buyers", "size", "counts", "row_count"] (de_tuple (by rfl) T.z_tuple (do_lc (own := [("entry", 5)]) rfl sc_Book_init.nd (di_seq (de_fld (ns := ns_Book) 0 (dp_var 0) T.cl_Book T.n_Book_buyers nd_Book)) (blkOk_by (N := ["self", "buyers", "row_count", "buyer", "pairs", "entry"]) (sc := defScope s_Book_init) (by decide +kernel)) (fun _ _ _ _ _ => (pg_name (i := 5) sc_Book_init.nd rfl (by first | exact Or.inl rfl | exact Or.inr rfl))) (dgw_name (by decide)) (fun _ _ _ _ _ => dts_nil) (fun _ _ _ _ _ => (do_call (ok_weight_of T) fnF_ar (hr.mono (by decide)) (by rfl) T.g_weight_of T.F_weight_of.kp T.b_weight_of (da_cons (de_var 5) da_nil)))).s.p) T.cl_Book T.n_Book_weights (by decide +kernel))))))))))))
theorem ok_law_any_list {P : Program} {w : World} {K : Fg} {mg : Str → Option Value} {base : Heap} (T : Txt K mg) : FnOk P w K mg base CX0 2 T.a_law_any_list T.d_law_any_list ["state", "pairs", "seller", "evened", "heights"] (spD K 5 F_law_any_list) :=
  fn_ok T.F_law_any_list sc_law_any_list fun cdv A outer s H E hr =>
  (dss_cons (ds_set (i := 5) sc_law_any_list.nd rfl (.inl rfl) (de_sum rfl (by rfl) T.z_sum (do_lc (own := [("pair", 15)]) rfl sc_law_any_list.nd (di_seq (de_var 1)) (blkOk_by (N := ["state", "pairs", "seller", "evened", "heights", "whole", "rises", "common", "tops", "under", "turn", "asked", "left", "right", "j", "pair"]) (sc := defScope s_law_any_list) (by decide +kernel)) (fun _ _ _ _ _ => (pg_name (i := 15) sc_law_any_list.nd rfl (by first | exact Or.inl rfl | exact Or.inr rfl))) (dgw_name (by decide)) (fun _ _ _ _ _ => dts_nil) (fun _ _ _ _ _ => (de_ix (de_var 15) de_int).o)).s.p).o)
  (dss_cons (ds_asg (de_var 3).o (dg_tup rfl (dgl_cons (dg_name (i := 6) sc_law_any_list.nd rfl (.inl rfl)) (dgl_cons (dg_name (i := 7) sc_law_any_list.nd rfl (.inl rfl)) dgl_nil))))
  (dss_cons (ds_asg (de_var 4).o (dg_tup rfl (dgl_cons (dg_name (i := 8) sc_law_any_list.nd rfl (.inl rfl)) (dgl_cons (dg_name (i := 9) sc_law_any_list.nd rfl (.inl rfl)) dgl_nil))))
  (dss_cons (ds_for rfl PassesOwn.never (di_range1 (by rfl) T.z_range de_int) (dg_name (i := 10) sc_law_any_list.nd rfl (.inl rfl))
  (dss_cons (ds_frz 11 (ds_setLc (i := 11) (own := [("pair", 15)]) rfl sc_law_any_list.nd rfl rfl (sw_true rfl rfl rfl (by decide +kernel)) (di_seq (de_var 1)) (blkOk_by (N := ["state", "pairs", "seller", "evened", "heights", "whole", "rises", "common", "tops", "under", "turn", "asked", "left", "right", "j", "pair"]) (sc := defScope s_law_any_list) (by decide +kernel)) (fun _ _ _ _ _ => (pg_name (i := 15) sc_law_any_list.nd rfl (by first | exact Or.inl rfl | exact Or.inr rfl))) (dgw_name (by decide)) (fun _ _ _ _ _ => dts_nil) (fun _ _ _ _ _ => (de_sub (do_call (ok_law_draw T) drawF_ar (hr.mono (by decide)) (by rfl) T.g_law_draw T.F_law_draw.kp T.b_law_draw (da_cons (de_var 0) (da_cons de_int da_nil))).s de_int).o)))
  (dss_cons (ds_if (dt_eq hr.units (de_var 10) de_int) (dss_one (ds_set (i := 11) sc_law_any_list.nd rfl (.inl rfl) (do_sorted (by rfl) T.z_sorted (dp_var 11)).s.o)) dss_nil)
  (dss_cons (ds_set (i := 12) sc_law_any_list.nd rfl (.inl rfl) de_int.o)
  (dss_cons (ds_set (i := 13) sc_law_any_list.nd rfl (.inl rfl) de_int.o)
  (dss_cons (ds_for rfl PassesOwn.never (di_range1 (by rfl) T.z_range (de_len (by rfl) T.z_len (dp_var 1))) (dg_name (i := 14) sc_law_any_list.nd rfl (.inl rfl))
  (dss_cons (ds_set (i := 12) sc_law_any_list.nd rfl (.inl rfl) (de_add (de_var 12) (de_mul (de_sub (de_mul (de_ix (de_ix (de_var 1) (de_var 14)) de_int) (de_ix (de_var 6) (de_var 14))) (de_mul (de_ix (de_var 2) (de_var 14)) (de_var 7))) (de_ix (de_var 11) (de_var 14)))).o)
  (dss_one (ds_if (dt_gt (de_var 14) de_int) (dss_one (ds_set (i := 13) sc_law_any_list.nd rfl (.inl rfl) (de_add (de_var 13) (de_mul (de_ix (de_var 8) (de_var 14)) (de_sub (de_ix (de_var 11) (de_var 14)) (de_ix (de_var 11) (de_sub (de_var 14) de_int))))).o)) dss_nil))))
  (dss_one (ds_if (dw_or (dt_ne hr.units (de_mul (de_var 12) (de_var 9)) (de_mul (de_mul (de_var 13) (de_var 5)) (de_var 7))) (dw_or1 (dw_and (dt_eq hr.units (de_var 10) de_int) (dw_and1 (dt_lt (de_var 12) de_int))).t)).t (dss_one (ds_ret de_bl.o)) dss_nil))))))))
  (dss_one (ds_ret de_bl.o))))))
theorem ok_law_gcd {P : Program} {w : World} {K : Fg} {mg : Str → Option Value} {base : Heap} (T : Txt K mg) : FnOk P w K mg base CX0 1 T.a_law_gcd T.d_law_gcd ["a", "b"] (spD K 2 F_law_gcd) :=
  fn_ok T.F_law_gcd sc_law_gcd fun cdv A outer s H E hr =>
  (dss_cons (ds_set (i := 0) sc_law_gcd.nd rfl (.inl rfl) (de_callB call_abs rl_abs (by rfl) T.z_abs PyProof.Rows.boot_abs (da_cons (de_var 0) da_nil)).o)
  (dss_cons (ds_set (i := 1) sc_law_gcd.nd rfl (.inl rfl) (de_callB call_abs rl_abs (by rfl) T.z_abs PyProof.Rows.boot_abs (da_cons (de_var 1) da_nil)).o)
  (dss_cons (ds_for rfl PassesOwn.never (di_range1 (by rfl) T.z_range de_int) (dg_name (i := 2) sc_law_gcd.nd rfl (.inl rfl))
  (dss_cons (ds_if (dt_eq hr.units (de_var 1) de_int) (dss_one ds_break) dss_nil)
  (dss_cons (ds_set (i := 3) sc_law_gcd.nd rfl (.inl rfl) (de_mod (de_callTy call_int1 rl_int (by rfl) T.z_int PyProof.Rows.boot_int (da_cons (de_var 0) da_nil)) (de_var 1)).o)
  (dss_cons (ds_set (i := 0) sc_law_gcd.nd rfl (.inl rfl) (de_var 1).o)
  (dss_one (ds_set (i := 1) sc_law_gcd.nd rfl (.inl rfl) (de_var 3).o))))))
  (dss_one (ds_ret (de_var 0).o)))))
theorem ok_law_is_integer {P : Program} {w : World} {K : Fg} {mg : Str → Option Value} {base : Heap} (T : Txt K mg) : FnOk P w K mg base CX0 1 T.a_law_is_integer T.d_law_is_integer ["actual"] (spD K 1 F_law_is_integer) :=
  fn_ok T.F_law_is_integer sc_law_is_integer fun cdv A outer s H E hr =>
  (dss_one (ds_ret (de_and (de_isi (by rfl) T.z_isinstance (dp_var 0) (by rfl) T.z_int PyProof.Rows.boot_int) (de_one (de_not (de_isi (by rfl) T.z_isinstance (dp_var 0) (by rfl) T.z_bool PyProof.Rows.boot_bool)))).o))
theorem ok_law_same {P : Program} {w : World} {K : Fg} {mg : Str → Option Value} {base : Heap} (T : Txt K mg) : FnOk P w K mg base CX0 2 T.a_law_same T.d_law_same ["actual", "n", "d"] (spD K 3 F_law_same) :=
  fn_ok T.F_law_same sc_law_same fun cdv A outer s H E hr =>
  (dss_cons (ds_if (dw_or (dt_not (dt_val (de_isi (by rfl) T.z_isinstance (dp_var 0) (by rfl) T.z_tuple PyProof.Rows.boot_tuple))) (dw_or1 (dt_ne hr.units (de_len (by rfl) T.z_len (dp_var 0)) de_int))).t (dss_one (ds_ret de_bl.o)) dss_nil)
  (dss_cons (ds_if (dw_or (dt_not (dt_val (do_call (ok_law_is_integer T) fnF_ar (hr.mono (by decide)) (by rfl) T.g_law_is_integer T.F_law_is_integer.kp T.b_law_is_integer (da_cons (de_ix (de_var 0) de_int) da_nil)).s)) (dw_or1 (dt_not (dt_val (do_call (ok_law_is_integer T) fnF_ar (hr.mono (by decide)) (by rfl) T.g_law_is_integer T.F_law_is_integer.kp T.b_law_is_integer (da_cons (de_ix (de_var 0) de_int) da_nil)).s)))).t (dss_one (ds_ret de_bl.o)) dss_nil)
  (dss_cons (ds_if (dw_or (dt_lt (de_ix (de_var 0) de_int) de_int) (dw_or1 (dt_ne hr.units (do_call (ok_law_gcd T) fnF_ar (hr.mono (by decide)) (by rfl) T.g_law_gcd T.F_law_gcd.kp T.b_law_gcd (da_cons (de_ix (de_var 0) de_int) (da_cons (de_ix (de_var 0) de_int) da_nil))).s de_int))).t (dss_one (ds_ret de_bl.o)) dss_nil)
  (dss_one (ds_ret (de_eq hr.units (de_mul (de_ix (de_var 0) de_int) (de_var 2)) (de_mul (de_var 1) (de_ix (de_var 0) de_int))).o)))))
theorem ok_law_is_list {P : Program} {w : World} {K : Fg} {mg : Str → Option Value} {base : Heap} (T : Txt K mg) : FnOk P w K mg base CX0 3 T.a_law_is_list T.d_law_is_list ["actual", "size"] (spD K 2 F_law_is_list) :=
  fn_ok T.F_law_is_list sc_law_is_list fun cdv A outer s H E hr =>
  (dss_cons (ds_if (dw_or (dt_not (dt_val (de_isi (by rfl) T.z_isinstance (dp_var 0) (by rfl) T.z_list PyProof.Rows.boot_list))) (dw_or1 (dt_ne hr.units (de_len (by rfl) T.z_len (dp_var 0)) (de_var 1)))).t (dss_one (ds_ret de_bl.o)) dss_nil)
  (dss_cons (ds_for rfl PassesOwn.never (di_seq (de_var 0)) (dg_name (i := 2) sc_law_is_list.nd rfl (.inl rfl))
  (dss_one (ds_if (dw_or (dt_not (dt_val (de_isi (by rfl) T.z_isinstance (dp_var 2) (by rfl) T.z_tuple PyProof.Rows.boot_tuple))) (dw_or (dt_ne hr.units (de_len (by rfl) T.z_len (dp_var 2)) de_int) (dw_or1 (dt_not (dt_val (do_call (ok_law_same T) fnF_ar (hr.mono (by decide)) (by rfl) T.g_law_same T.F_law_same.kp T.b_law_same (da_cons (de_var 2) (da_cons (de_ix (de_var 2) de_int) (da_cons (de_ix (de_var 2) de_int) da_nil)))).s))))).t (dss_one (ds_ret de_bl.o)) dss_nil)))
  (dss_one (ds_ret de_bl.o))))
theorem ok_ratio {P : Program} {w : World} {K : Fg} {mg : Str → Option Value} {base : Heap} (T : Txt K mg) : FnOk P w K mg base CX0 1 T.a_ratio T.d_ratio ["n", "d"] (spD K 2 F_ratio) :=
  fn_ok T.F_ratio sc_ratio fun cdv A outer s H E hr =>
  (dss_cons (ds_if (dt_lt (de_var 1) de_int) (dss_cons (ds_set (i := 0) sc_ratio.nd rfl (.inl rfl) (de_neg (de_var 0)).o)
  (dss_one (ds_set (i := 1) sc_ratio.nd rfl (.inl rfl) (de_neg (de_var 1)).o))) dss_nil)
  (dss_cons (ds_set (i := 2) sc_ratio.nd rfl (.inl rfl) (de_callBfun cr_gcd rl_gcd (by rfl) T.z_gcd (da_cons (de_var 0) (da_cons (de_var 1) da_nil))).o)
  (dss_one (ds_ret (de_tup (da_cons (de_div (de_var 0) (de_var 2)) (da_cons (de_div (de_var 1) (de_var 2)) da_nil))).o))))
theorem ok_Book_upper {P : Program} {w : World} {K : Fg} {mg : Str → Option Value} {base : Heap} (T : Txt K mg) : FnOk P w K mg base CX0 2 T.a_Book_upper T.d_Book_upper ["self", "buyer", "index"] (spD K 3 F_Book_upper) :=
  fn_ok T.F_Book_upper sc_Book_upper fun cdv A outer s H E hr =>
  (dss_one (ds_ret (do_call (ok_ratio T) fnF_ar (hr.mono (by decide)) (by rfl) T.g_ratio T.F_ratio.kp T.b_ratio (da_cons (do_call (ok_weight_of T) fnF_ar (hr.mono (by decide)) (by rfl) T.g_weight_of T.F_weight_of.kp T.b_weight_of (da_cons (do_slice (de_ix (de_fld (ns := ns_Book) 0 (dp_var 0) T.cl_Book T.n_Book_buyers nd_Book) (de_var 1)).p (dpt_some (de_var 2)) dpt_none).s da_nil)).s (da_cons (de_ix (de_fld (ns := ns_Book) 4 (dp_var 0) T.cl_Book T.n_Book_weights nd_Book) (de_var 1)) da_nil)))))
theorem ok_Book_worth {P : Program} {w : World} {K : Fg} {mg : Str → Option Value} {base : Heap} (T : Txt K mg) : FnOk P w K mg base CX0 1 T.a_Book_worth T.d_Book_worth ["self", "buyer", "index"] (spD K 3 F_Book_worth) :=
  fn_ok T.F_Book_worth sc_Book_worth fun cdv A outer s H E hr =>
  (dss_one (ds_ret (de_ix (de_ix (de_ix (de_fld (ns := ns_Book) 0 (dp_var 0) T.cl_Book T.n_Book_buyers nd_Book) (de_var 1)) (de_var 2)) de_int).o))
theorem ok_mul {P : Program} {w : World} {K : Fg} {mg : Str → Option Value} {base : Heap} (T : Txt K mg) : FnOk P w K mg base CX0 2 T.a_mul T.d_mul ["a", "b"] (spD K 2 F_mul) :=
  fn_ok T.F_mul sc_mul fun cdv A outer s H E hr =>
  (dss_one (ds_ret (do_call (ok_ratio T) fnF_ar (hr.mono (by decide)) (by rfl) T.g_ratio T.F_ratio.kp T.b_ratio (da_cons (de_mul (de_ix (de_var 0) de_int) (de_ix (de_var 1) de_int)) (da_cons (de_mul (de_ix (de_var 0) de_int) (de_ix (de_var 1) de_int)) da_nil)))))
theorem ok_curve {P : Program} {w : World} {K : Fg} {mg : Str → Option Value} {base : Heap} (T : Txt K mg) : FnOk P w K mg base CX0 3 T.a_curve T.d_curve ["book", "buyer"] (spD K 2 F_curve) :=
  fn_ok T.F_curve sc_curve fun cdv A outer s H E hr =>
  (dss_cons (ds_set (i := 2) sc_curve.nd rfl (.inl rfl) (do_lst (dao_cons (de_tup (da_cons (de_glob (by rfl) T.g_ZERO (by exact rfl) T.r_ZERO) (da_cons (de_glob (by rfl) T.g_ZERO (by exact rfl) T.r_ZERO) da_nil))).o dao_nil)))
  (dss_cons (ds_for rfl PassesOwn.never (di_range3 (by rfl) T.z_range (de_sub (de_ix (de_fld (ns := ns_Book) 2 (dp_var 0) T.cl_Book T.n_Book_counts nd_Book) (de_var 1)) de_int) (de_neg de_int) (de_neg de_int)) (dg_name (i := 3) sc_curve.nd rfl (.inl rfl))
  (dss_cons (ds_set (i := 4) sc_curve.nd rfl (.inl rfl) (do_meth (de_var 0) T.cl_Book T.m_Book_upper (ok_Book_upper T) fnF_ar (hr.mono (by decide)) T.b_Book_upper no_Book_upper (da_cons (de_var 1) (da_cons (de_var 3) da_nil))).s.o)
  (dss_one (ds_append 2 (de_tup (da_cons (de_var 4) (da_cons (do_call (ok_mul T) fnF_ar (hr.mono (by decide)) (by rfl) T.g_mul T.F_mul.kp T.b_mul (da_cons (de_var 4) (da_cons (de_tup (da_cons (do_meth (de_var 0) T.cl_Book T.m_Book_worth (ok_Book_worth T) fnF_ar (hr.mono (by decide)) T.b_Book_worth no_Book_worth (da_cons (de_var 1) (da_cons (de_var 3) da_nil))).s (da_cons de_int da_nil))) da_nil))).s da_nil))).o))))
  (dss_one (ds_retv 2))))
theorem ok_is_above {P : Program} {w : World} {K : Fg} {mg : Str → Option Value} {base : Heap} (T : Txt K mg) : FnOk P w K mg base CX0 1 T.a_is_above T.d_is_above ["xs", "ys", "start", "middle", "end"] (spD K 5 F_is_above) :=
  fn_ok T.F_is_above sc_is_above fun cdv A outer s H E hr =>
  (dss_cons (ds_set (i := 5) sc_is_above.nd rfl (.inl rfl) (de_mul (de_sub (de_ix (de_var 1) (de_var 3)) (de_ix (de_var 1) (de_var 2))) (de_sub (de_ix (de_var 0) (de_var 4)) (de_ix (de_var 0) (de_var 2)))).o)
  (dss_one (ds_ret (de_gt (de_var 5) (de_mul (de_sub (de_ix (de_var 1) (de_var 4)) (de_ix (de_var 1) (de_var 2))) (de_sub (de_ix (de_var 0) (de_var 3)) (de_ix (de_var 0) (de_var 2))))).o)))
theorem ok_hull_places {P : Program} {w : World} {K : Fg} {mg : Str → Option Value} {base : Heap} (T : Txt K mg) : FnOk P w K mg base CX0 2 T.a_hull_places T.d_hull_places ["xs", "ys"] (spD K 2 F_hull_places) :=
  fn_ok T.F_hull_places sc_hull_places fun cdv A outer s H E hr =>
  (dss_cons (ds_set (i := 2) sc_hull_places.nd rfl (.inl rfl) (do_lst dao_nil))
  (dss_cons (ds_for rfl PassesOwn.never (di_range1 (by rfl) T.z_range (de_len (by rfl) T.z_len (dp_var 0))) (dg_name (i := 3) sc_hull_places.nd rfl (.inl rfl))
  (dss_cons (ds_while PassesOwn.never (dw_and (dt_gt (de_len (by rfl) T.z_len (dp_var 2)) de_int) (dw_and1 (dt_not (dt_val (do_call (ok_is_above T) fnF_ar (hr.mono (by decide)) (by rfl) T.g_is_above T.F_is_above.kp T.b_is_above (da_cons (de_var 0) (da_cons (de_var 1) (da_cons (dp_ix (dp_var 2) (de_neg de_int)).s (da_cons (dp_ix (dp_var 2) (de_neg de_int)).s (da_cons (de_var 3) da_nil)))))).s)))).t
  (dss_one (ds_pop 2)))
  (dss_one (ds_append 2 (de_var 3).o))))
  (dss_one (ds_retv 2))))
theorem ok_scaled {P : Program} {w : World} {K : Fg} {mg : Str → Option Value} {base : Heap} (T : Txt K mg) : FnOk P w K mg base CX0 1 T.a_scaled T.d_scaled ["fractions"] (spD K 1 F_scaled) :=
  fn_ok T.F_scaled sc_scaled fun cdv A outer s H E hr =>
  (dss_cons (ds_set (i := 1) sc_scaled.nd rfl (.inr rfl) de_int.o)
  (dss_cons (ds_for rfl PassesOwn.never (di_seq (de_var 0)) (dg_name (i := 2) sc_scaled.nd rfl (.inl rfl))
  (dss_one (ds_set (i := 1) sc_scaled.nd rfl (.inr rfl) (de_callBfun cr_lcm rl_lcm (by rfl) T.z_lcm (da_cons (de_var 1) (da_cons (de_ix (de_var 2) de_int) da_nil))).o)))
  (dss_one (ds_ret (de_tup (da_cons (do_lc (own := [("fraction", 2)]) rfl sc_scaled.nd (di_seq (de_var 0)) (blkOk_by (N := ["fractions", "common", "fraction"]) (sc := defScope s_scaled) (by decide +kernel)) (fun _ _ _ _ _ => (pg_name (i := 2) sc_scaled.nd rfl (by first | exact Or.inl rfl | exact Or.inr rfl))) (dgw_name (by decide)) (fun _ _ _ _ _ => dts_nil) (fun _ _ _ _ _ => (de_mul (de_ix (de_var 2) de_int) (de_div (de_var 1) (de_ix (de_var 2) de_int))).o)).s (da_cons (de_var 1) da_nil))).o))))
theorem ok_upper_heights {P : Program} {w : World} {K : Fg} {mg : Str → Option Value} {base : Heap} (T : Txt K mg) : FnOk P w K mg base CX0 3 T.a_upper_heights T.d_upper_heights ["points"] (spD K 1 F_upper_heights) :=
  fn_ok T.F_upper_heights sc_upper_heights fun cdv A outer s H E hr =>
  (dss_cons (ds_set (i := 1) sc_upper_heights.nd rfl (.inl rfl) (de_ix (do_call (ok_scaled T) fnF_ar (hr.mono (by decide)) (by rfl) T.g_scaled T.F_scaled.kp T.b_scaled (da_cons (do_lc (own := [("point", 11)]) rfl sc_upper_heights.nd (di_seq (de_var 0)) (blkOk_by (N := ["points", "xs", "ys", "common", "kept", "heights", "start", "end", "wide", "rise", "at", "point"]) (sc := defScope s_upper_heights) (by decide +kernel)) (fun _ _ _ _ _ => (pg_name (i := 11) sc_upper_heights.nd rfl (by first | exact Or.inl rfl | exact Or.inr rfl))) (dgw_name (by decide)) (fun _ _ _ _ _ => dts_nil) (fun _ _ _ _ _ => (de_ix (de_var 11) de_int).o)).s da_nil)).s de_int).o)
  (dss_cons (ds_asg (do_call (ok_scaled T) fnF_ar (hr.mono (by decide)) (by rfl) T.g_scaled T.F_scaled.kp T.b_scaled (da_cons (do_lc (own := [("point", 11)]) rfl sc_upper_heights.nd (di_seq (de_var 0)) (blkOk_by (N := ["points", "xs", "ys", "common", "kept", "heights", "start", "end", "wide", "rise", "at", "point"]) (sc := defScope s_upper_heights) (by decide +kernel)) (fun _ _ _ _ _ => (pg_name (i := 11) sc_upper_heights.nd rfl (by first | exact Or.inl rfl | exact Or.inr rfl))) (dgw_name (by decide)) (fun _ _ _ _ _ => dts_nil) (fun _ _ _ _ _ => (de_ix (de_var 11) de_int).o)).s da_nil)).s.o (dg_tup rfl (dgl_cons (dg_name (i := 2) sc_upper_heights.nd rfl (.inl rfl)) (dgl_cons (dg_name (i := 3) sc_upper_heights.nd rfl (.inl rfl)) dgl_nil))))
  (dss_cons (ds_set (i := 4) sc_upper_heights.nd rfl (.inl rfl) (do_call (ok_hull_places T) fnF_ar (hr.mono (by decide)) (by rfl) T.g_hull_places T.F_hull_places.kp T.b_hull_places (da_cons (de_var 1) (da_cons (de_var 2) da_nil))).s.o)
  (dss_cons (ds_set (i := 5) sc_upper_heights.nd rfl (.inl rfl) (do_lst (dao_cons (de_ix (de_ix (de_var 0) de_int) de_int).o dao_nil)))
  (dss_cons (ds_for rfl PassesOwn.never (di_zip (by rfl) T.z_zip (de_var 4) (do_slice (dp_var 4) (dpt_some de_int) dpt_none).s) (dg_tup rfl (dgl_cons (dg_name (i := 6) sc_upper_heights.nd rfl (.inl rfl)) (dgl_cons (dg_name (i := 7) sc_upper_heights.nd rfl (.inl rfl)) dgl_nil)))
  (dss_cons (ds_set (i := 8) sc_upper_heights.nd rfl (.inl rfl) (de_sub (de_ix (de_var 1) (de_var 7)) (de_ix (de_var 1) (de_var 6))).o)
  (dss_cons (ds_set (i := 9) sc_upper_heights.nd rfl (.inl rfl) (de_sub (de_ix (de_var 2) (de_var 7)) (de_ix (de_var 2) (de_var 6))).o)
  (dss_one (ds_for rfl PassesOwn.never (di_range2 (by rfl) T.z_range (de_add (de_var 6) de_int) (de_add (de_var 7) de_int)) (dg_name (i := 10) sc_upper_heights.nd rfl (.inl rfl))
  (dss_one (ds_append 5 (do_call (ok_ratio T) fnF_ar (hr.mono (by decide)) (by rfl) T.g_ratio T.F_ratio.kp T.b_ratio (da_cons (de_add (de_mul (de_ix (de_var 2) (de_var 6)) (de_var 8)) (de_mul (de_var 9) (de_sub (de_ix (de_var 1) (de_var 10)) (de_ix (de_var 1) (de_var 6))))) (da_cons (de_mul (de_var 8) (de_var 3)) da_nil))))))))))
  (dss_one (ds_retv 5)))))))
theorem ok_law_curve_right {P : Program} {w : World} {K : Fg} {mg : Str → Option Value} {base : Heap} (T : Txt K mg) : FnOk P w K mg base CX0 4 T.a_law_curve_right T.d_law_curve_right ["book", "buyer", "pairs", "tops", "under"] (spD K 5 F_law_curve_right) :=
  fn_ok T.F_law_curve_right sc_law_curve_right fun cdv A outer s H E hr =>
  (dss_cons (ds_set (i := 5) sc_law_curve_right.nd rfl (.inl rfl) (do_call (ok_curve T) fnF_ar (hr.mono (by decide)) (by rfl) T.g_curve T.F_curve.kp T.b_curve (da_cons (de_var 0) (da_cons (de_var 1) da_nil))).s.o)
  (dss_cons (ds_set (i := 6) sc_law_curve_right.nd rfl (.inl rfl) (do_call (ok_upper_heights T) fnF_ar (hr.mono (by decide)) (by rfl) T.g_upper_heights T.F_upper_heights.kp T.b_upper_heights (da_cons (de_var 5) da_nil)).s.o)
  (dss_cons (ds_set (i := 7) sc_law_curve_right.nd rfl (.inl rfl) (de_sum rfl (by rfl) T.z_sum (do_lc (own := [("pair", 12)]) rfl sc_law_curve_right.nd (di_seq (de_var 2)) (blkOk_by (N := ["book", "buyer", "pairs", "tops", "under", "points", "heights", "whole", "above", "k", "j", "point", "pair"]) (sc := defScope s_law_curve_right) (by decide +kernel)) (fun _ _ _ _ _ => (pg_name (i := 12) sc_law_curve_right.nd rfl (by first | exact Or.inl rfl | exact Or.inr rfl))) (dgw_name (by decide)) (fun _ _ _ _ _ => dts_nil) (fun _ _ _ _ _ => (de_ix (de_var 12) de_int).o)).s.p).o)
  (dss_cons (ds_if (dw_or (dt_not (dt_val (de_isi (by rfl) T.z_isinstance (dp_var 5) (by rfl) T.z_list PyProof.Rows.boot_list))) (dw_or (dt_ne hr.units (de_len (by rfl) T.z_len (dp_var 5)) (de_add (de_len (by rfl) T.z_len (dp_var 2)) de_int)) (dw_or1 (dt_not (dt_val (do_call (ok_law_is_list T) fnF_ar (hr.mono (by decide)) (by rfl) T.g_law_is_list T.F_law_is_list.kp T.b_law_is_list (da_cons (de_var 6) (da_cons (de_len (by rfl) T.z_len (dp_var 5)) da_nil))).s))))).t (dss_one (ds_ret de_bl.o)) dss_nil)
  (dss_cons (ds_if (dw_or (dt_not (dt_val (de_isi (by rfl) T.z_isinstance (de_ix (de_var 5) de_int).p (by rfl) T.z_tuple PyProof.Rows.boot_tuple))) (dw_or (dt_ne hr.units (de_len (by rfl) T.z_len (de_ix (de_var 5) de_int).p) de_int) (dw_or1 (dt_not (dt_val (do_call (ok_law_same T) fnF_ar (hr.mono (by decide)) (by rfl) T.g_law_same T.F_law_same.kp T.b_law_same (da_cons (de_ix (de_var 6) de_int) (da_cons de_int (da_cons de_int da_nil)))).s))))).t (dss_one (ds_ret de_bl.o)) dss_nil)
  (dss_cons (ds_if (dw_or (dt_not (dt_val (do_call (ok_law_same T) fnF_ar (hr.mono (by decide)) (by rfl) T.g_law_same T.F_law_same.kp T.b_law_same (da_cons (de_ix (de_ix (de_var 5) de_int) de_int) (da_cons de_int (da_cons de_int da_nil)))).s)) (dw_or1 (dt_not (dt_val (do_call (ok_law_same T) fnF_ar (hr.mono (by decide)) (by rfl) T.g_law_same T.F_law_same.kp T.b_law_same (da_cons (de_ix (de_ix (de_var 5) de_int) de_int) (da_cons de_int (da_cons de_int da_nil)))).s)))).t (dss_one (ds_ret de_bl.o)) dss_nil)
  (dss_cons (ds_set (i := 8) sc_law_curve_right.nd rfl (.inl rfl) de_int.o)
  (dss_cons (ds_for rfl PassesOwn.never (di_range1 (by rfl) T.z_range (de_len (by rfl) T.z_len (dp_var 2))) (dg_name (i := 9) sc_law_curve_right.nd rfl (.inl rfl))
  (dss_cons (ds_set (i := 10) sc_law_curve_right.nd rfl (.inl rfl) (de_sub (de_sub (de_len (by rfl) T.z_len (dp_var 2)) de_int) (de_var 9)).o)
  (dss_cons (ds_set (i := 8) sc_law_curve_right.nd rfl (.inl rfl) (de_add (de_var 8) (de_ix (de_ix (de_var 2) (de_var 10)) de_int)).o)
  (dss_cons (ds_set (i := 11) sc_law_curve_right.nd rfl (.inl rfl) (de_ix (de_var 5) (de_add (de_var 9) de_int)).o)
  (dss_cons (ds_if (dw_or (dt_not (dt_val (de_isi (by rfl) T.z_isinstance (dp_var 11) (by rfl) T.z_tuple PyProof.Rows.boot_tuple))) (dw_or (dt_ne hr.units (de_len (by rfl) T.z_len (dp_var 11)) de_int) (dw_or1 (dt_not (dt_val (do_call (ok_law_same T) fnF_ar (hr.mono (by decide)) (by rfl) T.g_law_same T.F_law_same.kp T.b_law_same (da_cons (de_ix (de_var 11) de_int) (da_cons (de_var 8) (da_cons (de_var 7) da_nil)))).s))))).t (dss_one (ds_ret de_bl.o)) dss_nil)
  (dss_cons (ds_if (dt_not (dt_val (do_call (ok_law_same T) fnF_ar (hr.mono (by decide)) (by rfl) T.g_law_same T.F_law_same.kp T.b_law_same (da_cons (de_ix (de_var 11) de_int) (da_cons (de_mul (de_var 8) (de_ix (de_ix (de_var 2) (de_var 10)) de_int)) (da_cons (de_var 7) da_nil)))).s)) (dss_one (ds_ret de_bl.o)) dss_nil)
  (dss_one (ds_if (dt_not (dt_val (do_call (ok_law_same T) fnF_ar (hr.mono (by decide)) (by rfl) T.g_law_same T.F_law_same.kp T.b_law_same (da_cons (de_ix (de_var 6) (de_add (de_var 9) de_int)) (da_cons (de_add (de_mul (de_mul (de_var 8) (de_ix (de_ix (de_var 2) (de_var 10)) de_int)) (de_var 4)) (de_mul (de_ix (de_var 3) (de_var 10)) (de_var 7))) (da_cons (de_mul (de_var 7) (de_var 4)) da_nil)))).s)) (dss_one (ds_ret de_bl.o)) dss_nil))))))))
  (dss_one (ds_ret de_bl.o))))))))))
theorem ok_law_never_falls {P : Program} {w : World} {K : Fg} {mg : Str → Option Value} {base : Heap} (T : Txt K mg) : FnOk P w K mg base CX0 1 T.a_law_never_falls T.d_law_never_falls ["pairs", "seller"] (spD K 2 F_law_never_falls) :=
  fn_ok T.F_law_never_falls sc_law_never_falls fun cdv A outer s H E hr =>
  (dss_cons (ds_for rfl PassesOwn.never (di_range1 (by rfl) T.z_range (de_sub (de_len (by rfl) T.z_len (dp_var 0)) de_int)) (dg_name (i := 2) sc_law_never_falls.nd rfl (.inl rfl))
  (dss_one (ds_if (dt_gt (de_mul (de_ix (de_var 1) (de_var 2)) (de_ix (de_ix (de_var 0) (de_add (de_var 2) de_int)) de_int)) (de_mul (de_ix (de_var 1) (de_add (de_var 2) de_int)) (de_ix (de_ix (de_var 0) (de_var 2)) de_int))) (dss_one (ds_ret de_bl.o)) dss_nil)))
  (dss_one (ds_ret de_bl.o)))
theorem ok_law_paired {P : Program} {w : World} {K : Fg} {mg : Str → Option Value} {base : Heap} (T : Txt K mg) : FnOk P w K mg base CX0 1 T.a_law_paired T.d_law_paired ["pairs", "seller", "evened", "heights"] (spD K 4 F_law_paired) :=
  fn_ok T.F_law_paired sc_law_paired fun cdv A outer s H E hr =>
  (dss_cons (ds_set (i := 4) sc_law_paired.nd rfl (.inl rfl) (de_sum rfl (by rfl) T.z_sum (do_lc (own := [("pair", 12)]) rfl sc_law_paired.nd (di_seq (de_var 0)) (blkOk_by (N := ["pairs", "seller", "evened", "heights", "whole", "rises", "common", "tops", "under", "j", "following", "gap", "pair"]) (sc := defScope s_law_paired) (by decide +kernel)) (fun _ _ _ _ _ => (pg_name (i := 12) sc_law_paired.nd rfl (by first | exact Or.inl rfl | exact Or.inr rfl))) (dgw_name (by decide)) (fun _ _ _ _ _ => dts_nil) (fun _ _ _ _ _ => (de_ix (de_var 12) de_int).o)).s.p).o)
  (dss_cons (ds_asg (de_var 2).o (dg_tup rfl (dgl_cons (dg_name (i := 5) sc_law_paired.nd rfl (.inl rfl)) (dgl_cons (dg_name (i := 6) sc_law_paired.nd rfl (.inl rfl)) dgl_nil))))
  (dss_cons (ds_asg (de_var 3).o (dg_tup rfl (dgl_cons (dg_name (i := 7) sc_law_paired.nd rfl (.inl rfl)) (dgl_cons (dg_name (i := 8) sc_law_paired.nd rfl (.inl rfl)) dgl_nil))))
  (dss_cons (ds_if (dt_ne hr.units (de_ix (de_var 7) de_int) de_int) (dss_one (ds_ret de_bl.o)) dss_nil)
  (dss_cons (ds_for rfl PassesOwn.never (di_range1 (by rfl) T.z_range (de_len (by rfl) T.z_len (dp_var 0))) (dg_name (i := 9) sc_law_paired.nd rfl (.inl rfl))
  (dss_cons (ds_set (i := 10) sc_law_paired.nd rfl (.inl rfl) de_int.o)
  (dss_cons (ds_if (dt_lt (de_add (de_var 9) de_int) (de_len (by rfl) T.z_len (dp_var 0))) (dss_one (ds_set (i := 10) sc_law_paired.nd rfl (.inl rfl) (de_ix (de_var 7) (de_add (de_var 9) de_int)).o)) dss_nil)
  (dss_cons (ds_set (i := 11) sc_law_paired.nd rfl (.inl rfl) (de_sub (de_mul (de_ix (de_ix (de_var 0) (de_var 9)) de_int) (de_ix (de_var 5) (de_var 9))) (de_mul (de_ix (de_var 1) (de_var 9)) (de_var 6))).o)
  (dss_cons (ds_if (dw_or (dt_lt (de_ix (de_var 7) (de_var 9)) de_int) (dw_or1 (dt_ne hr.units (de_mul (de_var 11) (de_var 8)) (de_mul (de_mul (de_sub (de_ix (de_var 7) (de_var 9)) (de_var 10)) (de_var 4)) (de_var 6))))).t (dss_one (ds_ret de_bl.o)) dss_nil)
  (dss_one (ds_if (dw_and (dt_gt (de_var 9) de_int) (dw_and1 (dw_or (dt_lt (de_ix (de_var 5) (de_var 9)) (de_ix (de_var 5) (de_sub (de_var 9) de_int))) (dw_or1 (dw_and (dt_gt (de_ix (de_var 7) (de_var 9)) de_int) (dw_and1 (dt_ne hr.units (de_ix (de_var 5) (de_var 9)) (de_ix (de_var 5) (de_sub (de_var 9) de_int))))).t)).t)).t (dss_one (ds_ret de_bl.o)) dss_nil)))))))
  (dss_one (ds_ret de_bl.o)))))))
theorem ok_law_scaled {P : Program} {w : World} {K : Fg} {mg : Str → Option Value} {base : Heap} (T : Txt K mg) : FnOk P w K mg base CX0 2 T.a_law_scaled T.d_law_scaled ["actual"] (spD K 1 F_law_scaled) :=
  fn_ok T.F_law_scaled sc_law_scaled fun cdv A outer s H E hr =>
  (dss_cons (ds_set (i := 1) sc_law_scaled.nd rfl (.inr rfl) de_int.o)
  (dss_cons (ds_for rfl PassesOwn.never (di_seq (de_var 0)) (dg_name (i := 2) sc_law_scaled.nd rfl (.inl rfl))
  (dss_one (ds_set (i := 1) sc_law_scaled.nd rfl (.inr rfl) (de_mul (de_div (de_var 1) (do_call (ok_law_gcd T) fnF_ar (hr.mono (by decide)) (by rfl) T.g_law_gcd T.F_law_gcd.kp T.b_law_gcd (da_cons (de_var 1) (da_cons (de_ix (de_var 2) de_int) da_nil))).s) (de_ix (de_var 2) de_int)).o)))
  (dss_one (ds_ret (do_tupO (dao_cons (do_lc (own := [("entry", 2)]) rfl sc_law_scaled.nd (di_seq (de_var 0)) (blkOk_by (N := ["actual", "common", "entry"]) (sc := defScope s_law_scaled) (by decide +kernel)) (fun _ _ _ _ _ => (pg_name (i := 2) sc_law_scaled.nd rfl (by first | exact Or.inl rfl | exact Or.inr rfl))) (dgw_name (by decide)) (fun _ _ _ _ _ => dts_nil) (fun _ _ _ _ _ => (de_mul (de_ix (de_var 2) de_int) (de_div (de_var 1) (de_ix (de_var 2) de_int))).o)) (dao_cons (de_var 1).o dao_nil)))))))
theorem ok_law_seller {P : Program} {w : World} {K : Fg} {mg : Str → Option Value} {base : Heap} (T : Txt K mg) : FnOk P w K mg base CX0 1 T.a_law_seller T.d_law_seller ["pairs"] (spD K 1 F_law_seller) :=
  fn_ok T.F_law_seller sc_law_seller fun cdv A outer s H E hr =>
  (dss_cons (ds_set (i := 1) sc_law_seller.nd rfl (.inl rfl) (do_lst dao_nil))
  (dss_cons (ds_set (i := 2) sc_law_seller.nd rfl (.inl rfl) (de_sum rfl (by rfl) T.z_sum (do_lc (own := [("pair", 5)]) rfl sc_law_seller.nd (di_seq (de_var 0)) (blkOk_by (N := ["pairs", "found", "above", "j", "cut", "pair"]) (sc := defScope s_law_seller) (by decide +kernel)) (fun _ _ _ _ _ => (pg_name (i := 5) sc_law_seller.nd rfl (by first | exact Or.inl rfl | exact Or.inr rfl))) (dgw_name (by decide)) (fun _ _ _ _ _ => dts_nil) (fun _ _ _ _ _ => (de_ix (de_var 5) de_int).o)).s.p).o)
  (dss_cons (ds_for rfl PassesOwn.never (di_range1 (by rfl) T.z_range (de_len (by rfl) T.z_len (dp_var 0))) (dg_name (i := 3) sc_law_seller.nd rfl (.inl rfl))
  (dss_cons (ds_set (i := 2) sc_law_seller.nd rfl (.inl rfl) (de_sub (de_var 2) (de_ix (de_ix (de_var 0) (de_var 3)) de_int)).o)
  (dss_cons (ds_set (i := 4) sc_law_seller.nd rfl (.inl rfl) de_int.o)
  (dss_cons (ds_if (dt_lt (de_add (de_var 3) de_int) (de_len (by rfl) T.z_len (dp_var 0))) (dss_one (ds_set (i := 4) sc_law_seller.nd rfl (.inl rfl) (de_mul (de_sub (de_ix (de_ix (de_var 0) (de_add (de_var 3) de_int)) de_int) (de_ix (de_ix (de_var 0) (de_var 3)) de_int)) (de_var 2)).o)) dss_nil)
  (dss_one (ds_append 1 (de_sub (de_mul (de_ix (de_ix (de_var 0) (de_var 3)) de_int) (de_ix (de_ix (de_var 0) (de_var 3)) de_int)) (de_var 4)).o))))))
  (dss_one (ds_retv 1)))))
theorem ok_div {P : Program} {w : World} {K : Fg} {mg : Str → Option Value} {base : Heap} (T : Txt K mg) : FnOk P w K mg base CX0 2 T.a_div T.d_div ["a", "b"] (spD K 2 F_div) :=
  fn_ok T.F_div sc_div fun cdv A outer s H E hr =>
  (dss_one (ds_ret (do_call (ok_ratio T) fnF_ar (hr.mono (by decide)) (by rfl) T.g_ratio T.F_ratio.kp T.b_ratio (da_cons (de_mul (de_ix (de_var 0) de_int) (de_ix (de_var 1) de_int)) (da_cons (de_mul (de_ix (de_var 0) de_int) (de_ix (de_var 1) de_int)) da_nil)))))
theorem ok_sub {P : Program} {w : World} {K : Fg} {mg : Str → Option Value} {base : Heap} (T : Txt K mg) : FnOk P w K mg base CX0 2 T.a_sub T.d_sub ["a", "b"] (spD K 2 F_sub) :=
  fn_ok T.F_sub sc_sub fun cdv A outer s H E hr =>
  (dss_one (ds_ret (do_call (ok_ratio T) fnF_ar (hr.mono (by decide)) (by rfl) T.g_ratio T.F_ratio.kp T.b_ratio (da_cons (de_sub (de_mul (de_ix (de_var 0) de_int) (de_ix (de_var 1) de_int)) (de_mul (de_ix (de_var 1) de_int) (de_ix (de_var 0) de_int))) (da_cons (de_mul (de_ix (de_var 0) de_int) (de_ix (de_var 1) de_int)) da_nil)))))
theorem ok_evened_worths {P : Program} {w : World} {K : Fg} {mg : Str → Option Value} {base : Heap} (T : Txt K mg) : FnOk P w K mg base CX0 4 T.a_evened_worths T.d_evened_worths ["book", "buyer"] (spD K 2 F_evened_worths) :=
  fn_ok T.F_evened_worths sc_evened_worths fun cdv A outer s H E hr =>
  (dss_cons (ds_set (i := 2) sc_evened_worths.nd rfl (.inl rfl) (do_call (ok_curve T) fnF_ar (hr.mono (by decide)) (by rfl) T.g_curve T.F_curve.kp T.b_curve (da_cons (de_var 0) (da_cons (de_var 1) da_nil))).s.o)
  (dss_cons (ds_set (i := 3) sc_evened_worths.nd rfl (.inl rfl) (do_call (ok_upper_heights T) fnF_ar (hr.mono (by decide)) (by rfl) T.g_upper_heights T.F_upper_heights.kp T.b_upper_heights (da_cons (de_var 2) da_nil)).s.o)
  (dss_cons (ds_set (i := 4) sc_evened_worths.nd rfl (.inl rfl) (do_lst dao_nil))
  (dss_cons (ds_for rfl PassesOwn.never (di_range3 (by rfl) T.z_range (de_sub (de_len (by rfl) T.z_len (dp_var 2)) de_int) de_int (de_neg de_int)) (dg_name (i := 5) sc_evened_worths.nd rfl (.inl rfl))
  (dss_cons (ds_set (i := 6) sc_evened_worths.nd rfl (.inl rfl) (do_call (ok_sub T) fnF_ar (hr.mono (by decide)) (by rfl) T.g_sub T.F_sub.kp T.b_sub (da_cons (de_ix (de_ix (de_var 2) (de_var 5)) de_int) (da_cons (de_ix (de_ix (de_var 2) (de_sub (de_var 5) de_int)) de_int) da_nil))).s.o)
  (dss_one (ds_append 4 (do_call (ok_div T) fnF_ar (hr.mono (by decide)) (by rfl) T.g_div T.F_div.kp T.b_div (da_cons (do_call (ok_sub T) fnF_ar (hr.mono (by decide)) (by rfl) T.g_sub T.F_sub.kp T.b_sub (da_cons (de_ix (de_var 3) (de_var 5)) (da_cons (de_ix (de_var 3) (de_sub (de_var 5) de_int)) da_nil))).s (da_cons (de_var 6) da_nil)))))))
  (dss_one (ds_retv 4))))))
theorem ok_lifts {P : Program} {w : World} {K : Fg} {mg : Str → Option Value} {base : Heap} (T : Txt K mg) : FnOk P w K mg base CX0 4 T.a_lifts T.d_lifts ["book", "buyer"] (spD K 2 F_lifts) :=
  fn_ok T.F_lifts sc_lifts fun cdv A outer s H E hr =>
  (dss_cons (ds_set (i := 2) sc_lifts.nd rfl (.inr rfl) (do_call (ok_curve T) fnF_ar (hr.mono (by decide)) (by rfl) T.g_curve T.F_curve.kp T.b_curve (da_cons (de_var 0) (da_cons (de_var 1) da_nil))).s.o)
  (dss_cons (ds_set (i := 3) sc_lifts.nd rfl (.inr rfl) (do_call (ok_upper_heights T) fnF_ar (hr.mono (by decide)) (by rfl) T.g_upper_heights T.F_upper_heights.kp T.b_upper_heights (da_cons (de_var 2) da_nil)).s.o)
  (dss_one (ds_ret (do_lc (own := [("at", 4)]) rfl sc_lifts.nd (di_range3 (by rfl) T.z_range (de_sub (de_len (by rfl) T.z_len (dp_var 2)) de_int) de_int (de_neg de_int)) (blkOk_by (N := ["book", "buyer", "points", "heights", "at"]) (sc := defScope s_lifts) (by decide +kernel)) (fun _ _ _ _ _ => (pg_name (i := 4) sc_lifts.nd rfl (by first | exact Or.inl rfl | exact Or.inr rfl))) (dgw_name (by decide)) (fun _ _ _ _ _ => dts_nil) (fun _ _ _ _ _ => (do_call (ok_sub T) fnF_ar (hr.mono (by decide)) (by rfl) T.g_sub T.F_sub.kp T.b_sub (da_cons (de_ix (de_var 3) (de_var 4)) (da_cons (de_ix (de_ix (de_var 2) (de_var 4)) de_int) da_nil)))))))))
theorem ok_Book_chance {P : Program} {w : World} {K : Fg} {mg : Str → Option Value} {base : Heap} (T : Txt K mg) : FnOk P w K mg base CX0 2 T.a_Book_chance T.d_Book_chance ["self", "buyer", "index"] (spD K 3 F_Book_chance) :=
  fn_ok T.F_Book_chance sc_Book_chance fun cdv A outer s H E hr =>
  (dss_one (ds_ret (do_call (ok_ratio T) fnF_ar (hr.mono (by decide)) (by rfl) T.g_ratio T.F_ratio.kp T.b_ratio (da_cons (de_ix (de_ix (de_ix (de_fld (ns := ns_Book) 0 (dp_var 0) T.cl_Book T.n_Book_buyers nd_Book) (de_var 1)) (de_var 2)) de_int) (da_cons (de_ix (de_fld (ns := ns_Book) 4 (dp_var 0) T.cl_Book T.n_Book_weights nd_Book) (de_var 1)) da_nil)))))
theorem ok_seller_worths {P : Program} {w : World} {K : Fg} {mg : Str → Option Value} {base : Heap} (T : Txt K mg) : FnOk P w K mg base CX0 3 T.a_seller_worths T.d_seller_worths ["book", "buyer"] (spD K 2 F_seller_worths) :=
  fn_ok T.F_seller_worths sc_seller_worths fun cdv A outer s H E hr =>
  (dss_cons (ds_set (i := 2) sc_seller_worths.nd rfl (.inl rfl) (do_lst dao_nil))
  (dss_cons (ds_set (i := 3) sc_seller_worths.nd rfl (.inl rfl) (de_sub (de_ix (de_fld (ns := ns_Book) 2 (dp_var 0) T.cl_Book T.n_Book_counts nd_Book) (de_var 1)) de_int).o)
  (dss_cons (ds_frz 2 (ds_for rfl PassesOwn.never (di_range1 (by rfl) T.z_range (de_var 3)) (dg_name (i := 4) sc_seller_worths.nd rfl (.inl rfl))
  (dss_cons (ds_set (i := 5) sc_seller_worths.nd rfl (.inl rfl) (do_meth (de_var 0) T.cl_Book T.m_Book_worth (ok_Book_worth T) fnF_ar (hr.mono (by decide)) T.b_Book_worth no_Book_worth (da_cons (de_var 1) (da_cons (de_var 4) da_nil))).s.o)
  (dss_cons (ds_set (i := 6) sc_seller_worths.nd rfl (.inl rfl) (de_tup (da_cons (de_sub (do_meth (de_var 0) T.cl_Book T.m_Book_worth (ok_Book_worth T) fnF_ar (hr.mono (by decide)) T.b_Book_worth no_Book_worth (da_cons (de_var 1) (da_cons (de_add (de_var 4) de_int) da_nil))).s (de_var 5)) (da_cons de_int da_nil))).o)
  (dss_cons (ds_set (i := 7) sc_seller_worths.nd rfl (.inl rfl) (do_call (ok_div T) fnF_ar (hr.mono (by decide)) (by rfl) T.g_div T.F_div.kp T.b_div (da_cons (do_meth (de_var 0) T.cl_Book T.m_Book_upper (ok_Book_upper T) fnF_ar (hr.mono (by decide)) T.b_Book_upper no_Book_upper (da_cons (de_var 1) (da_cons (de_add (de_var 4) de_int) da_nil))).s (da_cons (do_meth (de_var 0) T.cl_Book T.m_Book_chance (ok_Book_chance T) fnF_ar (hr.mono (by decide)) T.b_Book_chance no_Book_chance (da_cons (de_var 1) (da_cons (de_var 4) da_nil))).s da_nil))).s.o)
  (dss_one (ds_append 2 (do_call (ok_sub T) fnF_ar (hr.mono (by decide)) (by rfl) T.g_sub T.F_sub.kp T.b_sub (da_cons (de_tup (da_cons (de_var 5) (da_cons de_int da_nil))) (da_cons (do_call (ok_mul T) fnF_ar (hr.mono (by decide)) (by rfl) T.g_mul T.F_mul.kp T.b_mul (da_cons (de_var 6) (da_cons (de_var 7) da_nil))).s da_nil))))))))))
  (dss_one (ds_ret (do_cat (dp_var 2) (do_lst (dao_cons (de_tup (da_cons (do_meth (de_var 0) T.cl_Book T.m_Book_worth (ok_Book_worth T) fnF_ar (hr.mono (by decide)) T.b_Book_worth no_Book_worth (da_cons (de_var 1) (da_cons (de_var 3) da_nil))).s (da_cons de_int da_nil))).o dao_nil)).s.p))))))
theorem ok_law_buyer_right {P : Program} {w : World} {K : Fg} {mg : Str → Option Value} {base : Heap} (T : Txt K mg) : FnOk P w K mg base CX0 5 T.a_law_buyer_right T.d_law_buyer_right ["state", "book", "buyer", "pairs"] (spD K 4 F_law_buyer_right) :=
  fn_ok T.F_law_buyer_right sc_law_buyer_right fun cdv A outer s H E hr =>
  (dss_cons (ds_set (i := 4) sc_law_buyer_right.nd rfl (.inr rfl) (de_len (by rfl) T.z_len (dp_var 3)).o)
  (dss_cons (ds_set (i := 5) sc_law_buyer_right.nd rfl (.inl rfl) (do_lst (dao_cons (do_call (ok_seller_worths T) fnF_ar (hr.mono (by decide)) (by rfl) T.g_seller_worths T.F_seller_worths.kp T.b_seller_worths (da_cons (de_var 1) (da_cons (de_var 2) da_nil))) (dao_cons (do_call (ok_evened_worths T) fnF_ar (hr.mono (by decide)) (by rfl) T.g_evened_worths T.F_evened_worths.kp T.b_evened_worths (da_cons (de_var 1) (da_cons (de_var 2) da_nil))) (dao_cons (do_call (ok_lifts T) fnF_ar (hr.mono (by decide)) (by rfl) T.g_lifts T.F_lifts.kp T.b_lifts (da_cons (de_var 1) (da_cons (de_var 2) da_nil))) dao_nil)))))
  (dss_cons (ds_if (dt_lend 5 (dt_in (room65 hr) de_bl (do_lc (own := [("entries", 6)]) rfl sc_law_buyer_right.nd (di_seq (de_var 5)) (blkOk_by (N := ["state", "book", "buyer", "pairs", "size", "told", "entries", "seller", "j", "evened", "heights", "kept", "again"]) (sc := defScope s_law_buyer_right) (by decide +kernel)) (fun _ _ _ _ _ => (pg_name (i := 6) sc_law_buyer_right.nd rfl (by first | exact Or.inl rfl | exact Or.inr rfl))) (dgw_name (by decide)) (fun _ _ _ _ _ => dts_nil) (fun _ _ _ _ _ => (do_call (ok_law_is_list T) fnF_ar (hr.mono (by decide)) (by rfl) T.g_law_is_list T.F_law_is_list.kp T.b_law_is_list (da_cons (de_var 6) (da_cons (de_var 4) da_nil))))).s)) (dss_one (ds_ret de_bl.o)) dss_nil)
  (dss_cons (ds_set (i := 7) sc_law_buyer_right.nd rfl (.inl rfl) (do_call (ok_law_seller T) fnF_ar (hr.mono (by decide)) (by rfl) T.g_law_seller T.F_law_seller.kp T.b_law_seller (da_cons (de_var 3) da_nil)).s.o)
  (dss_cons (ds_for rfl PassesOwn.never (di_range1 (by rfl) T.z_range (de_var 4)) (dg_name (i := 8) sc_law_buyer_right.nd rfl (.inl rfl))
  (dss_one (ds_if (dt_not (dt_val (do_call (ok_law_same T) fnF_ar (hr.mono (by decide)) (by rfl) T.g_law_same T.F_law_same.kp T.b_law_same (da_cons (dp_ix (dp_ix (dp_var 5) de_int) (de_var 8)).s (da_cons (de_ix (de_var 7) (de_var 8)) (da_cons (de_ix (de_ix (de_var 3) (de_var 8)) de_int) da_nil)))).s)) (dss_one (ds_ret de_bl.o)) dss_nil)))
  (dss_cons (ds_frz 9 (ds_set (i := 9) sc_law_buyer_right.nd rfl (.inl rfl) (do_lend 5 (do_call (ok_law_scaled T) fnF_ar (hr.mono (by decide)) (by rfl) T.g_law_scaled T.F_law_scaled.kp T.b_law_scaled (da_cons (de_ix (de_var 5) de_int) da_nil)))))
  (dss_cons (ds_frz 10 (ds_set (i := 10) sc_law_buyer_right.nd rfl (.inl rfl) (do_lend 5 (do_call (ok_law_scaled T) fnF_ar (hr.mono (by decide)) (by rfl) T.g_law_scaled T.F_law_scaled.kp T.b_law_scaled (da_cons (de_ix (de_var 5) de_int) da_nil)))))
  (dss_cons (ds_if (dt_not (dt_val (do_call (ok_law_paired T) fnF_ar (hr.mono (by decide)) (by rfl) T.g_law_paired T.F_law_paired.kp T.b_law_paired (da_cons (de_var 3) (da_cons (de_var 7) (da_cons (de_var 9) (da_cons (de_var 10) da_nil))))).s)) (dss_one (ds_ret de_bl.o)) dss_nil)
  (dss_cons (ds_if (dt_not (dt_val (do_call (ok_law_any_list T) fnF_ar (hr.mono (by decide)) (by rfl) T.g_law_any_list T.F_law_any_list.kp T.b_law_any_list (da_cons (de_var 0) (da_cons (de_var 3) (da_cons (de_var 7) (da_cons (de_var 9) (da_cons (de_var 10) da_nil)))))).s)) (dss_one (ds_ret de_bl.o)) dss_nil)
  (dss_cons (ds_if (dt_ne hr.units (de_eq hr.units (de_maxL rfl (by rfl) T.z_max (de_ix (de_var 10) de_int).p) de_int) (do_call (ok_law_never_falls T) fnF_ar (hr.mono (by decide)) (by rfl) T.g_law_never_falls T.F_law_never_falls.kp T.b_law_never_falls (da_cons (de_var 3) (da_cons (de_var 7) da_nil))).s) (dss_one (ds_ret de_bl.o)) dss_nil)
  (dss_cons (ds_if (dt_not (dt_val (do_call (ok_law_curve_right T) fnF_ar (hr.mono (by decide)) (by rfl) T.g_law_curve_right T.F_law_curve_right.kp T.b_law_curve_right (da_cons (de_var 1) (da_cons (de_var 2) (da_cons (de_var 3) (da_cons (de_ix (de_var 10) de_int) (da_cons (de_ix (de_var 10) de_int) da_nil)))))).s)) (dss_one (ds_ret de_bl.o)) dss_nil)
  (dss_cons (ds_frz 11 (ds_setLcG (i := 11) (fun _ h => (h.lend 5)) (own := [("entries", 6)]) rfl sc_law_buyer_right.nd rfl rfl (sw_true rfl rfl rfl (by decide +kernel)) (di_seq (de_var 5)) (blkOk_by (N := ["state", "book", "buyer", "pairs", "size", "told", "entries", "seller", "j", "evened", "heights", "kept", "again"]) (sc := defScope s_law_buyer_right) (by decide +kernel)) (fun _ _ _ _ _ => (pg_name (i := 6) sc_law_buyer_right.nd rfl (by first | exact Or.inl rfl | exact Or.inr rfl))) (dgw_name (by decide)) (fun _ _ _ _ _ => dts_nil) (fun _ _ _ _ _ => (de_tuple (by rfl) T.z_tuple (dp_var 6)).o)))
  (dss_cons (ds_forA (i := 5) (j := 6) rfl PassesOwn.never sc_law_buyer_right.nd rfl (.inl rfl) (dal_seq (dal_append (de_tup (da_cons de_int (da_cons de_int da_nil))).o) (dal_one dal_reverse)))
  (dss_cons (ds_set (i := 12) sc_law_buyer_right.nd rfl (.inl rfl) (do_lst (dao_cons (do_call (ok_seller_worths T) fnF_ar (hr.mono (by decide)) (by rfl) T.g_seller_worths T.F_seller_worths.kp T.b_seller_worths (da_cons (de_var 1) (da_cons (de_var 2) da_nil))) (dao_cons (do_call (ok_evened_worths T) fnF_ar (hr.mono (by decide)) (by rfl) T.g_evened_worths T.F_evened_worths.kp T.b_evened_worths (da_cons (de_var 1) (da_cons (de_var 2) da_nil))) (dao_cons (do_call (ok_lifts T) fnF_ar (hr.mono (by decide)) (by rfl) T.g_lifts T.F_lifts.kp T.b_lifts (da_cons (de_var 1) (da_cons (de_var 2) da_nil))) dao_nil)))).s.o)
  (dss_one (ds_ret (de_eq hr.units (do_lc (own := [("entries", 6)]) rfl sc_law_buyer_right.nd (di_seq (de_var 12)) (blkOk_by (N := ["state", "book", "buyer", "pairs", "size", "told", "entries", "seller", "j", "evened", "heights", "kept", "again"]) (sc := defScope s_law_buyer_right) (by decide +kernel)) (fun _ _ _ _ _ => (pg_name (i := 6) sc_law_buyer_right.nd rfl (by first | exact Or.inl rfl | exact Or.inr rfl))) (dgw_name (by decide)) (fun _ _ _ _ _ => dts_nil) (fun _ _ _ _ _ => (de_tuple (by rfl) T.z_tuple (dp_var 6)).o)).s (de_var 11)).o))))))))))))))))
theorem ok_law_great {P : Program} {w : World} {K : Fg} {mg : Str → Option Value} {base : Heap} (T : Txt K mg) : FnOk P w K mg base CX0 2 T.a_law_great T.d_law_great ["state", "big"] (spD K 2 F_law_great) :=
  fn_ok T.F_law_great sc_law_great fun cdv A outer s H E hr =>
  (dss_cons (ds_if (dt_not (dt_val (de_var 1))) (dss_one (ds_ret (do_call (ok_law_draw T) drawF_ar (hr.mono (by decide)) (by rfl) T.g_law_draw T.F_law_draw.kp T.b_law_draw (da_cons (de_var 0) (da_cons de_int da_nil))))) dss_nil)
  (dss_cons (ds_set (i := 2) sc_law_great.nd rfl (.inl rfl) de_int.o)
  (dss_cons (ds_for rfl PassesOwn.never (di_range1 (by rfl) T.z_range de_int) (dg_name (i := 3) sc_law_great.nd rfl (.inl rfl))
  (dss_one (ds_set (i := 2) sc_law_great.nd rfl (.inl rfl) (de_add (de_mul (de_var 2) (de_pow de_int de_int)) (do_call (ok_law_draw T) drawF_ar (hr.mono (by decide)) (by rfl) T.g_law_draw T.F_law_draw.kp T.b_law_draw (da_cons (de_var 0) (da_cons (de_pow de_int de_int) da_nil))).s).o)))
  (dss_one (ds_ret (de_var 2).o)))))
theorem ok_law_crowd {P : Program} {w : World} {K : Fg} {mg : Str → Option Value} {base : Heap} (T : Txt K mg) : FnOk P w K mg base CX0 3 T.a_law_crowd T.d_law_crowd ["state"] (spD K 1 F_law_crowd) :=
  fn_ok T.F_law_crowd sc_law_crowd fun cdv A outer s H E hr =>
  (dss_cons (ds_set (i := 1) sc_law_crowd.nd rfl (.inl rfl) (do_slice (do_lst (dao_cons (de_add de_int (do_call (ok_law_draw T) drawF_ar (hr.mono (by decide)) (by rfl) T.g_law_draw T.F_law_draw.kp T.b_law_draw (da_cons (de_var 0) (da_cons de_int da_nil))).s).o (dao_cons (de_add de_int (do_call (ok_law_draw T) drawF_ar (hr.mono (by decide)) (by rfl) T.g_law_draw T.F_law_draw.kp T.b_law_draw (da_cons (de_var 0) (da_cons de_int da_nil))).s).o (dao_cons (de_add de_int (do_call (ok_law_draw T) drawF_ar (hr.mono (by decide)) (by rfl) T.g_law_draw T.F_law_draw.kp T.b_law_draw (da_cons (de_var 0) (da_cons de_int da_nil))).s).o dao_nil)))).s.p dpt_none (dpt_some (de_add de_int (do_call (ok_law_draw T) drawF_ar (hr.mono (by decide)) (by rfl) T.g_law_draw T.F_law_draw.kp T.b_law_draw (da_cons (de_var 0) (da_cons de_int da_nil))).s))).s.o)
  (dss_cons (ds_if (dt_eq hr.units (do_call (ok_law_draw T) drawF_ar (hr.mono (by decide)) (by rfl) T.g_law_draw T.F_law_draw.kp T.b_law_draw (da_cons (de_var 0) (da_cons de_int da_nil))).s de_int) (dss_one (ds_set (i := 1) sc_law_crowd.nd rfl (.inl rfl) (de_ix (do_lst (dao_cons (do_lst (dao_cons de_int.o (dao_cons de_int.o (dao_cons de_int.o (dao_cons de_int.o (dao_cons de_int.o (dao_cons de_int.o dao_nil))))))) (dao_cons (do_lst (dao_cons de_int.o (dao_cons de_int.o (dao_cons de_int.o (dao_cons de_int.o (dao_cons de_int.o (dao_cons de_int.o dao_nil))))))) (dao_cons (do_lst (dao_cons de_int.o (dao_cons de_int.o (dao_cons de_int.o (dao_cons de_int.o (dao_cons de_int.o (dao_cons de_int.o dao_nil))))))) dao_nil)))).s (do_call (ok_law_draw T) drawF_ar (hr.mono (by decide)) (by rfl) T.g_law_draw T.F_law_draw.kp T.b_law_draw (da_cons (de_var 0) (da_cons de_int da_nil))).s).o)) dss_nil)
  (dss_cons (ds_set (i := 2) sc_law_crowd.nd rfl (.inl rfl) (de_eq hr.units (do_call (ok_law_draw T) drawF_ar (hr.mono (by decide)) (by rfl) T.g_law_draw T.F_law_draw.kp T.b_law_draw (da_cons (de_var 0) (da_cons de_int da_nil))).s de_int).o)
  (dss_cons (ds_set (i := 3) sc_law_crowd.nd rfl (.inl rfl) (do_lst dao_nil))
  (dss_cons (ds_for rfl PassesOwn.never (di_seq (de_var 1)) (dg_name (i := 4) sc_law_crowd.nd rfl (.inl rfl))
  (dss_cons (ds_set (i := 5) sc_law_crowd.nd rfl (.inl rfl) (de_eq hr.units (do_call (ok_law_draw T) drawF_ar (hr.mono (by decide)) (by rfl) T.g_law_draw T.F_law_draw.kp T.b_law_draw (da_cons (de_var 0) (da_cons de_int da_nil))).s de_int).o)
  (dss_cons (ds_set (i := 6) sc_law_crowd.nd rfl (.inl rfl) (do_call (ok_law_draw T) drawF_ar (hr.mono (by decide)) (by rfl) T.g_law_draw T.F_law_draw.kp T.b_law_draw (da_cons (de_var 0) (da_cons de_int da_nil))).s.o)
  (dss_cons (ds_set (i := 7) sc_law_crowd.nd rfl (.inl rfl) (de_add de_int (do_call (ok_law_draw T) drawF_ar (hr.mono (by decide)) (by rfl) T.g_law_draw T.F_law_draw.kp T.b_law_draw (da_cons (de_var 0) (da_cons de_int da_nil))).s).o)
  (dss_cons (ds_set (i := 8) sc_law_crowd.nd rfl (.inl rfl) (de_add de_int (do_call (ok_law_draw T) drawF_ar (hr.mono (by decide)) (by rfl) T.g_law_draw T.F_law_draw.kp T.b_law_draw (da_cons (de_var 0) (da_cons de_int da_nil))).s).o)
  (dss_cons (ds_set (i := 9) sc_law_crowd.nd rfl (.inl rfl) (do_lst dao_nil))
  (dss_cons (ds_frz 9 (ds_for rfl PassesOwn.never (di_range1 (by rfl) T.z_range (de_var 4)) (dg_name (i := 10) sc_law_crowd.nd rfl (.inl rfl))
  (dss_cons (ds_if (dw_and (dt_val (de_var 2)) (dw_and1 (dt_not (dt_val (de_var 5))))).t (dss_cons (ds_set (i := 7) sc_law_crowd.nd rfl (.inl rfl) (de_add de_int (de_div (do_call (ok_law_great T) fnF_ar (hr.mono (by decide)) (by rfl) T.g_law_great T.F_law_great.kp T.b_law_great (da_cons (de_var 0) (da_cons de_bl da_nil))).s de_int)).o)
  (dss_one (ds_set (i := 8) sc_law_crowd.nd rfl (.inl rfl) (de_add de_int (de_div (do_call (ok_law_great T) fnF_ar (hr.mono (by decide)) (by rfl) T.g_law_great T.F_law_great.kp T.b_law_great (da_cons (de_var 0) (da_cons de_bl da_nil))).s de_int)).o))) (dss_one (ds_if (dt_not (dt_val (de_var 5))) (dss_cons (ds_set (i := 7) sc_law_crowd.nd rfl (.inl rfl) (de_add de_int (do_call (ok_law_draw T) drawF_ar (hr.mono (by decide)) (by rfl) T.g_law_draw T.F_law_draw.kp T.b_law_draw (da_cons (de_var 0) (da_cons de_int da_nil))).s).o)
  (dss_one (ds_set (i := 8) sc_law_crowd.nd rfl (.inl rfl) (de_add de_int (do_call (ok_law_draw T) drawF_ar (hr.mono (by decide)) (by rfl) T.g_law_draw T.F_law_draw.kp T.b_law_draw (da_cons (de_var 0) (da_cons de_int da_nil))).s).o))) dss_nil)))
  (dss_cons (ds_append 9 (de_tup (da_cons (de_var 6) (da_cons (de_var 7) da_nil))).o)
  (dss_one (ds_set (i := 6) sc_law_crowd.nd rfl (.inl rfl) (de_add (de_var 6) (de_var 8)).o))))))
  (dss_one (ds_append 3 (de_var 9).o)))))))))
  (dss_one (ds_retv 3)))))))
theorem ok_law_evened {P : Program} {w : World} {K : Fg} {mg : Str → Option Value} {base : Heap} (T : Txt K mg) : FnOk P w K mg base CX0 1 T.a_law_evened T.d_law_evened ["pairs"] (spD K 1 F_law_evened) :=
  fn_ok T.F_law_evened sc_law_evened fun cdv A outer s H E hr =>
  (dss_cons (ds_set (i := 1) sc_law_evened.nd rfl (.inl rfl) (do_lst dao_nil))
  (dss_cons (ds_set (i := 2) sc_law_evened.nd rfl (.inl rfl) (de_sum rfl (by rfl) T.z_sum (do_lc (own := [("pair", 10)]) rfl sc_law_evened.nd (di_seq (de_var 0)) (blkOk_by (N := ["pairs", "blocks", "above", "k", "here", "turn", "last", "former", "told", "block", "pair"]) (sc := defScope s_law_evened) (by decide +kernel)) (fun _ _ _ _ _ => (pg_name (i := 10) sc_law_evened.nd rfl (by first | exact Or.inl rfl | exact Or.inr rfl))) (dgw_name (by decide)) (fun _ _ _ _ _ => dts_nil) (fun _ _ _ _ _ => (de_ix (de_var 10) de_int).o)).s.p).o)
  (dss_cons (ds_frz 1 (ds_for rfl PassesOwn.never (di_range1 (by rfl) T.z_range (de_len (by rfl) T.z_len (dp_var 0))) (dg_name (i := 3) sc_law_evened.nd rfl (.inl rfl))
  (dss_cons (ds_set (i := 4) sc_law_evened.nd rfl (.inl rfl) (de_mul (de_var 2) (de_ix (de_ix (de_var 0) (de_var 3)) de_int)).o)
  (dss_cons (ds_set (i := 2) sc_law_evened.nd rfl (.inl rfl) (de_sub (de_var 2) (de_ix (de_ix (de_var 0) (de_var 3)) de_int)).o)
  (dss_cons (ds_if (dt_lt (de_add (de_var 3) de_int) (de_len (by rfl) T.z_len (dp_var 0))) (dss_one (ds_set (i := 4) sc_law_evened.nd rfl (.inl rfl) (de_sub (de_var 4) (de_mul (de_var 2) (de_ix (de_ix (de_var 0) (de_add (de_var 3) de_int)) de_int))).o)) dss_nil)
  (dss_cons (ds_append 1 (do_lst (dao_cons (de_var 4).o (dao_cons (de_ix (de_ix (de_var 0) (de_var 3)) de_int).o (dao_cons de_int.o dao_nil)))))
  (dss_one (ds_for rfl PassesOwn.never (di_range1 (by rfl) T.z_range (de_len (by rfl) T.z_len (dp_var 0))) (dg_name (i := 5) sc_law_evened.nd rfl (.inl rfl))
  (dss_one (ds_if (dw_and (dt_gt (de_len (by rfl) T.z_len (dp_var 1)) de_int) (dw_and1 (dt_gt (de_mul (dp_ix (dp_ix (dp_var 1) (de_neg de_int)) de_int).s (dp_ix (dp_ix (dp_var 1) (de_neg de_int)) de_int).s) (de_mul (dp_ix (dp_ix (dp_var 1) (de_neg de_int)) de_int).s (dp_ix (dp_ix (dp_var 1) (de_neg de_int)) de_int).s)))).t (dss_cons (ds_frzL 1 (ds_setpop 6 1 sc_law_evened.nd rfl (.inl rfl)))
  (dss_cons (ds_frzL 1 (ds_setpop 7 1 sc_law_evened.nd rfl (.inl rfl)))
  (dss_one (ds_append 1 (do_lst (dao_cons (de_add (de_ix (de_var 7) de_int) (de_ix (de_var 6) de_int)).o (dao_cons (de_add (de_ix (de_var 7) de_int) (de_ix (de_var 6) de_int)).o (dao_cons (de_add (de_ix (de_var 7) de_int) (de_ix (de_var 6) de_int)).o dao_nil)))))))) dss_nil))))))))))
  (dss_cons (ds_set (i := 8) sc_law_evened.nd rfl (.inl rfl) (do_lst dao_nil).s.o)
  (dss_cons (ds_for rfl PassesOwn.never (di_seq (de_var 1)) (dg_name (i := 9) sc_law_evened.nd rfl (.inl rfl))
  (dss_one (ds_set (i := 8) sc_law_evened.nd rfl (.inl rfl) (do_cat (dp_var 8) (do_rep (do_lst (dao_cons (de_tup (da_cons (de_ix (de_var 9) de_int) (da_cons (de_ix (de_var 9) de_int) da_nil))).o dao_nil)).s.p (de_ix (de_var 9) de_int)).s.p).s.o)))
  (dss_one (ds_ret (de_var 8).o)))))))
theorem ok_law_table_right {P : Program} {w : World} {K : Fg} {mg : Str → Option Value} {base : Heap} (T : Txt K mg) : FnOk P w K mg base CX0 4 T.a_law_table_right T.d_law_table_right ["table", "buyers"] (spD K 2 F_law_table_right) :=
  fn_ok T.F_law_table_right sc_law_table_right fun cdv A outer s H E hr =>
  (dss_cons (ds_if (dw_or (dt_not (dt_val (de_isi (by rfl) T.z_isinstance (dp_var 0) (by rfl) T.z_list PyProof.Rows.boot_list))) (dw_or1 (dt_ne hr.units (de_len (by rfl) T.z_len (dp_var 0)) (de_len (by rfl) T.z_len (dp_var 1))))).t (dss_one (ds_ret de_bl.o)) dss_nil)
  (dss_cons (ds_for rfl PassesOwn.never (di_range1 (by rfl) T.z_range (de_len (by rfl) T.z_len (dp_var 1))) (dg_name (i := 2) sc_law_table_right.nd rfl (.inr rfl))
  (dss_cons (ds_set (i := 3) sc_law_table_right.nd rfl (.inr rfl) (do_call (ok_law_evened T) fnF_ar (hr.mono (by decide)) (by rfl) T.g_law_evened T.F_law_evened.kp T.b_law_evened (da_cons (de_ix (de_var 1) (de_var 2)) da_nil)).s.o)
  (dss_cons (ds_if (dt_not (dt_val (do_call (ok_law_is_list T) fnF_ar (hr.mono (by decide)) (by rfl) T.g_law_is_list T.F_law_is_list.kp T.b_law_is_list (da_cons (de_ix (de_var 0) (de_var 2)) (da_cons (de_len (by rfl) T.z_len (dp_var 3)) da_nil))).s)) (dss_one (ds_ret de_bl.o)) dss_nil)
  (dss_one (ds_if (dt_in (room65 hr) de_bl (do_lc (own := [("j", 4)]) rfl sc_law_table_right.nd (di_range1 (by rfl) T.z_range (de_len (by rfl) T.z_len (dp_var 3))) (blkOk_by (N := ["table", "buyers", "buyer", "due", "j"]) (sc := defScope s_law_table_right) (by decide +kernel)) (fun _ _ _ _ _ => (pg_name (i := 4) sc_law_table_right.nd rfl (by first | exact Or.inl rfl | exact Or.inr rfl))) (dgw_name (by decide)) (fun _ _ _ _ _ => dts_nil) (fun _ _ _ _ _ => (do_call (ok_law_same T) fnF_ar (hr.mono (by decide)) (by rfl) T.g_law_same T.F_law_same.kp T.b_law_same (da_cons (de_ix (de_ix (de_var 0) (de_var 2)) (de_var 4)) (da_cons (de_ix (de_ix (de_var 3) (de_var 4)) de_int) (da_cons (de_ix (de_ix (de_var 3) (de_var 4)) de_int) da_nil)))))).s) (dss_one (ds_ret de_bl.o)) dss_nil)))))
  (dss_one (ds_ret de_bl.o))))
theorem ok_evened_table {P : Program} {w : World} {K : Fg} {mg : Str → Option Value} {base : Heap} (T : Txt K mg) : FnOk P w K mg base CX0 5 T.a_evened_table T.d_evened_table ["book"] (spD K 1 F_evened_table) :=
  fn_ok T.F_evened_table sc_evened_table fun cdv A outer s H E hr =>
  (dss_one (ds_ret (do_lc (own := [("buyer", 1)]) rfl sc_evened_table.nd (di_range1 (by rfl) T.z_range (de_fld (ns := ns_Book) 1 (dp_var 0) T.cl_Book T.n_Book_size nd_Book)) (blkOk_by (N := ["book", "buyer"]) (sc := defScope s_evened_table) (by decide +kernel)) (fun _ _ _ _ _ => (pg_name (i := 1) sc_evened_table.nd rfl (by first | exact Or.inl rfl | exact Or.inr rfl))) (dgw_name (by decide)) (fun _ _ _ _ _ => dts_nil) (fun _ _ _ _ _ => (do_call (ok_evened_worths T) fnF_ar (hr.mono (by decide)) (by rfl) T.g_evened_worths T.F_evened_worths.kp T.b_evened_worths (da_cons (de_var 0) (da_cons (de_var 1) da_nil)))))))
theorem ok_law {P : Program} {w : World} {K : Fg} {mg : Str → Option Value} {base : Heap} (T : Txt K mg) (main : ∀ g : GS, ∃ g', B_law ((List.replicate 12 none).set 1 (some (.sh .gen))) g = some (.rt (.sh (.bl true)) g')) :
    FnOk P w K mg base CX0 6 T.a_law T.d_law ["script"] (spLaw K) := by
  refine T.F_law.ok sc_law (fun vs H Q E h => ?_) (fun cdv A outer s H vs Q E hr h => ?_)
  · obtain ⟨a, ns, rfl, _⟩ := h
    rfl
  · obtain ⟨a, ns, rfl, hS, hlen, q⟩ := h
    have body : DSs (cxOf CX0 P w K mg base ["script", "state", "buyers", "book", "buyer", "turn", "table", "raised", "other", "at", "pairs", "pair"] "law" (defScope s_law) T.a_law cdv A outer s H E).nox ((defBody s_law).drop 1) B_law :=
  (dss_cons (ds_set (i := 2) sc_law.nd rfl (.inl rfl) (do_call (ok_law_crowd T) fnF_ar (hr.mono (by decide)) (by rfl) T.g_law_crowd T.F_law_crowd.kp T.b_law_crowd (da_cons (de_var 1) da_nil)).s.o)
  (dss_cons (ds_set (i := 3) sc_law.nd rfl (.inl rfl) (do_make T.m_Book_init (ok_Book_init T) fiF_ar (hr.mono (by decide)) (by rfl) T.g_Book T.b_Book_init (da_cons (do_lc (own := [("pairs", 10)]) rfl sc_law.nd (di_seq (de_var 2)) (blkOk_by (N := ["script", "state", "buyers", "book", "buyer", "turn", "table", "raised", "other", "at", "pairs", "pair"]) (sc := defScope s_law) (by decide +kernel)) (fun _ _ _ _ _ => (pg_name (i := 10) sc_law.nd rfl (by first | exact Or.inl rfl | exact Or.inr rfl))) (dgw_name (by decide)) (fun _ _ _ _ _ => dts_nil) (fun _ _ _ _ _ => (do_list (by rfl) T.z_list (dp_var 10)))).s da_nil)).s.o)
  (dss_cons (ds_for rfl PassesOwn.never (di_range1 (by rfl) T.z_range (de_len (by rfl) T.z_len (dp_var 2))) (dg_name (i := 4) sc_law.nd rfl (.inl rfl))
  (dss_one (ds_if (dt_not (dt_val (do_call (ok_law_buyer_right T) fnF_ar (hr.mono (by decide)) (by rfl) T.g_law_buyer_right T.F_law_buyer_right.kp T.b_law_buyer_right (da_cons (de_var 1) (da_cons (de_var 3) (da_cons (de_var 4) (da_cons (de_ix (de_var 2) (de_var 4)) da_nil))))).s)) (dss_one (ds_ret de_bl.o)) dss_nil)))
  (dss_cons (ds_for rfl PassesOwn.never (di_range1 (by rfl) T.z_range de_int) (dg_name (i := 5) sc_law.nd rfl (.inl rfl))
  (dss_cons (ds_set (i := 6) sc_law.nd rfl (.inl rfl) (do_call (ok_evened_table T) fnF_ar (hr.mono (by decide)) (by rfl) T.g_evened_table T.F_evened_table.kp T.b_evened_table (da_cons (de_var 3) da_nil)))
  (dss_cons (ds_if (dt_not (dt_val (de_callB1 (ok_law_table_right T) fnF_ar (hr.mono (by decide)) (by rfl) T.g_law_table_right T.F_law_table_right.kp T.b_law_table_right (dap_cons (dp_var 6) (dap_cons (dp_var 2) dap_nil))))) (dss_one (ds_ret de_bl.o)) dss_nil)
  (dss_cons (ds_append2 6 de_int (de_tup (da_cons de_int (da_cons de_int da_nil))).o)
  (dss_one (ds_reverse 6))))))
  (dss_cons (ds_frz 7 (ds_setLc (i := 7) (own := [("pairs", 10)]) rfl sc_law.nd rfl rfl (sw_true rfl rfl rfl (by decide +kernel)) (di_seq (de_var 2)) (blkOk_by (N := ["script", "state", "buyers", "book", "buyer", "turn", "table", "raised", "other", "at", "pairs", "pair"]) (sc := defScope s_law) (by decide +kernel)) (fun _ _ _ _ _ => (pg_name (i := 10) sc_law.nd rfl (by first | exact Or.inl rfl | exact Or.inr rfl))) (dgw_name (by decide)) (fun _ _ _ _ _ => dts_nil) (fun _ _ _ _ _ => (do_lc (own := [("pair", 11)]) rfl sc_law.nd (di_seq (de_var 10)) (blkOk_by (N := ["script", "state", "buyers", "book", "buyer", "turn", "table", "raised", "other", "at", "pairs", "pair"]) (sc := { kind := .function, names := [(".0", .local), ("pairs", .local)], isGenerator := false, isCoroutine := false }) (by decide +kernel)) (fun _ _ _ _ _ => (pg_name (i := 11) sc_law.nd rfl (by first | exact Or.inl rfl | exact Or.inr rfl))) (dgw_name (by decide)) (fun _ _ _ _ _ => dts_nil) (fun _ _ _ _ _ => (de_tup (da_cons (de_add (de_ix (de_var 11) de_int) de_int) (da_cons (de_ix (de_var 11) de_int) da_nil))).o)))))
  (dss_cons (ds_set (i := 8) sc_law.nd rfl (.inl rfl) (do_make T.m_Book_init (ok_Book_init T) fiF_ar (hr.mono (by decide)) (by rfl) T.g_Book T.b_Book_init (da_cons (do_lc (own := [("pairs", 10)]) rfl sc_law.nd (di_seq (de_var 7)) (blkOk_by (N := ["script", "state", "buyers", "book", "buyer", "turn", "table", "raised", "other", "at", "pairs", "pair"]) (sc := defScope s_law) (by decide +kernel)) (fun _ _ _ _ _ => (pg_name (i := 10) sc_law.nd rfl (by first | exact Or.inl rfl | exact Or.inr rfl))) (dgw_name (by decide)) (fun _ _ _ _ _ => dts_nil) (fun _ _ _ _ _ => (do_list (by rfl) T.z_list (dp_var 10)))).s da_nil)).s.o)
  (dss_cons (ds_set (i := 9) sc_law.nd rfl (.inl rfl) (do_call (ok_law_draw T) drawF_ar (hr.mono (by decide)) (by rfl) T.g_law_draw T.F_law_draw.kp T.b_law_draw (da_cons (de_var 1) (da_cons (de_len (by rfl) T.z_len (dp_var 2)) da_nil))).s.o)
  (dss_cons (ds_if (dt_not (dt_val (do_call (ok_law_buyer_right T) fnF_ar (hr.mono (by decide)) (by rfl) T.g_law_buyer_right T.F_law_buyer_right.kp T.b_law_buyer_right (da_cons (de_var 1) (da_cons (de_var 8) (da_cons (de_var 9) (da_cons (de_ix (de_var 7) (de_var 9)) da_nil))))).s)) (dss_one (ds_ret de_bl.o)) dss_nil)
  (dss_one (ds_ret (do_call (ok_law_buyer_right T) fnF_ar (hr.mono (by decide)) (by rfl) T.g_law_buyer_right T.F_law_buyer_right.kp T.b_law_buyer_right (da_cons (de_var 1) (da_cons (de_var 3) (da_cons (de_var 9) (da_cons (de_ix (de_var 2) (de_var 9)) da_nil)))))))))))))))
    obtain ⟨t, pt, qt⟩ := body
    refine ⟨_, pss_cons (ps_set (i := 1) sc_law.nd rfl (.inl rfl) (pe_call (ok_law_start T) (hr.mono (by decide)) (by rfl) T.g_law_start T.F_law_start.kp T.b_law_start .nil pass0 (pa_cons (pv 0) pa_nil))) pt, ?_⟩
    refine ⟨.ref a, rfl, a, ns, rfl, hS, hlen, fun g s' c r H' sm n1 n2 n3 hg => ?_⟩
    exact law_body (K := K) (t := t) (i := 1) qt rfl rfl hg (main g) q
end DL

/-! DLE: how the functions are reckoned (plain Lean). -/
namespace DL
section
variable {ρ : Env} {g : GS} {i j n : Nat} {f fa fb : EF} {h : OF} {fs : AF} {os : AOF} {c c2 : TF} {s t : SF} {F : FF} {k : SV → SV → Option SV}
@[simp] theorem ev_oS : oS f ρ g = (f ρ g).map fun p => (.sh p.1, p.2) := rfl
@[simp] theorem ev_fz : fz h ρ g = (h ρ g).map fun p => (p.1.frz, p.2) := rfl
@[simp] theorem ev_un : un h ρ g = (h ρ g).bind fun p => p.1.sh?.map fun s => (s, p.2) := rfl
@[simp] theorem ev_shq (s : SV) : (DV.sh s).sh? = some s := rfl
@[simp] theorem ev_kS (s : SV) : kS s ρ g = some (s, g) := rfl
@[simp] theorem ev_vS0 (s : SV) : vS 0 (some (.sh s) :: ρ) g = some (s, g) := rfl
@[simp] theorem ev_vSs (x : Option DV) : vS (i + 1) (x :: ρ) g = vS i ρ g := rfl
@[simp] theorem ev_vP0 (s : DV) : vP 0 (some s :: ρ) g = some (s, g) := rfl
@[simp] theorem ev_vPs (x : Option DV) : vP (i + 1) (x :: ρ) g = vP i ρ g := rfl
@[simp] theorem ev_b2 : b2 k fa fb ρ g = (fa ρ g).bind fun p => (fb ρ p.2).bind fun q => (k p.1 q.1).map fun s => (s, q.2) := rfl
@[simp] theorem ev_u1 (k : SV → Option SV) : u1 k fa ρ g = (fa ρ g).bind fun p => (k p.1).map fun s => (s, p.2) := rfl
@[simp] theorem ev_u1P (k : DV → Option SV) : u1P k h ρ g = (h ρ g).bind fun p => (k p.1).map fun s => (s, p.2) := rfl
@[simp] theorem ev_add (a b : Int) : hAdd (.int a) (.int b) = some (.int (a + b)) := rfl
@[simp] theorem ev_sub (a b : Int) : hSub (.int a) (.int b) = some (.int (a - b)) := rfl
@[simp] theorem ev_mul (a b : Int) : hMul (.int a) (.int b) = if mulOk a b then some (.int (a * b)) else none := rfl
@[simp] theorem ev_div (a b : Int) : hDiv (.int a) (.int b) = if divOk a b then some (.int (a / b)) else none := rfl
@[simp] theorem ev_mod (a b : Int) : hMod (.int a) (.int b) = if modOk a b then some (.int (a % b)) else none := rfl
@[simp] theorem ev_pow (a b : Int) : hPow (.int a) (.int b) = if powOk a b then some (.int (a ^ b.toNat)) else none := rfl
@[simp] theorem ev_lt (a b : Int) : hLt (.int a) (.int b) = some (.bl (decide (a < b))) := rfl
@[simp] theorem ev_le (a b : Int) : hLe (.int a) (.int b) = some (.bl (decide (a ≤ b))) := rfl
@[simp] theorem ev_gt (a b : Int) : hGt (.int a) (.int b) = some (.bl (decide (b < a))) := rfl
@[simp] theorem ev_ge (a b : Int) : hGe (.int a) (.int b) = some (.bl (decide (b ≤ a))) := rfl
@[simp] theorem ev_eqi (a b : Int) : hEq (.int a) (.int b) = some (.bl (decide (a = b))) := rfl
@[simp] theorem ev_nei (a b : Int) : hNe (.int a) (.int b) = some (.bl (!decide (a = b))) := rfl
@[simp] theorem ev_eqb (a b : Bool) : hEq (.bl a) (.bl b) = some (.bl (decide (a = b))) := rfl
@[simp] theorem ev_neg (a : Int) : hNeg (.int a) = some (.int (-a)) := rfl
@[simp] theorem ev_not (a : Bool) : hNot (.bl a) = some (.bl (!a)) := rfl
@[simp] theorem ev_tB1 : tB1 f ρ g = (f ρ g).bind fun p => match p.1 with | .bl b => some (b, p.2) | _ => none := rfl
@[simp] theorem ev_tAnd : tAnd1 c c2 ρ g = (c ρ g).bind fun p => if p.1 = true then c2 ρ p.2 else some (false, p.2) := rfl
@[simp] theorem ev_tOr : tOr1 c c2 ρ g = (c ρ g).bind fun p => if p.1 = true then some (true, p.2) else c2 ρ p.2 := rfl
@[simp] theorem ev_tNot : tNot1 c ρ g = (c ρ g).map fun p => (!p.1, p.2) := rfl
@[simp] theorem ev_ifV : ifV c fa fb ρ g = (c ρ g).bind fun p => if p.1 = true then fa ρ p.2 else fb ρ p.2 := rfl
@[simp] theorem ev_vAnd : vAnd fa fb ρ g = (fa ρ g).bind fun p => match p.1 with | .bl true => fb ρ p.2 | .bl false => some (.bl false, p.2) | _ => none := rfl
@[simp] theorem ev_vOr : vOr fa fb ρ g = (fa ρ g).bind fun p => match p.1 with | .bl false => fb ρ p.2 | .bl true => some (.bl true, p.2) | _ => none := rfl
@[simp] theorem ev_ixt (xs : List SV) (a : Int) : hIx (.tup xs) (.int a) = L2.atI xs a := rfl
@[simp] theorem ev_ixl (xs : List SV) (a : Int) : hIx (.lst xs) (.int a) = L2.atI xs a := rfl
@[simp] theorem ev_ixP : ixP h fb ρ g = (h ρ g).bind fun p => (fb ρ p.2).bind fun q => match q.1 with | .int i => (p.1.at i).map fun d => (d, q.2) | _ => none := rfl
@[simp] theorem ev_at (ds : List DV) (i : Int) : (DV.own ds).at i = L2.atI ds i := rfl
@[simp] theorem at0 {α : Type} (x : α) (xs : List α) : L2.atI (x :: xs) 0 = some x := L2.atI_nat (j := 0) rfl
@[simp] theorem at1 {α : Type} (x y : α) (xs : List α) : L2.atI (x :: y :: xs) 1 = some y := L2.atI_nat (j := 1) rfl
@[simp] theorem at2 {α : Type} (x y z : α) (xs : List α) : L2.atI (x :: y :: z :: xs) 2 = some z := L2.atI_nat (j := 2) rfl
@[simp] theorem at3 {α : Type} (x y z w : α) (xs : List α) : L2.atI (x :: y :: z :: w :: xs) 3 = some w := L2.atI_nat (j := 3) rfl
@[simp] theorem ev_aN : aN ρ g = some ([], g) := rfl
@[simp] theorem ev_aC : aC f fs ρ g = (f ρ g).bind fun p => (fs ρ p.2).map fun q => (p.1 :: q.1, q.2) := rfl
@[simp] theorem ev_oN : oN ρ g = some ([], g) := rfl
@[simp] theorem ev_oC : oC h os ρ g = (h ρ g).bind fun p => (os ρ p.2).map fun q => (p.1 :: q.1, q.2) := rfl
@[simp] theorem ev_tupF : tupF fs ρ g = (fs ρ g).bind fun p => if p.1.length ≤ 1000 then some (.tup p.1, p.2) else none := rfl
@[simp] theorem ev_lstF : lstF os ρ g = (os ρ g).bind fun p => if p.1.length ≤ 1000 then some (.own p.1, p.2) else none := rfl
@[simp] theorem ev_callF : callF F fs ρ g = (fs ρ g).bind fun p => F p.1 p.2 := rfl
@[simp] theorem ev_c1 (k : List SV → Option SV) : c1 k fs ρ g = (fs ρ g).bind fun p => (k p.1).map fun s => (s, p.2) := rfl
@[simp] theorem ev_abs (a : Int) : hAbs [.int a] = some (.int (if a < 0 then -a else a)) := rfl
@[simp] theorem ev_int (a : Int) : hInt [.int a] = some (.int a) := rfl
@[simp] theorem ev_intb (a : Bool) : hInt [.bl a] = some (.int (if a then 1 else 0)) := rfl
@[simp] theorem ev_gcd (a b : Int) : hGcd [.int a, .int b] = some (.int ((Nat.gcd a.natAbs b.natAbs : Nat) : Int)) := rfl
@[simp] theorem ev_lcm (a b : Int) : hLcm [.int a, .int b] = if a.natAbs.log2 < 9000 ∧ b.natAbs.log2 < 9000 then some (.int ((Nat.lcm a.natAbs b.natAbs : Nat) : Int)) else none := rfl
@[simp] theorem ev_max (a b : Int) : hMax [.int a, .int b] = some (.int (if b > a then b else a)) := rfl
@[simp] theorem ev_min (a b : Int) : hMin [.int a, .int b] = some (.int (if b < a then b else a)) := rfl
@[simp] theorem ev_setD : setD i h ρ g = (h ρ g).map fun p => .nx (ρ.set i (some p.1)) p.2 := rfl
@[simp] theorem ev_retD : retD h ρ g = (h ρ g).map fun p => .rt p.1 p.2 := rfl
@[simp] theorem ev_exprD : exprD f ρ g = (f ρ g).map fun p => .nx ρ p.2 := rfl
@[simp] theorem ev_skip : skipD ρ g = some (.nx ρ g) := rfl
@[simp] theorem ev_brk : brkD ρ g = some (.bk ρ g) := rfl
@[simp] theorem ev_cnt : cntD ρ g = some (.ct ρ g) := rfl
@[simp] theorem ev_seq : seqD s t ρ g = (s ρ g).bind fun r => match r with
  | .nx ρ' g' => t ρ' g'
  | .rt d g' => some (.rt d g')
  | .bk ρ' g' => some (.bk ρ' g')
  | .ct ρ' g' => some (.ct ρ' g') := rfl
@[simp] theorem ev_if : ifD c s t ρ g = (c ρ g).bind fun p => if p.1 = true then s ρ p.2 else t ρ p.2 := rfl
@[simp] theorem ev_asg {gf : GF} : asgD h gf ρ g = (h ρ g).bind fun p => (gf p.1 ρ p.2).map fun q => .nx q.1 q.2 := rfl
@[simp] theorem ev_gN (d : DV) : gN i d ρ g = some (ρ.set i (some d), g) := rfl
@[simp] theorem ev_gT {fs : GLF} (xs : List SV) : gT n fs (.sh (.tup xs)) ρ g = if xs.length = n then fs xs ρ g else none := rfl
@[simp] theorem ev_gLN : gLN [] ρ g = some (ρ, g) := rfl
@[simp] theorem ev_gLC {gf : GF} {fs : GLF} (x : SV) (xs : List SV) : gLC gf fs (x :: xs) ρ g = (gf (.sh x) ρ g).bind fun p => fs xs p.1 p.2 := rfl
@[simp] theorem ev_for {fi : IF} {gf : GF} : forD fi gf s ρ g = (fi ρ g).bind fun p => loopD gf s p.1 ρ p.2 := rfl
@[simp] theorem ev_iSeq : iSeq f ρ g = (f ρ g).bind fun p => p.1.seq?.map fun xs => (xs, p.2) := rfl
@[simp] theorem ev_seqt (xs : List SV) : (SV.tup xs).seq? = some xs := rfl
@[simp] theorem ev_seql (xs : List SV) : (SV.lst xs).seq? = some xs := rfl
@[simp] theorem ev_iR1 : iR1 f ρ g = (f ρ g).bind fun p => match p.1 with
  | .int n => if rngOk n = true then some (rngL 0 n.toNat, p.2) else none
  | _ => none := rfl
@[simp] theorem ev_iR2 : iR2 fa fb ρ g = (fa ρ g).bind fun p => (fb ρ p.2).bind fun q => match p.1, q.1 with
  | .int a, .int b => if rngOk a = true ∧ rngOk b = true then some (rngL a (b - a).toNat, q.2) else none
  | _, _ => none := rfl
@[simp] theorem ev_iNum : iNum f ρ g = (f ρ g).bind fun p => p.1.l?.map fun xs => (numL xs, p.2) := rfl
@[simp] theorem ev_lq (xs : List SV) : (SV.lst xs).l? = some xs := rfl
@[simp] theorem ev_iZp : iZp fa fb ρ g = (fa ρ g).bind fun p => (fb ρ p.2).bind fun q => (hZip p.1 q.1).map fun xs => (xs, q.2) := rfl
@[simp] theorem ev_zl (xs ys : List SV) : hZip (.lst xs) (.lst ys) = some (zipL xs ys) := rfl
@[simp] theorem ev_zt (xs ys : List SV) : hZip (.tup xs) (.tup ys) = some (zipL xs ys) := rfl
@[simp] theorem ev_lenP : lenP h ρ g = (h ρ g).bind fun p => p.1.len?.map fun n => (.int (n : Nat), p.2) := rfl
@[simp] theorem ev_lno (ds : List DV) : (DV.own ds).len? = some ds.length := rfl
@[simp] theorem ev_lnt (xs : List SV) : (DV.sh (.tup xs)).len? = some xs.length := rfl
@[simp] theorem ev_lnl (xs : List SV) : (DV.sh (.lst xs)).len? = some xs.length := rfl
@[simp] theorem ev_listP : listP h ρ g = (h ρ g).bind fun p => p.1.items?.map fun xs => (.own (xs.map .sh), p.2) := rfl
@[simp] theorem ev_tupleP : tupleP h ρ g = (h ρ g).bind fun p => p.1.items?.map fun xs => (.tup xs, p.2) := rfl
@[simp] theorem ev_ito (xs : List SV) : (DV.own (xs.map .sh)).items? = some xs := mapM_sh xs
@[simp] theorem ev_itt (xs : List SV) : (DV.sh (.tup xs)).items? = some xs := rfl
@[simp] theorem ev_itl (xs : List SV) : (DV.sh (.lst xs)).items? = some xs := rfl
@[simp] theorem ev_isi (T : String) : isiP T h ρ g = (h ρ g).bind fun p => p.1.ty?.bind fun t => (L2.kitB t T).map fun b => (.bl b, p.2) := rfl
@[simp] theorem ev_tyo (ds : List DV) : (DV.own ds).ty? = some "list" := rfl
@[simp] theorem ev_tyi (i : Int) : (DV.sh (.int i)).ty? = some "int" := rfl
@[simp] theorem ev_tyb (b : Bool) : (DV.sh (.bl b)).ty? = some "bool" := rfl
@[simp] theorem ev_tyt (xs : List SV) : (DV.sh (.tup xs)).ty? = some "tuple" := rfl
@[simp] theorem ev_tyl (xs : List SV) : (DV.sh (.lst xs)).ty? = some "list" := rfl
@[simp] theorem ev_tyn : (DV.sh .non).ty? = some "NoneType" := rfl
@[simp] theorem kit_ii : L2.kitB "int" "int" = some true := by decide +kernel
@[simp] theorem kit_ib : L2.kitB "int" "bool" = some false := by decide +kernel
@[simp] theorem kit_it : L2.kitB "int" "tuple" = some false := by decide +kernel
@[simp] theorem kit_il : L2.kitB "int" "list" = some false := by decide +kernel
@[simp] theorem kit_bi : L2.kitB "bool" "int" = some true := by decide +kernel
@[simp] theorem kit_bb : L2.kitB "bool" "bool" = some true := by decide +kernel
@[simp] theorem kit_tt : L2.kitB "tuple" "tuple" = some true := by decide +kernel
@[simp] theorem kit_tl : L2.kitB "tuple" "list" = some false := by decide +kernel
@[simp] theorem kit_ll : L2.kitB "list" "list" = some true := by decide +kernel
@[simp] theorem kit_lt : L2.kitB "list" "tuple" = some false := by decide +kernel
@[simp] theorem kit_nt : L2.kitB "NoneType" "tuple" = some false := by decide +kernel
@[simp] theorem ev_frzs (s : SV) : (DV.sh s).frz = s := by unfold DV.frz; rfl
@[simp] theorem ev_frzo (xs : List SV) : (DV.own (xs.map .sh)).frz = .lst xs := by unfold DV.frz; rw [frzs_sh]
@[simp] theorem ev_frz0 : (DV.own []).frz = .lst [] := by unfold DV.frz DV.frzs; rfl
@[simp] theorem ev_comp {fi : IF} {wf : WF} {vs : List Nat} : compD fi wf c h vs ρ g = (fi ρ g).bind fun p => if lenOk p.1.length = true then (compL wf c h (wipeE ρ vs) p.1 p.2).map fun q => (.own q.1, q.2) else none := rfl
@[simp] theorem ev_yes : yesT ρ g = some (true, g) := rfl
@[simp] theorem ev_wN (s : SV) : wN i s ρ = some (ρ.set i (some (.sh s))) := rfl
@[simp] theorem ev_wipe0 : wipeE ρ [] = ρ := rfl
@[simp] theorem ev_wipe1 (v : Nat) (vs : List Nat) : wipeE ρ (v :: vs) = (wipeE ρ vs).set v none := rfl
@[simp] theorem ev_frzD : frzD i s ρ g = (s ρ g).map fun r => match r with
  | .nx ρ' g' => .nx (frzEnv i ρ') g'
  | r => r := rfl
theorem frz_get {d : DV} (h : ρ[i]? = some (some d)) : frzEnv i ρ = ρ.set i (some (.sh d.frz)) := by unfold frzEnv; rw [h]
theorem frz_none (h : ρ[i]? = some none) : frzEnv i ρ = ρ := by unfold frzEnv; rw [h]
@[simp] theorem ev_retV : retV i ρ g = match ρ[i]? with
  | some (some d) => some (.rt d g)
  | _ => none := rfl
@[simp] theorem ev_app : appD i h ρ g = match ρ[i]? with
  | some (some (.own ds)) => (h ρ g).bind fun p => if lenOk ds.length = true then some (.nx (ρ.set i (some (.own (ds ++ [p.1])))) p.2) else none
  | _ => none := rfl
@[simp] theorem ev_gIx (d : DV) : gIx i f d ρ g = match ρ[i]? with
  | some (some (.own ds)) => (f ρ g).bind fun p => match p.1 with
    | .int k => (L2.ixN ds.length k).map fun j => (ρ.set i (some (.own (ds.set j d))), p.2)
    | _ => none
  | _ => none := rfl
end
@[simp] theorem ev_fn {n N : Nat} {b : SF} {ss : List SV} {g : GS} : fnF n N b ss g = if ss.length = n then (b (env0 N ss) g).bind fun r => match r with
  | .rt d g' => some (d, g')
  | .nx _ g' => some (.sh .non, g')
  | _ => none
else none := rfl
@[simp] theorem ev_env0 {N : Nat} {ss : List SV} : env0 N ss = ss.map (fun s => some (.sh s)) ++ List.replicate (N - ss.length) none := rfl
@[simp] theorem ev_callD {F : FF} {fs : AF} {ρ : Env} {g : GS} (ds : List SV) : callD F fs ds ρ g = (fs ρ g).bind fun p => F (p.1 ++ ds) p.2 := rfl
@[simp] theorem ev_callN {F : FF} {fs ks : AF} {ρ : Env} {g : GS} (m : Nat) : callN F m fs ks ρ g = (fs ρ g).bind fun p => (ks ρ p.2).bind fun q => if q.1.length = m then F (p.1 ++ q.1) q.2 else none := rfl
@[simp] theorem ev_callB {F : FF} {os : AOF} {ρ : Env} {g : GS} : callB F os ρ g = (os ρ g).bind fun p => (F (p.1.map DV.frz) p.2).bind fun r => r.1.atom?.map fun s => (s, r.2) := rfl
@[simp] theorem ev_callBO {F : FF} {os : AOF} {ρ : Env} {g : GS} : callBO F os ρ g = (os ρ g).bind fun p => (F (p.1.map DV.frz) p.2).bind fun r => if r.1.noL = true then some r else none := rfl
@[simp] theorem ev_nl_i (b : Int) : (DV.sh (.int b)).noL = true := rfl
@[simp] theorem ev_nl_b (b : Bool) : (DV.sh (.bl b)).noL = true := rfl
@[simp] theorem ev_nl_n : (DV.sh .non).noL = true := rfl
@[simp] theorem ev_atb (b : Bool) : (DV.sh (.bl b)).atom? = some (.bl b) := rfl
@[simp] theorem ev_ati (b : Int) : (DV.sh (.int b)).atom? = some (.int b) := rfl
@[simp] theorem ev_atn : (DV.sh .non).atom? = some .non := rfl
@[simp] theorem ev_repF {h : OF} {f : EF} {ρ : Env} {g : GS} : repF h f ρ g = (h ρ g).bind fun p => (f ρ p.2).bind fun q => match p.1.lst?, q.1 with
  | some xs, .int k => (hRep xs k).map fun ys => (.own (ys.map .sh), q.2)
  | _, _ => none := rfl
@[simp] theorem ev_catF {h k : OF} {ρ : Env} {g : GS} : catF h k ρ g = (h ρ g).bind fun p => (k ρ p.2).bind fun q => match p.1.lst?, q.1.lst? with
  | some xs, some ys => (hCatL xs ys).map fun zs => (.own (zs.map .sh), q.2)
  | _, _ => none := rfl
@[simp] theorem ev_lsl (xs : List SV) : (DV.sh (.lst xs)).lst? = some xs := rfl
@[simp] theorem ev_lso (xs : List SV) : (DV.own (xs.map .sh)).lst? = some xs := mapM_sh xs
@[simp] theorem ev_lso1 (x : SV) : (DV.own [.sh x]).lst? = some [x] := rfl
@[simp] theorem ev_frz1 (x : SV) : (DV.own [.sh x]).frz = .lst [x] := ev_frzo [x]
theorem hRep_one {x : SV} {n : Nat} (h : n ≤ 1000) : hRep [x] (n : Int) = some (List.replicate n x) := by
  unfold hRep
  rw [if_pos ⟨by rw [Int.natAbs_natCast]; exact lenOk_of (by omega), by exact lenOk_of (by show 1 * ((n : Nat) : Int).toNat ≤ _; rw [Int.toNat_natCast]; omega)⟩]
  congr 1
  rw [Int.toNat_natCast]
  induction n with
  | zero => rfl
  | succ n ih => rw [List.replicate_succ, List.flatten_cons, ih (by omega), List.replicate_succ]; rfl
@[simp] theorem ev_slP {h : OF} {lo hi : PF} {ρ : Env} {g : GS} : slP h lo hi ρ g = (h ρ g).bind fun p => (lo ρ p.2).bind fun q => (hi ρ q.2).bind fun r => match p.1 with
  | .sh (.tup xs) => some (.sh (.tup (cutS xs q.1 r.1)), r.2)
  | d => d.lst?.map fun xs => (.own ((cutS xs q.1 r.1).map .sh), r.2) := rfl
@[simp] theorem ev_ptN {ρ : Env} {g : GS} : ptN ρ g = some (none, g) := rfl
@[simp] theorem ev_ptS {f : EF} {ρ : Env} {g : GS} : ptS f ρ g = (f ρ g).bind fun p => match p.1 with | .int i => some (some i, p.2) | _ => none := rfl
@[simp] theorem ev_sortP {h : OF} {ρ : Env} {g : GS} : sortP h ρ g = (h ρ g).bind fun p => (p.1.lst?.bind fun xs => xs.mapM SV.i?).map fun ns => (.own (((sortI ns).map SV.int).map .sh), p.2) := rfl
@[simp] theorem ev_mapi (ns : List Int) : (ns.map SV.int).mapM SV.i? = some ns := mapM_i ns
@[simp] theorem ev_extD {i : Nat} {f : EF} {ρ : Env} {g : GS} : extD i f ρ g = match ρ[i]? with
  | some (some (.own ds)) => (f ρ g).bind fun p => match p.1 with
    | .lst xs => if lenOk (ds.length + xs.length) = true then some (.nx (ρ.set i (some (.own (ds ++ xs.map .sh)))) p.2) else none
    | _ => none
  | _ => none := rfl
@[simp] theorem ev_popD {j i : Nat} {ρ : Env} {g : GS} : popD j i ρ g = match ρ[i]? with
  | some (some (.own ds)) => (lastS ds).map fun s => .nx ((ρ.set i (some (.own ds.dropLast))).set j (some (.sh s))) g
  | _ => none := rfl
@[simp] theorem ev_pop0D {i : Nat} {ρ : Env} {g : GS} : pop0D i ρ g = match ρ[i]? with
  | some (some (.own ds)) => (lastS ds).map fun _ => .nx (ρ.set i (some (.own ds.dropLast))) g
  | _ => none := rfl
theorem lastS_snoc : ∀ (ds : List DV) (s : SV), lastS (ds ++ [.sh s]) = some s
  | [], _ => rfl
  | [d], s => rfl
  | _ :: d :: ds, s => by show lastS (d :: (ds ++ [.sh s])) = _; exact lastS_snoc (d :: ds) s
@[simp] theorem ev_revD {i : Nat} {ρ : Env} {g : GS} : revD i ρ g = match ρ[i]? with
  | some (some (.own ds)) => some (.nx (ρ.set i (some (.own ds.reverse))) g)
  | _ => none := rfl
@[simp] theorem ev_mapsh (xs : List SV) : (xs.map DV.sh).mapM DV.sh? = some xs := mapM_sh xs
@[simp] theorem ev_clrD {i : Nat} {ρ : Env} {g : GS} : clrD i ρ g = match ρ[i]? with
  | some (some (.own _)) => some (.nx (ρ.set i (some (.own []))) g)
  | _ => none := rfl
theorem while_step {c : TF} {sb : SF} {n : Nat} {ρ ρ' : Env} {g g1 g' : GS} (h : c ρ g = some (true, g1)) (h2 : sb ρ g1 = some (.nx ρ' g')) : whileN c sb (n + 1) ρ g = whileN c sb n ρ' g' := by
  conv => lhs; unfold whileN
  rw [h, Option.bind_some, if_pos rfl, h2, Option.bind_some]
theorem while_end {c : TF} {sb : SF} {n : Nat} {ρ : Env} {g g1 : GS} (h : c ρ g = some (false, g1)) : whileN c sb (n + 1) ρ g = some (.nx ρ g1) := by
  conv => lhs; unfold whileN
  rw [h, Option.bind_some, if_neg Bool.false_ne_true]
theorem at_last {α : Type} (xs : List α) (x : α) : L2.atI (xs ++ [x]) (-1) = some x := by
  unfold L2.atI L2.ixN
  rw [if_neg (by omega), if_pos (by simp; omega)]
  have e : (-1 + ((xs ++ [x]).length : Int)).toNat = xs.length := by rw [List.length_append]; simp; omega
  rw [Option.bind_some, e, List.getElem?_append_right (Nat.le_refl _)]
  simp
/-- a loop by an invariant -/
theorem loop_inv {α : Type} {gf : GF} {sb : SF} (enc : α → SV) (I : Nat → Env → GS → Prop) : ∀ (xs : List α) (ρ : Env) (g : GS) (k : Nat), I k ρ g →
    (∀ i x ρ g, xs[i]? = some x → I (k + i) ρ g → ∃ ρ' g', ((gf (.sh (enc x)) ρ g).bind fun p => sb p.1 p.2) = some (.nx ρ' g') ∧ I (k + i + 1) ρ' g') →
    ∃ ρ' g', loopD gf sb (xs.map enc) ρ g = some (.nx ρ' g') ∧ I (k + xs.length) ρ' g'
  | [], ρ, g, k, h0, _ => ⟨ρ, g, rfl, h0⟩
  | x :: xs, ρ, g, k, h0, hs => by
    obtain ⟨ρ1, g1, e, h1⟩ := hs 0 x ρ g rfl h0
    obtain ⟨ρ2, g2, e2, h2⟩ := loop_inv enc I xs ρ1 g1 (k + 1) h1 (fun i y ρ g hy hI => by
      obtain ⟨a, b, c, d⟩ := hs (i + 1) y ρ g (by simpa using hy) (by rw [show k + (i + 1) = k + 1 + i by omega]; exact hI)
      exact ⟨a, b, c, by rw [show k + 1 + i + 1 = k + (i + 1) + 1 by omega]; exact d⟩)
    refine ⟨ρ2, g2, ?_, by rw [List.length_cons, show k + (xs.length + 1) = k + 1 + xs.length by omega]; exact h2⟩
    rw [List.map_cons]
    unfold loopD
    obtain ⟨p, e3, e4⟩ := Option.bind_eq_some_iff.mp e
    rw [e3, Option.bind_some, e4, Option.bind_some]
    exact e2
theorem range_map (lo : Int) (n : Nat) : rngL lo n = (List.range n).map fun (i : Nat) => SV.int (lo + (i : Int)) := rfl
/-- a loop over range -/
theorem loop_rng {gf : GF} {sb : SF} {lo : Int} {n : Nat} (I : Nat → Env → GS → Prop) {ρ : Env} {g : GS} (h0 : I 0 ρ g) (hs : ∀ i ρ g, i < n → I i ρ g → ∃ ρ' g', ((gf (.sh (.int (lo + (i : Nat)))) ρ g).bind fun p => sb p.1 p.2) = some (.nx ρ' g') ∧ I (i + 1) ρ' g') :
    ∃ ρ' g', loopD gf sb (rngL lo n) ρ g = some (.nx ρ' g') ∧ I n ρ' g' := by
  have := loop_inv (gf := gf) (sb := sb) (fun (i : Nat) => SV.int (lo + (i : Int))) I (List.range n) ρ g 0 h0 (fun i x ρ g hx hI => by
    obtain ⟨h1, h2⟩ := List.getElem?_eq_some_iff.mp hx
    rw [List.getElem_range] at h2
    subst h2
    rw [List.length_range] at h1
    rw [Nat.zero_add] at hI ⊢
    exact hs i ρ g h1 hI)
  rw [List.length_range, Nat.zero_add] at this
  exact this
/-- a loop over a list -/
theorem loop_lst {α : Type} {gf : GF} {sb : SF} (enc : α → SV) {xs : List α} (I : Nat → Env → GS → Prop) {ρ : Env} {g : GS} (h0 : I 0 ρ g)
    (hs : ∀ i x ρ g, xs[i]? = some x → I i ρ g → ∃ ρ' g', ((gf (.sh (enc x)) ρ g).bind fun p => sb p.1 p.2) = some (.nx ρ' g') ∧ I (i + 1) ρ' g') :
    ∃ ρ' g', loopD gf sb (xs.map enc) ρ g = some (.nx ρ' g') ∧ I xs.length ρ' g' := by
  have := loop_inv (gf := gf) (sb := sb) enc I xs ρ g 0 h0 (fun i x ρ g hx hI => by
    rw [Nat.zero_add] at hI ⊢
    exact hs i x ρ g hx hI)
  rw [Nat.zero_add] at this
  exact this
/-- a comprehension without condition -/
theorem comp_map {α β : Type} {wf : WF} {f : OF} {ρ : Env} (enc : α → SV) (res : α → DV) : ∀ (xs : List α) (g : GS), (∀ x ∈ xs, ∀ g, ((wf (enc x) ρ).bind fun ρ' => f ρ' g) = some (res x, g)) → compL wf yesT f ρ (xs.map enc) g = some (xs.map res, g)
  | [], g, _ => rfl
  | x :: xs, g, h => by
    have h1 := h x List.mem_cons_self g
    obtain ⟨ρ', e1, e2⟩ := Option.bind_eq_some_iff.mp h1
    rw [List.map_cons, List.map_cons]
    unfold compL
    rw [e1, Option.bind_some, ev_yes, Option.bind_some, if_pos rfl, e2, Option.bind_some, comp_map (β := β) enc res xs g fun y hy g => h y (List.mem_cons_of_mem _ hy) g]
    rfl
theorem loop_nx {gf : GF} {sb : SF} {x : SV} {xs : List SV} {ρ ρ' : Env} {g g' : GS} (h : ((gf (.sh x) ρ g).bind fun p => sb p.1 p.2) = some (.nx ρ' g')) : loopD gf sb (x :: xs) ρ g = loopD gf sb xs ρ' g' := by
  obtain ⟨p, e1, e2⟩ := Option.bind_eq_some_iff.mp h
  conv => lhs; unfold loopD
  rw [e1, Option.bind_some, e2, Option.bind_some]
theorem loop_bk {gf : GF} {sb : SF} {x : SV} {xs : List SV} {ρ ρ' : Env} {g g' : GS} (h : ((gf (.sh x) ρ g).bind fun p => sb p.1 p.2) = some (.bk ρ' g')) : loopD gf sb (x :: xs) ρ g = some (.nx ρ' g') := by
  obtain ⟨p, e1, e2⟩ := Option.bind_eq_some_iff.mp h
  conv => lhs; unfold loopD
  rw [e1, Option.bind_some, e2, Option.bind_some]
@[simp] theorem loop_nil {gf : GF} {sb : SF} {ρ : Env} {g : GS} : loopD gf sb [] ρ g = some (.nx ρ g) := rfl

@[simp] theorem toNat_c (n : Nat) : ((n : Nat) : Int).toNat = n := rfl
@[simp] theorem atI_natE {α : Type} (xs : List α) (n : Nat) : L2.atI xs (n : Int) = xs[n]? := by
  unfold L2.atI L2.ixN
  by_cases h : n < xs.length
  · rw [if_pos (by omega), if_pos (by omega)]
    simp
  · rw [if_pos (by omega), if_neg (by omega)]
    exact (List.getElem?_eq_none (by omega)).symm
@[simp] theorem ev_fldP {C : PySem.Addr} {ns : List PySem.Str} {k : Nat} {h : OF} {ρ : Env} {g : GS} : fldP C ns k h ρ g = (h ρ g).bind fun p => (p.1.fld C ns k).map fun s => (s, p.2) := rfl
@[simp] theorem ev_fldo {C : PySem.Addr} {ns : List PySem.Str} {k : Nat} {xs : List SV} : (DV.sh (.obj C ns xs)).fld C ns k = xs[k]? := if_pos ⟨rfl, rfl⟩
@[simp] theorem ev_methF {C : PySem.Addr} {ns : List PySem.Str} {F : FF} {h : EF} {fs : AF} {ρ : Env} {g : GS} : methF C ns F h fs ρ g = (h ρ g).bind fun p => match p.1 with
  | .obj C' ns' xs => if C' = C ∧ ns' = ns then (fs ρ p.2).bind fun q => F (.obj C' ns' xs :: q.1) q.2 else none
  | _ => none := rfl
@[simp] theorem ev_makeF {C : PySem.Addr} {F : FIn} {fs : AF} {ρ : Env} {g : GS} : makeF C F fs ρ g = (fs ρ g).bind fun p => (F p.1 p.2).map fun r => (.ins false C r.1, r.2) := rfl
@[simp] theorem ixN_natE (l n : Nat) : L2.ixN l (n : Int) = if n < l then some n else none := by
  unfold L2.ixN
  rw [if_pos (by omega)]
  by_cases h : n < l
  · rw [if_pos (by omega), if_pos h]; simp
  · rw [if_neg (by omega), if_neg h]
@[simp] theorem ev_slotL {ρ : Env} {i : Nat} : slotL ρ i = match ρ[i]? with
  | some (some (.own ds)) => some ds
  | _ => none := rfl
@[simp] theorem ev_ownLo (ds : List DV) : (DV.own ds).ownL? = some ds := rfl
@[simp] theorem ev_ii (k : Int) : (SV.int k).i? = some k := rfl
@[simp] theorem ev_gIx2 {i : Nat} {fi fj : EF} {d : DV} {ρ : Env} {g : GS} : gIx2 i fi fj d ρ g = (fi ρ g).bind fun p => (fj ρ p.2).bind fun q => (slotL ρ i).bind fun ds => p.1.i?.bind fun k => q.1.i?.bind fun l => (L2.ixN ds.length k).bind fun k' => (ds[k']?.bind DV.ownL?).bind fun es =>
  (L2.ixN es.length l).map fun l' => (ρ.set i (some (.own (ds.set k' (.own (es.set l' d))))), q.2) := rfl
@[simp] theorem ev_appD2 {i : Nat} {fi : EF} {h : OF} {ρ : Env} {g : GS} : appD2 i fi h ρ g = (fi ρ g).bind fun p => (h ρ p.2).bind fun q => (slotL ρ i).bind fun ds => p.1.i?.bind fun k => (L2.ixN ds.length k).bind fun k' => (ds[k']?.bind DV.ownL?).bind fun es =>
  if lenOk es.length = true then some (.nx (ρ.set i (some (.own (ds.set k' (.own (es ++ [q.1])))))) q.2) else none := rfl
@[simp] theorem ev_listRevP {h : OF} {ρ : Env} {g : GS} : listRevP h ρ g = (h ρ g).bind fun p => p.1.lst?.map fun xs => (.own (xs.reverse.map .sh), p.2) := rfl
@[simp] theorem ev_b2P {k : SV → SV → Option SV} {fa fb : OF} {ρ : Env} {g : GS} : b2P k fa fb ρ g = (fa ρ g).bind fun p => (fb ρ p.2).bind fun q => (k p.1.frz q.1.frz).bind fun s => match s with
  | .bl b => some (.bl b, q.2)
  | _ => none := rfl
@[simp] theorem ev_fldD {i : Nat} {C : PySem.Addr} {pre : List PySem.Str} {f : PySem.Str} {v : EF} {ρ : Env} {g : GS} : fldD i C pre f v ρ g = (v ρ g).bind fun p => match ρ[i]? with
  | some (some (.ins me C' fs)) => if C' = C ∧ fs.map (·.1) = pre then some (.nx (ρ.set i (some (.ins me C' (fs ++ [(f, p.1)])))) p.2) else none
  | _ => none := rfl
theorem ev_ints (ns : List Int) : intsP (.own ((ns.map SV.int).map .sh)) = some ns := by unfold intsP; rw [ev_lso, Option.bind_some]; exact mapM_i ns
theorem ev_intl (ns : List Int) : intsP (.sh (.lst (ns.map SV.int))) = some ns := by unfold intsP; rw [ev_lsl, Option.bind_some]; exact mapM_i ns
@[simp] theorem ev_sumP {h : OF} {ρ : Env} {g : GS} : sumP h ρ g = (h ρ g).bind fun p => (intsP p.1).map fun ns => (.int ns.sum, p.2) := rfl
@[simp] theorem ev_maxP {h : OF} {ρ : Env} {g : GS} : maxP h ρ g = (h ρ g).bind fun p => ((intsP p.1).bind maxL).map fun n => (.int n, p.2) := rfl
@[simp] theorem ev_minP {h : OF} {ρ : Env} {g : GS} : minP h ρ g = (h ρ g).bind fun p => ((intsP p.1).bind minL).map fun n => (.int n, p.2) := rfl
@[simp] theorem ev_sortRP {h : OF} {ρ : Env} {g : GS} : sortRP h ρ g = (h ρ g).bind fun p => (intsP p.1).map fun ns => (.own ((((sortI ns).reverse).map SV.int).map .sh), p.2) := rfl
@[simp] theorem ev_wT {n : Nat} {fs : List SV → Env → Option Env} {xs : List SV} {ρ : Env} : wT n fs (.tup xs) ρ = if xs.length = n then fs xs ρ else none := rfl
@[simp] theorem ev_wLN {ρ : Env} : wLN [] ρ = some ρ := rfl
@[simp] theorem ev_wLC {f : WF} {fs : List SV → Env → Option Env} {x : SV} {xs : List SV} {ρ : Env} : wLC f fs (x :: xs) ρ = (f x ρ).bind fun ρ' => fs xs ρ' := rfl
@[simp] theorem ev_iR3 {fa fb : EF} {ρ : Env} {g : GS} : iR3 fa fb ρ g = (fa ρ g).bind fun p => (fb ρ p.2).bind fun q => match p.1, q.1 with
  | .int a, .int b => if rngOk a = true ∧ rngOk b = true then some (dwnL a (a - b).toNat, q.2) else none
  | _, _ => none := rfl
theorem dwn_map (lo : Int) (n : Nat) : dwnL lo n = (List.range n).map fun (i : Nat) => SV.int (lo - (i : Int)) := rfl
@[simp] theorem ev_fiF {C : PySem.Addr} {n N : Nat} {b : SF} {ss : List SV} {g : GS} : fiF C n N b ss g = if ss.length = n then (b (envI C N ss) g).bind fun (r : Fl) => match r with
  | .nx ρ g' => takeI C g' ρ[0]?
  | _ => none
else none := rfl
@[simp] theorem ev_envI {C : PySem.Addr} {N : Nat} {ss : List SV} : envI C N ss = some (.ins true C []) :: (ss.map (fun s => some (.sh s)) ++ List.replicate (N - 1 - ss.length) none) := rfl
@[simp] theorem ev_takeI {C : PySem.Addr} {g : GS} {fs : List (PySem.Str × SV)} : takeI C g (some (some (.ins true C fs))) = some (fs, g) := if_pos rfl
theorem ev_fldi {me : Bool} {C : PySem.Addr} {ns : List PySem.Str} {k : Nat} {fs : List (PySem.Str × SV)} (h : fs.map (·.1) = ns.take fs.length) : (DV.ins me C fs).fld C ns k = fs[k]?.map (·.2) := if_pos ⟨rfl, h⟩
/-- a loop over enumerate(a list) -/
theorem loop_num {α : Type} {gf : GF} {sb : SF} (enc : α → SV) {xs : List α} (I : Nat → Env → GS → Prop) {ρ : Env} {g : GS} (h0 : I 0 ρ g)
    (hs : ∀ i x ρ g, xs[i]? = some x → I i ρ g → ∃ ρ' g', ((gf (.sh (.tup [.int (i : Nat), enc x])) ρ g).bind fun p => sb p.1 p.2) = some (.nx ρ' g') ∧ I (i + 1) ρ' g') :
    ∃ ρ' g', loopD gf sb (numL (xs.map enc)) ρ g = some (.nx ρ' g') ∧ I xs.length ρ' g' := by
  have e : numL (xs.map enc) = (List.range xs.length).map fun i => SV.tup [.int (i : Nat), (xs.map enc).getD i .non] := by
    refine List.ext_getElem? fun i => ?_
    by_cases h : i < xs.length
    · simp [numL, h, List.getD]
    · simp [numL, h]
  rw [e]
  have := loop_inv (gf := gf) (sb := sb) (fun (i : Nat) => SV.tup [.int (i : Nat), (xs.map enc).getD i .non]) I (List.range xs.length) ρ g 0 h0 (fun i x ρ g hx hI => by
    obtain ⟨h1, h2⟩ := List.getElem?_eq_some_iff.mp hx
    rw [List.getElem_range] at h2
    subst h2
    rw [List.length_range] at h1
    rw [Nat.zero_add] at hI ⊢
    have ex : (xs.map enc).getD i .non = enc (xs[i]'h1) := by simp [List.getD, h1]
    rw [ex]
    exact hs i _ ρ g (List.getElem?_eq_getElem h1) hI)
  rw [List.length_range, Nat.zero_add] at this
  exact this
@[simp] theorem ev_lendS {i : Nat} {f : EF} {ρ : Env} {g : GS} : lendS i f ρ g = (f (frzEnv i ρ) g).bind fun r => if r.1.noL = true then some r else none := rfl
@[simp] theorem ev_lendO {i : Nat} {f : OF} {ρ : Env} {g : GS} : lendO i f ρ g = (f (frzEnv i ρ) g).bind fun r => if r.1.noL = true then some r else none := rfl
@[simp] theorem ev_lendT {i : Nat} {f : TF} {ρ : Env} {g : GS} : lendT i f ρ g = f (frzEnv i ρ) g := rfl
@[simp] theorem ev_tupO {os : AOF} {ρ : Env} {g : GS} : tupO os ρ g = (os ρ g).bind fun p => if p.1.length ≤ 1000 then some (.tup p.1, p.2) else none := rfl
@[simp] theorem ev_atT (ds : List DV) (i : Int) : (DV.tup ds).at i = L2.atI ds i := rfl
@[simp] theorem ev_lnT (ds : List DV) : (DV.tup ds).len? = some ds.length := rfl
@[simp] theorem ev_tyT (ds : List DV) : (DV.tup ds).ty? = some "tuple" := rfl
@[simp] theorem ev_frzT (ds : List DV) : (DV.tup ds).frz = .tup (DV.frzs ds) := by simp only [DV.frz]
@[simp] theorem ev_frzs_nil : DV.frzs [] = [] := by simp only [DV.frzs]
@[simp] theorem ev_frzs_cons (d : DV) (ds : List DV) : DV.frzs (d :: ds) = d.frz :: DV.frzs ds := by simp only [DV.frzs]
@[simp] theorem ev_nlT (ds : List DV) : (DV.tup ds).noL = DV.noLs ds := by simp only [DV.noL]
@[simp] theorem ev_nlO (ds : List DV) : (DV.own ds).noL = DV.noLs ds := by simp only [DV.noL]
@[simp] theorem ev_nls_nil : DV.noLs [] = true := by simp only [DV.noLs]
@[simp] theorem ev_nls_cons (d : DV) (ds : List DV) : DV.noLs (d :: ds) = (d.noL && DV.noLs ds) := by simp only [DV.noLs]
@[simp] theorem ev_nlsh (s : SV) : (DV.sh s).noL = s.noL := by simp only [DV.noL]
@[simp] theorem ev_snl_t (xs : List SV) : (SV.tup xs).noL = SV.noLs xs := by simp only [SV.noL]
@[simp] theorem ev_snl_i (i : Int) : (SV.int i).noL = true := by simp only [SV.noL]
@[simp] theorem ev_snl_b (i : Bool) : (SV.bl i).noL = true := by simp only [SV.noL]
@[simp] theorem ev_snl_n : (SV.non).noL = true := by simp only [SV.noL]
@[simp] theorem ev_snls_nil : SV.noLs [] = true := by simp only [SV.noLs]
@[simp] theorem ev_snls_cons (d : SV) (ds : List SV) : SV.noLs (d :: ds) = (d.noL && SV.noLs ds) := by simp only [SV.noLs]
theorem nls_sh (xs : List SV) : DV.noLs (xs.map .sh) = SV.noLs xs := by
  induction xs with
  | nil => rfl
  | cons x xs ih => rw [List.map_cons, ev_nls_cons, ev_snls_cons, ih, ev_nlsh]
theorem snls_map {α : Type} {f : α → SV} (h : ∀ x, (f x).noL = true) (xs : List α) : SV.noLs (xs.map f) = true := by
  induction xs with
  | nil => rfl
  | cons x xs ih => rw [List.map_cons, ev_snls_cons, ih, h]; rfl
@[simp] theorem ev_forA {i j : Nat} {f : AFl} {ρ : Env} {g : GS} : forA i j f ρ g = (slotL ρ i).bind fun ds => if i = j then none else (loopA i j f ds.length 0 ρ g).map fun p => .nx p.1 p.2 := rfl
@[simp] theorem ev_seqA {a b : AFl} {k : Nat} {ρ : Env} {g : GS} : seqA a b k ρ g = (a k ρ g).bind fun p => b k p.1 p.2 := rfl
@[simp] theorem ev_loopA0 {i j k : Nat} {f : AFl} {ρ : Env} {g : GS} : loopA i j f 0 k ρ g = some (ρ, g) := rfl
@[simp] theorem ev_loopAs {i j n k : Nat} {f : AFl} {ρ : Env} {g : GS} : loopA i j f (n + 1) k ρ g = ((slotL ρ i).bind fun ds => ds[k]?.bind DV.ownL?).bind fun _ => if j < ρ.length then (f k (ρ.set j none) g).bind fun p => loopA i j f n (k + 1) p.1 p.2 else none := rfl
@[simp] theorem ev_appA {i k : Nat} {h : OF} {ρ : Env} {g : GS} : appA i h k ρ g = (slotL ρ i).bind fun ds => (ds[k]?.bind DV.ownL?).bind fun es => (h ρ g).bind fun q => if lenOk es.length = true then some (ρ.set i (some (.own (ds.set k (.own (es ++ [q.1]))))), q.2) else none := rfl
@[simp] theorem ev_revA {i k : Nat} {ρ : Env} {g : GS} : revA i k ρ g = (slotL ρ i).bind fun ds => (ds[k]?.bind DV.ownL?).bind fun es => (es.mapM DV.sh?).map fun xs => (ρ.set i (some (.own (ds.set k (.own (xs.reverse.map .sh))))), g) := rfl
@[simp] theorem ev_gToT {is : List Nat} {ds : List DV} {ρ : Env} {g : GS} : gTo is (.tup ds) ρ g = if ds.length = is.length then some (setAll is ds ρ, g) else none := rfl
@[simp] theorem ev_gToS {is : List Nat} {xs : List SV} {ρ : Env} {g : GS} : gTo is (.sh (.tup xs)) ρ g = if xs.length = is.length then some (setAll is (xs.map .sh) ρ, g) else none := rfl
@[simp] theorem ev_setAll0 {ds : List DV} {ρ : Env} : setAll [] ds ρ = ρ := by unfold setAll; rfl
@[simp] theorem ev_setAlls {i : Nat} {is : List Nat} {d : DV} {ds : List DV} {ρ : Env} : setAll (i :: is) (d :: ds) ρ = setAll is ds (ρ.set i (some d)) := rfl
end DL

namespace DL
variable [CA]
/-! ratios -/
def fr (q : Int × Int) : SV := .tup [.int q.1, .int q.2]
def Sz (k : Nat) (x : Int) : Prop := x.natAbs < 2 ^ k
theorem Sz.mono {k l : Nat} {x : Int} (h : Sz k x) (hl : k ≤ l) : Sz l x := Nat.lt_of_lt_of_le h (Nat.pow_le_pow_right (by decide) hl)
theorem Sz.log {k l : Nat} {x : Int} (h : Sz k x) (hl : k ≤ l) (h0 : 0 < l) : x.natAbs.log2 < l := log2_of_lt h0 (h.mono hl)
theorem Sz.mul {k l : Nat} {x y : Int} (h : Sz k x) (h' : Sz l y) : Sz (k + l) (x * y) := by
  unfold Sz at *
  rw [Int.natAbs_mul, Nat.pow_add]
  exact Nat.mul_lt_mul'' h h'
theorem Sz.add {k l : Nat} {x y : Int} (h : Sz k x) (h' : Sz l y) : Sz (max k l + 1) (x + y) := by
  have h1 := h.mono (Nat.le_max_left k l)
  have h2 := h'.mono (Nat.le_max_right k l)
  unfold Sz at *
  rw [Nat.pow_succ]
  omega
theorem Sz.neg {k : Nat} {x : Int} (h : Sz k x) : Sz k (-x) := by unfold Sz at *; omega
theorem Sz.sub {k l : Nat} {x y : Int} (h : Sz k x) (h' : Sz l y) : Sz (max k l + 1) (x - y) := by rw [Int.sub_eq_add_neg]; exact h.add h'.neg
theorem mulOk_of {k l : Nat} {x y : Int} (h : Sz k x) (h' : Sz l y) (hk : k ≤ 60000000) (hl : l ≤ 60000000) : mulOk x y = true := by
  unfold mulOk
  exact decide_eq_true ⟨h.log hk (by decide), h'.log hl (by decide)⟩
theorem divOk_of {k : Nat} {x y : Int} (h0 : 0 < y) (h : Sz k y) (hk : k ≤ 9000) : divOk x y = true := by
  unfold divOk
  exact decide_eq_true ⟨h0, .inl (h.log hk (by decide))⟩
/-- n / d in lowest terms -/
def rat (n d : Int) : Int × Int :=
  if d < 0 then (-n / (Nat.gcd n.natAbs d.natAbs : Int), -d / (Nat.gcd n.natAbs d.natAbs : Int)) else (n / (Nat.gcd n.natAbs d.natAbs : Int), d / (Nat.gcd n.natAbs d.natAbs : Int))

/-- a fraction -/
def Fr (q : Int × Int) : Prop := 0 < q.2 ∧ Nat.gcd q.1.natAbs q.2.natAbs = 1
structure FrS (k : Nat) (q : Int × Int) : Prop where
  fr : Fr q
  n : Sz k q.1
  d : Sz k q.2
theorem FrS.mono {k l : Nat} {q : Int × Int} (h : FrS k q) (hl : k ≤ l) : FrS l q := ⟨h.fr, h.n.mono hl, h.d.mono hl⟩
theorem gcdI_dvd_left (n d : Int) : ((Nat.gcd n.natAbs d.natAbs : Nat) : Int) ∣ n := Int.ofNat_dvd_left.mpr (Nat.gcd_dvd_left _ _)
theorem gcdI_dvd_right (n d : Int) : ((Nat.gcd n.natAbs d.natAbs : Nat) : Int) ∣ d := Int.ofNat_dvd_left.mpr (Nat.gcd_dvd_right _ _)
theorem natAbs_ediv_dvd {n c : Int} (h : c ∣ n) : (n / c).natAbs = n.natAbs / c.natAbs := Int.natAbs_ediv_of_dvd h
theorem gcd_div_self {a b : Nat} (h : 0 < Nat.gcd a b) : Nat.gcd (a / Nat.gcd a b) (b / Nat.gcd a b) = 1 := by
  rw [Nat.gcd_div (Nat.gcd_dvd_left a b) (Nat.gcd_dvd_right a b), Nat.div_self h]
/-- the quotients by the gcd -/
theorem quo_facts {n d : Int} (hd : 0 < d) : Fr (n / (Nat.gcd n.natAbs d.natAbs : Int), d / (Nat.gcd n.natAbs d.natAbs : Int)) ∧ (n / (Nat.gcd n.natAbs d.natAbs : Int)) * d = n * (d / (Nat.gcd n.natAbs d.natAbs : Int)) ∧
    (n / (Nat.gcd n.natAbs d.natAbs : Int)).natAbs ≤ n.natAbs ∧ (d / (Nat.gcd n.natAbs d.natAbs : Int)).natAbs ≤ d.natAbs := by
  have hg : 0 < Nat.gcd n.natAbs d.natAbs := Nat.gcd_pos_of_pos_right _ (by omega)
  obtain ⟨x, hx⟩ := gcdI_dvd_left n d
  obtain ⟨y, hy⟩ := gcdI_dvd_right n d
  have hgi : (Nat.gcd n.natAbs d.natAbs : Int) ≠ 0 := by omega
  have ex : n / (Nat.gcd n.natAbs d.natAbs : Int) = x := Int.ediv_eq_of_eq_mul_right hgi hx
  have ey : d / (Nat.gcd n.natAbs d.natAbs : Int) = y := Int.ediv_eq_of_eq_mul_right hgi hy
  refine ⟨⟨?_, ?_⟩, ?_, ?_, ?_⟩
  · show 0 < d / (Nat.gcd n.natAbs d.natAbs : Int)
    exact Int.ediv_pos_of_pos_of_dvd hd (by omega) (gcdI_dvd_right n d)
  · show Nat.gcd (n / (Nat.gcd n.natAbs d.natAbs : Int)).natAbs (d / (Nat.gcd n.natAbs d.natAbs : Int)).natAbs = 1
    rw [natAbs_ediv_dvd (gcdI_dvd_left n d), natAbs_ediv_dvd (gcdI_dvd_right n d), Int.natAbs_natCast]
    exact gcd_div_self hg
  · rw [ex, ey]
    conv => lhs; rw [hy]
    conv => rhs; rw [hx]
    rw [← Int.mul_assoc, Int.mul_comm x]
  · rw [natAbs_ediv_dvd (gcdI_dvd_left n d)]; exact Nat.div_le_self _ _
  · rw [natAbs_ediv_dvd (gcdI_dvd_right n d)]; exact Nat.div_le_self _ _
theorem rat_pos {n d : Int} (hd : 0 < d) : rat n d = (n / (Nat.gcd n.natAbs d.natAbs : Int), d / (Nat.gcd n.natAbs d.natAbs : Int)) := by
  unfold rat; rw [if_neg (by omega)]
theorem rat_neg {n d : Int} (hd : d < 0) : rat n d = rat (-n) (-d) := by
  rw [rat_pos (by omega : 0 < -d), Int.natAbs_neg, Int.natAbs_neg]
  unfold rat; rw [if_pos hd]
theorem rat_facts {n d : Int} (hd : d ≠ 0) : Fr (rat n d) ∧ (rat n d).1 * d = n * (rat n d).2 ∧ (rat n d).1.natAbs ≤ n.natAbs ∧ (rat n d).2.natAbs ≤ d.natAbs := by
  by_cases h : 0 < d
  · rw [rat_pos h]; exact quo_facts h
  · have h' : d < 0 := by omega
    rw [rat_neg h']
    have z := quo_facts (n := -n) (d := -d) (by omega)
    rw [rat_pos (by omega)]
    refine ⟨z.1, ?_, by have := z.2.2.1; omega, by have := z.2.2.2; omega⟩
    have z2 := z.2.1
    rw [Int.mul_neg, Int.neg_mul] at z2
    exact Int.neg_inj.mp z2
theorem rat_fr {n d : Int} (hd : d ≠ 0) : Fr (rat n d) := (rat_facts hd).1
theorem rat_eq {n d : Int} (hd : d ≠ 0) : (rat n d).1 * d = n * (rat n d).2 := (rat_facts hd).2.1
theorem rat_szs {n d : Int} {k : Nat} (hd : d ≠ 0) (h1 : Sz k n) (h2 : Sz k d) : FrS k (rat n d) :=
  ⟨rat_fr hd, Nat.lt_of_le_of_lt (rat_facts hd).2.2.1 h1, Nat.lt_of_le_of_lt (rat_facts hd).2.2.2 h2⟩
theorem ratio_eq {n d : Int} {k : Nat} {g : GS} (hd : d ≠ 0) (hs : Sz k d) (hk : k ≤ 9000) : F_ratio [.int n, .int d] g = some (.sh (fr (rat n d)), g) := by
  have hg0 : 0 < (Nat.gcd n.natAbs d.natAbs : Int) := by
    have := Nat.gcd_pos_of_pos_right n.natAbs (Int.natAbs_pos.mpr hd)
    omega
  have hgs : Sz k (Nat.gcd n.natAbs d.natAbs : Int) := by
    have h1 := Nat.le_of_dvd (Int.natAbs_pos.mpr hd) (Nat.gcd_dvd_right n.natAbs d.natAbs)
    unfold Sz at *
    omega
  have e1 : ∀ x, divOk x (Nat.gcd n.natAbs d.natAbs : Int) = true := fun x => divOk_of hg0 hgs hk
  unfold F_ratio rat fr
  by_cases h : d < 0
  · simp [B_ratio, h, e1, Int.natAbs_neg]
  · simp [B_ratio, h, e1]

/-! Euclid in 4000 turns -/
def fib2 : Nat → Nat × Nat
  | 0 => (0, 1)
  | n + 1 => ((fib2 n).2, (fib2 n).1 + (fib2 n).2)
def fib (n : Nat) : Nat := (fib2 n).1
theorem fib_ss (n : Nat) : fib (n + 2) = fib n + fib (n + 1) := rfl
theorem fib_mono (n : Nat) : fib (n + 1) ≤ fib (n + 2) := by rw [fib_ss]; omega
theorem fib_mono' : ∀ n : Nat, fib n ≤ fib (n + 1)
  | 0 => by decide
  | n + 1 => fib_mono n
def gcdBody : SF := seqD (ifD (tB1 (b2 hEq (vS 1) (kS (.int 0)))) (brkD) (skipD))
  (seqD (setD 3 (oS (b2 hMod (c1 hInt (aC (vS 0) (aN))) (vS 1))))
  (seqD (setD 0 (oS (vS 1)))
  (setD 1 (oS (vS 3)))))
theorem gcd_loop : ∀ (n : Nat) (xs : List SV), xs.length = n → ∀ (a b : Nat), b < fib (n + 2) → ∀ (x y : Option DV) (g : GS), ∃ x' y',
    loopD (gN 2) gcdBody xs [some (.sh (.int a)), some (.sh (.int b)), x, y] g = some (.nx [some (.sh (.int (Nat.gcd a b : Nat))), some (.sh (.int 0)), x', y'] g) := by
  intro n
  induction n using Nat.strongRecOn with
  | ind n ih =>
    intro xs hl a b hb x y g
    by_cases h0 : b = 0
    · subst h0
      cases xs with
      | nil => exact ⟨x, y, by simp [loopD]⟩
      | cons z zs => exact ⟨some (.sh z), y, by simp [loopD, gcdBody]⟩
    · cases xs with
      | nil =>
        subst hl
        have : fib (0 + 2) = 1 := rfl
        simp only [List.length_nil] at hb
        omega
      | cons z zs =>
        have step : ∀ (a b : Nat) (z : SV) (zs : List SV) (x y : Option DV), b ≠ 0 → loopD (gN 2) gcdBody (z :: zs) [some (.sh (.int a)), some (.sh (.int b)), x, y] g = loopD (gN 2) gcdBody zs [some (.sh (.int b)), some (.sh (.int ((a % b : Nat) : Int))), some (.sh z), some (.sh (.int ((a % b : Nat) : Int)))] g := fun a b z zs x y h0 => by
          have hm : modOk (a : Int) (b : Int) = true := by unfold modOk; exact decide_eq_true (by omega)
          exact loop_nx (by simp [gcdBody, h0, hm])
        have gs : ∀ a b : Nat, Nat.gcd b (a % b) = Nat.gcd a b := fun a b => by rw [Nat.gcd_comm b, ← Nat.gcd_rec, Nat.gcd_comm]
        rw [step a b z zs x y h0]
        have hg := gs a b
        have hlt : a % b < b := Nat.mod_lt _ (by omega)
        generalize a % b = r at *
        simp only [List.length_cons] at hl
        subst hl
        by_cases h1 : r < fib (zs.length + 2)
        · obtain ⟨x', y', e⟩ := ih zs.length (by omega) zs rfl b r h1 (some (.sh z)) (some (.sh (.int (r : Int)))) g
          rw [hg] at e
          exact ⟨x', y', e⟩
        · cases zs with
          | nil =>
            exfalso
            simp only [List.length_nil] at hb h1
            have e2 : fib (0 + 1 + 2) = 2 := rfl
            have e3 : fib (0 + 2) = 1 := rfl
            omega
          | cons z2 zs =>
            simp only [List.length_cons] at hb h1 ⊢
            have f1 : fib (zs.length + 1 + 1 + 2) = fib (zs.length + 2) + fib (zs.length + 1 + 2) := fib_ss _
            have f2 : fib (zs.length + 2) ≤ fib (zs.length + 1 + 2) := fib_mono' (zs.length + 2)
            have hr0 : r ≠ 0 := by
              have h3 : 0 < fib (zs.length + 1 + 2) := by
                have : ∀ n, 0 < fib (n + 1) := fun n => by
                  induction n with
                  | zero => decide
                  | succ n ih => exact Nat.lt_of_lt_of_le ih (fib_mono' (n + 1))
                exact this _
              omega
            rw [step b r z2 zs _ _ hr0]
            have hg2 := gs b r
            have hlt2 : b % r < fib (zs.length + 2) := by
              rw [Nat.mod_eq_sub_mod (Nat.le_of_lt hlt), Nat.mod_eq_of_lt (by omega)]
              omega
            obtain ⟨x', y', e⟩ := ih zs.length (by simp only [List.length_cons]; omega) zs rfl r (b % r) hlt2 (some (.sh z2)) (some (.sh (.int ((b % r : Nat) : Int)))) g
            rw [hg2, hg] at e
            exact ⟨x', y', e⟩
theorem fib_big : 2 ^ 2700 ≤ fib 4002 := by decide +kernel
theorem law_gcd_eq {a b : Int} {g : GS} (hb : Sz 2700 b) : F_law_gcd [.int a, .int b] g = some (.sh (.int (Nat.gcd a.natAbs b.natAbs : Nat)), g) := by
  have ea : ∀ x : Int, (if x < 0 then -x else x) = (x.natAbs : Int) := fun x => by split <;> omega
  obtain ⟨x', y', e⟩ := gcd_loop 4000 (rngL 0 4000) (by unfold rngL; simp) a.natAbs b.natAbs (Nat.lt_of_lt_of_le hb fib_big) none none g
  unfold gcdBody at e
  simp [F_law_gcd, B_law_gcd, ea, e, show rngOk 4000 = true by decide]
theorem isint_eq (a : Int) (g : GS) : F_law_is_integer [.int a] g = some (.sh (.bl true), g) := by simp [F_law_is_integer, B_law_is_integer]
theorem same_eq {q : Int × Int} {n d : Int} {k l : Nat} {g : GS} (hq : FrS k q) (hk : k ≤ 2700) (hn : Sz l n) (hd : Sz l d) (hl : l ≤ 60000000) (e : q.1 * d = n * q.2) : F_law_same [fr q, .int n, .int d] g = some (.sh (.bl true), g) := by
  have h1 : ¬ q.2 < 1 := by have := hq.fr.1; omega
  have hg : F_law_gcd [.int q.1, .int q.2] g = some (.sh (.int 1), g) := by rw [law_gcd_eq (hq.d.mono hk), hq.fr.2]; rfl
  have m1 : mulOk q.1 d = true := mulOk_of hq.n hd (by omega) hl
  have m2 : mulOk n q.2 = true := mulOk_of hn hq.d hl (by omega)
  simp [F_law_same, B_law_same, fr, isint_eq, h1, hg, m1, m2, e]
theorem draw_eq {b : Int} (g : GS) (h0 : 0 < b) (h1 : b < 1000000000000) : ∃ r g', drawF [.gen, .int b] g = some (.sh (.int r), g') ∧ 0 ≤ r ∧ r < b := by
  have hl : b.natAbs.log2 < 9000 := log2_of_lt (by decide) (Nat.lt_of_lt_of_le (show b.natAbs < 2 ^ 40 by omega) (Nat.pow_le_pow_right (by decide) (by decide)))
  exact ⟨(g.draw b).1, (g.draw b).2, by unfold drawF; simp [h0, hl], g.draw_lt h0⟩
def Good (o : Option Fl) : Prop := ∃ g', o = some (.rt (.sh (.bl true)) g')
theorem good_seq {s t : SF} {ρ ρ' : Env} {g g' : GS} (h : s ρ g = some (.nx ρ' g')) (k : Good (t ρ' g')) : Good (seqD s t ρ g) := by
  obtain ⟨g2, e⟩ := k
  exact ⟨g2, by rw [ev_seq, h]; exact e⟩
theorem comp_ex {β : Type} {wf : WF} {f : OF} {ρ : Env} (P : β → Prop) (res : β → DV) : ∀ (xs : List SV) (g : GS), (∀ x ∈ xs, ∀ g, ∃ b g', ((wf x ρ).bind fun ρ' => f ρ' g) = some (res b, g') ∧ P b) →
    ∃ (bs : List β) (g' : GS), compL wf yesT f ρ xs g = some (bs.map res, g') ∧ bs.length = xs.length ∧ ∀ b ∈ bs, P b
  | [], g, _ => ⟨[], g, rfl, rfl, fun b h => absurd h List.not_mem_nil⟩
  | x :: xs, g, h => by
    obtain ⟨b, g1, e, hb⟩ := h x List.mem_cons_self g
    obtain ⟨bs, g2, e2, hl, hbs⟩ := comp_ex P res xs g1 fun y hy => h y (List.mem_cons_of_mem _ hy)
    obtain ⟨ρ', e3, e4⟩ := Option.bind_eq_some_iff.mp e
    refine ⟨b :: bs, g2, ?_, by rw [List.length_cons, List.length_cons, hl], fun c hc => ?_⟩
    · unfold compL
      rw [e3, Option.bind_some, ev_yes, Option.bind_some, if_pos rfl, e4, Option.bind_some, e2]
      rfl
    · rcases List.mem_cons.mp hc with z | z
      · subst z; exact hb
      · exact hbs c z
theorem rngL_len (lo : Int) (n : Nat) : (rngL lo n).length = n := by unfold rngL; simp

/-! data: equality, membership -/
mutual
theorem pd_refl : ∀ (s : SV) (d : PySem.PyData), s.pd = some d → SV.eq s s = some true := by
  intro s d h
  cases s <;> simp only [SV.pd, reduceCtorEq, Option.map_eq_some_iff] at h
  case tup xs => obtain ⟨p, hp, _⟩ := h; simp only [SV.eq]; exact pds_refl xs p hp
  case lst xs => obtain ⟨p, hp, _⟩ := h; simp only [SV.eq]; exact pds_refl xs p hp
  all_goals simp [SV.eq]
theorem pds_refl : ∀ (xs : List SV) (ds : List PySem.PyData), SV.pds xs = some ds → SV.eqs xs xs = some true := by
  intro xs ds h
  cases xs with
  | nil => simp [SV.eqs]
  | cons x xs =>
    simp only [SV.pds, Option.bind_eq_some_iff, Option.map_eq_some_iff] at h
    obtain ⟨p, hp, q, hq, _⟩ := h
    simp only [SV.eqs]
    rw [pd_refl x p hp, pds_refl xs q hq]
    rfl
end
theorem hEqD_refl {s : SV} {d : PySem.PyData} {k : Bool → Bool} (h : s.pd = some d) (hd : s.dep ≤ 64) : hEqD k s s = some (.bl (k true)) := by
  unfold hEqD
  rw [h, pd_refl s d h]
  simp [hd]
theorem hEq_tup {xs : List SV} {d : PySem.PyData} (h : (SV.tup xs).pd = some d) (hd : (SV.tup xs).dep ≤ 64) : hEq (.tup xs) (.tup xs) = some (.bl true) := by
  have := hEqD_refl (k := fun x => x) h hd
  unfold hEq
  exact this
theorem hNe_tup {xs : List SV} {d : PySem.PyData} (h : (SV.tup xs).pd = some d) (hd : (SV.tup xs).dep ≤ 64) : hNe (.tup xs) (.tup xs) = some (.bl false) := by
  have := hEqD_refl (k := fun x => !x) h hd
  unfold hNe
  exact this
theorem pds_map {α : Type} {f : α → SV} {p : α → PySem.PyData} : ∀ (xs : List α), (∀ x ∈ xs, (f x).pd = some (p x)) → SV.pds (xs.map f) = some (xs.map p)
  | [], _ => by simp [SV.pds]
  | x :: xs, h => by
    rw [List.map_cons, List.map_cons, SV.pds, h x List.mem_cons_self, Option.bind_some, pds_map xs fun y hy => h y (List.mem_cons_of_mem _ hy)]
    rfl
theorem deps_map {α : Type} {f : α → SV} {n : Nat} : ∀ (xs : List α), (∀ x ∈ xs, (f x).dep ≤ n) → SV.deps (xs.map f) ≤ n
  | [], _ => by simp [SV.deps]
  | x :: xs, h => by
    rw [List.map_cons, SV.deps]
    exact Nat.max_le.mpr ⟨h x List.mem_cons_self, deps_map xs fun y hy => h y (List.mem_cons_of_mem _ hy)⟩
theorem fr_pd (q : Int × Int) : (fr q).pd = some (.tuple [.int q.1, .int q.2]) := by simp [fr, SV.pd, SV.pds]
theorem fr_dep (q : Int × Int) : (fr q).dep ≤ 1 := by simp [fr, SV.dep, SV.deps]
theorem frs_pd (qs : List (Int × Int)) : (SV.lst (qs.map fr)).pd = some (.list (qs.map fun q => .tuple [.int q.1, .int q.2])) := by
  rw [SV.pd, pds_map (p := fun q => .tuple [.int q.1, .int q.2]) qs fun q _ => fr_pd q]; rfl
theorem frs_dep (qs : List (Int × Int)) : (SV.lst (qs.map fr)).dep ≤ 2 := by
  rw [SV.dep]
  have := deps_map (f := fr) (n := 1) qs fun q _ => fr_dep q
  omega
theorem fr_eq (a b : Int × Int) : SV.eq (fr a) (fr b) = some (decide (a = b)) := by
  simp only [fr, SV.eq, SV.eqs, Bool.and_true]
  congr 1
  rw [Bool.eq_iff_iff]
  simp [Prod.ext_iff]
theorem mapM_some {α β : Type} {f : α → Option β} {r : α → β} : ∀ (xs : List α), (∀ x ∈ xs, f x = some (r x)) → xs.mapM f = some (xs.map r)
  | [], _ => rfl
  | x :: xs, h => by
    rw [List.mapM_cons, h x List.mem_cons_self, mapM_some xs fun y hy => h y (List.mem_cons_of_mem _ hy)]
    rfl
theorem notIn_mem {q : Int × Int} {qs : List (Int × Int)} (h : q ∈ qs) : hInD (fun x => !x) (fr q) (.lst (qs.map fr)) = some (.bl false) := by
  have hp : SV.pds (qs.map fr) = some (qs.map fun q => .tuple [.int q.1, .int q.2]) := pds_map (p := fun q => .tuple [.int q.1, .int q.2]) qs fun q _ => fr_pd q
  have hm : (qs.map fr).mapM (fun z => SV.eq z (fr q)) = some ((qs.map fr).map fun z => (SV.eq z (fr q)).getD false) := mapM_some _ fun z hz => by
    obtain ⟨y, _, rfl⟩ := List.mem_map.mp hz
    rw [fr_eq]; rfl
  have h1 := fr_dep q
  have h2 := frs_dep qs
  have ha : (((qs.map fr).map fun z => (SV.eq z (fr q)).getD false).any fun r => r) = true := by
    rw [List.any_map, List.any_map, List.any_eq_true]
    exact ⟨q, h, by simp [fr_eq]⟩
  unfold hInD
  simp only [fr_pd, hp, hm]
  rw [if_pos ⟨by omega, by omega⟩, ha]
  rfl

def lcmL : List (Int × Int) → Nat → Nat
  | [], c => c
  | q :: qs, c => lcmL qs (Nat.lcm c q.2.natAbs)
theorem lcmL_pos : ∀ (qs : List (Int × Int)) (c : Nat), 0 < c → (∀ q ∈ qs, Fr q) → 0 < lcmL qs c
  | [], c, h, _ => h
  | q :: qs, c, h, hq => lcmL_pos qs _ (Nat.lcm_pos h (by have := (hq q List.mem_cons_self).1; omega)) fun x hx => hq x (List.mem_cons_of_mem _ hx)
theorem lcmL_dvd0 : ∀ (qs : List (Int × Int)) (c : Nat), c ∣ lcmL qs c
  | [], c => Nat.dvd_refl c
  | q :: qs, c => Nat.dvd_trans (Nat.dvd_lcm_left _ _) (lcmL_dvd0 qs _)
theorem lcmL_dvd : ∀ (qs : List (Int × Int)) (c : Nat), ∀ q ∈ qs, q.2.natAbs ∣ lcmL qs c
  | q :: qs, c, x, hx => by
    rcases List.mem_cons.mp hx with e | e
    · subst e; exact Nat.dvd_trans (Nat.dvd_lcm_right c _) (lcmL_dvd0 qs _)
    · exact lcmL_dvd qs _ x e
theorem lcm_le (a b : Nat) : Nat.lcm a b ≤ a * b := by unfold Nat.lcm; exact Nat.div_le_self _ _
theorem scaled_loop {k : Nat} {g : GS} {y0 : DV} : ∀ (qs : List (Int × Int)) (c l : Nat), (∀ q ∈ qs, FrS k q) → 0 < c → c < 2 ^ l → l + qs.length * k ≤ 9000 → ∀ x : Option DV, ∃ x',
    loopD (gN 2) (setD 1 (oS (c1 hLcm (aC (vS 1) (aC (b2 hIx (vS 2) (kS (.int 1))) (aN)))))) (qs.map fr) [some y0, some (.sh (.int (c : Nat))), x] g = some (.nx [some y0, some (.sh (.int (lcmL qs c : Nat))), x'] g) ∧ lcmL qs c < 2 ^ (l + qs.length * k)
  | [], c, l, _, _, hc, hl, x => ⟨x, rfl, by simpa [lcmL] using hc⟩
  | q :: qs, c, l, hq, h0, hc, hl, x => by
    have hq1 := hq q List.mem_cons_self
    have hd : q.2.natAbs < 2 ^ k := hq1.d
    have d0 : 0 < q.2.natAbs := by have := hq1.fr.1; omega
    rw [List.length_cons, Nat.succ_mul] at hl
    have e1 : (c : Int).natAbs.log2 < 9000 := by rw [Int.natAbs_natCast]; exact log2_of_lt (by decide) (Nat.lt_of_lt_of_le hc (Nat.pow_le_pow_right (by decide) (by omega)))
    have e2 : q.2.natAbs.log2 < 9000 := log2_of_lt (by decide) (Nat.lt_of_lt_of_le hd (Nat.pow_le_pow_right (by decide) (by omega)))
    rw [Int.natAbs_natCast] at e1
    have hn : Nat.lcm c q.2.natAbs < 2 ^ (l + k) := Nat.lt_of_le_of_lt (lcm_le _ _) (by rw [Nat.pow_add]; exact Nat.mul_lt_mul'' hc hd)
    obtain ⟨x', e, hb⟩ := scaled_loop (k := k) (g := g) (y0 := y0) qs (Nat.lcm c q.2.natAbs) (l + k) (fun y hy => hq y (List.mem_cons_of_mem _ hy)) (Nat.lcm_pos h0 d0) hn (by omega) (some (.sh (fr q)))
    refine ⟨x', ?_, by rw [List.length_cons, Nat.succ_mul]; rw [show l + (qs.length * k + k) = l + k + qs.length * k by omega]; exact hb⟩
    rw [List.map_cons, loop_nx (ρ' := [some y0, some (.sh (.int (Nat.lcm c q.2.natAbs : Nat))), some (.sh (fr q))]) (g' := g)]
    · exact e
    · simp [fr, e1, e2]
theorem ediv_sz {L k : Nat} {d : Int} (hd : 0 < d) (h : L < 2 ^ k) : Sz k ((L : Int) / d) := by
  have e : (L : Int) / d = ((L / d.natAbs : Nat) : Int) := by
    rw [Int.natCast_ediv]
    congr 1
    omega
  unfold Sz
  rw [e, Int.natAbs_natCast]
  exact Nat.lt_of_le_of_lt (Nat.div_le_self _ _) h
/-- the numbers over the common denominator -/
def nums (qs : List (Int × Int)) : List Int := qs.map fun q => q.1 * ((lcmL qs 1 : Nat) / q.2)
theorem scaled_eq {qs : List (Int × Int)} {k : Nat} {g : GS} (hq : ∀ q ∈ qs, FrS k q) (hk : 1 + qs.length * k ≤ 9000) (hk2 : k ≤ 9000) (hlen : qs.length ≤ 1000) :
    F_scaled [.lst (qs.map fr)] g = some (.sh (.tup [.lst ((nums qs).map .int), .int (lcmL qs 1 : Nat)]), g) := by
  obtain ⟨x', e, hb⟩ := scaled_loop (g := g) (y0 := .sh (.lst (qs.map fr))) qs 1 1 hq (by decide) (by decide) hk none
  have ec := comp_map (β := Int) (wf := wN 2) (f := oS (b2 hMul (b2 hIx (vS 2) (kS (.int 0))) (b2 hDiv (vS 1) (b2 hIx (vS 2) (kS (.int 1)))))) (ρ := [some (.sh (.lst (qs.map fr))), some (.sh (.int (lcmL qs 1 : Nat))), none]) fr
    (fun q => DV.sh (.int (q.1 * ((lcmL qs 1 : Nat) / q.2)))) qs g (fun q hm g => by
      have h := hq q hm
      have d1 : divOk (lcmL qs 1 : Nat) q.2 = true := divOk_of h.fr.1 h.d hk2
      have sl := ediv_sz h.fr.1 hb
      have m1 : mulOk q.1 ((lcmL qs 1 : Nat) / q.2) = true := mulOk_of h.n sl (by omega) (by omega)
      simp [fr, d1, m1])
  have er : (qs.map fun q => DV.sh (.int (q.1 * ((lcmL qs 1 : Nat) / q.2)))) = ((nums qs).map SV.int).map DV.sh := by unfold nums; rw [List.map_map, List.map_map]; rfl
  rw [er] at ec
  have hl2 : lenOk (qs.map fr).length = true := lenOk_of (by rw [List.length_map]; omega)
  generalize (nums qs).map SV.int = N at *
  generalize qs.map fr = R at *
  simp at e
  simp [F_scaled, B_scaled, e, ec, hl2]
theorem scaled_eqS {S : SV} {qs : List (Int × Int)} {k : Nat} {g : GS} (hS : S.seq? = some (qs.map fr)) (hq : ∀ q ∈ qs, FrS k q) (hk : 1 + qs.length * k ≤ 9000) (hk2 : k ≤ 9000) (hlen : qs.length ≤ 1000) :
    F_scaled [S] g = some (.sh (.tup [.lst ((nums qs).map .int), .int (lcmL qs 1 : Nat)]), g) := by
  obtain ⟨x', e, hb⟩ := scaled_loop (g := g) (y0 := .sh S) qs 1 1 hq (by decide) (by decide) hk none
  have ec := comp_map (β := Int) (wf := wN 2) (f := oS (b2 hMul (b2 hIx (vS 2) (kS (.int 0))) (b2 hDiv (vS 1) (b2 hIx (vS 2) (kS (.int 1)))))) (ρ := [some (.sh S), some (.sh (.int (lcmL qs 1 : Nat))), none]) fr
    (fun q => DV.sh (.int (q.1 * ((lcmL qs 1 : Nat) / q.2)))) qs g (fun q hm g => by
      have h := hq q hm
      have d1 : divOk (lcmL qs 1 : Nat) q.2 = true := divOk_of h.fr.1 h.d hk2
      have sl := ediv_sz h.fr.1 hb
      have m1 : mulOk q.1 ((lcmL qs 1 : Nat) / q.2) = true := mulOk_of h.n sl (by omega) (by omega)
      simp [fr, d1, m1])
  have er : (qs.map fun q => DV.sh (.int (q.1 * ((lcmL qs 1 : Nat) / q.2)))) = ((nums qs).map SV.int).map DV.sh := by unfold nums; rw [List.map_map, List.map_map]; rfl
  rw [er] at ec
  have hl2 : lenOk (qs.map fr).length = true := lenOk_of (by rw [List.length_map]; omega)
  generalize (nums qs).map SV.int = N at *
  generalize qs.map fr = R at *
  simp at e
  simp [F_scaled, B_scaled, e, ec, hl2, hS]
theorem lcmL_dvd_of {m : Nat} : ∀ (qs : List (Int × Int)) (c : Nat), c ∣ m → (∀ q ∈ qs, q.2.natAbs ∣ m) → lcmL qs c ∣ m
  | [], c, h, _ => h
  | q :: qs, c, h, hq => lcmL_dvd_of qs _ (Nat.lcm_dvd h (hq q List.mem_cons_self)) fun r hr => hq r (List.mem_cons_of_mem _ hr)
/-- fractions over one denominator h -/
def over (h : Int) (ns : List Int) : List (Int × Int) := ns.map fun x => rat x h
theorem rat_den_dvd {x h : Int} (hh : 0 < h) : (rat x h).2 ∣ h := by
  rw [rat_pos hh]
  have g0 := gcdI_dvd_right x h
  obtain ⟨c, hc⟩ := g0
  refine ⟨(Nat.gcd x.natAbs h.natAbs : Nat), ?_⟩
  rw [Int.mul_comm]
  exact (Int.mul_ediv_cancel' ⟨c, hc⟩).symm
theorem lcm_over {h : Int} (hh : 0 < h) (ns : List Int) : ((lcmL (over h ns) 1 : Nat) : Int) ∣ h := by
  have := lcmL_dvd_of (m := h.natAbs) (over h ns) 1 (Nat.one_dvd _) fun q hq => by
    obtain ⟨x, _, rfl⟩ := List.mem_map.mp hq
    exact Int.natAbs_dvd_natAbs.mpr (rat_den_dvd hh)
  exact Int.ofNat_dvd_left.mpr this
theorem over_fr {k : Nat} {h : Int} (hh : 0 < h) (h1 : Sz k h) {ns : List Int} (h2 : ∀ x ∈ ns, Sz k x) : ∀ q ∈ over h ns, FrS k q := fun q hq => by
  obtain ⟨x, m, rfl⟩ := List.mem_map.mp hq
  exact rat_szs (Int.ne_of_gt hh) (h2 x m) h1
theorem nums_over {h : Int} (hh : 0 < h) (ns : List Int) {i : Nat} (hi : i < ns.length) :
    (nums (over h ns)).getD i 0 * h = ns.getD i 0 * (lcmL (over h ns) 1 : Nat) := by
  have e : (nums (over h ns)).getD i 0 = (rat ns[i] h).1 * ((lcmL (over h ns) 1 : Nat) / (rat ns[i] h).2) := by
    simp [nums, over, List.getD, hi]
  have e2 : ns.getD i 0 = ns[i] := by simp [List.getD, hi]
  have hd : (rat ns[i] h).2 ∣ ((lcmL (over h ns) 1 : Nat) : Int) := Int.natAbs_dvd.mp (Int.ofNat_dvd.mpr (lcmL_dvd (over h ns) 1 _ (List.mem_map.mpr ⟨ns[i], List.getElem_mem _, rfl⟩)))
  have hr := rat_eq (n := ns[i]) (Int.ne_of_gt hh)
  rw [e, e2]
  obtain ⟨c, hc⟩ := hd
  have h0 : (rat ns[i] h).2 ≠ 0 := Int.ne_of_gt (rat_fr (Int.ne_of_gt hh)).1
  rw [hc, Int.mul_ediv_cancel_left _ h0]
  generalize (rat ns[i] h).1 = a at *
  generalize (rat ns[i] h).2 = b at *
  generalize ns[i] = n at *
  calc a * c * h = (a * h) * c := by grind
    _ = n * (b * c) := by rw [hr]; grind
theorem scaled_loopG {k : Nat} {g : GS} {y0 : DV} : ∀ (qs : List (Int × Int)) (c l : Nat), (∀ q ∈ qs, Fr q ∧ Sz k q.2) → 0 < c → c < 2 ^ l → l + qs.length * k ≤ 9000 → ∀ x : Option DV, ∃ x',
    loopD (gN 2) (setD 1 (oS (c1 hLcm (aC (vS 1) (aC (b2 hIx (vS 2) (kS (.int 1))) (aN)))))) (qs.map fr) [some y0, some (.sh (.int (c : Nat))), x] g = some (.nx [some y0, some (.sh (.int (lcmL qs c : Nat))), x'] g) ∧ lcmL qs c < 2 ^ (l + qs.length * k)
  | [], c, l, _, _, hc, hl, x => ⟨x, rfl, by simpa [lcmL] using hc⟩
  | q :: qs, c, l, hq, h0, hc, hl, x => by
    have hq1 := hq q List.mem_cons_self
    have hd : q.2.natAbs < 2 ^ k := hq1.2
    have d0 : 0 < q.2.natAbs := by have := hq1.1.1; omega
    rw [List.length_cons, Nat.succ_mul] at hl
    have e1 : (c : Int).natAbs.log2 < 9000 := by rw [Int.natAbs_natCast]; exact log2_of_lt (by decide) (Nat.lt_of_lt_of_le hc (Nat.pow_le_pow_right (by decide) (by omega)))
    have e2 : q.2.natAbs.log2 < 9000 := log2_of_lt (by decide) (Nat.lt_of_lt_of_le hd (Nat.pow_le_pow_right (by decide) (by omega)))
    rw [Int.natAbs_natCast] at e1
    have hn : Nat.lcm c q.2.natAbs < 2 ^ (l + k) := Nat.lt_of_le_of_lt (lcm_le _ _) (by rw [Nat.pow_add]; exact Nat.mul_lt_mul'' hc hd)
    obtain ⟨x', e, hb⟩ := scaled_loopG (k := k) (g := g) (y0 := y0) qs (Nat.lcm c q.2.natAbs) (l + k) (fun y hy => hq y (List.mem_cons_of_mem _ hy)) (Nat.lcm_pos h0 d0) hn (by omega) (some (.sh (fr q)))
    refine ⟨x', ?_, by rw [List.length_cons, Nat.succ_mul]; rw [show l + (qs.length * k + k) = l + k + qs.length * k by omega]; exact hb⟩
    rw [List.map_cons, loop_nx (ρ' := [some y0, some (.sh (.int (Nat.lcm c q.2.natAbs : Nat))), some (.sh (fr q))]) (g' := g)]
    · exact e
    · simp [fr, e1, e2]
theorem scaled_eqG {S : SV} {qs : List (Int × Int)} {a k : Nat} {g : GS} (hS : S.seq? = some (qs.map fr)) (hq : ∀ q ∈ qs, Fr q ∧ Sz k q.2) (ha : ∀ q ∈ qs, Sz a q.1) (ha2 : a ≤ 1000000) (hk : 1 + qs.length * k ≤ 9000) (hk2 : k ≤ 9000) (hlen : qs.length ≤ 1000) :
    F_scaled [S] g = some (.sh (.tup [.lst ((nums qs).map .int), .int (lcmL qs 1 : Nat)]), g) ∧ lcmL qs 1 < 2 ^ (1 + qs.length * k) := by
  obtain ⟨x', e, hb⟩ := scaled_loopG (g := g) (y0 := .sh S) qs 1 1 hq (by decide) (by decide) hk none
  refine ⟨?_, hb⟩
  have ec := comp_map (β := Int) (wf := wN 2) (f := oS (b2 hMul (b2 hIx (vS 2) (kS (.int 0))) (b2 hDiv (vS 1) (b2 hIx (vS 2) (kS (.int 1)))))) (ρ := [some (.sh S), some (.sh (.int (lcmL qs 1 : Nat))), none]) fr
    (fun q => DV.sh (.int (q.1 * ((lcmL qs 1 : Nat) / q.2)))) qs g (fun q hm g => by
      have h := hq q hm
      have d1 : divOk (lcmL qs 1 : Nat) q.2 = true := divOk_of h.1.1 h.2 hk2
      have sl := ediv_sz h.1.1 hb
      have m1 : mulOk q.1 ((lcmL qs 1 : Nat) / q.2) = true := mulOk_of (ha q hm) sl (by omega) (by omega)
      simp [fr, d1, m1])
  have er : (qs.map fun q => DV.sh (.int (q.1 * ((lcmL qs 1 : Nat) / q.2)))) = ((nums qs).map SV.int).map DV.sh := by unfold nums; rw [List.map_map, List.map_map]; rfl
  rw [er] at ec
  have hl2 : lenOk (qs.map fr).length = true := lenOk_of (by rw [List.length_map]; omega)
  generalize (nums qs).map SV.int = N at *
  generalize qs.map fr = R at *
  simp at e
  simp [F_scaled, B_scaled, e, ec, hl2, hS]
theorem nums_length (qs : List (Int × Int)) : (nums qs).length = qs.length := by simp [nums]
theorem nums_rel {qs : List (Int × Int)} (hq : ∀ q ∈ qs, Fr q) {i : Nat} {q : Int × Int} (h : qs[i]? = some q) : (nums qs).getD i 0 * q.2 = q.1 * (lcmL qs 1 : Nat) := by
  obtain ⟨hi, e⟩ := List.getElem?_eq_some_iff.mp h
  have hm : q ∈ qs := by rw [← e]; exact List.getElem_mem _
  have e1 : (nums qs).getD i 0 = q.1 * ((lcmL qs 1 : Nat) / q.2) := by simp [nums, List.getD, hi, e]
  obtain ⟨c, hc⟩ : q.2 ∣ ((lcmL qs 1 : Nat) : Int) := Int.natAbs_dvd.mp (Int.ofNat_dvd.mpr (lcmL_dvd qs 1 _ hm))
  rw [e1, hc, Int.mul_ediv_cancel_left _ (Int.ne_of_gt (hq q hm).1)]
  grind
theorem nums_szG {qs : List (Int × Int)} {a b : Nat} (hq : ∀ q ∈ qs, Fr q) (ha : ∀ q ∈ qs, Sz a q.1) (hb : lcmL qs 1 < 2 ^ b) : ∀ x ∈ nums qs, Sz (a + b) x := fun x hx => by
  obtain ⟨q, m, rfl⟩ := List.mem_map.mp hx
  exact (ha q m).mul (ediv_sz (hq q m).1 hb)
/-! upper hulls over whole numbers: the pure part -/
theorem cancelL {p a b : Int} (hp : 0 < p) (h : a * p ≤ b * p) : a ≤ b := Int.le_of_mul_le_mul_right h hp
def Inc (x : Nat → Int) (n : Nat) : Prop := ∀ i, i + 1 < n → x i < x (i + 1)
theorem Inc.lt {x : Nat → Int} {n : Nat} (h : Inc x n) {i j : Nat} (h1 : i < j) (h2 : j < n) : x i < x j := by
  induction j with
  | zero => omega
  | succ j ih =>
    have := h j h2
    by_cases e : i = j
    · rw [e]; exact this
    · have := ih (by omega) (by omega)
      omega
def Conc (x H : Nat → Int) (n : Nat) : Prop := ∀ k, k + 2 < n → (H (k + 2) - H (k + 1)) * (x (k + 1) - x k) ≤ (H (k + 1) - H k) * (x (k + 2) - x (k + 1))
theorem Conc.adj {x H : Nat → Int} {n : Nat} (C : Conc x H n) (I : Inc x n) {i j : Nat} (h1 : i ≤ j) (h2 : j + 1 < n) : (H (j + 1) - H j) * (x (i + 1) - x i) ≤ (H (i + 1) - H i) * (x (j + 1) - x j) := by
  induction j with
  | zero =>
    have : i = 0 := by omega
    subst this
    exact Int.le_refl _
  | succ j ih =>
    by_cases e : i = j + 1
    · subst e; exact Int.le_refl _
    · have a1 := ih (by omega) (by omega)
      have a2 := C j (by omega)
      have p1 := I i (by omega)
      have p2 := I j (by omega)
      have p3 := I (j + 1) (by omega)
      show (H (j + 2) - H (j + 1)) * (x (i + 1) - x i) ≤ (H (i + 1) - H i) * (x (j + 2) - x (j + 1))
      change x (j + 1) < x (j + 2) at p3
      generalize hu : H (j + 2) - H (j + 1) = u at *
      generalize hv : H (j + 1) - H j = v at *
      generalize hw : H (i + 1) - H i = w at *
      generalize hp : x (i + 1) - x i = p at *
      generalize hq : x (j + 1) - x j = q at *
      generalize hr : x (j + 2) - x (j + 1) = r at *
      have b1 := Int.mul_le_mul_of_nonneg_right a2 (show 0 ≤ p by omega)
      have b2 := Int.mul_le_mul_of_nonneg_right a1 (show 0 ≤ r by omega)
      refine cancelL (p := q) (by omega) ?_
      calc u * p * q = u * q * p := by grind
        _ ≤ v * r * p := b1
        _ = v * p * r := by grind
        _ ≤ w * q * r := b2
        _ = w * r * q := by grind
/-- left of a step: at or above its line -/
theorem Conc.left {x H : Nat → Int} {n : Nat} (C : Conc x H n) (I : Inc x n) {j : Nat} (h2 : j + 1 < n) : ∀ (d a : Nat), a + d = j + 1 → (H (j + 1) - H j) * (x (j + 1) - x a) ≤ (H (j + 1) - H a) * (x (j + 1) - x j)
  | 0, a, h => by
    have : a = j + 1 := by omega
    subst this
    simp
  | d + 1, a, h => by
    have a1 := Conc.left C I h2 d (a + 1) (by omega)
    have a2 := C.adj I (i := a) (j := j) (by omega) h2
    generalize hm : H (j + 1) - H j = m at *
    generalize hq : x (j + 1) - x j = q at *
    calc m * (x (j + 1) - x a) = m * (x (j + 1) - x (a + 1)) + m * (x (a + 1) - x a) := by grind
      _ ≤ (H (j + 1) - H (a + 1)) * q + (H (a + 1) - H a) * q := by omega
      _ = _ := by grind
theorem Conc.right {x H : Nat → Int} {n : Nat} (C : Conc x H n) (I : Inc x n) {j : Nat} : ∀ (d : Nat), j + d < n → (H (j + d) - H j) * (x (j + 1) - x j) ≤ (H (j + 1) - H j) * (x (j + d) - x j)
  | 0, _ => by simp
  | d + 1, h => by
    have a1 := Conc.right C I (j := j) d (by omega)
    have a2 := C.adj I (i := j) (j := j + d) (by omega) (by omega)
    show (H (j + d + 1) - H j) * (x (j + 1) - x j) ≤ (H (j + 1) - H j) * (x (j + d + 1) - x j)
    generalize hm : H (j + 1) - H j = m at *
    generalize hq : x (j + 1) - x j = q at *
    calc (H (j + d + 1) - H j) * q = (H (j + d) - H j) * q + (H (j + d + 1) - H (j + d)) * q := by grind
      _ ≤ m * (x (j + d) - x j) + m * (x (j + d + 1) - x (j + d)) := by omega
      _ = _ := by grind
/-- three points -/
theorem Conc.three {x H : Nat → Int} {n : Nat} (C : Conc x H n) (I : Inc x n) {a k b : Nat} (h1 : a < k) (h2 : k < b) (h3 : b < n) : (H b - H k) * (x k - x a) ≤ (H k - H a) * (x b - x k) := by
  obtain ⟨j, rfl⟩ : ∃ j, k = j + 1 := ⟨k - 1, by omega⟩
  have a1 := C.left I (j := j) (by omega) (j + 1 - a) a (by omega)
  have a2 := C.right I (j := j) (b - j) (by omega)
  rw [show j + (b - j) = b by omega] at a2
  have q0 := I j (by omega)
  have p1 := I.lt h1 (show j + 1 < n by omega)
  have p2 := I.lt h2 h3
  generalize hm : H (j + 1) - H j = m at *
  generalize hq : x (j + 1) - x j = q at *
  have a3 : (H b - H (j + 1)) * q ≤ m * (x b - x (j + 1)) := by
    have e1 : (H b - H j) * q = (H b - H (j + 1)) * q + m * q := by rw [← hm]; grind
    have e2 : m * (x b - x j) = m * (x b - x (j + 1)) + m * q := by rw [← hq]; grind
    omega
  have b1 := Int.mul_le_mul_of_nonneg_right a3 (show 0 ≤ x (j + 1) - x a by omega)
  have b2 := Int.mul_le_mul_of_nonneg_right a1 (show 0 ≤ x b - x (j + 1) by omega)
  refine cancelL (p := q) (by omega) ?_
  calc (H b - H (j + 1)) * (x (j + 1) - x a) * q = (H b - H (j + 1)) * q * (x (j + 1) - x a) := by grind
    _ ≤ m * (x b - x (j + 1)) * (x (j + 1) - x a) := b1
    _ = m * (x (j + 1) - x a) * (x b - x (j + 1)) := by grind
    _ ≤ (H (j + 1) - H a) * q * (x b - x (j + 1)) := b2
    _ = (H (j + 1) - H a) * (x b - x (j + 1)) * q := by grind
theorem Conc.chord {x H : Nat → Int} {n : Nat} (C : Conc x H n) (I : Inc x n) {a k b : Nat} (h1 : a < k) (h2 : k < b) (h3 : b < n) : H a * (x b - x k) + H b * (x k - x a) ≤ H k * (x b - x a) := by
  have := C.three I h1 h2 h3
  have e : H k * (x b - x a) - (H a * (x b - x k) + H b * (x k - x a)) = (H k - H a) * (x b - x k) - (H b - H k) * (x k - x a) := by grind
  omega
/-- at each place the height is the point's, or on the chord of two such places -/
def Touch (x H y : Nat → Int) (n : Nat) : Prop := ∀ k, k < n → H k = y k ∨ ∃ l r, l < k ∧ k < r ∧ r < n ∧ H l = y l ∧ H r = y r ∧ H k * (x r - x l) = H l * (x r - x k) + H r * (x k - x l)
structure Char (x H y : Nat → Int) (n : Nat) : Prop where
  ge : ∀ k, k < n → y k ≤ H k
  conc : Conc x H n
  touch : Touch x H y n
theorem Char.le {x H H' y : Nat → Int} {n : Nat} (I : Inc x n) (T : Touch x H y n) (C : Char x H' y n) : ∀ k, k < n → H k ≤ H' k := fun k hk => by
  rcases T k hk with e | ⟨l, r, h1, h2, h3, e1, e2, e3⟩
  · rw [e]; exact C.ge k hk
  · have p1 := I.lt h1 hk
    have p2 := I.lt h2 h3
    have c := C.conc.chord I h1 h2 h3
    have g1 := C.ge l (by omega)
    have g2 := C.ge r h3
    rw [e1, e2] at e3
    have b1 := Int.mul_le_mul_of_nonneg_right g1 (show 0 ≤ x r - x k by omega)
    have b2 := Int.mul_le_mul_of_nonneg_right g2 (show 0 ≤ x k - x l by omega)
    refine cancelL (p := x r - x l) (by omega) ?_
    omega
/-- one answer alone -/
theorem Char.uniq {x H H' y : Nat → Int} {n : Nat} (I : Inc x n) (C : Char x H y n) (C' : Char x H' y n) : ∀ k, k < n → H k = H' k := fun k hk =>
  Int.le_antisymm (Char.le I C.touch C' k hk) (Char.le I C'.touch C k hk)
theorem Char.self {x H y : Nat → Int} {n : Nat} (C : Char x H y n) : Char x H H n := ⟨fun k _ => Int.le_refl _, C.conc, fun k _ => .inl rfl⟩
/-- a point under the hull may sink -/
theorem Char.lower {x H y y' : Nat → Int} {n m : Nat} (C : Char x H y n) (hm : y m < H m) (h1 : y' m ≤ y m) (h2 : ∀ k, k ≠ m → y' k = y k) : Char x H y' n where
  ge := fun k hk => by
    by_cases e : k = m
    · rw [e]; omega
    · rw [h2 k e]; exact C.ge k hk
  conc := C.conc
  touch := fun k hk => by
    have ne : ∀ l, H l = y l → l ≠ m := fun l e z => by rw [z] at e; omega
    rcases C.touch k hk with e | ⟨l, r, q1, q2, q3, e1, e2, e3⟩
    · exact .inl (by rw [h2 k (ne k e)]; exact e)
    · exact .inr ⟨l, r, q1, q2, q3, by rw [h2 l (ne l e1)]; exact e1, by rw [h2 r (ne r e2)]; exact e2, e3⟩
/-- a bend touches its point -/
theorem Char.bend {x H y : Nat → Int} {n : Nat} (I : Inc x n) (C : Char x H y n) {k : Nat} (hk : k + 2 < n) (hb : (H (k + 2) - H (k + 1)) * (x (k + 1) - x k) < (H (k + 1) - H k) * (x (k + 2) - x (k + 1))) : H (k + 1) = y (k + 1) := by
  rcases C.touch (k + 1) (by omega) with e | ⟨l, r, q1, q2, q3, e1, e2, e3⟩
  · exact e
  · exfalso
    have p1 := I k (by omega)
    have p2 : x (k + 1) < x (k + 2) := I (k + 1) (by omega)
    have p3 := I.lt q1 (show k + 1 < n by omega)
    have p4 := I.lt q2 q3
    -- the step to the left is at or under the chord's slope, the step to the right at or over it
    have a1 : (H (k + 1) - H k) * (x (k + 1) - x l) ≤ (H (k + 1) - H l) * (x (k + 1) - x k) := C.conc.left I (j := k) (by omega) (k + 1 - l) l (by omega)
    have a2 : (H r - H (k + 1)) * (x (k + 2) - x (k + 1)) ≤ (H (k + 2) - H (k + 1)) * (x r - x (k + 1)) := by
      have := C.conc.right I (j := k + 1) (r - (k + 1)) (by omega)
      rw [show k + 1 + (r - (k + 1)) = r by omega] at this
      exact this
    have e4 : (H r - H (k + 1)) * (x (k + 1) - x l) = (H (k + 1) - H l) * (x r - x (k + 1)) := by grind
    generalize hA : H (k + 1) - H k = A at *
    generalize hB : H (k + 2) - H (k + 1) = B at *
    generalize hL : H (k + 1) - H l = L at *
    generalize hR : H r - H (k + 1) = R at *
    generalize hp : x (k + 1) - x k = p at *
    generalize hq : x (k + 2) - x (k + 1) = q at *
    generalize hs : x (k + 1) - x l = s at *
    generalize ht : x r - x (k + 1) = t at *
    have s0 : 0 < s := by omega
    have t0 : 0 < t := by omega
    -- A s ≤ L p, R q ≤ B t, R s = L t, B p < A q
    have b1 := Int.mul_le_mul_of_nonneg_right a1 (show 0 ≤ q * t by exact Int.mul_nonneg (by omega) (by omega))
    have b2 := Int.mul_le_mul_of_nonneg_right a2 (show 0 ≤ p * s by exact Int.mul_nonneg (by omega) (by omega))
    have b3 := Int.mul_lt_mul_of_pos_right hb (show 0 < s * t from Int.mul_pos s0 t0)
    have f1 : A * s * (q * t) = A * q * (s * t) := by grind
    have f2 : L * p * (q * t) = L * t * (p * q) := by grind
    have f3 : R * q * (p * s) = R * s * (p * q) := by grind
    have f4 : B * t * (p * s) = B * p * (s * t) := by grind
    rw [f1, f2] at b1
    rw [f3, f4, e4] at b2
    omega
/-! upper hulls: the stack of places -/
def Under (x y : Nat → Int) (a b j : Nat) : Prop := (y j - y a) * (x b - x a) ≤ (y b - y a) * (x j - x a)
def Above (x y : Nat → Int) (s m e : Nat) : Prop := (y e - y s) * (x m - x s) < (y m - y s) * (x e - x s)
instance (x y : Nat → Int) (s m e : Nat) : Decidable (Above x y s m e) := by unfold Above; exact inferInstance
inductive HStk (x y : Nat → Int) : List Nat → Prop
  | one : HStk x y [0]
  | cons {t k : Nat} {rs : List Nat} (h : HStk x y (t :: rs)) (lt : t < k) (u : ∀ j, t < j → j < k → Under x y t k j) (a : ∀ s, rs.head? = some s → Above x y s t k) : HStk x y (k :: t :: rs)
theorem HStk.asc {x y : Nat → Int} {s t : Nat} {rs : List Nat} (h : HStk x y (t :: s :: rs)) : s < t := by cases h; assumption
theorem HStk.tail {x y : Nat → Int} {s t : Nat} {rs : List Nat} (h : HStk x y (t :: s :: rs)) : HStk x y (s :: rs) := by cases h; assumption
theorem undA {fj ft fe uj ut ue : Int} (h0 : 0 < ut) (hj : 0 ≤ uj) (he : 0 ≤ ue) (h1 : fj * ut ≤ ft * uj) (h2 : ft * ue ≤ fe * ut) : fj * ue ≤ fe * uj := by
  refine cancelL (p := ut) h0 ?_
  have b1 := Int.mul_le_mul_of_nonneg_right h1 he
  have b2 := Int.mul_le_mul_of_nonneg_right h2 hj
  calc fj * ue * ut = fj * ut * ue := by grind
    _ ≤ ft * uj * ue := b1
    _ = ft * ue * uj := by grind
    _ ≤ fe * ut * uj := b2
    _ = fe * uj * ut := by grind
theorem undB {fj ft fe uj ut ue : Int} (h0 : ut < ue) (he : 0 ≤ ue) (hj : uj ≤ ue) (h1 : (fj - ft) * (ue - ut) ≤ (fe - ft) * (uj - ut)) (h2 : ft * ue ≤ fe * ut) : fj * ue ≤ fe * uj := by
  refine cancelL (p := ue - ut) (by omega) ?_
  have b1 := Int.mul_le_mul_of_nonneg_right h1 he
  have b2 := Int.mul_le_mul_of_nonneg_right h2 (show 0 ≤ ue - uj by omega)
  have e1 : (fj - ft) * (ue - ut) * ue = fj * ue * (ue - ut) - ft * ue * (ue - ut) := by grind
  have e2 : (fe - ft) * (uj - ut) * ue = fe * ue * (uj - ut) - ft * ue * (uj - ut) := by grind
  have e3 : fe * uj * (ue - ut) = fe * ue * (uj - ut) + fe * ut * (ue - uj) := by grind
  have e4 : ft * ue * (ue - ut) - ft * ue * (uj - ut) = ft * ue * (ue - uj) := by grind
  rw [e1, e2] at b1
  rw [e3]
  omega
/-- the middle one goes -/
theorem under_pop {x y : Nat → Int} {n s t k : Nat} (I : Inc x n) (h1 : s < t) (h2 : t < k) (hk : k < n) (u1 : ∀ j, s < j → j < t → Under x y s t j) (u2 : ∀ j, t < j → j < k → Under x y t k j) (na : ¬ Above x y s t k) : ∀ j, s < j → j < k → Under x y s k j := fun j j1 j2 => by
  unfold Above at na
  have na := Int.not_lt.mp na
  have p1 := I.lt h1 (show t < n by omega)
  have p2 := I.lt h2 hk
  have p3 := I.lt j1 (show j < n by omega)
  have p4 := I.lt j2 hk
  unfold Under
  rcases Nat.lt_trichotomy j t with h | h | h
  · exact undA (ut := x t - x s) (ft := y t - y s) (by omega) (by omega) (by omega) (u1 j j1 h) na
  · rw [h]; exact na
  · have := u2 j h j2
    unfold Under at this
    refine undB (ut := x t - x s) (ft := y t - y s) (by omega) (by omega) (by omega) ?_ na
    rw [show y j - y s - (y t - y s) = y j - y t by omega, show x k - x s - (x t - x s) = x k - x t by omega, show y k - y s - (y t - y s) = y k - y t by omega, show x j - x s - (x t - x s) = x j - x t by omega]
    exact this
/-- the line through the places of the stack -/
structure Line (x y : Nat → Int) (ks : List Nat) (t : Nat) (D : Int) (H : Nat → Int) : Prop where
  pos : 0 < D
  bot : ks = [] → t = 0
  ge : ∀ k, k ≤ t → D * y k ≤ H k
  conc : Conc x H (t + 1)
  touch : Touch x H (fun k => D * y k) (t + 1)
  top : H t = D * y t
  last : ∀ s, ks.head? = some s → s < t ∧ ∀ j, s ≤ j → j < t → (H (j + 1) - H j) * (x t - x s) = D * (y t - y s) * (x (j + 1) - x j)
  chord : ∀ s e, (s, e) ∈ ((t :: ks).zip ks).map (fun p => (p.2, p.1)) → s < e ∧ e ≤ t ∧ ∀ j, s ≤ j → j ≤ e → H j * (x e - x s) = D * (y s * (x e - x j) + y e * (x j - x s))
theorem line_one (x y : Nat → Int) : Line x y [] 0 1 (fun k => 1 * y k) where
  pos := by decide
  bot := fun _ => rfl
  ge := fun k _ => Int.le_refl _
  conc := fun k hk => by omega
  touch := fun k _ => .inl rfl
  top := rfl
  last := fun s h => by cases h
  chord := fun s e h => by simp at h
theorem line_cons {x y : Nat → Int} {n : Nat} (I : Inc x n) {t k : Nat} {rs : List Nat} {D : Int} {H : Nat → Int} (L : Line x y rs t D H) (lt : t < k) (hk : k < n) (u : ∀ j, t < j → j < k → Under x y t k j) (a : ∀ s, rs.head? = some s → Above x y s t k) :
    ∃ D' H', Line x y (t :: rs) k D' H' := by
  obtain ⟨w, hw⟩ : ∃ w, x k - x t = w := ⟨_, rfl⟩
  have w0 : 0 < w := by have := I.lt lt hk; omega
  have D0 := L.pos
  let H' : Nat → Int := fun j => if j ≤ t then H j * w else D * (y t * (x k - x j) + y k * (x j - x t))
  have hl : ∀ j, j ≤ t → H' j = H j * w := fun j h => by simp only [H']; rw [if_pos h]
  have hr : ∀ j, t ≤ j → H' j = D * (y t * (x k - x j) + y k * (x j - x t)) := fun j h => by
    by_cases e : j = t
    · subst e
      rw [hl j (Nat.le_refl _), L.top, hw, Int.sub_self, Int.mul_zero, Int.add_zero, Int.mul_assoc]
    · simp only [H']; rw [if_neg (by omega)]
  clear_value H'
  have stepR : ∀ j, t ≤ j → H' (j + 1) - H' j = D * (y k - y t) * (x (j + 1) - x j) := fun j h => by
    rw [hr j h, hr (j + 1) (by omega)]; grind
  have stepL : ∀ j, j + 1 ≤ t → H' (j + 1) - H' j = (H (j + 1) - H j) * w := fun j h => by
    rw [hl j (by omega), hl (j + 1) h]; grind
  refine ⟨D * w, H', ⟨Int.mul_pos D0 w0, fun h => (by cases h), fun j hj => ?_, fun j hj => ?_, fun j hj => ?_, ?_, fun s hs => ?_, fun s e hs => ?_⟩⟩
  · by_cases h : j ≤ t
    · rw [hl j h]
      have := Int.mul_le_mul_of_nonneg_right (L.ge j h) (show 0 ≤ w by omega)
      calc D * w * y j = D * y j * w := by grind
        _ ≤ _ := this
    · rw [hr j (by omega)]
      have key : y j * w ≤ y t * (x k - x j) + y k * (x j - x t) := by
        by_cases e : j = k
        · subst e; rw [Int.sub_self, hw]; omega
        · have := u j (by omega) (by omega)
          unfold Under at this
          rw [hw] at this
          have e1 : y t * (x k - x j) + y k * (x j - x t) = y t * w + (y k - y t) * (x j - x t) := by rw [← hw]; grind
          have e2 : (y j - y t) * w = y j * w - y t * w := by grind
          omega
      have := Int.mul_le_mul_of_nonneg_left key (show 0 ≤ D by omega)
      calc D * w * y j = D * (y j * w) := by grind
        _ ≤ _ := this
  · by_cases h : j + 2 ≤ t
    · have c := L.conc j (by omega)
      have e1 : H' (j + 2) - H' (j + 1) = (H (j + 2) - H (j + 1)) * w := stepL (j + 1) h
      rw [stepL j (by omega), e1]
      have := Int.mul_le_mul_of_nonneg_right c (show 0 ≤ w by omega)
      calc (H (j + 2) - H (j + 1)) * w * (x (j + 1) - x j) = (H (j + 2) - H (j + 1)) * (x (j + 1) - x j) * w := by grind
        _ ≤ _ := this
        _ = _ := by grind
    · have e1 : H' (j + 2) - H' (j + 1) = D * (y k - y t) * (x (j + 2) - x (j + 1)) := stepR (j + 1) (by omega)
      by_cases h2 : t ≤ j
      · rw [stepR j h2, e1]
        exact Int.le_of_eq (by grind)
      · have et : t = j + 1 := by omega
        rw [stepL j (by omega), e1]
        cases hs : rs.head? with
        | none =>
          exfalso
          cases rs with
          | nil =>
            have := L.bot rfl
            omega
          | cons => cases hs
        | some s =>
          obtain ⟨l1, l2⟩ := L.last s hs
          have l3 := l2 j (by omega) (by omega)
          have ab := a s hs
          unfold Above at ab
          have p1 := I.lt l1 (show t < n by omega)
          have p2 := I j (by omega)
          have p3 : x (j + 1) < x (j + 2) := I (j + 1) (by omega)
          refine cancelL (p := x t - x s) (by omega) ?_
          generalize hdH : H (j + 1) - H j = dH at *
          generalize hp : x (j + 1) - x j = p at *
          generalize hq : x (j + 2) - x (j + 1) = q at *
          have key : (y k - y t) * (x t - x s) ≤ (y t - y s) * w := by
            have e3 : (y k - y s) * (x t - x s) = (y k - y t) * (x t - x s) + (y t - y s) * (x t - x s) := by grind
            have e4 : (y t - y s) * (x k - x s) = (y t - y s) * w + (y t - y s) * (x t - x s) := by rw [← hw]; grind
            omega
          have := Int.mul_le_mul_of_nonneg_right key (show 0 ≤ D * (p * q) from Int.mul_nonneg (by omega) (Int.mul_nonneg (by omega) (by omega)))
          calc D * (y k - y t) * q * p * (x t - x s) = (y k - y t) * (x t - x s) * (D * (p * q)) := by grind
            _ ≤ (y t - y s) * w * (D * (p * q)) := this
            _ = (D * (y t - y s) * p) * (w * q) := by grind
            _ = dH * w * q * (x t - x s) := by rw [← l3]; grind
  · have top : H' k = D * w * y k := by rw [hr k (by omega), Int.sub_self, hw]; grind
    have bot : H' t = D * w * y t := by rw [hl t (Nat.le_refl _), L.top]; grind
    by_cases h : j ≤ t
    · rcases L.touch j (by omega) with e | ⟨l, r, q1, q2, q3, e1, e2, e3⟩
      · exact .inl (by rw [hl j h, e]; grind)
      · refine .inr ⟨l, r, q1, q2, by omega, ?_, ?_, ?_⟩
        · rw [hl l (by omega), e1]; grind
        · rw [hl r (by omega), e2]; grind
        · rw [hl l (by omega), hl r (by omega), hl j h]
          calc H j * w * (x r - x l) = H j * (x r - x l) * w := by grind
            _ = (H l * (x r - x j) + H r * (x j - x l)) * w := by rw [e3]
            _ = _ := by grind
    · by_cases e : j = k
      · exact .inl (by rw [e]; exact top)
      · refine .inr ⟨t, k, by omega, by omega, by omega, bot, top, ?_⟩
        rw [hr j (by omega), top, bot, hw]
        grind
  · rw [hr k (by omega), Int.sub_self, hw]; grind
  · cases hs
    exact ⟨lt, fun j j1 j2 => by rw [stepR j j1, hw]; grind⟩
  · rw [List.zip_cons_cons, List.map_cons] at hs
    rcases List.mem_cons.mp hs with e | hs
    · cases e
      refine ⟨lt, Nat.le_refl _, fun j j1 j2 => ?_⟩
      rw [hr j j1, hw]
      grind
    · obtain ⟨c1, c2, c3⟩ := L.chord s e hs
      refine ⟨c1, by omega, fun j j1 j2 => ?_⟩
      have := c3 j j1 j2
      rw [hl j (by omega)]
      calc H j * w * (x e - x s) = H j * (x e - x s) * w := by grind
        _ = _ := by rw [this]; grind
theorem HStk.line {x y : Nat → Int} {n : Nat} (I : Inc x n) : ∀ {ks : List Nat} {t : Nat}, HStk x y (t :: ks) → t < n → ∃ D H, Line x y ks t D H
  | [], t, h, ht => by cases h; exact ⟨1, _, line_one x y⟩
  | s :: ks, t, h, ht => by
    cases h with
    | cons h lt u a =>
      obtain ⟨D, H, L⟩ := HStk.line I h (by omega)
      exact line_cons I L lt ht u a
/-! hull_places -/
abbrev gL (ns : List Int) (i : Nat) : Int := ns.getD i 0
theorem ixL {ns : List Int} {i : Nat} (hi : i < ns.length) : L2.atI (ns.map SV.int) (i : Int) = some (.int (gL ns i)) := L2.atI_nat (by
  rw [List.getElem?_map, List.getElem?_eq_getElem hi]
  simp [gL, List.getD, hi])
theorem gL_sz {k : Nat} {ns : List Int} (h : ∀ x ∈ ns, Sz k x) {i : Nat} (hi : i < ns.length) : Sz k (gL ns i) := by
  have : gL ns i = ns[i] := by simp [gL, List.getD, hi]
  rw [this]
  exact h _ (List.getElem_mem _)
theorem at_last2 {α : Type} (xs : List α) (x y : α) : L2.atI (xs ++ [x, y]) (-2) = some x := by
  unfold L2.atI L2.ixN
  rw [if_neg (by omega), if_pos (by simp; omega)]
  have e : (-2 + ((xs ++ [x, y]).length : Int)).toNat = xs.length := by rw [List.length_append]; simp; omega
  rw [Option.bind_some, e, List.getElem?_append_right (Nat.le_refl _)]
  simp
theorem is_above_eq {X Y : List Int} {k : Nat} {s m e : Nat} {g : GS} (hX : ∀ x ∈ X, Sz k x) (hY : ∀ x ∈ Y, Sz k x) (hk : k ≤ 1000000) (h1 : s < X.length) (h2 : m < X.length) (h3 : e < X.length) (hl : Y.length = X.length) :
    F_is_above [.lst (X.map .int), .lst (Y.map .int), .int s, .int m, .int e] g = some (.sh (.bl (decide (Above (gL X) (gL Y) s m e))), g) := by
  have a1 := ixL h1
  have a2 := ixL h2
  have a3 := ixL h3
  have b1 := ixL (ns := Y) (i := s) (by omega)
  have b2 := ixL (ns := Y) (i := m) (by omega)
  have b3 := ixL (ns := Y) (i := e) (by omega)
  have s1 := gL_sz hX h1
  have s2 := gL_sz hX h2
  have s3 := gL_sz hX h3
  have t1 := gL_sz (i := s) hY (by omega)
  have t2 := gL_sz (i := m) hY (by omega)
  have t3 := gL_sz (i := e) hY (by omega)
  have m1 : mulOk (gL Y m - gL Y s) (gL X e - gL X s) = true := mulOk_of (t2.sub t1) (s3.sub s1) (by omega) (by omega)
  have m2 : mulOk (gL Y e - gL Y s) (gL X m - gL X s) = true := mulOk_of (t3.sub t1) (s2.sub s1) (by omega) (by omega)
  have hd : decide (Above (gL X) (gL Y) s m e) = decide ((gL Y e - gL Y s) * (gL X m - gL X s) < (gL Y m - gL Y s) * (gL X e - gL X s)) := decide_eq_decide.mpr Iff.rfl
  rw [hd]
  generalize X.map SV.int = XX at *
  generalize Y.map SV.int = YY at *
  generalize gL X s = c1 at *
  generalize gL X m = c2 at *
  generalize gL X e = c3 at *
  generalize gL Y s = d1 at *
  generalize gL Y m = d2 at *
  generalize gL Y e = d3 at *
  simp [F_is_above, B_is_above, a1, a2, a3, b1, b2, b3, m1, m2]
def hullC : TF := tAnd1 (tB1 (b2 hGt (lenP (vP 2)) (kS (.int 1)))) (tNot1 (tB1 (fz (callF F_is_above (aC (vS 0) (aC (vS 1) (aC (un (ixP (vP 2) (u1 hNeg (kS (.int 2))))) (aC (un (ixP (vP 2) (u1 hNeg (kS (.int 1))))) (aC (vS 3) (aN))))))))))
abbrev hE (X Y : List Int) (rs : List Nat) (x3 : Option DV) : Env := [some (.sh (.lst (X.map .int))), some (.sh (.lst (Y.map .int))), some (.own ((rs.reverse.map fun k => SV.int (k : Nat)).map .sh)), x3]
theorem while_hull {X Y : List Int} {k : Nat} {g : GS} (hX : ∀ x ∈ X, Sz k x) (hY : ∀ x ∈ Y, Sz k x) (hk : k ≤ 1000000) (hl : Y.length = X.length) (I : Inc (gL X) X.length) {e : Nat} (he : e < X.length) :
    ∀ (rs : List Nat) (t m : Nat), rs.length < m → HStk (gL X) (gL Y) (t :: rs) → t < e → (∀ j, t < j → j < e → Under (gL X) (gL Y) t e j) →
    ∃ rs', whileN hullC (pop0D 2) m (hE X Y (t :: rs) (some (.sh (.int e)))) g = some (.nx (hE X Y rs' (some (.sh (.int e)))) g) ∧ HStk (gL X) (gL Y) (e :: rs') ∧ rs'.length ≤ rs.length + 1
  | [], t, m, hm, h, ht, u => by
    cases m with
    | zero => exact absurd hm (by simp)
    | succ m =>
      refine ⟨[t], while_end (g1 := g) ?_, .cons h ht u (fun s hs => by cases hs), Nat.le_refl _⟩
      simp [hullC]
  | s :: rs, t, m, hm, h, ht, u => by
    cases m with
    | zero => exact absurd hm (by simp)
    | succ m =>
      have st := h.asc
      have ha := is_above_eq (g := g) (s := s) (m := t) (e := e) hX hY hk (by omega) (by omega) he hl
      have eL : ((((t :: s :: rs).reverse.map fun k => SV.int ((k : Nat) : Int))).map DV.sh) = ((rs.reverse.map fun k => SV.int ((k : Nat) : Int)).map DV.sh) ++ [.sh (.int s), .sh (.int t)] := by simp
      have eL2 : ((((s :: rs).reverse.map fun k => SV.int ((k : Nat) : Int))).map DV.sh) = ((rs.reverse.map fun k => SV.int ((k : Nat) : Int)).map DV.sh) ++ [.sh (.int s)] := by simp
      have hc : hullC (hE X Y (t :: s :: rs) (some (.sh (.int e)))) g = some (!decide (Above (gL X) (gL Y) s t e), g) := by
        unfold hE
        rw [eL]
        generalize (rs.reverse.map fun k => SV.int ((k : Nat) : Int)).map DV.sh = L
        generalize X.map SV.int = XX at *
        generalize Y.map SV.int = YY at *
        have q1 := at_last2 L (.sh (.int s)) (.sh (.int t))
        have q2 : L2.atI (L ++ [DV.sh (.int s), .sh (.int t)]) (-1) = some (.sh (.int t)) := by
          have := at_last (L ++ [DV.sh (.int s)]) (.sh (.int t))
          rw [List.append_assoc] at this
          exact this
        have q3 : decide ((1 : Int) < ((L ++ [DV.sh (SV.int s), DV.sh (SV.int t)]).length : Nat)) = true := decide_eq_true (by rw [List.length_append]; simp; omega)
        simp only [hullC, ev_tAnd, ev_tB1, ev_b2, ev_lenP, ev_vPs, ev_vP0, ev_lno, Option.bind_some, Option.map_some, ev_kS, ev_gt, ev_ixP, ev_u1, ev_neg, ev_at, q1, q2, q3, ev_un, ev_shq, ev_callF, ev_aC, ev_vSs, ev_vS0, ev_aN, ev_fz, ha, ev_frzs, ev_tNot, if_true]
      by_cases hA : Above (gL X) (gL Y) s t e
      · refine ⟨t :: s :: rs, while_end (g1 := g) (by rw [hc, decide_eq_true hA]; rfl), .cons h ht u (fun s' hs => by cases hs; exact hA), by simp⟩
      · have h' := h.tail
        have u1 : ∀ j, s < j → j < t → Under (gL X) (gL Y) s t j := by cases h; assumption
        obtain ⟨rs', r1, r2, r3⟩ := while_hull hX hY hk hl I he (g := g) rs s m (by simp at hm; omega) h' (by omega) (under_pop I st ht he u1 u hA)
        refine ⟨rs', ?_, r2, by simp; omega⟩
        rw [while_step (g1 := g) (ρ' := hE X Y (s :: rs) (some (.sh (.int e)))) (g' := g) (by rw [hc, decide_eq_false hA]; rfl) ?_]
        · exact r1
        · unfold hE
          rw [eL, eL2]
          generalize (rs.reverse.map fun k => SV.int ((k : Nat) : Int)).map DV.sh = L
          have q : lastS (L ++ [DV.sh (.int s), .sh (.int t)]) = some (.int t) := by
            have := lastS_snoc (L ++ [DV.sh (.int s)]) (.int t)
            rw [List.append_assoc] at this
            exact this
          have q2 : (L ++ [DV.sh (.int s), .sh (.int t)]).dropLast = L ++ [.sh (.int s)] := by
            have := List.dropLast_concat (l₁ := L ++ [DV.sh (.int s)]) (b := DV.sh (.int t))
            rw [List.append_assoc] at this
            exact this
          simp [q, q2]
theorem hull_places_eq {X Y : List Int} {k : Nat} {g : GS} (hX : ∀ x ∈ X, Sz k x) (hY : ∀ x ∈ Y, Sz k x) (hk : k ≤ 1000000) (hl : Y.length = X.length) (I : Inc (gL X) X.length) (h0 : 0 < X.length) (h60 : X.length ≤ 60) :
    ∃ rs, HStk (gL X) (gL Y) ((X.length - 1) :: rs) ∧ rs.length < X.length ∧ F_hull_places [.lst (X.map .int), .lst (Y.map .int)] g = some (.own ((((X.length - 1) :: rs).reverse.map fun k => SV.int (k : Nat)).map .sh), g) := by
  obtain ⟨ρ', g', e, rfl, rs, x3, rfl, c1, c2, c3⟩ := loop_rng (gf := gN 3) (sb := seqD (whileD hullC (pop0D 2)) (appD 2 (oS (vS 3)))) (lo := 0) (n := X.length)
    (fun i ρ g' => g' = g ∧ ∃ rs x3, ρ = hE X Y rs x3 ∧ rs.length ≤ i ∧ (i = 0 → rs = []) ∧ (0 < i → HStk (gL X) (gL Y) rs ∧ rs.head? = some (i - 1)))
    (ρ := hE X Y [] none) (g := g) ⟨rfl, [], none, rfl, Nat.le_refl _, fun _ => rfl, fun h => absurd h (Nat.lt_irrefl _)⟩ (fun i ρ g' hi hI => by
      obtain ⟨rfl, rs, x3, rfl, c1, c2, c3⟩ := hI
      have ei : (0 : Int) + (i : Nat) = i := by omega
      rw [ei]
      have fin : ∀ rs', whileN hullC (pop0D 2) FUEL (hE X Y rs (some (.sh (.int i)))) g' = some (.nx (hE X Y rs' (some (.sh (.int i)))) g') → HStk (gL X) (gL Y) (i :: rs') → rs'.length ≤ i →
          ∃ ρ' g'', ((gN 3 (.sh (.int i)) (hE X Y rs x3) g').bind fun p => seqD (whileD hullC (pop0D 2)) (appD 2 (oS (vS 3))) p.1 p.2) = some (.nx ρ' g'') ∧ g'' = g' ∧ ∃ rs x3, ρ' = hE X Y rs x3 ∧ rs.length ≤ i + 1 ∧ (i + 1 = 0 → rs = []) ∧ (0 < i + 1 → HStk (gL X) (gL Y) rs ∧ rs.head? = some (i + 1 - 1)) := fun rs' hw hs hlen => by
        refine ⟨hE X Y (i :: rs') (some (.sh (.int i))), g', ?_, rfl, i :: rs', _, rfl, by simp; omega, fun h => by omega, fun _ => ⟨hs, rfl⟩⟩
        have eL : ((((i :: rs').reverse.map fun k => SV.int ((k : Nat) : Int))).map DV.sh) = ((rs'.reverse.map fun k => SV.int ((k : Nat) : Int)).map DV.sh) ++ [.sh (.int i)] := by simp
        have hL : lenOk ((rs'.reverse.map fun k => SV.int ((k : Nat) : Int)).map DV.sh).length = true := lenOk_of (by simp; omega)
        unfold hE at *
        rw [eL]
        have hw' : whileD hullC (pop0D 2) _ g' = _ := hw
        generalize (rs'.reverse.map fun k => SV.int ((k : Nat) : Int)).map DV.sh = L at *
        generalize (rs.reverse.map fun k => SV.int ((k : Nat) : Int)).map DV.sh = L0 at *
        generalize X.map SV.int = XX at *
        generalize Y.map SV.int = YY at *
        clear hw
        simp [hw', hL]
      by_cases hi0 : i = 0
      · subst hi0
        have := c2 rfl
        subst this
        refine fin [] (while_end (g1 := g') ?_) .one (Nat.le_refl _)
        simp [hullC]
      · obtain ⟨d1, d2⟩ := c3 (by omega)
        cases rs with
        | nil => cases d2
        | cons t rs =>
          simp at d2
          subst d2
          obtain ⟨rs', r1, r2, r3⟩ := while_hull hX hY hk hl I hi (g := g') rs (i - 1) FUEL (by unfold FUEL; simp at c1; omega) d1 (by omega) (fun j j1 j2 => by omega)
          exact fin rs' r1 r2 (by simp at c1; omega))
  obtain ⟨d1, d2⟩ := c3 h0
  cases rs with
  | nil => cases d2
  | cons t rs =>
    simp at d2
    subst d2
    refine ⟨rs, d1, by simp at c1; omega, ?_⟩
    have r1 : rngOk ((X.length : Nat) : Int) = true := rngOk_of (by omega)
    unfold hullC hE at e
    have hlx : (X.map SV.int).length = X.length := List.length_map _
    generalize ((((X.length - 1) :: rs).reverse.map fun k => SV.int ((k : Nat) : Int))).map DV.sh = L at *
    rw [show ((([] : List Nat).reverse.map fun k => SV.int ((k : Nat) : Int))).map DV.sh = [] from rfl] at e
    generalize hXX : X.map SV.int = XX at *
    generalize Y.map SV.int = YY at *
    simp [F_hull_places, B_hull_places, hlx, r1, e]
/-! upper_heights -/
abbrev encPt (p : (Int × Int) × (Int × Int)) : SV := .tup [fr p.1, fr p.2]
def hgtI : SF := appD 5 (callF F_ratio (aC (b2 hAdd (b2 hMul (b2 hIx (vS 2) (vS 6)) (vS 8)) (b2 hMul (vS 9) (b2 hSub (b2 hIx (vS 1) (vS 10)) (b2 hIx (vS 1) (vS 6))))) (aC (b2 hMul (vS 8) (vS 3)) (aN))))
def hgtB : SF := seqD (setD 8 (oS (b2 hSub (b2 hIx (vS 1) (vS 7)) (b2 hIx (vS 1) (vS 6)))))
  (seqD (setD 9 (oS (b2 hSub (b2 hIx (vS 2) (vS 7)) (b2 hIx (vS 2) (vS 6)))))
  (forD (iR2 (b2 hAdd (vS 6) (kS (.int 1))) (b2 hAdd (vS 7) (kS (.int 1)))) (gN 10) hgtI))
/-- the heights so far -/
def HOk (H : Nat → Int) (α : Int) (hs : List (Int × Int)) : Prop := ∀ k q, hs[k]? = some q → Fr q ∧ q.1 * α = H k * q.2
theorem HOk.snoc {H : Nat → Int} {α : Int} {hs : List (Int × Int)} {q : Int × Int} (h : HOk H α hs) (f : Fr q) (e : q.1 * α = H hs.length * q.2) : HOk H α (hs ++ [q]) := fun k r hr => by
  by_cases hk : k < hs.length
  · rw [List.getElem?_append_left hk] at hr
    exact h k r hr
  · rw [List.getElem?_append_right (by omega)] at hr
    have : k = hs.length := by
      cases hz : k - hs.length with
      | zero => omega
      | succ n => rw [hz] at hr; simp at hr
    subst this
    simp at hr
    subst hr
    exact ⟨f, e⟩
theorem hgt_in {X Y : List Int} {C D : Int} {H : Nat → Int} {n s e : Nat} {v0 v4 : DV} {x11 : Option DV} {g : GS} (hX : ∀ x ∈ X, Sz 150 x) (hY : ∀ x ∈ Y, Sz 100000 x) (hC : 0 < C) (hC2 : Sz 8500 C) (hl : Y.length = X.length) (hn : X.length ≤ 60) (I : Inc (gL X) X.length)
    (h1 : s < e) (h2 : e < X.length) (hch : ∀ j, s ≤ j → j ≤ e → H j * (gL X e - gL X s) = D * (gL Y s * (gL X e - gL X j) + gL Y e * (gL X j - gL X s))) (acc : List (Int × Int)) (ha : acc.length = s + 1) (hok : HOk H (D * C) acc) (x10 : Option DV) :
    ∃ acc' x10', loopD (gN 10) hgtI (rngL ((s : Int) + 1) (e - s)) [some v0, some (.sh (.lst (X.map .int))), some (.sh (.lst (Y.map .int))), some (.sh (.int C)), some v4, some (.own ((acc.map fr).map .sh)), some (.sh (.int s)), some (.sh (.int e)), some (.sh (.int (gL X e - gL X s))), some (.sh (.int (gL Y e - gL Y s))), x10, x11] g =
      some (.nx [some v0, some (.sh (.lst (X.map .int))), some (.sh (.lst (Y.map .int))), some (.sh (.int C)), some v4, some (.own ((acc'.map fr).map .sh)), some (.sh (.int s)), some (.sh (.int e)), some (.sh (.int (gL X e - gL X s))), some (.sh (.int (gL Y e - gL Y s))), x10', x11] g) ∧ acc'.length = e + 1 ∧ HOk H (D * C) acc' := by
  have w0 : 0 < gL X e - gL X s := by have := I.lt h1 h2; omega
  have sx := gL_sz hX (show s < X.length by omega)
  have ex := gL_sz hX h2
  have sy := gL_sz (i := s) hY (by omega)
  have ey := gL_sz (i := e) hY (by omega)
  obtain ⟨ρ', g', el, rfl, acc', x', rfl, hl', hok'⟩ := loop_rng (gf := gN 10) (sb := hgtI) (lo := (s : Int) + 1) (n := e - s) (fun i ρ g' => g' = g ∧ ∃ acc' x10', ρ = [some v0, some (.sh (.lst (X.map .int))), some (.sh (.lst (Y.map .int))), some (.sh (.int C)), some v4, some (.own ((acc'.map fr).map .sh)), some (.sh (.int s)), some (.sh (.int e)), some (.sh (.int (gL X e - gL X s))), some (.sh (.int (gL Y e - gL Y s))), x10', x11] ∧ acc'.length = s + 1 + i ∧ HOk H (D * C) acc')
    (ρ := [some v0, some (.sh (.lst (X.map .int))), some (.sh (.lst (Y.map .int))), some (.sh (.int C)), some v4, some (.own ((acc.map fr).map .sh)), some (.sh (.int s)), some (.sh (.int e)), some (.sh (.int (gL X e - gL X s))), some (.sh (.int (gL Y e - gL Y s))), x10, x11]) (g := g)
    ⟨rfl, acc, x10, rfl, by omega, hok⟩ (fun i ρ g' hi hI => by
      obtain ⟨rfl, acc', x, rfl, hl', hok'⟩ := hI
      have ek : (s : Int) + 1 + (i : Nat) = ((s + 1 + i : Nat) : Int) := by omega
      rw [ek]
      have hk : s + 1 + i < X.length := by omega
      have a1 := ixL (show s < X.length by omega)
      have a2 := ixL hk
      have b1 := ixL (ns := Y) (i := s) (by omega)
      have kx := gL_sz hX hk
      have m1 : mulOk (gL Y s) (gL X e - gL X s) = true := mulOk_of sy (ex.sub sx) (by decide) (by decide)
      have m2 : mulOk (gL Y e - gL Y s) (gL X (s + 1 + i) - gL X s) = true := mulOk_of (ey.sub sy) (kx.sub sx) (by decide) (by decide)
      have m3 : mulOk (gL X e - gL X s) C = true := mulOk_of (ex.sub sx) hC2 (by decide) (by decide)
      have d0 : (gL X e - gL X s) * C ≠ 0 := Int.ne_of_gt (Int.mul_pos w0 hC)
      have er := ratio_eq (n := gL Y s * (gL X e - gL X s) + (gL Y e - gL Y s) * (gL X (s + 1 + i) - gL X s)) (g := g') d0 ((ex.sub sx).mul hC2) (by decide)
      have hq := rat_fr (n := gL Y s * (gL X e - gL X s) + (gL Y e - gL Y s) * (gL X (s + 1 + i) - gL X s)) d0
      have hqe := rat_eq (n := gL Y s * (gL X e - gL X s) + (gL Y e - gL Y s) * (gL X (s + 1 + i) - gL X s)) d0
      have hc := hch (s + 1 + i) (by omega) (by omega)
      refine ⟨_, g', ?_, rfl, acc' ++ [rat (gL Y s * (gL X e - gL X s) + (gL Y e - gL Y s) * (gL X (s + 1 + i) - gL X s)) ((gL X e - gL X s) * C)], some (.sh (.int ((s + 1 + i : Nat) : Int))), rfl, by rw [List.length_append, List.length_singleton]; omega, hok'.snoc hq ?_⟩
      · have hL : lenOk ((acc'.map fr).map DV.sh).length = true := lenOk_of (by rw [List.length_map, List.length_map]; omega)
        rw [List.map_append, List.map_append]
        generalize (acc'.map fr).map DV.sh = L at *
        clear hc hq hqe hch
        generalize X.map SV.int = XX at *
        generalize Y.map SV.int = YY at *
        clear ek hk
        generalize ((s + 1 + i : Nat) : Int) = kk at *
        generalize gL X (s + 1 + i) = c1 at *
        generalize gL Y e - gL Y s = c2 at *
        generalize gL X e - gL X s = c3 at *
        generalize gL Y s = c4 at *
        generalize gL X s = c5 at *
        simp [hgtI, a1, a2, b1, m1, m2, m3, er, hL]
      · rw [hl']
        generalize rat (gL Y s * (gL X e - gL X s) + (gL Y e - gL Y s) * (gL X (s + 1 + i) - gL X s)) ((gL X e - gL X s) * C) = Q at *
        generalize gL X (s + 1 + i) = c1 at *
        generalize gL Y e = d2 at *
        generalize gL Y s = d1 at *
        generalize gL X s = c5 at *
        generalize gL X e = c6 at *
        generalize H (s + 1 + i) = h at *
        refine Int.eq_of_mul_eq_mul_right (Int.ne_of_gt w0) ?_
        calc Q.1 * (D * C) * (c6 - c5) = (Q.1 * ((c6 - c5) * C)) * D := by grind
          _ = (d1 * (c6 - c5) + (d2 - d1) * (c1 - c5)) * Q.2 * D := by rw [hqe]
          _ = (D * (d1 * (c6 - c1) + d2 * (c1 - c5))) * Q.2 := by grind
          _ = (h * (c6 - c5)) * Q.2 := by rw [hc]
          _ = h * Q.2 * (c6 - c5) := by grind)
  exact ⟨acc', x', el, by omega, hok'⟩
theorem hgt_loop {X Y : List Int} {C D : Int} {H : Nat → Int} {v0 v4 : DV} {x11 : Option DV} {g : GS} (hX : ∀ x ∈ X, Sz 150 x) (hY : ∀ x ∈ Y, Sz 100000 x) (hC : 0 < C) (hC2 : Sz 8500 C) (hl : Y.length = X.length) (hn : X.length ≤ 60) (I : Inc (gL X) X.length) :
    ∀ (as : List Nat) (s : Nat), (∀ a b, (a, b) ∈ (s :: as).zip as → a < b ∧ b < X.length ∧ ∀ j, a ≤ j → j ≤ b → H j * (gL X b - gL X a) = D * (gL Y a * (gL X b - gL X j) + gL Y b * (gL X j - gL X a))) →
    ∀ (acc : List (Int × Int)), acc.length = s + 1 → HOk H (D * C) acc → ∀ x6 x7 x8 x9 x10, ∃ acc' x6' x7' x8' x9' x10',
    loopD (gT 2 (gLC (gN 6) (gLC (gN 7) (gLN)))) hgtB (zipL ((s :: as).map fun k => SV.int (k : Nat)) (as.map fun k => SV.int (k : Nat))) [some v0, some (.sh (.lst (X.map .int))), some (.sh (.lst (Y.map .int))), some (.sh (.int C)), some v4, some (.own ((acc.map fr).map .sh)), x6, x7, x8, x9, x10, x11] g =
      some (.nx [some v0, some (.sh (.lst (X.map .int))), some (.sh (.lst (Y.map .int))), some (.sh (.int C)), some v4, some (.own ((acc'.map fr).map .sh)), x6', x7', x8', x9', x10', x11] g) ∧ acc'.length = (s :: as).getLast (by simp) + 1 ∧ HOk H (D * C) acc'
  | [], s, hp, acc, ha, hok, x6, x7, x8, x9, x10 => ⟨acc, x6, x7, x8, x9, x10, rfl, ha, hok⟩
  | e :: as, s, hp, acc, ha, hok, x6, x7, x8, x9, x10 => by
    obtain ⟨h1, h2, h3⟩ := hp s e (by rw [List.zip_cons_cons]; exact List.mem_cons_self)
    obtain ⟨acc1, x10a, e1, l1, ok1⟩ := hgt_in (v0 := v0) (v4 := v4) (x11 := x11) (g := g) (n := 0) hX hY hC hC2 hl hn I h1 h2 h3 acc ha hok x10
    obtain ⟨acc2, y6, y7, y8, y9, y10, e2, l2, ok2⟩ := hgt_loop (v0 := v0) (v4 := v4) (x11 := x11) (g := g) hX hY hC hC2 hl hn I as e (fun a b m => hp a b (by rw [List.zip_cons_cons]; exact List.mem_cons_of_mem _ m)) acc1 l1 ok1 (some (.sh (.int s))) (some (.sh (.int e))) (some (.sh (.int (gL X e - gL X s)))) (some (.sh (.int (gL Y e - gL Y s)))) x10a
    refine ⟨acc2, y6, y7, y8, y9, y10, ?_, by rw [l2]; simp, ok2⟩
    have ez : zipL ((s :: e :: as).map fun k => SV.int ((k : Nat) : Int)) ((e :: as).map fun k => SV.int ((k : Nat) : Int)) = .tup [.int s, .int e] :: zipL ((e :: as).map fun k => SV.int ((k : Nat) : Int)) (as.map fun k => SV.int ((k : Nat) : Int)) := by
      simp [zipL]
    rw [ez, loop_nx (ρ' := [some v0, some (.sh (.lst (X.map .int))), some (.sh (.lst (Y.map .int))), some (.sh (.int C)), some v4, some (.own ((acc1.map fr).map .sh)), some (.sh (.int s)), some (.sh (.int e)), some (.sh (.int (gL X e - gL X s))), some (.sh (.int (gL Y e - gL Y s))), x10a, x11]) (g' := g)]
    · exact e2
    · have a1 := ixL (show s < X.length by omega)
      have a2 := ixL h2
      have b1 := ixL (ns := Y) (i := s) (by omega)
      have b2 := ixL (ns := Y) (i := e) (by omega)
      have r1 : rngOk ((s : Int) + 1) = true := rngOk_of (n := s + 1) (by omega)
      have r2 : rngOk ((e : Int) + 1) = true := rngOk_of (n := e + 1) (by omega)
      have er : ((e : Int) + 1 - (s + 1)).toNat = e - s := by omega
      generalize (acc1.map fr).map DV.sh = A1 at *
      generalize (acc.map fr).map DV.sh = A0 at *
      clear h3 hp e2
      generalize X.map SV.int = XX at *
      generalize Y.map SV.int = YY at *
      generalize gL X e = c1 at *
      generalize gL X s = c2 at *
      generalize gL Y e = d1 at *
      generalize gL Y s = d2 at *
      simp [hgtB, a1, a2, b1, b2, r1, r2, er, e1]
theorem zip_rev {as : List Nat} {a b : Nat} : ∀ {t : Nat} {rs : List Nat} {s : Nat}, (t :: rs).reverse = s :: as → (a, b) ∈ (s :: as).zip as → (b, a) ∈ (t :: rs).zip rs := by
  intro t rs s he hm
  obtain ⟨i, hi, e⟩ := List.mem_iff_getElem.mp hm
  rw [List.getElem_zip] at e
  simp only [List.length_zip, List.length_cons] at hi
  have hlen : rs.length = as.length := by
    have := congrArg List.length he
    simp at this
    exact this
  have key : ∀ k, k < as.length + 1 → (s :: as)[k]? = (t :: rs)[as.length - k]? := fun k hk => by
    rw [← he, List.getElem?_reverse (by simp; omega)]
    congr 1
    simp
    omega
  have e1 : (s :: as)[i]? = some a := by
    rw [List.getElem?_eq_getElem (by simp; omega)]
    exact congrArg some (Prod.ext_iff.mp e).1
  have e2 : (s :: as)[i + 1]? = some b := by
    rw [List.getElem?_cons_succ, List.getElem?_eq_getElem (by omega)]
    exact congrArg some (Prod.ext_iff.mp e).2
  rw [key i (by omega)] at e1
  rw [key (i + 1) (by omega)] at e2
  rw [show as.length - i = (as.length - (i + 1)) + 1 by omega, List.getElem?_cons_succ] at e1
  have hz : ((t :: rs).zip rs)[as.length - (i + 1)]? = some (b, a) := by
    rw [List.getElem?_zip_eq_some]
    exact ⟨e2, e1⟩
  exact List.mem_of_getElem? hz
theorem cut1 {α : Type} (x : α) (xs : List α) : cutS (x :: xs) (some 1) none = xs := by
  unfold cutS
  have e1 : HT.sIx (x :: xs).length 0 (some 1) = 1 := (HT.sIx_nat (x :: xs).length 0 1).trans (by simp)
  rw [e1, HT.sIx_none]
  simp
theorem upper_heights_eq {S : SV} {pts : List ((Int × Int) × (Int × Int))} {g : GS} (hS : S.seq? = some (pts.map encPt)) (hx : ∀ p ∈ pts, Fr p.1 ∧ Sz 140 p.1.2) (hx1 : ∀ p ∈ pts, Sz 140 p.1.1) (hX : ∀ x ∈ nums (pts.map (·.1)), Sz 150 x)
    (hy : ∀ p ∈ pts, Fr p.2 ∧ Sz 140 p.2.2) (hy1 : ∀ p ∈ pts, Sz 400 p.2.1) (h0 : 0 < pts.length) (h60 : pts.length ≤ 60) (I : Inc (gL (nums (pts.map (·.1)))) pts.length) :
    ∃ hs D H, F_upper_heights [S] g = some (.own ((hs.map fr).map .sh), g) ∧ hs.length = pts.length ∧ 0 < D ∧ Char (gL (nums (pts.map (·.1)))) H (fun k => D * gL (nums (pts.map (·.2))) k) pts.length ∧ HOk H (D * (lcmL (pts.map (·.2)) 1 : Nat)) hs := by
  have fx : ∀ q ∈ pts.map (·.1), Fr q ∧ Sz 140 q.2 := fun q hq => by obtain ⟨p, m, rfl⟩ := List.mem_map.mp hq; exact hx p m
  have fx1 : ∀ q ∈ pts.map (·.1), Sz 140 q.1 := fun q hq => by obtain ⟨p, m, rfl⟩ := List.mem_map.mp hq; exact hx1 p m
  have fy : ∀ q ∈ pts.map (·.2), Fr q ∧ Sz 140 q.2 := fun q hq => by obtain ⟨p, m, rfl⟩ := List.mem_map.mp hq; exact hy p m
  have fy1 : ∀ q ∈ pts.map (·.2), Sz 400 q.1 := fun q hq => by obtain ⟨p, m, rfl⟩ := List.mem_map.mp hq; exact hy1 p m
  have lx : (pts.map (·.1)).length = pts.length := List.length_map _
  have ly : (pts.map (·.2)).length = pts.length := List.length_map _
  obtain ⟨sx, bx⟩ := scaled_eqG (S := .lst ((pts.map (·.1)).map fr)) (g := g) rfl fx fx1 (by decide) (by rw [lx]; omega) (by decide) (by rw [lx]; omega)
  obtain ⟨sy, by_⟩ := scaled_eqG (S := .lst ((pts.map (·.2)).map fr)) (g := g) rfl fy fy1 (by decide) (by rw [ly]; omega) (by decide) (by rw [ly]; omega)
  have c0 : 0 < lcmL (pts.map (·.2)) 1 := lcmL_pos _ 1 (by decide) fun q hq => (fy q hq).1
  have cb : lcmL (pts.map (·.2)) 1 < 2 ^ 8500 := Nat.lt_of_lt_of_le by_ (Nat.pow_le_pow_right (by decide) (by rw [ly]; omega))
  have hY : ∀ x ∈ nums (pts.map (·.2)), Sz 100000 x := fun x h => (nums_szG (fun q hq => (fy q hq).1) fy1 cb x h).mono (by decide)
  have cx : ∀ (ρ1 ρ2 ρ3 ρ4 ρ5 ρ6 ρ7 ρ8 ρ9 ρ10 : Option DV) g, compL (wN 11) yesT (oS (b2 hIx (vS 11) (kS (.int 0)))) [some (.sh S), ρ1, ρ2, ρ3, ρ4, ρ5, ρ6, ρ7, ρ8, ρ9, ρ10, none] (pts.map encPt) g = some (((pts.map (·.1)).map fr).map .sh, g) := fun _ _ _ _ _ _ _ _ _ _ g => by
    rw [comp_map (β := Int × Int) encPt (fun p => DV.sh (fr p.1)) pts g (fun p _ g => by simp [encPt])]
    rw [List.map_map, List.map_map]; rfl
  have cy : ∀ (ρ1 ρ2 ρ3 ρ4 ρ5 ρ6 ρ7 ρ8 ρ9 ρ10 : Option DV) g, compL (wN 11) yesT (oS (b2 hIx (vS 11) (kS (.int 1)))) [some (.sh S), ρ1, ρ2, ρ3, ρ4, ρ5, ρ6, ρ7, ρ8, ρ9, ρ10, none] (pts.map encPt) g = some (((pts.map (·.2)).map fr).map .sh, g) := fun _ _ _ _ _ _ _ _ _ _ g => by
    rw [comp_map (β := Int × Int) encPt (fun p => DV.sh (fr p.2)) pts g (fun p _ g => by simp [encPt])]
    rw [List.map_map, List.map_map]; rfl
  cases hpts : pts with
  | nil => rw [hpts] at h0; simp at h0
  | cons p0 pt =>
  rw [← hpts]
  have hix : hIx S (.int 0) = some (encPt p0) := by
    unfold hIx
    rw [hS, hpts]
    exact L2.atI_nat (j := 0) rfl
  have hLp : lenOk (pts.map encPt).length = true := lenOk_of (by rw [List.length_map]; omega)
  have first : (pts.map (·.2))[0]? = some p0.2 := by rw [hpts]; rfl
  have hn0 := nums_rel (fun q hq => (fy q hq).1) first
  have hq0 := (fy p0.2 (by rw [hpts]; simp)).1
  generalize hXX : nums (pts.map (·.1)) = X at *
  generalize hYY : nums (pts.map (·.2)) = Y at *
  have lX : X.length = pts.length := by rw [← hXX, nums_length, lx]
  have lY : Y.length = X.length := by rw [lX, ← hYY, nums_length, ly]
  generalize hCC : lcmL (pts.map (·.2)) 1 = C at *
  obtain ⟨rs, hst, hrl, eh⟩ := hull_places_eq (g := g) (fun x h => (hX x h).mono (show 150 ≤ 100000 by decide)) hY (by decide) lY (by rw [lX]; exact I) (by omega) (by omega)
  obtain ⟨D, H, L⟩ := HStk.line (by rw [← lX] at I; exact I) hst (by omega)
  have I' : Inc (gL X) X.length := by rw [lX]; exact I
  have hn1 : X.length - 1 + 1 = X.length := by omega
  have Ch : Char (gL X) H (fun k => D * gL Y k) X.length := ⟨fun k hk => L.ge k (by omega), by rw [← hn1]; exact L.conc, by rw [← hn1]; exact L.touch⟩
  cases hrev : ((X.length - 1) :: rs).reverse with
  | nil => simp at hrev
  | cons s as =>
  rw [hrev] at eh
  have hH0 : H 0 = D * gL Y 0 := by
    rcases L.touch 0 (by omega) with e | ⟨l, r, q1, _⟩
    · exact e
    · omega
  have s0 : s = 0 := by
    have : ∀ {ks : List Nat}, HStk (gL X) (gL Y) ks → ks.getLast? = some 0 := fun h => by
      induction h with
      | one => rfl
      | cons h lt u a ih => rw [List.getLast?_cons_cons]; exact ih
    have h1 := this hst
    rw [← List.head?_reverse, hrev] at h1
    exact Option.some.inj h1
  subst s0
  have hok0 : HOk H (D * (C : Nat)) [p0.2] := fun k q hq => by
    cases k with
    | zero =>
      simp at hq
      subst hq
      refine ⟨hq0, ?_⟩
      rw [hH0]
      have hn0' : gL Y 0 * p0.2.2 = p0.2.1 * (C : Nat) := hn0
      calc p0.2.1 * (D * (C : Nat)) = (p0.2.1 * (C : Nat)) * D := by grind
        _ = D * gL Y 0 * p0.2.2 := by rw [← hn0']; grind
    | succ k => simp at hq
  obtain ⟨hs, y6, y7, y8, y9, y10, el, ll, ok⟩ := hgt_loop (v0 := .sh S) (v4 := .sh (.lst ((0 :: as).map fun k => SV.int (k : Nat)))) (x11 := none) (g := g) hX hY (C := (C : Nat)) (D := D) (H := H) (by omega) (by unfold Sz; rw [Int.natAbs_natCast]; exact cb) lY (by omega) I' as 0 (fun a b m => by
    have m2 := zip_rev hrev m
    obtain ⟨c1, c2, c3⟩ := L.chord a b (List.mem_map.mpr ⟨(b, a), m2, rfl⟩)
    exact ⟨c1, by omega, c3⟩) [p0.2] rfl hok0 none none none none none
  have hlast : (0 :: as).getLast (by simp) = X.length - 1 := by
    have : (0 :: as).getLast? = some (X.length - 1) := by rw [← hrev, List.getLast?_reverse]; rfl
    rw [List.getLast?_eq_some_getLast (by simp)] at this
    exact Option.some.inj this
  refine ⟨hs, D, H, ?_, by rw [ll, hlast]; omega, L.pos, by rw [← lX]; exact Ch, ok⟩
  have zc := cut1 (SV.int ((0 : Nat) : Int)) (as.map fun k => SV.int ((k : Nat) : Int))
  clear first hn0 fx fx1 fy fy1 hx hx1 hy hy1 bx by_ cb hX hY L Ch ok hok0
  rw [hpts] at hS cx cy hLp sx sy
  rw [List.map_cons] at eh el
  generalize hP : List.map encPt (p0 :: pt) = P at *
  generalize as.map (fun k => SV.int ((k : Nat) : Int)) = AS at *
  generalize SV.int ((0 : Nat) : Int) :: AS = KS at *
  generalize (hs.map fr).map DV.sh = HS at *
  generalize ((p0 :: pt).map (·.1)).map fr = PX at *
  generalize ((p0 :: pt).map (·.2)).map fr = PY at *
  generalize X.map SV.int = XX at *
  generalize Y.map SV.int = YY at *
  rw [List.map_cons, List.map_cons, List.map_nil, List.map_nil] at el
  unfold hgtB hgtI at el
  unfold encPt at hix
  simp [F_upper_heights, B_upper_heights, hS, hix, cx, cy, hLp, sx, sy, eh, zc, el]
/-! hulls over fractions -/
theorem fr_unique {p q : Int × Int} (hp : Fr p) (hq : Fr q) (e : p.1 * q.2 = q.1 * p.2) : p = q := by
  have h1 : p.2.natAbs ∣ q.2.natAbs := by
    have : p.2.natAbs ∣ p.1.natAbs * q.2.natAbs := by
      rw [← Int.natAbs_mul, e, Int.natAbs_mul]
      exact Nat.dvd_mul_left _ _
    exact Nat.Coprime.dvd_of_dvd_mul_left (by rw [Nat.Coprime, Nat.gcd_comm]; exact hp.2) this
  have h2 : q.2.natAbs ∣ p.2.natAbs := by
    have : q.2.natAbs ∣ q.1.natAbs * p.2.natAbs := by
      rw [← Int.natAbs_mul, ← e, Int.natAbs_mul]
      exact Nat.dvd_mul_left _ _
    exact Nat.Coprime.dvd_of_dvd_mul_left (by rw [Nat.Coprime, Nat.gcd_comm]; exact hq.2) this
  have h3 := Nat.dvd_antisymm h1 h2
  have hp0 := hp.1
  have hq0 := hq.1
  have e2 : p.2 = q.2 := by omega
  rw [e2] at e
  have e1 : p.1 = q.1 := Int.eq_of_mul_eq_mul_right (Int.ne_of_gt hq0) e
  exact Prod.ext e1 e2
theorem Char.scale {x H y : Nat → Int} {n : Nat} {c : Int} (hc : 0 < c) (C : Char x H y n) : Char x (fun k => c * H k) (fun k => c * y k) n where
  ge := fun k hk => Int.mul_le_mul_of_nonneg_left (C.ge k hk) (by omega)
  conc := fun k hk => by
    have := Int.mul_le_mul_of_nonneg_left (C.conc k hk) (show 0 ≤ c by omega)
    calc (c * H (k + 2) - c * H (k + 1)) * (x (k + 1) - x k) = c * ((H (k + 2) - H (k + 1)) * (x (k + 1) - x k)) := by grind
      _ ≤ _ := this
      _ = _ := by grind
  touch := fun k hk => by
    rcases C.touch k hk with e | ⟨l, r, q1, q2, q3, e1, e2, e3⟩
    · exact .inl (by show c * H k = c * y k; rw [e])
    · refine .inr ⟨l, r, q1, q2, q3, by show c * H l = c * y l; rw [e1], by show c * H r = c * y r; rw [e2], ?_⟩
      calc c * H k * (x r - x l) = c * (H k * (x r - x l)) := by grind
        _ = c * (H l * (x r - x k) + H r * (x k - x l)) := by rw [e3]
        _ = _ := by grind
theorem Char.congr {x H y y' : Nat → Int} {n : Nat} (C : Char x H y n) (h : ∀ k, k < n → y k = y' k) : Char x H y' n where
  ge := fun k hk => by rw [← h k hk]; exact C.ge k hk
  conc := C.conc
  touch := fun k hk => by
    rcases C.touch k hk with e | ⟨l, r, q1, q2, q3, e1, e2, e3⟩
    · exact .inl (by rw [← h k hk]; exact e)
    · exact .inr ⟨l, r, q1, q2, q3, by rw [← h l (by omega)]; exact e1, by rw [← h r q3]; exact e2, e3⟩
/-- the places' scale does not matter -/
theorem Char.rescale {x X H y : Nat → Int} {n : Nat} {a w : Int} (ha : 0 < a) (hw : 0 < w) (h : ∀ k, k < n → X k * w = x k * a) (C : Char X H y n) : Char x H y n where
  ge := C.ge
  conc := fun k hk => by
    have h0 := h k (by omega)
    have h1 := h (k + 1) (by omega)
    have h2 := h (k + 2) hk
    have c := Int.mul_le_mul_of_nonneg_right (C.conc k hk) (show 0 ≤ w by omega)
    refine cancelL ha ?_
    generalize H (k + 2) - H (k + 1) = A at *
    generalize H (k + 1) - H k = B at *
    calc A * (x (k + 1) - x k) * a = A * (x (k + 1) * a - x k * a) := by grind
      _ = A * (X (k + 1) - X k) * w := by rw [← h1, ← h0]; grind
      _ ≤ B * (X (k + 2) - X (k + 1)) * w := c
      _ = B * (X (k + 2) * w - X (k + 1) * w) := by grind
      _ = B * (x (k + 2) - x (k + 1)) * a := by rw [h2, h1]; grind
  touch := fun k hk => by
    rcases C.touch k hk with e | ⟨l, r, q1, q2, q3, e1, e2, e3⟩
    · exact .inl e
    · refine .inr ⟨l, r, q1, q2, q3, e1, e2, ?_⟩
      have hl := h l (by omega)
      have hr := h r q3
      have hk' := h k hk
      refine Int.eq_of_mul_eq_mul_right (Int.ne_of_gt ha) ?_
      calc H k * (x r - x l) * a = H k * (x r * a - x l * a) := by grind
        _ = H k * (X r - X l) * w := by rw [← hr, ← hl]; grind
        _ = (H l * (X r - X k) + H r * (X k - X l)) * w := by rw [e3]
        _ = H l * (X r * w - X k * w) + H r * (X k * w - X l * w) := by grind
        _ = _ := by rw [hr, hk', hl]; grind
structure HullQ (x : Nat → Int) (n : Nat) (ps hs : List (Int × Int)) : Prop where
  lp : ps.length = n
  lh : hs.length = n
  ex : ∃ (α : Int) (H y : Nat → Int), 0 < α ∧ Char x H y n ∧ HOk H α hs ∧ HOk y α ps
theorem HOk.mul {H : Nat → Int} {α c : Int} {hs : List (Int × Int)} (h : HOk H α hs) : HOk (fun k => c * H k) (c * α) hs := fun k q hq => by
  obtain ⟨f, e⟩ := h k q hq
  refine ⟨f, ?_⟩
  calc q.1 * (c * α) = c * (q.1 * α) := by grind
    _ = _ := by rw [e]; grind
theorem getq {α : Type} {l : List α} {n k : Nat} (h : l.length = n) (hk : k < n) : ∃ p, l[k]? = some p := ⟨l[k]'(by omega), List.getElem?_eq_getElem (by omega)⟩
theorem HullQ.uniq {x : Nat → Int} {n : Nat} {ps hs hs' : List (Int × Int)} (I : Inc x n) (h : HullQ x n ps hs) (h' : HullQ x n ps hs') : hs = hs' := by
  obtain ⟨α, H, y, a0, C, o1, o2⟩ := h.ex
  obtain ⟨β, H', y', b0, C', o1', o2'⟩ := h'.ex
  have D1 := C.scale b0
  have D2 := C'.scale a0
  have ey : ∀ k, k < n → β * y k = α * y' k := fun k hk => by
    obtain ⟨p, hp⟩ := getq h.lp hk
    obtain ⟨f, e1⟩ := o2 k _ hp
    obtain ⟨_, e2⟩ := o2' k _ hp
    refine Int.eq_of_mul_eq_mul_right (Int.ne_of_gt f.1) ?_
    calc β * y k * p.2 = β * (y k * p.2) := by grind
      _ = β * (p.1 * α) := by rw [e1]
      _ = α * (p.1 * β) := by grind
      _ = _ := by rw [e2]; grind
  have u := Char.uniq I (D1.congr ey) D2
  refine List.ext_getElem? fun k => ?_
  by_cases hk : k < n
  · obtain ⟨p, q1⟩ := getq h.lh hk
    obtain ⟨q, q2⟩ := getq h'.lh hk
    obtain ⟨f1, e1⟩ := o1 k _ q1
    obtain ⟨f2, e2⟩ := o1' k _ q2
    rw [q1, q2]
    congr 1
    refine fr_unique f1 f2 ?_
    have hu : β * H k = α * H' k := u k hk
    refine Int.eq_of_mul_eq_mul_right (Int.ne_of_gt (Int.mul_pos a0 b0)) ?_
    calc p.1 * q.2 * (α * β) = (p.1 * α) * β * q.2 := by grind
      _ = β * H k * p.2 * q.2 := by rw [e1]; grind
      _ = (H' k * q.2) * α * p.2 := by rw [hu]; grind
      _ = q.1 * p.2 * (α * β) := by rw [← e2]; grind
  · rw [List.getElem?_eq_none (by rw [h.lh]; omega), List.getElem?_eq_none (by rw [h'.lh]; omega)]
theorem HullQ.self {x : Nat → Int} {n : Nat} {ps hs : List (Int × Int)} (h : HullQ x n ps hs) : HullQ x n hs hs := by
  obtain ⟨α, H, y, a0, C, o1, o2⟩ := h.ex
  exact ⟨h.lh, h.lh, α, H, H, a0, C.self, o1, o1⟩
/-- a point under the hull may sink -/
theorem HullQ.lower {x : Nat → Int} {n m : Nat} {ps ps' hs : List (Int × Int)} (h : HullQ x n ps hs) (hm : m < n) (hl : ps'.length = n) (hf : ∀ p ∈ ps', Fr p) (he : ∀ k, k ≠ m → ps'[k]? = ps[k]?)
    (h1 : ∀ p q, ps'[m]? = some p → ps[m]? = some q → p.1 * q.2 ≤ q.1 * p.2) (h2 : ∀ p q, ps[m]? = some p → hs[m]? = some q → p.1 * q.2 < q.1 * p.2) : HullQ x n ps' hs := by
  obtain ⟨α, H, y, a0, C, o1, o2⟩ := h.ex
  obtain ⟨P', hp'⟩ := getq hl hm
  obtain ⟨P, hp⟩ := getq h.lp hm
  obtain ⟨R, hh⟩ := getq h.lh hm
  have fp' := hf P' (List.mem_of_getElem? hp')
  -- all over one more denominator
  have c0 : 0 < P'.2 := fp'.1
  let y' : Nat → Int := fun k => if k = m then P'.1 * α else P'.2 * y k
  have C1 := C.scale c0
  obtain ⟨f1, e1⟩ := o1 m _ hh
  obtain ⟨f2, e2⟩ := o2 m _ hp
  have g1 := h1 _ _ hp' hp
  have g2 := h2 _ _ hp hh
  have ym : y' m = P'.1 * α := by simp only [y', if_true]
  have yk : ∀ k, k ≠ m → y' k = P'.2 * y k := fun k hk => by simp only [y']; rw [if_neg hk]
  clear_value y'
  refine ⟨hl, h.lh, P'.2 * α, fun k => P'.2 * H k, y', Int.mul_pos c0 a0, C1.lower (m := m) ?_ ?_ yk, o1.mul, fun k q hq => ?_⟩
  · -- y m < H m
    have hlt : y m < H m := by
      have : y m * (P.2 * R.2) < H m * (P.2 * R.2) := by
        calc y m * (P.2 * R.2) = (y m * P.2) * R.2 := by grind
          _ = (P.1 * R.2) * α := by rw [← e2]; grind
          _ < (R.1 * P.2) * α := Int.mul_lt_mul_of_pos_right g2 a0
          _ = (H m * R.2) * P.2 := by rw [← e1]; grind
          _ = _ := by grind
      exact Int.lt_of_mul_lt_mul_right this (Int.le_of_lt (Int.mul_pos f2.1 f1.1))
    exact Int.mul_lt_mul_of_pos_left hlt c0
  · show y' m ≤ P'.2 * y m
    rw [ym]
    refine cancelL (p := P.2) f2.1 ?_
    have := Int.mul_le_mul_of_nonneg_right g1 (show 0 ≤ α by omega)
    calc P'.1 * α * P.2 = P'.1 * P.2 * α := by grind
      _ ≤ P.1 * P'.2 * α := this
      _ = (P.1 * α) * P'.2 := by grind
      _ = _ := by rw [e2]; grind
  · by_cases hk : k = m
    · subst hk
      rw [hp'] at hq
      cases hq
      exact ⟨fp', by rw [ym]; grind⟩
    · rw [he k hk] at hq
      obtain ⟨f, e⟩ := o2 k q hq
      refine ⟨f, ?_⟩
      rw [yk k hk]
      calc q.1 * (P'.2 * α) = P'.2 * (q.1 * α) := by grind
        _ = _ := by rw [e]; grind
/-! fractions as rational numbers -/
theorem num_div_den (q : Rat) : (q.num : Rat) / ((q.den : Int) : Rat) = q := by
  rw [← Rat.divInt_eq_div]
  exact Rat.num_divInt_den q
def frR (q : Rat) : SV := .tup [.int q.num, .int (q.den : Nat)]
/-- no larger than so many bits -/
structure QS (k : Nat) (q : Rat) : Prop where
  n : Sz k q.num
  d : Sz k (q.den : Nat)
theorem QS.mono {k l : Nat} {q : Rat} (h : QS k q) (hl : k ≤ l) : QS l q := ⟨h.n.mono hl, h.d.mono hl⟩
theorem fr_of (q : Rat) : Fr (q.num, (q.den : Int)) := ⟨by have := q.den_pos; show (0 : Int) < q.den; omega, by show Nat.gcd q.num.natAbs (q.den : Int).natAbs = 1; rw [Int.natAbs_natCast]; exact q.reduced⟩
theorem div_cross {n d : Int} (hd : d ≠ 0) : ((n : Rat) / (d : Rat)).num * d = n * (((n : Rat) / (d : Rat)).den : Int) := by
  have h1 : Rat.divInt ((n : Rat) / (d : Rat)).num (((n : Rat) / (d : Rat)).den : Int) = Rat.divInt n d := by
    rw [Rat.num_divInt_den, Rat.divInt_eq_div]
  exact (Rat.divInt_eq_divInt_iff (by have := ((n : Rat) / (d : Rat)).den_pos; omega) hd).mp h1
theorem rat_div {n d : Int} (hd : d ≠ 0) : rat n d = (((n : Rat) / (d : Rat)).num, (((n : Rat) / (d : Rat)).den : Int)) := by
  refine fr_unique (rat_fr hd) (fr_of _) ?_
  have e1 := rat_eq (n := n) hd
  have e2 := div_cross (n := n) hd
  generalize (n : Rat) / (d : Rat) = q at *
  show (rat n d).1 * (q.den : Int) = q.num * (rat n d).2
  refine Int.eq_of_mul_eq_mul_right hd ?_
  calc (rat n d).1 * (q.den : Int) * d = ((rat n d).1 * d) * (q.den : Int) := by grind
    _ = (rat n d).2 * (n * (q.den : Int)) := by rw [e1]; grind
    _ = q.num * (rat n d).2 * d := by rw [← e2]; grind
theorem fr_div {n d : Int} (hd : d ≠ 0) : fr (rat n d) = frR ((n : Rat) / (d : Rat)) := by rw [rat_div hd]; rfl
theorem frR_int (n : Int) : frR (n : Rat) = .tup [.int n, .int 1] := by
  unfold frR
  simp
theorem frR_fr (q : Rat) : frR q = fr (q.num, (q.den : Int)) := rfl
theorem QS.div {k : Nat} {n d : Int} (hd : d ≠ 0) (h1 : Sz k n) (h2 : Sz k d) : QS k ((n : Rat) / (d : Rat)) := by
  have h := rat_szs hd h1 h2
  rw [rat_div hd] at h
  exact ⟨h.n, h.d⟩
theorem QS.int {k : Nat} {n : Int} (h1 : Sz k n) (hk : 1 ≤ k) : QS k (n : Rat) := by
  refine ⟨by simpa using h1, ?_⟩
  have : ((n : Rat).den : Int) = 1 := by simp
  rw [this]
  unfold Sz
  exact Nat.lt_of_lt_of_le (by decide : (1 : Int).natAbs < 2 ^ 1) (Nat.pow_le_pow_right (by decide) hk)
theorem QS.frs {k : Nat} {q : Rat} (h : QS k q) : FrS k (q.num, (q.den : Int)) := ⟨fr_of q, h.n, h.d⟩
/-- a quotient of whole numbers, told in two ways -/
theorem div_eq_iff' {n d : Int} {q : Rat} (hd : d ≠ 0) : q = (n : Rat) / (d : Rat) ↔ q.num * d = n * (q.den : Int) := by
  constructor
  · intro h; rw [h]; exact div_cross hd
  · intro h
    have h1 : Rat.divInt q.num (q.den : Int) = Rat.divInt n d := (Rat.divInt_eq_divInt_iff (by have := q.den_pos; omega) hd).mpr h
    rw [Rat.num_divInt_den, Rat.divInt_eq_div] at h1
    exact h1
theorem cast_ne {d : Int} (hd : d ≠ 0) : (d : Rat) ≠ 0 := by
  intro h
  exact hd (by exact_mod_cast h)
theorem cast_pos {d : Int} (hd : 0 < d) : (0 : Rat) < (d : Rat) := by exact_mod_cast hd
theorem den_ne0 (q : Rat) : (q.den : Rat) ≠ 0 := by
  have h : ((q.den : Int) : Rat) ≠ 0 := cast_ne (by have := q.den_pos; omega)
  simpa using h
theorem zero_div_r (q : Rat) : ((0 : Int) : Rat) / q = 0 := by
  show (0 : Rat) / q = 0
  grind
theorem ratio_eqR {n d : Int} {k : Nat} {g : GS} (hd : d ≠ 0) (hs : Sz k d) (hk : k ≤ 9000) : F_ratio [.int n, .int d] g = some (.sh (frR ((n : Rat) / (d : Rat))), g) := by
  rw [ratio_eq hd hs hk, fr_div hd]
theorem QS.mul {k l : Nat} {a b : Rat} (ha : QS k a) (hb : QS l b) : QS (k + l) (a * b) := by
  have e : a * b = ((a.num * b.num : Int) : Rat) / ((a.den * b.den : Nat) : Int) := by
    conv => lhs; rw [← num_div_den a, ← num_div_den b]
    have h1 := den_ne0 a
    have h2 := den_ne0 b
    push_cast
    grind
  rw [e]
  have hd : ((a.den * b.den : Nat) : Int) ≠ 0 := by have := Nat.mul_pos a.den_pos b.den_pos; omega
  exact QS.div hd (ha.n.mul hb.n) (by rw [Int.natCast_mul]; exact ha.d.mul hb.d)
theorem mul_eqR {a b : Rat} {k l : Nat} {g : GS} (ha : QS k a) (hb : QS l b) (hk : k + l ≤ 9000) : F_mul [frR a, frR b] g = some (.sh (frR (a * b)), g) := by
  have m1 : mulOk a.num b.num = true := mulOk_of ha.n hb.n (by omega) (by omega)
  have m2 : mulOk (a.den : Nat) (b.den : Nat) = true := mulOk_of ha.d hb.d (by omega) (by omega)
  have hd : ((a.den : Int) * (b.den : Int)) ≠ 0 := by have := Nat.mul_pos a.den_pos b.den_pos; exact_mod_cast Nat.pos_iff_ne_zero.mp this
  have er := ratio_eqR (n := a.num * b.num) (g := g) hd (ha.d.mul hb.d) hk
  have e : ((a.num * b.num : Int) : Rat) / (((a.den : Int) * (b.den : Int) : Int) : Rat) = a * b := by
    conv => rhs; rw [← num_div_den a, ← num_div_den b]
    have h1 := den_ne0 a
    have h2 := den_ne0 b
    push_cast
    grind
  rw [e] at er
  unfold frR
  simp [F_mul, B_mul, m1, m2, er, frR]
theorem QS.sub {k l : Nat} {a b : Rat} (ha : QS k a) (hb : QS l b) : QS (k + l + 1) (a - b) := by
  have e : a - b = ((a.num * b.den - b.num * a.den : Int) : Rat) / ((a.den * b.den : Nat) : Int) := by
    conv => lhs; rw [← num_div_den a, ← num_div_den b]
    have h1 := den_ne0 a
    have h2 := den_ne0 b
    push_cast
    grind
  rw [e]
  have hd : ((a.den * b.den : Nat) : Int) ≠ 0 := by have := Nat.mul_pos a.den_pos b.den_pos; omega
  exact QS.div hd (((ha.n.mul hb.d).sub (hb.n.mul ha.d)).mono (by omega)) (by rw [Int.natCast_mul]; exact (ha.d.mul hb.d).mono (by omega))
theorem sub_eqR {a b : Rat} {k l : Nat} {g : GS} (ha : QS k a) (hb : QS l b) (hk : k + l ≤ 9000) : F_sub [frR a, frR b] g = some (.sh (frR (a - b)), g) := by
  have m1 : mulOk a.num (b.den : Nat) = true := mulOk_of ha.n hb.d (by omega) (by omega)
  have m2 : mulOk b.num (a.den : Nat) = true := mulOk_of hb.n ha.d (by omega) (by omega)
  have m3 : mulOk (a.den : Nat) (b.den : Nat) = true := mulOk_of ha.d hb.d (by omega) (by omega)
  have hd : ((a.den : Int) * (b.den : Int)) ≠ 0 := by have := Nat.mul_pos a.den_pos b.den_pos; exact_mod_cast Nat.pos_iff_ne_zero.mp this
  have er := ratio_eqR (n := a.num * b.den - b.num * a.den) (g := g) hd (ha.d.mul hb.d) hk
  have e : ((a.num * b.den - b.num * a.den : Int) : Rat) / (((a.den : Int) * (b.den : Int) : Int) : Rat) = a - b := by
    conv => rhs; rw [← num_div_den a, ← num_div_den b]
    have h1 := den_ne0 a
    have h2 := den_ne0 b
    push_cast
    grind
  rw [e] at er
  unfold frR
  simp [F_sub, B_sub, m1, m2, m3, er, frR]
theorem QS.dvd {k l : Nat} {a b : Rat} (ha : QS k a) (hb : QS l b) (h0 : b ≠ 0) : QS (k + l) (a / b) := by
  have hb0 : b.num ≠ 0 := fun h => h0 (by rw [← num_div_den b, h]; exact zero_div_r _)
  have e : a / b = ((a.num * b.den : Int) : Rat) / ((a.den * b.num : Int) : Rat) := by
    conv => lhs; rw [← num_div_den a, ← num_div_den b]
    have h1 := den_ne0 a
    have h2 := den_ne0 b
    have h3 : (b.num : Rat) ≠ 0 := cast_ne hb0
    push_cast
    grind
  rw [e]
  have hd : ((a.den : Int) * b.num) ≠ 0 := Int.mul_ne_zero (by have := a.den_pos; omega) hb0
  exact QS.div hd (ha.n.mul hb.d) (ha.d.mul hb.n)
theorem div_eqR {a b : Rat} {k l : Nat} {g : GS} (ha : QS k a) (hb : QS l b) (h0 : b ≠ 0) (hk : k + l ≤ 9000) : F_div [frR a, frR b] g = some (.sh (frR (a / b)), g) := by
  have hb0 : b.num ≠ 0 := fun h => h0 (by rw [← num_div_den b, h]; exact zero_div_r _)
  have m1 : mulOk a.num (b.den : Nat) = true := mulOk_of ha.n hb.d (by omega) (by omega)
  have m2 : mulOk (a.den : Nat) b.num = true := mulOk_of ha.d hb.n (by omega) (by omega)
  have hd : ((a.den : Int) * b.num) ≠ 0 := Int.mul_ne_zero (by have := a.den_pos; omega) hb0
  have er := ratio_eqR (n := a.num * b.den) (g := g) hd (ha.d.mul hb.n) hk
  have e : ((a.num * b.den : Int) : Rat) / ((a.den * b.num : Int) : Rat) = a / b := by
    conv => rhs; rw [← num_div_den a, ← num_div_den b]
    have h1 := den_ne0 a
    have h2 := den_ne0 b
    have h3 : (b.num : Rat) ≠ 0 := cast_ne hb0
    push_cast
    grind
  rw [e] at er
  unfold frR
  simp [F_div, B_div, m1, m2, er, frR]
/-! books -/
abbrev Prs := List (Int × Int)
def prS (p : Int × Int) : SV := .tup [.int p.1, .int p.2]
/-- a buyer's worths with their weights -/
structure PrsOk (ps : Prs) : Prop where
  l0 : 0 < ps.length
  l6 : ps.length ≤ 6
  inc : ∀ i, i + 1 < ps.length → (ps.getD i (0, 0)).1 < (ps.getD (i + 1) (0, 0)).1
  ok : ∀ p ∈ ps, 0 ≤ p.1 ∧ p.1 < 10 ^ 40 ∧ 1 ≤ p.2 ∧ p.2 < 10 ^ 40
def wsum (ps : Prs) : Int := (ps.map (·.2)).sum
def rowsN (bs : List Prs) : Nat := (bs.map List.length).foldl (· * ·) 1
structure BkOk (bs : List Prs) : Prop where
  l0 : 0 < bs.length
  l6 : bs.length ≤ 6
  ok : ∀ ps ∈ bs, PrsOk ps
  rows : rowsN bs ≤ 144
def bkS (bs : List Prs) : SV := .obj CA.Book ns_Book [.tup (bs.map fun ps => .tup (ps.map prS)), .int (bs.length : Nat), .tup (bs.map fun ps => .int (ps.length : Nat)), .int (rowsN bs : Nat), .tup (bs.map fun ps => .int (wsum ps))]
theorem check_pairs_eq {b : SV} {ps : Prs} {g : GS} (h : PrsOk ps) : F_check_pairs [b, .lst (ps.map prS)] g = some (.sh .non, g) := by
  obtain ⟨ρ', g', e, rfl, x2, x3, x4, rfl, _⟩ := loop_lst (gf := gT 2 (gLC (gN 3) (gLC (gN 4) gLN))) (sb := L_check_pairs_1) prS (xs := ps)
    (fun i ρ g' => g' = g ∧ ∃ x2 x3 x4, ρ = [some (.sh b), some (.sh (.lst (ps.map prS))), some (.sh (.int x2)), x3, x4] ∧ x2 = if i = 0 then -1 else (ps.getD (i - 1) (0, 0)).1)
    (ρ := [some (.sh b), some (.sh (.lst (ps.map prS))), some (.sh (.int (-1))), none, none]) (g := g) ⟨rfl, -1, none, none, rfl, rfl⟩ (fun i p ρ g' hp hI => by
      obtain ⟨rfl, x2, x3, x4, rfl, e2⟩ := hI
      have hi : i < ps.length := (List.getElem?_eq_some_iff.mp hp).1
      obtain ⟨o1, o2, o3, o4⟩ := h.ok p (List.mem_of_getElem? hp)
      have lt : x2 < p.1 := by
        rw [e2]
        split
        · omega
        · have := h.inc (i - 1) (by omega)
          rw [show i - 1 + 1 = i by omega] at this
          rw [List.getD_eq_getElem?_getD (l := ps) (i := i), hp] at this
          exact this
      have c1 : ¬ p.1 ≤ x2 := by omega
      have c2 : ¬ (10000000000000000000000000000000000000000 : Int) ≤ p.1 := by omega
      have c3 : ¬ p.2 < 1 := by omega
      have c4 : ¬ (10000000000000000000000000000000000000000 : Int) ≤ p.2 := by omega
      generalize ps.map prS = PP at *
      refine ⟨_, _, ?_, rfl, p.1, some (.sh (.int p.1)), some (.sh (.int p.2)), rfl, ?_⟩
      · simp [prS, c_NUMBER_END, c1, c2, c3, c4]
      · rw [if_neg (by omega), Nat.add_sub_cancel, List.getD_eq_getElem?_getD, hp]; rfl)
  have q0 : ¬ ((ps.length : Nat) : Int) = 0 := by have := h.l0; omega
  have q1 : ¬ (6 : Int) < ((ps.length : Nat) : Int) := by have := h.l6; omega
  have ql : (((ps.map prS).length : Nat) : Int) = (ps.length : Nat) := by rw [List.length_map]
  generalize ps.map prS = PP at *
  generalize ((ps.length : Nat) : Int) = nn at *
  simp [F_check_pairs, B_check_pairs, c_MOST_WORTHS, ql, q0, q1, e]
theorem fixed_pairs_eq {ps : Prs} {S : SV} {g : GS} (hS : S.seq? = some (ps.map prS)) (hl : ps.length ≤ 1000) : F_fixed_pairs [S] g = some (.sh (.tup (ps.map prS)), g) := by
  have ec := comp_map (β := Int) (wf := wT 2 (wLC (wN 1) (wLC (wN 2) wLN))) (f := oS (tupF (aC (vS 1) (aC (vS 2) aN)))) (ρ := [some (.sh S), none, none]) prS (fun p => DV.sh (prS p)) ps g (fun p _ g => by simp [prS])
  have er : (ps.map fun p => DV.sh (prS p)) = (ps.map prS).map DV.sh := by rw [List.map_map]; rfl
  have hL : lenOk (ps.map prS).length = true := lenOk_of (by rw [List.length_map]; omega)
  rw [er] at ec
  generalize ps.map prS = PP at *
  simp [F_fixed_pairs, B_fixed_pairs, hS, hL, ec]
theorem wsum_cons (p : Int × Int) (ps : Prs) : wsum (p :: ps) = p.2 + wsum ps := by simp [wsum]
theorem wsum_take (ps : Prs) (i : Nat) (p : Int × Int) (h : ps[i]? = some p) : wsum (ps.take (i + 1)) = wsum (ps.take i) + p.2 := by
  rw [List.take_add_one, h]
  simp [wsum]
theorem weight_of_eq {ps : Prs} {S : SV} {g : GS} (hS : S.seq? = some (ps.map prS)) : F_weight_of [S] g = some (.sh (.int (wsum ps)), g) := by
  obtain ⟨ρ', g', e, rfl, x2, rfl⟩ := loop_lst (gf := gN 2) (sb := L_weight_of_1) prS (xs := ps) (fun i ρ g' => g' = g ∧ ∃ x2, ρ = [some (.sh S), some (.sh (.int (wsum (ps.take i)))), x2])
    (ρ := [some (.sh S), some (.sh (.int 0)), none]) (g := g) ⟨rfl, none, rfl⟩ (fun i p ρ g' hp hI => by
      obtain ⟨rfl, x2, rfl⟩ := hI
      refine ⟨_, _, ?_, rfl, some (.sh (prS p)), rfl⟩
      rw [wsum_take ps i p hp]
      simp [prS])
  rw [List.take_length] at e
  simp [F_weight_of, B_weight_of, hS, e]
abbrev encL (ps : Prs) : SV := .lst (ps.map prS)
abbrev encT (ps : Prs) : SV := .tup (ps.map prS)
def bkF (bs : List Prs) : List (PySem.Str × SV) := [("buyers", .tup (bs.map encT)), ("size", .int (bs.length : Nat)), ("counts", .tup (bs.map fun ps => .int (ps.length : Nat))), ("row_count", .int (rowsN bs : Nat)), ("_weights", .tup (bs.map fun ps => .int (wsum ps)))]
theorem bkF_frz (bs : List Prs) : (DV.ins false CA.Book (bkF bs)).frz = bkS bs := rfl
theorem rowsN_take (bs : List Prs) (i : Nat) (ps : Prs) (h : bs[i]? = some ps) : rowsN (bs.take (i + 1)) = rowsN (bs.take i) * ps.length := by
  unfold rowsN
  rw [List.take_add_one, h]
  simp [List.map_append, List.foldl_append]
theorem rowsN_pos : ∀ (bs : List Prs) (c : Nat), 0 < c → (∀ ps ∈ bs, 0 < ps.length) → 0 < (bs.map List.length).foldl (· * ·) c
  | [], c, hc, _ => hc
  | ps :: bs, c, hc, h => rowsN_pos bs (c * ps.length) (Nat.mul_pos hc (h ps List.mem_cons_self)) fun q hq => h q (List.mem_cons_of_mem _ hq)
theorem foldl_mul_le : ∀ (ls : List Nat) (c : Nat), (∀ l ∈ ls, 0 < l) → c ≤ ls.foldl (· * ·) c
  | [], c, _ => Nat.le_refl _
  | l :: ls, c, h => Nat.le_trans (Nat.le_mul_of_pos_right c (h l List.mem_cons_self)) (foldl_mul_le ls (c * l) fun x hx => h x (List.mem_cons_of_mem _ hx))
theorem rowsN_take_le {bs : List Prs} (h : ∀ ps ∈ bs, 0 < ps.length) (i : Nat) : rowsN (bs.take i) ≤ rowsN bs := by
  conv => rhs; rw [← List.take_append_drop i bs]
  unfold rowsN
  rw [List.map_append, List.foldl_append]
  exact foldl_mul_le _ _ fun l hl => by
    obtain ⟨ps, hp, rfl⟩ := List.mem_map.mp hl
    exact h ps (List.mem_of_mem_drop hp)
theorem book_init {bs : List Prs} (h : BkOk bs) (g : GS) : F_Book_init [.lst (bs.map encL)] g = some (bkF bs, g) := by
  have hp : ∀ ps ∈ bs, 0 < ps.length := fun ps m => (h.ok ps m).l0
  obtain ⟨ρ', g', e, rfl, x3, x4, rfl⟩ := loop_num (gf := gT 2 (gLC (gN 3) (gLC (gN 4) gLN))) (sb := L_Book_init_1) encL (xs := bs)
    (fun i ρ g' => g' = g ∧ ∃ x3 x4, ρ = [some (.ins true CA.Book []), some (.sh (.lst (bs.map encL))), some (.sh (.int (rowsN (bs.take i) : Nat))), x3, x4, none])
    (ρ := [some (.ins true CA.Book []), some (.sh (.lst (bs.map encL))), some (.sh (.int 1)), none, none, none]) (g := g) ⟨rfl, none, none, rfl⟩ (fun i ps ρ g' hb hI => by
      obtain ⟨rfl, x3, x4, rfl⟩ := hI
      have hm := List.mem_of_getElem? hb
      have ok := h.ok ps hm
      have c1 := check_pairs_eq (b := .int (i : Nat)) (g := g') ok
      have r1 := rowsN_take_le hp i
      have r2 := h.rows
      have l6 := ok.l6
      have m1 : mulOk (rowsN (bs.take i) : Nat) (ps.length : Nat) = true := mulOk_of (show Sz 10 _ by unfold Sz; omega) (show Sz 10 _ by unfold Sz; omega) (by decide) (by decide)
      refine ⟨_, _, ?_, rfl, some (.sh (.int (i : Nat))), some (.sh (encL ps)), rfl⟩
      rw [rowsN_take bs i ps hb]
      have ql : (((ps.map prS).length : Nat) : Int) = (ps.length : Nat) := by rw [List.length_map]
      generalize bs.map encL = BB at *
      unfold encL at *
      generalize ps.map prS = PP at *
      simp [c1, ql, m1])
  rw [List.take_length] at e
  have c5 : ∀ (x0 x1 x2 x3 x4 : Option DV) (g : GS), compL (wN 5) yesT (callF F_fixed_pairs (aC (vS 5) (aN))) [x0, x1, x2, x3, x4, none] (bs.map encL) g = some ((bs.map encT).map .sh, g) := fun x0 x1 x2 x3 x4 g => by
    have := comp_map (β := Int) (wf := wN 5) (f := callF F_fixed_pairs (aC (vS 5) (aN))) (ρ := [x0, x1, x2, x3, x4, none]) encL (fun ps => DV.sh (encT ps)) bs g (fun ps hps g => by
      have := fixed_pairs_eq (S := encL ps) (g := g) rfl (by have := (h.ok ps hps).l6; omega)
      simp [this])
    rw [this, List.map_map]
    rfl
  have c6 : ∀ (x0 x1 x2 x3 x4 : Option DV) (g : GS), compL (wN 5) yesT (oS (lenP (vP 5))) [x0, x1, x2, x3, x4, none] (bs.map encT) g = some ((bs.map fun ps => SV.int (ps.length : Nat)).map .sh, g) := fun x0 x1 x2 x3 x4 g => by
    have := comp_map (β := Int) (wf := wN 5) (f := oS (lenP (vP 5))) (ρ := [x0, x1, x2, x3, x4, none]) encT (fun ps => DV.sh (SV.int (ps.length : Nat))) bs g (fun ps _ g => by simp)
    rw [this, List.map_map]
    rfl
  have c7 : ∀ (x0 x1 x2 x3 x4 : Option DV) (g : GS), compL (wN 5) yesT (callF F_weight_of (aC (vS 5) (aN))) [x0, x1, x2, x3, x4, none] (bs.map encT) g = some ((bs.map fun ps => SV.int (wsum ps)).map .sh, g) := fun x0 x1 x2 x3 x4 g => by
    have := comp_map (β := Int) (wf := wN 5) (f := callF F_weight_of (aC (vS 5) (aN))) (ρ := [x0, x1, x2, x3, x4, none]) encT (fun ps => DV.sh (SV.int (wsum ps))) bs g (fun ps _ g => by
      have := weight_of_eq (ps := ps) (S := encT ps) (g := g) rfl
      simp [this])
    rw [this, List.map_map]
    rfl
  have q0 : ¬ ((bs.length : Nat) : Int) = 0 := by have := h.l0; omega
  have q1 : ¬ (6 : Int) < ((bs.length : Nat) : Int) := by have := h.l6; omega
  have q2 : ¬ (144 : Int) < ((rowsN bs : Nat) : Int) := by have := h.rows; omega
  have ql : (((bs.map encL).length : Nat) : Int) = (bs.length : Nat) := by rw [List.length_map]
  have qt : (((bs.map encT).length : Nat) : Int) = (bs.length : Nat) := by rw [List.length_map]
  have L1 : lenOk (bs.map encL).length = true := lenOk_of (by rw [List.length_map]; have := h.l6; omega)
  have L2 : lenOk (bs.map encT).length = true := lenOk_of (by rw [List.length_map]; have := h.l6; omega)
  unfold bkF
  generalize bs.map encL = BL at *
  generalize bs.map encT = BT at *
  generalize (bs.map fun ps => SV.int (ps.length : Nat)) = BC at *
  generalize (bs.map fun ps => SV.int (wsum ps)) = BW at *
  generalize ((bs.length : Nat) : Int) = nn at *
  generalize ((rowsN bs : Nat) : Int) = rr at *
  simp [F_Book_init, B_Book_init, c_MOST_BUYERS, c_MOST_ROWS, ql, q0, q1, e, q2, L1, c5, ev_fldi, ns_Book, qt, L2, c6, c7]
/-! a buyer's worths, weights and sums -/
def vW (ps : Prs) (i : Nat) : Int := (ps.getD i (0, 0)).1
def wW (ps : Prs) (i : Nat) : Int := (ps.getD i (0, 0)).2
def upW (ps : Prs) (i : Nat) : Int := wsum (ps.drop i)
theorem upW_end (ps : Prs) : upW ps ps.length = 0 := by unfold upW; rw [List.drop_length]; rfl
theorem upW_zero (ps : Prs) : upW ps 0 = wsum ps := rfl
theorem pr_at {ps : Prs} {i : Nat} (hi : i < ps.length) : ps[i]? = some (vW ps i, wW ps i) := by
  rw [List.getElem?_eq_getElem hi]; simp [vW, wW, List.getD, List.getElem?_eq_getElem hi]
theorem upW_step {ps : Prs} {i : Nat} (hi : i < ps.length) : upW ps i = wW ps i + upW ps (i + 1) := by
  unfold upW
  rw [List.drop_eq_getElem_cons hi, wsum_cons]
  simp [wW, List.getD, List.getElem?_eq_getElem hi]
theorem PrsOk.at_ {ps : Prs} (h : PrsOk ps) {i : Nat} (hi : i < ps.length) : 0 ≤ vW ps i ∧ vW ps i < 10 ^ 40 ∧ 1 ≤ wW ps i ∧ wW ps i < 10 ^ 40 := h.ok _ (List.mem_of_getElem? (pr_at hi))
theorem PrsOk.inc' {ps : Prs} (h : PrsOk ps) {i : Nat} (hi : i + 1 < ps.length) : vW ps i < vW ps (i + 1) := h.inc i hi
theorem upW_bound {ps : Prs} (h : PrsOk ps) : ∀ d i, i + d = ps.length → (d : Int) ≤ upW ps i ∧ upW ps i ≤ d * 10 ^ 40
  | 0, i, e => by rw [show i = ps.length by omega, upW_end]; simp
  | d + 1, i, e => by
    have := upW_bound h d (i + 1) (by omega)
    have hs := upW_step (ps := ps) (i := i) (by omega)
    have ha := h.at_ (i := i) (by omega)
    omega
theorem upW_pos {ps : Prs} (h : PrsOk ps) {i : Nat} (hi : i < ps.length) : 0 < upW ps i := by
  have := upW_bound h (ps.length - i) i (by omega)
  omega
theorem upW_sz {ps : Prs} (h : PrsOk ps) {i : Nat} (hi : i ≤ ps.length) : Sz 136 (upW ps i) := by
  have := upW_bound h (ps.length - i) i (by omega)
  have := h.l6
  unfold Sz
  omega
theorem wsum_pos {ps : Prs} (h : PrsOk ps) : 0 < wsum ps := upW_pos h h.l0
theorem wsum_sz {ps : Prs} (h : PrsOk ps) : Sz 136 (wsum ps) := upW_sz h (Nat.zero_le _)
theorem vW_sz {ps : Prs} (h : PrsOk ps) {i : Nat} (hi : i < ps.length) : Sz 133 (vW ps i) := by
  have := h.at_ hi
  unfold Sz
  omega
theorem wW_sz {ps : Prs} (h : PrsOk ps) {i : Nat} (hi : i < ps.length) : Sz 133 (wW ps i) := by
  have := h.at_ hi
  unfold Sz
  omega
/-! the book's answers -/
theorem bk_ps {bs : List Prs} {b : Nat} {ps : Prs} (hb : bs[b]? = some ps) : (bs.map fun ps => SV.tup (ps.map prS))[b]? = some (.tup (ps.map prS)) := by rw [List.getElem?_map, hb]; rfl
theorem bk_pr {ps : Prs} {i : Nat} (hi : i < ps.length) : (ps.map prS)[i]? = some (.tup [.int (vW ps i), .int (wW ps i)]) := by rw [List.getElem?_map, pr_at hi]; rfl
theorem bk_wt {bs : List Prs} {b : Nat} {ps : Prs} (hb : bs[b]? = some ps) : (bs.map fun ps => SV.int (wsum ps))[b]? = some (.int (wsum ps)) := by rw [List.getElem?_map, hb]; rfl
theorem bk_ct {bs : List Prs} {b : Nat} {ps : Prs} (hb : bs[b]? = some ps) : (bs.map fun ps => SV.int (ps.length : Nat))[b]? = some (.int (ps.length : Nat)) := by rw [List.getElem?_map, hb]; rfl
theorem worth_eq {bs : List Prs} {b i : Nat} {ps : Prs} {g : GS} (hb : bs[b]? = some ps) (hi : i < ps.length) : F_Book_worth [bkS bs, .int b, .int i] g = some (.sh (.int (vW ps i)), g) := by
  have h1 := bk_ps hb
  have h2 := bk_pr hi
  unfold bkS
  generalize (bs.map fun ps => SV.tup (ps.map prS)) = A at *
  generalize ps.map prS = B at *
  simp [F_Book_worth, B_Book_worth, h1, h2]
theorem cut_drop {α : Type} (xs : List α) (i : Nat) (hi : i ≤ xs.length) : cutS xs (some (i : Int)) none = xs.drop i := by
  unfold cutS
  rw [HT.sIx_nat, Nat.min_eq_left hi]
  refine List.take_of_length_le ?_
  rw [List.length_drop]
  exact Nat.le_refl _
theorem upper_eqR {bs : List Prs} (H : BkOk bs) {b i : Nat} {ps : Prs} {g : GS} (hb : bs[b]? = some ps) (hi : i ≤ ps.length) : F_Book_upper [bkS bs, .int b, .int i] g = some (.sh (frR ((upW ps i : Int) / (wsum ps : Int))), g) := by
  have ok := H.ok ps (List.mem_of_getElem? hb)
  have h1 := bk_ps hb
  have h3 := bk_wt hb
  have hc := cut_drop (ps.map prS) i (by rw [List.length_map]; exact hi)
  rw [← List.map_drop] at hc
  have hw := weight_of_eq (ps := ps.drop i) (S := .tup ((ps.drop i).map prS)) (g := g) rfl
  have hr := ratio_eqR (n := upW ps i) (g := g) (Int.ne_of_gt (wsum_pos ok)) (wsum_sz ok) (by decide)
  unfold upW at *
  unfold bkS
  generalize wsum (ps.drop i) = u at *
  generalize (bs.map fun ps => SV.tup (ps.map prS)) = A at *
  generalize (bs.map fun ps => SV.int (wsum ps)) = C at *
  generalize (ps.drop i).map prS = D at *
  generalize ps.map prS = B at *
  generalize wsum ps = w at *
  simp [F_Book_upper, B_Book_upper, h1, h3, hc, hw, hr]
theorem chance_eqR {bs : List Prs} (H : BkOk bs) {b i : Nat} {ps : Prs} {g : GS} (hb : bs[b]? = some ps) (hi : i < ps.length) : F_Book_chance [bkS bs, .int b, .int i] g = some (.sh (frR ((wW ps i : Int) / (wsum ps : Int))), g) := by
  have ok := H.ok ps (List.mem_of_getElem? hb)
  have h1 := bk_ps hb
  have h2 := bk_pr hi
  have h3 := bk_wt hb
  have hr := ratio_eqR (n := wW ps i) (g := g) (Int.ne_of_gt (wsum_pos ok)) (wsum_sz ok) (by decide)
  unfold bkS
  generalize (bs.map fun ps => SV.tup (ps.map prS)) = A at *
  generalize (bs.map fun ps => SV.int (wsum ps)) = C at *
  generalize ps.map prS = B at *
  generalize wsum ps = w at *
  simp [F_Book_chance, B_Book_chance, h1, h2, h3, hr]
/-! k19: the hull of given points -/
structure PtsH (xs : List Int) (wide : Int) : Prop where
  n0 : 0 < xs.length
  n60 : xs.length ≤ 60
  inc : Inc (gL xs) xs.length
  w0 : 0 < wide
  sw : Sz 136 wide
  sx : ∀ x ∈ xs, Sz 136 x
theorem gL_over {h : Int} (hh : 0 < h) {ns : List Int} {i : Nat} (hi : i < ns.length) : gL (nums (over h ns)) i * h = gL ns i * (lcmL (over h ns) 1 : Nat) := nums_over hh ns hi
theorem lcm_over_pos {h : Int} (hh : 0 < h) (ns : List Int) : (0 : Int) < (lcmL (over h ns) 1 : Nat) := by
  have := lcmL_pos (over h ns) 1 (by decide) fun q hq => by
    obtain ⟨x, _, rfl⟩ := List.mem_map.mp hq
    exact rat_fr (Int.ne_of_gt hh)
  omega
theorem numsO_sz {k : Nat} {h : Int} (hh : 0 < h) {ns : List Int} (hn : ∀ x ∈ ns, Sz k x) : ∀ x ∈ nums (over h ns), Sz k x := fun x m => by
  obtain ⟨i, hi, rfl⟩ := List.getElem_of_mem m
  have hi' : i < ns.length := by simpa [nums, over] using hi
  have e := gL_over hh hi'
  have c0 := lcm_over_pos hh ns
  have c1 := Int.le_of_dvd hh (lcm_over hh ns)
  have z := gL_sz hn hi'
  have g1 : gL (nums (over h ns)) i = (nums (over h ns))[i] := by simp [gL, List.getD, List.getElem?_eq_getElem hi]
  rw [g1] at e
  generalize (nums (over h ns))[i] = x at *
  have e2 : x.natAbs * h.natAbs = (gL ns i).natAbs * ((lcmL (over h ns) 1 : Nat) : Int).natAbs := by rw [← Int.natAbs_mul, ← Int.natAbs_mul]; exact congrArg Int.natAbs e
  have e3 : x.natAbs * h.natAbs ≤ (gL ns i).natAbs * h.natAbs := by
    rw [e2]
    exact Nat.mul_le_mul_left _ (by omega)
  have := Nat.le_of_mul_le_mul_right e3 (by omega)
  unfold Sz at *
  omega
theorem upper_hull {xs : List Int} {wide : Int} (P : PtsH xs wide) {S : SV} {pts : List ((Int × Int) × (Int × Int))} {g : GS} (hS : S.seq? = some (pts.map encPt)) (hx : pts.map (·.1) = over wide xs) (hy : ∀ q ∈ pts.map (·.2), Fr q ∧ Sz 140 q.2 ∧ Sz 400 q.1) :
    ∃ hs, F_upper_heights [S] g = some (.own ((hs.map fr).map .sh), g) ∧ HullQ (gL xs) xs.length (pts.map (·.2)) hs := by
  have ln : pts.length = xs.length := by
    have := congrArg List.length hx
    simpa [over] using this
  have sw := P.sw
  have fo := over_fr P.w0 (sw.mono (show 136 ≤ 136 by decide)) P.sx
  have A0 := lcm_over_pos P.w0 xs
  have fx : ∀ p ∈ pts, FrS 136 p.1 := fun p hp => fo p.1 (by rw [← hx]; exact List.mem_map.mpr ⟨p, hp, rfl⟩)
  have fy : ∀ p ∈ pts, Fr p.2 ∧ Sz 140 p.2.2 ∧ Sz 400 p.2.1 := fun p hp => hy p.2 (List.mem_map.mpr ⟨p, hp, rfl⟩)
  have hX : ∀ x ∈ nums (pts.map (·.1)), Sz 150 x := fun x m => by
    rw [hx] at m
    exact (numsO_sz P.w0 P.sx x m).mono (by decide)
  have rel : ∀ k, k < xs.length → gL (nums (pts.map (·.1))) k * wide = gL xs k * (lcmL (over wide xs) 1 : Nat) := fun k hk => by rw [hx]; exact gL_over P.w0 hk
  have I : Inc (gL (nums (pts.map (·.1)))) pts.length := fun i hi => by
    rw [ln] at hi
    have h1 := rel i (by omega)
    have h2 := rel (i + 1) hi
    have := Int.mul_lt_mul_of_pos_right (P.inc i hi) A0
    rw [← h1, ← h2] at this
    exact Int.lt_of_mul_lt_mul_right this (Int.le_of_lt P.w0)
  obtain ⟨hs, D, H, e, l, D0, C, ok⟩ := upper_heights_eq (g := g) hS (fun p hp => ⟨(fx p hp).fr, (fx p hp).d.mono (by decide)⟩) (fun p hp => (fx p hp).n.mono (by decide)) hX (fun p hp => ⟨(fy p hp).1, (fy p hp).2.1⟩) (fun p hp => (fy p hp).2.2) (by rw [ln]; exact P.n0) (by rw [ln]; exact P.n60) I
  rw [ln] at C
  have fyq : ∀ q ∈ pts.map (·.2), Fr q := fun q hq => (hy q hq).1
  have C0 : 0 < lcmL (pts.map (·.2)) 1 := lcmL_pos _ 1 (by decide) fyq
  refine ⟨hs, e, by rw [List.length_map, ln], by rw [l, ln], D * (lcmL (pts.map (·.2)) 1 : Nat), H, fun k => D * gL (nums (pts.map (·.2))) k, Int.mul_pos D0 (by omega), C.rescale A0 P.w0 rel, ok, fun k q hq => ?_⟩
  refine ⟨fyq q (List.mem_of_getElem? hq), ?_⟩
  have := nums_rel fyq hq
  have this' : gL (nums (pts.map (·.2))) k * q.2 = q.1 * (lcmL (pts.map (·.2)) 1 : Nat) := this
  show q.1 * (D * _) = D * gL (nums (pts.map (·.2))) k * q.2
  calc q.1 * (D * (lcmL (pts.map (·.2)) 1 : Nat)) = D * (q.1 * (lcmL (pts.map (·.2)) 1 : Nat)) := by grind
    _ = _ := by rw [← this']; grind
/-- what a told height is: a point's, or one on the chord of two points -/
theorem hull_form {xs ys : List Int} {high : Int} {hs : List (Int × Int)} (I : Inc (gL xs) xs.length) (hh : 0 < high) (hl : ys.length = xs.length) (h : HullQ (gL xs) xs.length (over high ys) hs) {k : Nat} {q : Int × Int} (hk : hs[k]? = some q) :
    q = rat (gL ys k) high ∨ ∃ l r, l < k ∧ k < r ∧ r < xs.length ∧ q = rat (gL ys l * (gL xs r - gL xs k) + gL ys r * (gL xs k - gL xs l)) ((gL xs r - gL xs l) * high) := by
  obtain ⟨α, H, y, a0, C, o1, o2⟩ := h.ex
  obtain ⟨f, e⟩ := o1 k q hk
  have kn : k < xs.length := by rw [← h.lh]; exact (List.getElem?_eq_some_iff.mp hk).1
  have hy : ∀ i, i < xs.length → y i * high = gL ys i * α := fun i hi => by
    have hp : (over high ys)[i]? = some (rat (gL ys i) high) := by
      have : i < ys.length := by omega
      simp [over, gL, List.getD, this]
    obtain ⟨f1, e1⟩ := o2 i _ hp
    have e2 := rat_eq (n := gL ys i) (Int.ne_of_gt hh)
    generalize rat (gL ys i) high = p at *
    refine Int.eq_of_mul_eq_mul_right (Int.ne_of_gt f1.1) ?_
    calc y i * high * p.2 = (y i * p.2) * high := by grind
      _ = (p.1 * high) * α := by rw [← e1]; grind
      _ = _ := by rw [e2]; grind
  rcases C.touch k kn with t | ⟨l, r, q1, q2, q3, t1, t2, t3⟩
  · left
    have e2 := rat_eq (n := gL ys k) (Int.ne_of_gt hh)
    refine fr_unique f (rat_fr (Int.ne_of_gt hh)) ?_
    have e3 := hy k kn
    rw [t] at e
    generalize rat (gL ys k) high = p at *
    refine Int.eq_of_mul_eq_mul_right (Int.ne_of_gt (Int.mul_pos a0 hh)) ?_
    calc q.1 * p.2 * (α * high) = (q.1 * α) * p.2 * high := by grind
      _ = (y k * high) * q.2 * p.2 := by rw [e]; grind
      _ = (gL ys k * p.2) * α * q.2 := by rw [e3]; grind
      _ = _ := by rw [← e2]; grind
  · right
    refine ⟨l, r, q1, q2, q3, ?_⟩
    have w0 : 0 < gL xs r - gL xs l := by have := I.lt (show l < r by omega) q3; omega
    have M0 : 0 < (gL xs r - gL xs l) * high := Int.mul_pos w0 hh
    have e2 := rat_eq (n := gL ys l * (gL xs r - gL xs k) + gL ys r * (gL xs k - gL xs l)) (Int.ne_of_gt M0)
    refine fr_unique f (rat_fr (Int.ne_of_gt M0)) ?_
    have yl := hy l (by omega)
    have yr := hy r q3
    rw [t1, t2] at t3
    generalize rat (gL ys l * (gL xs r - gL xs k) + gL ys r * (gL xs k - gL xs l)) ((gL xs r - gL xs l) * high) = p at *
    generalize gL xs r - gL xs k = u at *
    generalize gL xs k - gL xs l = v at *
    generalize gL xs r - gL xs l = w at *
    have key : q.1 * (w * high) = (gL ys l * u + gL ys r * v) * q.2 := by
      refine Int.eq_of_mul_eq_mul_right (Int.ne_of_gt a0) ?_
      calc q.1 * (w * high) * α = (q.1 * α) * w * high := by grind
        _ = (H k * w) * high * q.2 := by rw [e]; grind
        _ = (y l * high) * u * q.2 + (y r * high) * v * q.2 := by rw [t3]; grind
        _ = _ := by rw [yl, yr]; grind
    refine Int.eq_of_mul_eq_mul_right (Int.ne_of_gt M0) ?_
    calc q.1 * p.2 * (w * high) = (q.1 * (w * high)) * p.2 := by grind
      _ = (gL ys l * u + gL ys r * v) * p.2 * q.2 := by rw [key]; grind
      _ = _ := by rw [← e2]; grind
/-! k19: what the law looks at, of a hull over fractions -/
theorem hull_y {xs ys : List Int} {high α : Int} {y : Nat → Int} (hh : 0 < high) (hl : ys.length = xs.length) (o2 : HOk y α (over high ys)) : ∀ i, i < xs.length → y i * high = gL ys i * α := fun i hi => by
  have hp : (over high ys)[i]? = some (rat (gL ys i) high) := by
    have : i < ys.length := by omega
    simp [over, gL, List.getD, this]
  obtain ⟨f1, e1⟩ := o2 i _ hp
  have e2 := rat_eq (n := gL ys i) (Int.ne_of_gt hh)
  generalize rat (gL ys i) high = p at *
  refine Int.eq_of_mul_eq_mul_right (Int.ne_of_gt f1.1) ?_
  calc y i * high * p.2 = (y i * p.2) * high := by grind
    _ = (p.1 * high) * α := by rw [← e1]; grind
    _ = _ := by rw [e2]; grind
theorem frac_le {α : Int} (a0 : 0 < α) {h y yy high : Int} {q : Int × Int} (fq : 0 < q.2) (e : q.1 * α = h * q.2) (hh : 0 < high) (ey : y * high = yy * α) (hge : y ≤ h) : yy * q.2 ≤ q.1 * high := by
  refine cancelL a0 ?_
  have := Int.mul_le_mul_of_nonneg_right hge (show 0 ≤ q.2 * high from Int.mul_nonneg (by omega) (by omega))
  calc yy * q.2 * α = (yy * α) * q.2 := by grind
    _ = y * (q.2 * high) := by rw [← ey]; grind
    _ ≤ h * (q.2 * high) := this
    _ = (h * q.2) * high := by grind
    _ = q.1 * high * α := by rw [← e]; grind
theorem frac_eq {α : Int} (a0 : 0 < α) {h y yy high : Int} {q : Int × Int} (e : q.1 * α = h * q.2) (ey : y * high = yy * α) (hge : h = y) : q.1 * high = yy * q.2 := by
  refine Int.eq_of_mul_eq_mul_right (Int.ne_of_gt a0) ?_
  calc q.1 * high * α = (q.1 * α) * high := by grind
    _ = (y * high) * q.2 := by rw [e, hge]; grind
    _ = yy * q.2 * α := by rw [ey]; grind
theorem right_ge {xs ys : List Int} {high : Int} {hs : List (Int × Int)} (hh : 0 < high) (hl : ys.length = xs.length) (h : HullQ (gL xs) xs.length (over high ys) hs) {k : Nat} {q : Int × Int} (hk : hs[k]? = some q) : gL ys k * q.2 ≤ q.1 * high := by
  obtain ⟨α, H, y, a0, C, o1, o2⟩ := h.ex
  obtain ⟨f, e⟩ := o1 k q hk
  have kn : k < xs.length := by rw [← h.lh]; exact (List.getElem?_eq_some_iff.mp hk).1
  exact frac_le a0 f.1 e hh (hull_y hh hl o2 k kn) (C.ge k kn)
theorem right_end {xs ys : List Int} {high : Int} {hs : List (Int × Int)} (hh : 0 < high) (hl : ys.length = xs.length) (h : HullQ (gL xs) xs.length (over high ys) hs) {k : Nat} {q : Int × Int} (hk : hs[k]? = some q) (he : k = 0 ∨ k + 1 = xs.length) : q.1 * high = gL ys k * q.2 := by
  obtain ⟨α, H, y, a0, C, o1, o2⟩ := h.ex
  obtain ⟨f, e⟩ := o1 k q hk
  have kn : k < xs.length := by rw [← h.lh]; exact (List.getElem?_eq_some_iff.mp hk).1
  refine frac_eq a0 e (hull_y hh hl o2 k kn) ?_
  rcases C.touch k kn with t | ⟨l, r, q1, q2, q3, _⟩
  · exact t
  · omega
/-- the cross products of three neighbours, told over the common denominator -/
theorem cross_id {α a1 a2 b1 b2 ha hb : Int} (ea : a1 * α = ha * a2) (eb : b1 * α = hb * b2) : (b1 * a2 - a1 * b2) * α = (hb - ha) * (a2 * b2) := by
  calc (b1 * a2 - a1 * b2) * α = (b1 * α) * a2 - (a1 * α) * b2 := by grind
    _ = _ := by rw [ea, eb]; grind
theorem right_in19 {xs ys : List Int} {high : Int} {hs : List (Int × Int)} (I : Inc (gL xs) xs.length) (hh : 0 < high) (hl : ys.length = xs.length) (h : HullQ (gL xs) xs.length (over high ys) hs) {k : Nat} {a q b : Int × Int} (ka : hs[k]? = some a) (kq : hs[k + 1]? = some q) (kb : hs[k + 2]? = some b) :
    (b.1 * q.2 - q.1 * b.2) * a.2 * (gL xs (k + 1) - gL xs k) ≤ (q.1 * a.2 - a.1 * q.2) * b.2 * (gL xs (k + 2) - gL xs (k + 1)) ∧
    ((b.1 * q.2 - q.1 * b.2) * a.2 * (gL xs (k + 1) - gL xs k) < (q.1 * a.2 - a.1 * q.2) * b.2 * (gL xs (k + 2) - gL xs (k + 1)) → q.1 * high = gL ys (k + 1) * q.2) := by
  obtain ⟨α, H, y, a0, C, o1, o2⟩ := h.ex
  obtain ⟨fa, ea⟩ := o1 k a ka
  obtain ⟨fq, eq⟩ := o1 (k + 1) q kq
  obtain ⟨fb, eb⟩ := o1 (k + 2) b kb
  have kn : k + 2 < xs.length := by rw [← h.lh]; exact (List.getElem?_eq_some_iff.mp kb).1
  have i1 := cross_id ea eq
  have i2 := cross_id eq eb
  have m0 : 0 < a.2 * q.2 * b.2 := Int.mul_pos (Int.mul_pos fa.1 fq.1) fb.1
  have L : (q.1 * a.2 - a.1 * q.2) * b.2 * (gL xs (k + 2) - gL xs (k + 1)) * α = (H (k + 1) - H k) * (gL xs (k + 2) - gL xs (k + 1)) * (a.2 * q.2 * b.2) := by
    calc _ = ((q.1 * a.2 - a.1 * q.2) * α) * b.2 * (gL xs (k + 2) - gL xs (k + 1)) := by grind
      _ = _ := by rw [i1]; grind
  have R : (b.1 * q.2 - q.1 * b.2) * a.2 * (gL xs (k + 1) - gL xs k) * α = (H (k + 2) - H (k + 1)) * (gL xs (k + 1) - gL xs k) * (a.2 * q.2 * b.2) := by
    calc _ = ((b.1 * q.2 - q.1 * b.2) * α) * a.2 * (gL xs (k + 1) - gL xs k) := by grind
      _ = _ := by rw [i2]; grind
  constructor
  · refine cancelL a0 ?_
    rw [L, R]
    exact Int.mul_le_mul_of_nonneg_right (C.conc k kn) (Int.le_of_lt m0)
  · intro hlt
    have := Int.mul_lt_mul_of_pos_right hlt a0
    rw [L, R] at this
    have hb := Int.lt_of_mul_lt_mul_right this (Int.le_of_lt m0)
    exact frac_eq a0 eq (hull_y hh hl o2 (k + 1) (by omega)) (C.bend I kn hb)
/-! points from whole numbers -/
abbrev ptsOf (xs ys : List Int) (wide high : Int) : List ((Int × Int) × (Int × Int)) := (List.range xs.length).map fun k => (rat (gL xs k) wide, rat (gL ys k) high)
theorem range_over {h : Int} {ns : List Int} : ((List.range ns.length).map fun k => rat (gL ns k) h) = over h ns := by
  refine List.ext_getElem? fun k => ?_
  by_cases hk : k < ns.length
  · simp [over, gL, List.getD, hk]
  · rw [List.getElem?_eq_none (by simp; omega), List.getElem?_eq_none (by simp [over]; omega)]
theorem pts_fst {xs ys : List Int} {wide high : Int} : (ptsOf xs ys wide high).map (·.1) = over wide xs := by
  unfold ptsOf
  rw [List.map_map]
  exact range_over
theorem pts_snd {xs ys : List Int} {wide high : Int} (hl : ys.length = xs.length) : (ptsOf xs ys wide high).map (·.2) = over high ys := by
  unfold ptsOf
  rw [List.map_map, ← hl]
  exact range_over
/-! the curve of a buyer -/
theorem QS.frac {k : Nat} {n d : Int} (hd : 0 < d) (h1 : Sz k n) (h2 : Sz k d) : QS k ((n : Rat) / (d : Rat)) := QS.div (Int.ne_of_gt hd) h1 h2
def cvX (ps : Prs) (k : Nat) : Int := upW ps (ps.length - k)
def cvY (ps : Prs) (k : Nat) : Int := upW ps (ps.length - k) * vW ps (ps.length - k)
def xsW (ps : Prs) : List Int := (List.range (ps.length + 1)).map (cvX ps)
def ysW (ps : Prs) : List Int := (List.range (ps.length + 1)).map (cvY ps)
theorem xsW_len (ps : Prs) : (xsW ps).length = ps.length + 1 := by simp [xsW]
theorem ysW_len (ps : Prs) : (ysW ps).length = ps.length + 1 := by simp [ysW]
theorem xsW_at {ps : Prs} {k : Nat} (hk : k ≤ ps.length) : gL (xsW ps) k = cvX ps k := by
  unfold xsW gL
  rw [List.getD_eq_getElem?_getD, List.getElem?_map, List.getElem?_range (by omega)]; rfl
theorem ysW_at {ps : Prs} {k : Nat} (hk : k ≤ ps.length) : gL (ysW ps) k = cvY ps k := by
  unfold ysW gL
  rw [List.getD_eq_getElem?_getD, List.getElem?_map, List.getElem?_range (by omega)]; rfl
def ptE (ps : Prs) (k : Nat) : SV := .tup [frR ((cvX ps k : Int) / (wsum ps : Int)), frR ((cvY ps k : Int) / (wsum ps : Int))]
theorem cv_enc {ps : Prs} (h : PrsOk ps) : (ptsOf (xsW ps) (ysW ps) (wsum ps) (wsum ps)).map encPt = (List.range (ps.length + 1)).map (ptE ps) := by
  unfold ptsOf
  rw [List.map_map, xsW_len]
  refine List.map_congr_left fun k hk => ?_
  have hk := List.mem_range.mp hk
  have w0 := Int.ne_of_gt (wsum_pos h)
  show SV.tup [fr (rat (gL (xsW ps) k) (wsum ps)), fr (rat (gL (ysW ps) k) (wsum ps))] = _
  rw [xsW_at (by omega), ysW_at (by omega), fr_div w0, fr_div w0]
  rfl
theorem range_snoc {α : Type} (f : Nat → α) (n : Nat) : (List.range (n + 1)).map f = (List.range n).map f ++ [f n] := by rw [List.range_succ, List.map_append]; rfl
theorem curve_eq {bs : List Prs} (H : BkOk bs) {b : Nat} {ps : Prs} {g : GS} (hb : bs[b]? = some ps) : F_curve [bkS bs, .int b] g = some (.own (((List.range (ps.length + 1)).map (ptE ps)).map .sh), g) := by
  have ok := H.ok ps (List.mem_of_getElem? hb)
  have l6 := ok.l6
  have l0 := ok.l0
  have w0 := wsum_pos ok
  have h1 := bk_ct hb
  have p0 : SV.tup [c_ZERO, c_ZERO] = ptE ps 0 := by
    unfold ptE cvX cvY c_ZERO
    rw [Nat.sub_zero, upW_end]
    have e : ((0 : Int) : Rat) / ((wsum ps : Int) : Rat) = ((0 : Int) : Rat) := by
      have := cast_ne (Int.ne_of_gt w0)
      push_cast
      grind
    rw [Int.zero_mul, e, frR_int]
  obtain ⟨ρ', g', e, rfl, x3, x4, rfl⟩ := loop_inv (gf := gN 3) (sb := L_curve_1) (fun (i : Nat) => SV.int (((ps.length : Nat) : Int) - 1 - (i : Int)))
    (fun i ρ g' => g' = g ∧ ∃ x3 x4, ρ = [some (.sh (bkS bs)), some (.sh (.int b)), some (.own (((List.range (i + 1)).map (ptE ps)).map .sh)), x3, x4]) (List.range ps.length)
    [some (.sh (bkS bs)), some (.sh (.int b)), some (.own (((List.range (0 + 1)).map (ptE ps)).map .sh)), none, none] g 0 ⟨rfl, none, none, rfl⟩ (fun i x ρ g' hx hI => by
      obtain ⟨rfl, x3, x4, rfl⟩ := hI
      rw [Nat.zero_add]
      obtain ⟨hi, e⟩ := List.getElem?_eq_some_iff.mp hx
      rw [List.getElem_range] at e
      subst e
      rw [List.length_range] at hi
      have hj : ps.length - (i + 1) < ps.length := by omega
      have ei : ((ps.length : Nat) : Int) - 1 - (i : Int) = ((ps.length - (i + 1) : Nat) : Int) := by omega
      rw [ei]
      have e1 := upper_eqR H (g := g') hb (Nat.le_of_lt hj)
      have e2 := worth_eq (g := g') hb hj
      have q1 := QS.frac w0 (upW_sz ok (Nat.le_of_lt hj)) (wsum_sz ok)
      have q2 := QS.int (vW_sz ok hj) (by decide)
      have e3 := mul_eqR (g := g') q1 q2 (by decide)
      have em : ((upW ps (ps.length - (i + 1)) : Int) : Rat) / ((wsum ps : Int) : Rat) * ((vW ps (ps.length - (i + 1)) : Int) : Rat) = ((cvY ps (i + 1) : Int) : Rat) / ((wsum ps : Int) : Rat) := by
        have := cast_ne (Int.ne_of_gt w0)
        unfold cvY
        push_cast
        grind
      rw [frR_int, em] at e3
      have eP : SV.tup [frR (((upW ps (ps.length - (i + 1)) : Int) : Rat) / ((wsum ps : Int) : Rat)), frR (((cvY ps (i + 1) : Int) : Rat) / ((wsum ps : Int) : Rat))] = ptE ps (i + 1) := rfl
      have hL : lenOk (((List.range (i + 1)).map (ptE ps)).map DV.sh).length = true := lenOk_of (by rw [List.length_map, List.length_map, List.length_range]; omega)
      refine ⟨_, _, ?_, rfl, some (.sh (.int ((ps.length - (i + 1) : Nat) : Int))), some (.sh (frR (((upW ps (ps.length - (i + 1)) : Int) : Rat) / ((wsum ps : Int) : Rat)))), rfl⟩
      rw [range_snoc (ptE ps) (i + 1), List.map_append]
      generalize ((List.range (i + 1)).map (ptE ps)).map DV.sh = L at *
      generalize frR (((upW ps (ps.length - (i + 1)) : Int) : Rat) / ((wsum ps : Int) : Rat)) = A at *
      generalize frR (((cvY ps (i + 1) : Int) : Rat) / ((wsum ps : Int) : Rat)) = B at *
      generalize ptE ps (i + 1) = C at *
      unfold bkS at *
      generalize (bs.map fun ps => SV.tup (ps.map prS)) = D at *
      simp [e1, e2, e3, hL, eP])
  rw [Nat.zero_add, List.length_range] at e
  have r1 : rngOk (((ps.length : Nat) : Int) - 1) = true := by
    rw [show ((ps.length : Nat) : Int) - 1 = ((ps.length - 1 : Nat) : Int) by omega]
    exact rngOk_of (by omega)
  have r2 : rngOk (-1) = true := by decide +kernel
  have r3 : ((ps.length : Nat) : Int).toNat = ps.length := by omega
  rw [Nat.zero_add] at e
  generalize ((List.range (ps.length + 1)).map (ptE ps)).map DV.sh = L at *
  have eL : ((List.range (0 + 1)).map (ptE ps)).map DV.sh = [DV.sh (ptE ps 0)] := rfl
  rw [eL] at e
  rw [← dwn_map, ← p0] at e
  unfold bkS at *
  generalize (bs.map fun ps => SV.tup (ps.map prS)) = D at *
  generalize ((ps.length : Nat) : Int) = nn at *
  simp [F_curve, B_curve, h1, r1, r2, r3, e]
/-! what a buyer's worths are to the seller -/
def slI (ps : Prs) (i : Nat) : Int := upW ps i * vW ps i - upW ps (i + 1) * vW ps (i + 1)
def slR (ps : Prs) (i : Nat) : Rat := (slI ps i : Int) / (wW ps i : Int)
theorem slI_sz {ps : Prs} (h : PrsOk ps) {i : Nat} (hi : i < ps.length) : Sz 271 (slI ps i) := by
  have a := (upW_sz h (Nat.le_of_lt hi)).mul (vW_sz h hi)
  by_cases h2 : i + 1 < ps.length
  · have b := (upW_sz h (Nat.le_of_lt h2)).mul (vW_sz h h2)
    exact (a.sub b).mono (by decide)
  · have e : upW ps (i + 1) = 0 := by rw [show i + 1 = ps.length by omega, upW_end]
    unfold slI
    rw [e, Int.zero_mul, Int.sub_zero]
    exact a.mono (by decide)
theorem slR_qs {ps : Prs} (h : PrsOk ps) {i : Nat} (hi : i < ps.length) : QS 271 (slR ps i) := QS.frac (by have := h.at_ hi; omega) (slI_sz h hi) ((wW_sz h hi).mono (by decide))
theorem seller_eq {bs : List Prs} (H : BkOk bs) {b : Nat} {ps : Prs} {g : GS} (hb : bs[b]? = some ps) : F_seller_worths [bkS bs, .int b] g = some (.own (((List.range ps.length).map fun i => frR (slR ps i)).map .sh), g) := by
  have ok := H.ok ps (List.mem_of_getElem? hb)
  have l6 := ok.l6
  have l0 := ok.l0
  have w0 := wsum_pos ok
  have h1 := bk_ct hb
  obtain ⟨ρ', g', e, rfl, x4, x5, x6, x7, rfl⟩ := loop_rng (gf := gN 4) (sb := L_seller_worths_1) (lo := 0) (n := ps.length - 1)
    (fun i ρ g' => g' = g ∧ ∃ x4 x5 x6 x7, ρ = [some (.sh (bkS bs)), some (.sh (.int b)), some (.own (((List.range i).map fun i => frR (slR ps i)).map .sh)), some (.sh (.int ((ps.length - 1 : Nat) : Int))), x4, x5, x6, x7])
    (ρ := [some (.sh (bkS bs)), some (.sh (.int b)), some (.own (((List.range 0).map fun i => frR (slR ps i)).map .sh)), some (.sh (.int ((ps.length - 1 : Nat) : Int))), none, none, none, none]) (g := g) ⟨rfl, none, none, none, none, rfl⟩ (fun i ρ g' hi hI => by
      obtain ⟨rfl, x4, x5, x6, x7, rfl⟩ := hI
      have ei : (0 : Int) + (i : Nat) = i := by omega
      have ei1 : ((i : Nat) : Int) + 1 = ((i + 1 : Nat) : Int) := by omega
      have j0 : i < ps.length := by omega
      have j1 : i + 1 < ps.length := by omega
      rw [ei]
      have e1 := worth_eq (g := g') hb j0
      have e2 := worth_eq (g := g') hb j1
      have e3 := upper_eqR H (g := g') hb (Nat.le_of_lt j1)
      have e4 := chance_eqR H (g := g') hb j0
      have aw := (ok.at_ j0).2.2.1
      have w1 : 0 < wW ps i := by omega
      have q1 := QS.frac w0 (upW_sz ok (Nat.le_of_lt j1)) (wsum_sz ok)
      have q2 := QS.frac w0 ((wW_sz ok j0).mono (by decide)) (wsum_sz ok)
      have cw := cast_pos w0
      have c1 := cast_pos w1
      have ne : ((wW ps i : Int) : Rat) / ((wsum ps : Int) : Rat) ≠ 0 := by grind
      have e5 := div_eqR (g := g') q1 q2 ne (by decide)
      have q3 := q1.dvd q2 ne
      have q4 := QS.int ((vW_sz ok j1).sub (vW_sz ok j0)) (by decide)
      have e6 := mul_eqR (g := g') q4 q3 (by decide)
      have q5 := q4.mul q3
      have q6 := QS.int (vW_sz ok j0) (by decide)
      have e7 := sub_eqR (g := g') q6 q5 (by decide)
      have em : ((vW ps i : Int) : Rat) - ((vW ps (i + 1) - vW ps i : Int) : Rat) * ((((upW ps (i + 1) : Int) : Rat) / ((wsum ps : Int) : Rat)) / (((wW ps i : Int) : Rat) / ((wsum ps : Int) : Rat))) = slR ps i := by
        have st := upW_step j0
        unfold slR slI
        rw [st]
        push_cast
        grind
      rw [em] at e7
      rw [frR_int] at e6 e7
      have hL : lenOk (((List.range i).map fun i => frR (slR ps i)).map DV.sh).length = true := lenOk_of (by rw [List.length_map, List.length_map, List.length_range]; omega)
      refine ⟨_, _, ?_, rfl, some (.sh (.int i)), some (.sh (.int (vW ps i))), some (.sh (.tup [.int (vW ps (i + 1) - vW ps i), .int 1])), some (.sh (frR ((((upW ps (i + 1) : Int) : Rat) / ((wsum ps : Int) : Rat)) / (((wW ps i : Int) : Rat) / ((wsum ps : Int) : Rat))))), rfl⟩
      rw [range_snoc (fun i => frR (slR ps i)) i, List.map_append]
      generalize ((List.range i).map fun i => frR (slR ps i)).map DV.sh = L at *
      clear em q1 q2 q3 q4 q5 q6 ne cw c1
      generalize frR ((((upW ps (i + 1) : Int) : Rat) / ((wsum ps : Int) : Rat)) / (((wW ps i : Int) : Rat) / ((wsum ps : Int) : Rat))) = A at *
      generalize frR (((upW ps (i + 1) : Int) : Rat) / ((wsum ps : Int) : Rat)) = B at *
      generalize frR (((wW ps i : Int) : Rat) / ((wsum ps : Int) : Rat)) = C at *
      generalize frR (((vW ps (i + 1) - vW ps i : Int) : Rat) * _) = D at *
      generalize frR (slR ps i) = E at *
      unfold bkS at *
      generalize (bs.map fun ps => SV.tup (ps.map prS)) = D at *
      rw [← ei1] at e2 e3
      simp [e1, e2, e3, e4, e5, e6, e7, hL])
  have r1 : rngOk ((ps.length - 1 : Nat) : Int) = true := rngOk_of (by omega)
  have j2 : ps.length - 1 < ps.length := by omega
  have e1 := worth_eq (g := g') hb j2
  have em : slR ps (ps.length - 1) = ((vW ps (ps.length - 1) : Int) : Rat) := by
    have st := upW_step j2
    have a := (ok.at_ j2).2.2.1
    have c1 := cast_pos (show 0 < wW ps (ps.length - 1) by omega)
    rw [show ps.length - 1 + 1 = ps.length by omega, upW_end] at st
    unfold slR slI
    rw [show ps.length - 1 + 1 = ps.length by omega, upW_end, st]
    push_cast
    grind
  have eL : (List.range ps.length).map (fun i => frR (slR ps i)) = (List.range (ps.length - 1)).map (fun i => frR (slR ps i)) ++ [.tup [.int (vW ps (ps.length - 1)), .int 1]] := by
    conv => lhs; rw [show ps.length = ps.length - 1 + 1 by omega]
    rw [range_snoc (fun i => frR (slR ps i)), em, frR_int]
  have eN : ((ps.length : Nat) : Int) - 1 = ((ps.length - 1 : Nat) : Int) := by omega
  have eC : hCatL ((List.range (ps.length - 1)).map fun i => frR (slR ps i)) [.tup [.int (vW ps (ps.length - 1)), .int 1]] = some ((List.range (ps.length - 1)).map (fun i => frR (slR ps i)) ++ [.tup [.int (vW ps (ps.length - 1)), .int 1]]) := by
    unfold hCatL
    rw [if_pos (lenOk_of (by simp; omega))]
  have eS : ((List.range 0).map fun i => frR (slR ps i)).map DV.sh = [] := rfl
  rw [eS] at e
  rw [eL]
  generalize (List.range (ps.length - 1)).map (fun i => frR (slR ps i)) = L at *
  unfold bkS at *
  generalize (bs.map fun ps => SV.tup (ps.map prS)) = D at *
  clear eL em
  have r5 : (((ps.length - 1 : Nat) : Int)).toNat = ps.length - 1 := rfl
  generalize ((ps.length - 1 : Nat) : Int) = n1 at *
  generalize ((ps.length : Nat) : Int) = nn at *
  simp [F_seller_worths, B_seller_worths, h1, eN, r1, r5, e, e1, eC, frzEnv]
/-! pooling: the pure part -/
def pre (f : Nat → Int) : Nat → Int
  | 0 => 0
  | n + 1 => pre f n + f n
def seg (f : Nat → Int) (s t : Nat) : Int := pre f t - pre f s
theorem seg_self (f : Nat → Int) (s : Nat) : seg f s s = 0 := by unfold seg; omega
theorem seg_succ (f : Nat → Int) (s t : Nat) : seg f s (t + 1) = seg f s t + f t := by unfold seg; show pre f t + f t - _ = _; omega
theorem seg_add (f : Nat → Int) (s m t : Nat) : seg f s m + seg f m t = seg f s t := by unfold seg; omega
theorem seg_one (f : Nat → Int) (s : Nat) : seg f s (s + 1) = f s := by rw [seg_succ, seg_self]; omega
theorem pre_pos {f : Nat → Int} {n : Nat} (h : ∀ i, i < n → 0 < f i) : ∀ {d s : Nat}, s + d ≤ n → pre f s + (if d = 0 then 0 else 1) ≤ pre f (s + d)
  | 0, s, _ => by simp
  | d + 1, s, hd => by
    have h1 := pre_pos h (d := d) (s := s) (by omega)
    have h2 := h (s + d) (by omega)
    show _ ≤ pre f (s + d) + f (s + d)
    simp only [Nat.add_one_ne_zero, if_false]
    split at h1 <;> omega
theorem seg_pos {f : Nat → Int} {n s t : Nat} (h : ∀ i, i < n → 0 < f i) (h1 : s < t) (h2 : t ≤ n) : 0 < seg f s t := by
  obtain ⟨d, rfl⟩ : ∃ d, t = s + d := ⟨t - s, by omega⟩
  have := pre_pos h h2
  unfold seg
  rw [if_neg (by omega)] at this
  omega
theorem pre_sz {f : Nat → Int} {k : Nat} {n : Nat} (h : ∀ i, i < n → Sz k (f i)) : ∀ {m : Nat}, m ≤ n → (pre f m).natAbs ≤ m * 2 ^ k
  | 0, _ => by simp [pre]
  | m + 1, hm => by
    have h1 := pre_sz h (m := m) (by omega)
    have h2 := h m (by omega)
    unfold Sz at h2
    have e : pre f (m + 1) = pre f m + f m := rfl
    have h3 := Int.natAbs_add_le (pre f m) (f m)
    rw [e, Nat.succ_mul]
    omega
theorem seg_sz {f : Nat → Int} {k n s t : Nat} (h : ∀ i, i < n → Sz k (f i)) (hn : n ≤ 64) (h1 : s ≤ n) (h2 : t ≤ n) : Sz (k + 8) (seg f s t) := by
  have a1 := pre_sz h h1
  have a2 := pre_sz h h2
  have b1 := Nat.mul_le_mul_right (2 ^ k) (show s ≤ 64 by omega)
  have b2 := Nat.mul_le_mul_right (2 ^ k) (show t ≤ 64 by omega)
  have h3 : (seg f s t).natAbs ≤ (pre f t).natAbs + (pre f s).natAbs := by unfold seg; omega
  have hp := Nat.pow_pos (n := k) (show 0 < 2 by decide)
  unfold Sz
  rw [Nat.pow_add]
  omega
/-- no beginning of the stretch has a mean at or below the stretch's -/
def SP (A W : Nat → Int) (s t : Nat) : Prop := ∀ k, s < k → k < t → seg A s t * seg W s k < seg A s k * seg W s t
/-- the first stretch's mean is greater -/
def Bey (A W : Nat → Int) (p q : Nat × Nat) : Prop := seg A q.1 q.2 * seg W p.1 p.2 < seg A p.1 p.2 * seg W q.1 q.2
instance (A W : Nat → Int) (p q : Nat × Nat) : Decidable (Bey A W p q) := by unfold Bey; exact inferInstance
theorem idA (x y p q a w : Int) : p * (a*(p+q) - (x+y)*w) = (a*p - x*w)*(p+q) + w*(x*q - y*p) := by grind
theorem idB (x y p q b v : Int) : q*((x+b)*(p+q) - (x+y)*(p+v)) = (b*q - y*v)*(p+q) + (x*q - y*p)*(q-v) := by grind
theorem pos_cancel {p z : Int} (h : 0 < p * z) (hp : 0 < p) : 0 < z := Int.pos_of_mul_pos_left (by rw [Int.mul_comm]; exact h) hp
theorem mrgA {x y p q a w : Int} (p0 : 0 < p) (q0 : 0 < q) (w0 : 0 < w) (h1 : x * w < a * p) (h2 : y * p < x * q) : (x + y) * w < a * (p + q) := by
  have e := idA x y p q a w
  have z1 := Int.mul_pos (show 0 < a * p - x * w by omega) (show 0 < p + q by omega)
  have z2 := Int.mul_pos w0 (show 0 < x * q - y * p by omega)
  have := pos_cancel (p := p) (z := a*(p+q) - (x+y)*w) (by rw [e]; omega) p0
  omega
theorem mrgM {x y p q : Int} (h : y * p < x * q) : (x + y) * p < x * (p + q) := by
  rw [Int.add_mul, Int.mul_add]; omega
theorem mrgB {x y p q b v : Int} (p0 : 0 < p) (q0 : 0 < q) (hv : v < q) (h1 : y * v < b * q) (h2 : y * p < x * q) : (x + y) * (p + v) < (x + b) * (p + q) := by
  have e := idB x y p q b v
  have z1 := Int.mul_pos (show 0 < b * q - y * v by omega) (show 0 < p + q by omega)
  have z2 := Int.mul_pos (show 0 < x * q - y * p by omega) (show 0 < q - v by omega)
  have := pos_cancel (p := q) (z := (x+b)*(p+q) - (x+y)*(p+v)) (by rw [e]; omega) q0
  omega
theorem sp_merge {A W : Nat → Int} {n s m t : Nat} (hW : ∀ i, i < n → 0 < W i) (h1 : s < m) (h2 : m < t) (hn : t ≤ n) (S1 : SP A W s m) (S2 : SP A W m t) (hb : Bey A W (s, m) (m, t)) : SP A W s t := by
  intro k hk1 hk2
  have p0 := seg_pos hW h1 (by omega)
  have q0 := seg_pos hW h2 hn
  rw [← seg_add A s m t, ← seg_add W s m t]
  rcases Nat.lt_trichotomy k m with h | h | h
  · exact mrgA p0 q0 (seg_pos hW hk1 (by omega)) (S1 k hk1 h) hb
  · subst h
    exact mrgM hb
  · rw [← seg_add A s m k, ← seg_add W s m k]
    have v0 := seg_pos hW hk2 hn
    have e := seg_add W m k t
    exact mrgB p0 q0 (by omega) (S2 k h hk2) hb
/-- the stack of stretches, the last one first -/
inductive Stk (A W : Nat → Int) : List (Nat × Nat) → Nat → Prop
  | nil : Stk A W [] 0
  | cons {rs : List (Nat × Nat)} {s t : Nat} (k : Stk A W rs s) (h : s < t) (S : SP A W s t) (b : ∀ p, rs.head? = some p → ¬ Bey A W p (s, t)) : Stk A W ((s, t) :: rs) t
def Fwd (A W : Nat → Int) (n : Nat) : Nat → Option (Nat × Nat) → List (Nat × Nat) → Prop
  | s, _, [] => s = n
  | s, o, q :: bs => q.1 = s ∧ s < q.2 ∧ q.2 ≤ n ∧ SP A W s q.2 ∧ (∀ p, o = some p → ¬ Bey A W p q) ∧ Fwd A W n q.2 (some q) bs
theorem Fwd.le {A W : Nat → Int} {n : Nat} : ∀ {bs : List (Nat × Nat)} {s : Nat} {o : Option (Nat × Nat)}, Fwd A W n s o bs → s ≤ n
  | [], _, _, h => Nat.le_of_eq h
  | _ :: _, _, _, h => by have h2 := h.2.1; have h3 := h.2.2.1; omega
theorem Stk.fwd {A W : Nat → Int} {n : Nat} {rs : List (Nat × Nat)} {t : Nat} (k : Stk A W rs t) : ∀ {bs : List (Nat × Nat)}, Fwd A W n t rs.head? bs → Fwd A W n 0 none (rs.reverse ++ bs) := by
  induction k with
  | nil => intro bs h; exact h
  | cons k h S b ih =>
    intro bs hf
    rw [List.reverse_cons, List.append_assoc]
    exact ih ⟨rfl, h, hf.le, S, b, hf⟩
/-! isotonic means: there is but one -/
def rsum (f : Nat → Rat) : Nat → Rat
  | 0 => 0
  | n + 1 => rsum f n + f n
theorem rsum_congr {f f' : Nat → Rat} : ∀ {n : Nat}, (∀ i, i < n → f i = f' i) → rsum f n = rsum f' n
  | 0, _ => rfl
  | n + 1, h => by
    show rsum f n + f n = rsum f' n + f' n
    rw [rsum_congr fun i hi => h i (by omega), h n (by omega)]
theorem rsum_mul (c : Rat) (f : Nat → Rat) : ∀ n, rsum (fun i => c * f i) n = c * rsum f n
  | 0 => by show (0 : Rat) = c * 0; grind
  | n + 1 => by
    show rsum _ n + c * f n = c * (rsum f n + f n)
    rw [rsum_mul c f n]; grind
theorem rsum_pre (A : Nat → Int) : ∀ n, rsum (fun i => (A i : Rat)) n = ((pre A n : Int) : Rat)
  | 0 => rfl
  | n + 1 => by
    show rsum _ n + (A n : Rat) = ((pre A n + A n : Int) : Rat)
    rw [rsum_pre A n]; push_cast; rfl
structure Iso (n : Nat) (w s m : Nat → Rat) : Prop where
  mono : ∀ i, i + 1 < n → m i ≤ m (i + 1)
  nn : ∀ k, k ≤ n → 0 ≤ rsum (fun i => w i * (s i - m i)) k
  fin : rsum (fun i => w i * (s i - m i)) n = 0
  tie : ∀ i, i + 1 < n → m i < m (i + 1) → rsum (fun i => w i * (s i - m i)) (i + 1) = 0
theorem Iso.mono_le {n : Nat} {w s m : Nat → Rat} (A : Iso n w s m) {i : Nat} : ∀ d, i + d < n → m i ≤ m (i + d)
  | 0, _ => by show m i ≤ m i; grind
  | d + 1, h => by
    have h1 := A.mono_le (i := i) d (by omega)
    have h2 := A.mono (i + d) (by omega)
    have e : i + (d + 1) = i + d + 1 := by omega
    rw [e]
    grind
theorem Iso.notlt {n : Nat} {w s m m' : Nat → Rat} (hw : ∀ i, i < n → 0 < w i) (A : Iso n w s m) (B : Iso n w s m') {i : Nat} (hi : i < n) (ag : ∀ j, j < i → m j = m' j) : ¬ m i < m' i := by
  intro hlt
  have e0 : rsum (fun i => w i * (s i - m i)) i = rsum (fun i => w i * (s i - m' i)) i := rsum_congr fun j hj => by rw [ag j hj]
  have claim : ∀ d, i + d + 1 ≤ n → m (i + d) = m i ∧ rsum (fun i => w i * (s i - m' i)) (i + d + 1) < rsum (fun i => w i * (s i - m i)) (i + d + 1) := by
    intro d
    induction d with
    | zero =>
      intro h
      refine ⟨rfl, ?_⟩
      show rsum _ i + w i * (s i - m' i) < rsum _ i + w i * (s i - m i)
      rw [e0]
      have := Rat.mul_lt_mul_of_pos_left hlt (hw i hi)
      grind
    | succ d ih =>
      intro h
      obtain ⟨i1, i2⟩ := ih (by omega)
      have b := B.nn (i + d + 1) (by omega)
      have t := A.tie (i + d) (by omega)
      have mo := A.mono (i + d) (by omega)
      have em : m (i + d + 1) = m i := by
        by_cases hc : m (i + d) < m (i + d + 1)
        · have := t hc; grind
        · grind
      refine ⟨em, ?_⟩
      show rsum _ (i + d + 1) + w (i + d + 1) * (s (i + d + 1) - m' (i + d + 1)) < rsum _ (i + d + 1) + w (i + d + 1) * (s (i + d + 1) - m (i + d + 1))
      have bm := B.mono_le (i := i) (d + 1) (by omega)
      have bm' : m i < m' (i + d + 1) := by
        have e : i + (d + 1) = i + d + 1 := by omega
        rw [e] at bm
        grind
      have := Rat.mul_lt_mul_of_pos_left bm' (hw (i + d + 1) (by omega))
      rw [em]
      grind
  have c := (claim (n - i - 1) (by omega)).2
  have e : i + (n - i - 1) + 1 = n := by omega
  rw [e, A.fin] at c
  have := B.nn n (Nat.le_refl _)
  grind
theorem Iso.uniq {n : Nat} {w s m m' : Nat → Rat} (hw : ∀ i, i < n → 0 < w i) (A : Iso n w s m) (B : Iso n w s m') : ∀ i, i < n → m i = m' i := by
  intro i
  induction i using Nat.strongRecOn with
  | _ i ih =>
    intro hi
    have ag : ∀ j, j < i → m j = m' j := fun j hj => ih j hj (by omega)
    have h1 := Iso.notlt hw A B hi ag
    have h2 := Iso.notlt hw B A hi fun j hj => (ag j hj).symm
    grind
theorem Iso.scale {n : Nat} {w s m : Nat → Rat} {c : Rat} (hc : 0 < c) (A : Iso n w s m) : Iso n (fun i => c * w i) s m := by
  have e : ∀ k, rsum (fun i => c * w i * (s i - m i)) k = c * rsum (fun i => w i * (s i - m i)) k := fun k => by
    rw [← rsum_mul]
    exact rsum_congr fun i _ => by grind
  refine ⟨A.mono, fun k hk => ?_, ?_, fun i hi h => ?_⟩
  · rw [e]; exact Rat.mul_nonneg (by grind) (A.nn k hk)
  · rw [e, A.fin]; grind
  · rw [e, A.tie i hi h]; grind
theorem Iso.congr {n : Nat} {w w' s s' m m' : Nat → Rat} (A : Iso n w s m) (h1 : ∀ i, i < n → w i = w' i) (h2 : ∀ i, i < n → s i = s' i) (h3 : ∀ i, i < n → m i = m' i) : Iso n w' s' m' := by
  have e : ∀ k, k ≤ n → rsum (fun i => w' i * (s' i - m' i)) k = rsum (fun i => w i * (s i - m i)) k := fun k hk => rsum_congr fun i hi => by rw [h1 i (by omega), h2 i (by omega), h3 i (by omega)]
  refine ⟨fun i hi => ?_, fun k hk => ?_, ?_, fun i hi h => ?_⟩
  · rw [← h3 i (by omega), ← h3 (i + 1) (by omega)]; exact A.mono i hi
  · rw [e k hk]; exact A.nn k hk
  · rw [e n (Nat.le_refl _)]; exact A.fin
  · rw [← h3 i (by omega), ← h3 (i + 1) (by omega)] at h
    rw [e _ (by omega)]; exact A.tie i hi h
/-! pooled blocks are isotonic means -/
def mvR (A W : Nat → Int) (p : Nat × Nat) : Rat := (seg A p.1 p.2 : Int) / (seg W p.1 p.2 : Int)
def mlR (A W : Nat → Int) (bs : List (Nat × Nat)) : List Rat := bs.flatMap fun p => List.replicate (p.2 - p.1) (mvR A W p)
theorem rsum_const {A W : Nat → Int} {m : Nat → Rat} {μ : Rat} {s : Nat} : ∀ d, (∀ j, j < d → m (s + j) = μ) → rsum (fun i => (A i : Rat) - (W i : Rat) * m i) (s + d) = rsum (fun i => (A i : Rat) - (W i : Rat) * m i) s + ((seg A s (s + d) : Int) : Rat) - ((seg W s (s + d) : Int) : Rat) * μ
  | 0, _ => by rw [Nat.add_zero, seg_self, seg_self]; push_cast; grind
  | d + 1, h => by
    show rsum _ (s + d) + ((A (s + d) : Rat) - (W (s + d) : Rat) * m (s + d)) = _
    rw [rsum_const d fun j hj => h j (by omega), h d (by omega), ← Nat.add_assoc, seg_succ, seg_succ]
    push_cast
    grind
theorem Fwd.iso {A W : Nat → Int} {n : Nat} (hW : ∀ i, i < n → 0 < W i) (m : Nat → Rat) : ∀ (bs : List (Nat × Nat)) (s : Nat) (o : Option (Nat × Nat)), Fwd A W n s o bs → (∀ j, s + j < n → (mlR A W bs)[j]? = some (m (s + j))) → (∀ p, o = some p → p.1 < p.2 ∧ p.2 ≤ n) →
    (∀ i, s ≤ i → i + 1 < n → m i ≤ m (i + 1)) ∧
    (∀ k, s ≤ k → k ≤ n → rsum (fun i => (A i : Rat) - (W i : Rat) * m i) s ≤ rsum (fun i => (A i : Rat) - (W i : Rat) * m i) k) ∧
    rsum (fun i => (A i : Rat) - (W i : Rat) * m i) n = rsum (fun i => (A i : Rat) - (W i : Rat) * m i) s ∧
    (∀ i, s ≤ i → i + 1 < n → m i < m (i + 1) → rsum (fun i => (A i : Rat) - (W i : Rat) * m i) (i + 1) = rsum (fun i => (A i : Rat) - (W i : Rat) * m i) s) ∧
    (∀ p, o = some p → s < n → mvR A W p ≤ m s)
  | [], s, o, F, _, _ => by
    have e : s = n := F
    subst e
    refine ⟨fun i h1 h2 => by omega, fun k h1 h2 => ?_, rfl, fun i h1 h2 => by omega, fun p _ h => by omega⟩
    rw [show k = s by omega]; grind
  | q :: bs, s, o, F, hm, ho => by
    obtain ⟨f1, f2, f3, f4, f5, f6⟩ := F
    have hq : ∀ j, j < q.2 - s → m (s + j) = mvR A W q := fun j hj => by
      have h := hm j (by omega)
      unfold mlR at h
      rw [List.flatMap_cons, List.getElem?_append_left (by rw [List.length_replicate]; omega), List.getElem?_replicate] at h
      rw [if_pos (by omega)] at h
      exact (Option.some.inj h).symm
    have hr : ∀ j, q.2 + j < n → (mlR A W bs)[j]? = some (m (q.2 + j)) := fun j hj => by
      have h := hm (q.2 - s + j) (by omega)
      unfold mlR at h
      rw [List.flatMap_cons, List.getElem?_append_right (by rw [List.length_replicate]; omega), List.length_replicate] at h
      rw [show q.2 - s + j - (q.2 - q.1) = j by omega, show s + (q.2 - s + j) = q.2 + j by omega] at h
      exact h
    obtain ⟨r1, r2, r3, r4, r5⟩ := Fwd.iso hW m bs q.2 (some q) f6 hr fun p hp => by cases hp; exact ⟨by omega, f3⟩
    have wq := seg_pos hW f2 f3
    have wqr := cast_pos wq
    have hmv : mvR A W q * ((seg W s q.2 : Int) : Rat) = ((seg A s q.2 : Int) : Rat) := by
      unfold mvR
      rw [f1]
      grind
    have part : ∀ k, s ≤ k → k ≤ q.2 → rsum (fun i => (A i : Rat) - (W i : Rat) * m i) s ≤ rsum (fun i => (A i : Rat) - (W i : Rat) * m i) k ∧ (k = q.2 → rsum (fun i => (A i : Rat) - (W i : Rat) * m i) k = rsum (fun i => (A i : Rat) - (W i : Rat) * m i) s) := fun k h1 h2 => by
      obtain ⟨d, rfl⟩ : ∃ d, k = s + d := ⟨k - s, by omega⟩
      have e := rsum_const (A := A) (W := W) (m := m) (μ := mvR A W q) (s := s) d fun j hj => hq j (by omega)
      rw [e]
      rcases Nat.eq_zero_or_pos d with h0 | h0
      · subst h0
        rw [Nat.add_zero, seg_self, seg_self]
        push_cast
        constructor
        · grind
        · intro _; grind
      · by_cases hk : s + d = q.2
        · rw [hk]
          constructor
          · grind
          · intro _; grind
        · have sp := f4 (s + d) (by omega) (by omega)
          have wk := cast_pos (seg_pos hW (show s < s + d by omega) (by omega))
          have spr : ((seg A s q.2 : Int) : Rat) * ((seg W s (s + d) : Int) : Rat) < ((seg A s (s + d) : Int) : Rat) * ((seg W s q.2 : Int) : Rat) := by exact_mod_cast sp
          constructor
          · have : mvR A W q * ((seg W s (s + d) : Int) : Rat) < ((seg A s (s + d) : Int) : Rat) := by
              refine Rat.lt_of_mul_lt_mul_right (c := ((seg W s q.2 : Int) : Rat)) ?_ (by grind)
              rw [← hmv] at spr
              grind
            grind
          · intro h; omega
    have e2 := (part q.2 (by omega) (Nat.le_refl _)).2 rfl
    refine ⟨fun i h1 h2 => ?_, fun k h1 h2 => ?_, ?_, fun i h1 h2 h3 => ?_, fun p hp hs => ?_⟩
    · by_cases c1 : i + 1 < q.2
      · have a := hq (i - s) (by omega)
        have b := hq (i + 1 - s) (by omega)
        rw [show s + (i - s) = i by omega] at a
        rw [show s + (i + 1 - s) = i + 1 by omega] at b
        rw [a, b]; grind
      · by_cases c2 : i + 1 = q.2
        · have a := hq (i - s) (by omega)
          rw [show s + (i - s) = i by omega] at a
          have b := r5 q rfl (by omega)
          rw [a, c2]; exact b
        · exact r1 i (by omega) h2
    · by_cases c1 : k ≤ q.2
      · exact (part k h1 c1).1
      · have := r2 k (by omega) h2
        rw [e2] at this
        exact this
    · rw [r3, e2]
    · by_cases c1 : i + 1 < q.2
      · have a := hq (i - s) (by omega)
        have b := hq (i + 1 - s) (by omega)
        rw [show s + (i - s) = i by omega] at a
        rw [show s + (i + 1 - s) = i + 1 by omega] at b
        rw [a, b] at h3; exact absurd h3 (by grind)
      · by_cases c2 : i + 1 = q.2
        · rw [c2, e2]
        · rw [r4 i (by omega) h2 h3, e2]
    · have hb := f5 p hp
      have a := hq 0 (by omega)
      rw [Nat.add_zero] at a
      rw [a]
      obtain ⟨p1, p2⟩ := ho p hp
      have wp := cast_pos (seg_pos hW p1 p2)
      unfold Bey at hb
      have hb' : seg A p.1 p.2 * seg W q.1 q.2 ≤ seg A q.1 q.2 * seg W p.1 p.2 := Int.not_lt.mp hb
      have hbr : ((seg A p.1 p.2 : Int) : Rat) * ((seg W q.1 q.2 : Int) : Rat) ≤ ((seg A q.1 q.2 : Int) : Rat) * ((seg W p.1 p.2 : Int) : Rat) := by exact_mod_cast hb'
      rw [f1] at hbr
      have h1 : mvR A W p * ((seg W p.1 p.2 : Int) : Rat) = ((seg A p.1 p.2 : Int) : Rat) := by unfold mvR; grind
      refine Rat.le_of_mul_le_mul_right (c := ((seg W s q.2 : Int) : Rat) * ((seg W p.1 p.2 : Int) : Rat)) ?_ (Rat.mul_pos wqr wp)
      rw [← h1, ← hmv] at hbr
      grind
/-! the value of a listed fraction -/
def vR (vs : List (Int × Int)) (i : Nat) : Rat := ((vs.getD i (0, 1)).1 : Rat) / ((vs.getD i (0, 1)).2 : Rat)
/-! hulls over rationals -/
theorem fr_ratE {q : Int × Int} (hq : Fr q) : fr q = frR ((q.1 : Rat) / (q.2 : Rat)) := by
  have h0 := Int.ne_of_gt hq.1
  rw [← fr_div h0]
  congr 1
  exact fr_unique hq (rat_fr h0) (rat_eq (n := q.1) h0).symm
structure HullR (x : Nat → Int) (n : Nat) (p h : Nat → Rat) : Prop where
  ge : ∀ k, k < n → p k ≤ h k
  e0 : h 0 = p 0
  e1 : ∀ k, k + 1 = n → h k = p k
  conc : ∀ k, k + 2 < n → (h (k + 2) - h (k + 1)) * ((x (k + 1) - x k : Int) : Rat) ≤ (h (k + 1) - h k) * ((x (k + 2) - x (k + 1) : Int) : Rat)
  bend : ∀ k, k + 2 < n → (h (k + 2) - h (k + 1)) * ((x (k + 1) - x k : Int) : Rat) < (h (k + 1) - h k) * ((x (k + 2) - x (k + 1) : Int) : Rat) → h (k + 1) = p (k + 1)
theorem HullQ.toR {xs ys : List Int} {W : Int} {hs : List (Int × Int)} (n0 : 0 < xs.length) (I : Inc (gL xs) xs.length) (hW : 0 < W) (hl : ys.length = xs.length) (h : HullQ (gL xs) xs.length (over W ys) hs) : HullR (gL xs) xs.length (fun k => ((gL ys k : Int) : Rat) / ((W : Int) : Rat)) (vR hs) := by
  obtain ⟨α, H, y, a0, C, o1, o2⟩ := h.ex
  have hy := hull_y hW hl o2
  have ar := cast_pos a0
  have wr := cast_pos hW
  have eh : ∀ k, k < xs.length → ((H k : Int) : Rat) = vR hs k * ((α : Int) : Rat) := fun k hk => by
    have hk' : k < hs.length := by rw [h.lh]; exact hk
    obtain ⟨f, e⟩ := o1 k _ (List.getElem?_eq_getElem hk')
    have eg : hs.getD k (0, 1) = hs[k] := by simp [List.getD, List.getElem?_eq_getElem hk']
    unfold vR
    rw [eg]
    have er : ((hs[k].1 : Int) : Rat) * ((α : Int) : Rat) = ((H k : Int) : Rat) * ((hs[k].2 : Int) : Rat) := by exact_mod_cast e
    have fr := cast_pos f.1
    grind
  have ey : ∀ k, k < xs.length → ((y k : Int) : Rat) = ((gL ys k : Int) : Rat) / ((W : Int) : Rat) * ((α : Int) : Rat) := fun k hk => by
    have e := hy k hk
    have er : ((y k : Int) : Rat) * ((W : Int) : Rat) = ((gL ys k : Int) : Rat) * ((α : Int) : Rat) := by exact_mod_cast e
    grind
  have eq_of : ∀ k, k < xs.length → H k = y k → vR hs k = ((gL ys k : Int) : Rat) / ((W : Int) : Rat) := fun k hk e => by
    have e2 : ((H k : Int) : Rat) = ((y k : Int) : Rat) := by rw [e]
    rw [eh k hk, ey k hk] at e2
    grind
  refine ⟨fun k hk => ?_, ?_, fun k hk => ?_, fun k hk => ?_, fun k hk hb => ?_⟩
  · have g := C.ge k hk
    have gr : ((y k : Int) : Rat) ≤ ((H k : Int) : Rat) := by exact_mod_cast g
    rw [eh k hk, ey k hk] at gr
    exact Rat.le_of_mul_le_mul_right gr ar
  · refine eq_of 0 n0 ?_
    rcases C.touch 0 n0 with t | ⟨l, r, q1, q2, q3, _⟩
    · exact t
    · omega
  · refine eq_of k (by omega) ?_
    rcases C.touch k (by omega) with t | ⟨l, r, q1, q2, q3, _⟩
    · exact t
    · omega
  · have c := C.conc k hk
    have cr : (((H (k + 2) : Int) : Rat) - ((H (k + 1) : Int) : Rat)) * ((gL xs (k + 1) - gL xs k : Int) : Rat) ≤ (((H (k + 1) : Int) : Rat) - ((H k : Int) : Rat)) * ((gL xs (k + 2) - gL xs (k + 1) : Int) : Rat) := by exact_mod_cast c
    rw [eh k (by omega), eh (k + 1) (by omega), eh (k + 2) hk] at cr
    refine Rat.le_of_mul_le_mul_right (c := ((α : Int) : Rat)) ?_ ar
    generalize ((gL xs (k + 1) - gL xs k : Int) : Rat) = a at *
    generalize ((gL xs (k + 2) - gL xs (k + 1) : Int) : Rat) = b at *
    grind
  · refine eq_of (k + 1) (by omega) (C.bend I hk ?_)
    have hb2 := Rat.mul_lt_mul_of_pos_right hb ar
    have cr : (((H (k + 2) : Int) : Rat) - ((H (k + 1) : Int) : Rat)) * ((gL xs (k + 1) - gL xs k : Int) : Rat) < (((H (k + 1) : Int) : Rat) - ((H k : Int) : Rat)) * ((gL xs (k + 2) - gL xs (k + 1) : Int) : Rat) := by
      rw [eh k (by omega), eh (k + 1) (by omega), eh (k + 2) hk]
      generalize ((gL xs (k + 1) - gL xs k : Int) : Rat) = a at *
      generalize ((gL xs (k + 2) - gL xs (k + 1) : Int) : Rat) = b at *
      grind
    exact_mod_cast cr
theorem rat_den_sz {k : Nat} {x h : Int} (hh : 0 < h) (hs : Sz k h) : Sz k (rat x h).2 := by
  have h1 := Int.le_of_dvd hh (rat_den_dvd (x := x) hh)
  have h2 := (rat_fr (n := x) (Int.ne_of_gt hh)).1
  unfold Sz at *
  omega
theorem hull_qs {xs ys : List Int} {W : Int} {hs : List (Int × Int)} (I : Inc (gL xs) xs.length) (hW : 0 < W) (sW : Sz 136 W) (hl : ys.length = xs.length) (sx : ∀ x ∈ xs, Sz 136 x) (sy : ∀ y ∈ ys, Sz 275 y) (h : HullQ (gL xs) xs.length (over W ys) hs) {k : Nat} (hk : k < xs.length) : Fr (hs.getD k (0, 1)) ∧ QS 420 (vR hs k) := by
  have hk' : k < hs.length := by rw [h.lh]; exact hk
  have eg : hs.getD k (0, 1) = hs[k] := by simp [List.getD, List.getElem?_eq_getElem hk']
  have fq : Fr hs[k] := by
    obtain ⟨α, H, y, a0, C, o1, o2⟩ := h.ex
    exact (o1 k _ (List.getElem?_eq_getElem hk')).1
  have F : FrS 420 hs[k] := by
    rcases hull_form I hW hl h (List.getElem?_eq_getElem hk') with e | ⟨l, r, q1, q2, q3, e⟩
    · rw [e]
      exact rat_szs (Int.ne_of_gt hW) ((gL_sz sy (by omega)).mono (by decide)) (sW.mono (by decide))
    · rw [e]
      have w0 : 0 < gL xs r - gL xs l := by have := I.lt (show l < r by omega) q3; omega
      have s0 := gL_sz (i := l) sx (by omega)
      have s1 := gL_sz (i := k) sx (by omega)
      have s2 := gL_sz (i := r) sx q3
      have t0 := gL_sz (i := l) sy (by omega)
      have t2 := gL_sz (i := r) sy (by omega)
      exact rat_szs (Int.ne_of_gt (Int.mul_pos w0 hW)) (((t0.mul (s2.sub s1)).add (t2.mul (s1.sub s0))).mono (by decide)) (((s2.sub s0).mul sW).mono (by decide))
  refine ⟨by rw [eg]; exact fq, ?_⟩
  unfold vR
  rw [eg]
  have e := fr_ratE fq
  unfold fr frR at e
  have e' := SV.tup.inj e
  have e1 := SV.int.inj (List.cons.inj e').1
  have e2 := SV.int.inj (List.cons.inj (List.cons.inj e').2).1
  exact ⟨by rw [← e1]; exact F.n, by rw [← e2]; exact F.d⟩
/-! the hull over a buyer's curve -/
theorem cvX_step {ps : Prs} {k : Nat} (hk : k < ps.length) : cvX ps (k + 1) = cvX ps k + wW ps (ps.length - (k + 1)) := by
  have := upW_step (ps := ps) (i := ps.length - (k + 1)) (by omega)
  unfold cvX
  rw [this, show ps.length - (k + 1) + 1 = ps.length - k by omega]
  omega
theorem cv_inc {ps : Prs} (h : PrsOk ps) : Inc (gL (xsW ps)) (xsW ps).length := fun i hi => by
  rw [xsW_len] at hi
  rw [xsW_at (by omega), xsW_at (by omega), cvX_step (by omega)]
  have := h.at_ (i := ps.length - (i + 1)) (by omega)
  omega
theorem cvX_sz {ps : Prs} (h : PrsOk ps) : ∀ x ∈ xsW ps, Sz 136 x := fun x hx => by
  obtain ⟨k, _, rfl⟩ := List.mem_map.mp hx
  exact upW_sz h (by omega)
theorem cvY_sz1 {ps : Prs} (h : PrsOk ps) (k : Nat) : Sz 269 (cvY ps k) := by
  unfold cvY
  by_cases hk : ps.length - k < ps.length
  · exact ((upW_sz h (Nat.le_of_lt hk)).mul (vW_sz h hk)).mono (by decide)
  · rw [show ps.length - k = ps.length by omega, upW_end, Int.zero_mul]
    exact Nat.pow_pos (by decide)
theorem cvY_sz {ps : Prs} (h : PrsOk ps) : ∀ x ∈ ysW ps, Sz 275 x := fun x hx => by
  obtain ⟨k, _, rfl⟩ := List.mem_map.mp hx
  exact (cvY_sz1 h k).mono (by decide)
theorem cv_len (ps : Prs) : (ysW ps).length = (xsW ps).length := by rw [xsW_len, ysW_len]
theorem HullR.congr {x x' : Nat → Int} {n : Nat} {p p' h : Nat → Rat} (H : HullR x n p h) (hx : ∀ k, k < n → x k = x' k) (hp : ∀ k, k < n → p k = p' k) (n0 : 0 < n) : HullR x' n p' h := by
  refine ⟨fun k hk => ?_, ?_, fun k hk => ?_, fun k hk => ?_, fun k hk => ?_⟩
  · rw [← hp k hk]; exact H.ge k hk
  · rw [← hp 0 n0]; exact H.e0
  · rw [← hp k (by omega)]; exact H.e1 k hk
  · rw [← hx k (by omega), ← hx (k + 1) (by omega), ← hx (k + 2) hk]; exact H.conc k hk
  · rw [← hx k (by omega), ← hx (k + 1) (by omega), ← hx (k + 2) hk, ← hp (k + 1) (by omega)]; exact H.bend k hk
/-- what is known of a buyer's heights -/
structure CvH (ps : Prs) (h : Nat → Rat) : Prop where
  hull : HullR (cvX ps) (ps.length + 1) (fun k => ((cvY ps k : Int) : Rat) / ((wsum ps : Int) : Rat)) h
  qs : ∀ k, k ≤ ps.length → QS 420 (h k)
  ex : ∃ hs, HullQ (gL (xsW ps)) (xsW ps).length (over (wsum ps) (ysW ps)) hs ∧ h = vR hs
theorem cv_heights {ps : Prs} (ok : PrsOk ps) (g : GS) : ∃ h, CvH ps h ∧ F_upper_heights [.lst ((List.range (ps.length + 1)).map (ptE ps))] g = some (.own (((List.range (ps.length + 1)).map fun k => frR (h k)).map .sh), g) := by
  have w0 := wsum_pos ok
  have sw := wsum_sz ok
  have l6 := ok.l6
  have P : PtsH (xsW ps) (wsum ps) := ⟨by rw [xsW_len]; omega, by rw [xsW_len]; omega, cv_inc ok, w0, sw, cvX_sz ok⟩
  have hy : ∀ q ∈ (ptsOf (xsW ps) (ysW ps) (wsum ps) (wsum ps)).map (·.2), Fr q ∧ Sz 140 q.2 ∧ Sz 400 q.1 := fun q hq => by
    rw [pts_snd (cv_len ps)] at hq
    obtain ⟨y, my, rfl⟩ := List.mem_map.mp hq
    have z := rat_szs (n := y) (Int.ne_of_gt w0) ((cvY_sz ok y my).mono (show 275 ≤ 400 by decide)) (sw.mono (by decide))
    exact ⟨z.fr, (rat_den_sz w0 sw).mono (by decide), z.n⟩
  obtain ⟨hs, e, Q⟩ := upper_hull P (S := .lst ((ptsOf (xsW ps) (ysW ps) (wsum ps) (wsum ps)).map encPt)) (g := g) rfl pts_fst hy
  rw [pts_snd (cv_len ps)] at Q
  have n0 : 0 < (xsW ps).length := by rw [xsW_len]; omega
  have R := HullQ.toR n0 (cv_inc ok) w0 (cv_len ps) Q
  have hq := fun k (hk : k < (xsW ps).length) => hull_qs (cv_inc ok) w0 sw (cv_len ps) (cvX_sz ok) (cvY_sz ok) Q hk
  refine ⟨vR hs, ⟨?_, fun k hk => (hq k (by rw [xsW_len]; omega)).2, hs, Q, rfl⟩, ?_⟩
  · rw [xsW_len] at R
    exact R.congr (fun k hk => xsW_at (by omega)) (fun k hk => by rw [ysW_at (by omega)]) (by omega)
  · rw [cv_enc ok] at e
    rw [e]
    have el : hs.map fr = (List.range (ps.length + 1)).map fun k => frR (vR hs k) := by
      refine List.ext_getElem? fun k => ?_
      have lh := Q.lh
      rw [xsW_len] at lh
      by_cases hk : k < ps.length + 1
      · have f := (hq k (by rw [xsW_len]; exact hk)).1
        have hk' : k < hs.length := by omega
        have eg : hs.getD k (0, 1) = hs[k] := by simp [List.getD, List.getElem?_eq_getElem hk']
        rw [eg] at f
        have := fr_ratE f
        simp [hk, List.getElem?_eq_getElem hk', vR, eg, this]
      · rw [List.getElem?_eq_none (by simp; omega), List.getElem?_eq_none (by simp; omega)]
    rw [el]
/-! a buyer's evened worths and lifts -/
theorem CvH.at_ {ps : Prs} {h : Nat → Rat} (ok : PrsOk ps) (C : CvH ps h) (g : GS) : F_upper_heights [.lst ((List.range (ps.length + 1)).map (ptE ps))] g = some (.own (((List.range (ps.length + 1)).map fun k => frR (h k)).map .sh), g) := by
  obtain ⟨h', C', e⟩ := cv_heights ok g
  obtain ⟨hs, Q, rfl⟩ := C.ex
  obtain ⟨hs', Q', rfl⟩ := C'.ex
  rw [HullQ.uniq (cv_inc ok) Q Q']
  exact e
def evR (ps : Prs) (h : Nat → Rat) (i : Nat) : Rat := (h (ps.length - i) - h (ps.length - (i + 1))) * ((wsum ps : Int) : Rat) / ((wW ps i : Int) : Rat)
def liR (ps : Prs) (h : Nat → Rat) (i : Nat) : Rat := h (ps.length - i) - ((cvY ps (ps.length - i) : Int) : Rat) / ((wsum ps : Int) : Rat)
theorem rngAt {α : Type} (f : Nat → α) {n k : Nat} (hk : k < n) : ((List.range n).map f)[k]? = some (f k) := by
  rw [List.getElem?_map, List.getElem?_range hk]; rfl
theorem evened_core {ps : Prs} {h : Nat → Rat} (ok : PrsOk ps) (C : CvH ps h) {i : Nat} (hi : i < ps.length) : ∃ (k : Nat) (q1 : QS 273 (((wW ps i : Int) : Rat) / ((wsum ps : Int) : Rat))),
    (((cvX ps (ps.length - i) : Int) : Rat) / ((wsum ps : Int) : Rat)) - (((cvX ps (ps.length - (i + 1)) : Int) : Rat) / ((wsum ps : Int) : Rat)) = ((wW ps i : Int) : Rat) / ((wsum ps : Int) : Rat) ∧
    ((wW ps i : Int) : Rat) / ((wsum ps : Int) : Rat) ≠ 0 ∧
    (h (ps.length - i) - h (ps.length - (i + 1))) / (((wW ps i : Int) : Rat) / ((wsum ps : Int) : Rat)) = evR ps h i := by
  have w0 := wsum_pos ok
  have w1 : 0 < wW ps i := by have := ok.at_ hi; omega
  have r0 := cast_pos w0
  have r1 := cast_pos w1
  refine ⟨0, (QS.frac w0 ((wW_sz ok hi).mono (by decide)) ((wsum_sz ok).mono (by decide))), ?_, by grind, by unfold evR; grind⟩
  have s := cvX_step (ps := ps) (k := ps.length - (i + 1)) (by omega)
  rw [show ps.length - (i + 1) + 1 = ps.length - i by omega, show ps.length - (ps.length - i) = i by omega] at s
  rw [s]
  push_cast
  grind
theorem evR_qs {ps : Prs} {h : Nat → Rat} (ok : PrsOk ps) (C : CvH ps h) {i : Nat} (hi : i < ps.length) : QS 1200 (evR ps h i) := by
  obtain ⟨k, q1, e1, ne, e2⟩ := evened_core ok C hi
  rw [← e2]
  exact (((C.qs _ (Nat.sub_le _ _)).sub (C.qs _ (Nat.sub_le _ _))).dvd q1 ne).mono (by decide)
theorem evened_eq {bs : List Prs} (H : BkOk bs) {b : Nat} {ps : Prs} {h : Nat → Rat} {g : GS} (hb : bs[b]? = some ps) (C : CvH ps h) : F_evened_worths [bkS bs, .int b] g = some (.own (((List.range ps.length).map fun i => frR (evR ps h i)).map .sh), g) := by
  have ok := H.ok ps (List.mem_of_getElem? hb)
  have l6 := ok.l6
  have w0 := wsum_pos ok
  have ec := curve_eq H (g := g) hb
  have eh := C.at_ ok g
  obtain ⟨ρ', g', e, rfl, x5, x6, rfl⟩ := loop_inv (gf := gN 5) (sb := L_evened_worths_1) (fun (i : Nat) => SV.int (((ps.length : Nat) : Int) - (i : Int)))
    (fun i ρ g' => g' = g ∧ ∃ x5 x6, ρ = [some (.sh (bkS bs)), some (.sh (.int b)), some (.sh (.lst ((List.range (ps.length + 1)).map (ptE ps)))), some (.sh (.lst ((List.range (ps.length + 1)).map fun k => frR (h k)))), some (.own (((List.range i).map fun i => frR (evR ps h i)).map .sh)), x5, x6]) (List.range ps.length)
    [some (.sh (bkS bs)), some (.sh (.int b)), some (.sh (.lst ((List.range (ps.length + 1)).map (ptE ps)))), some (.sh (.lst ((List.range (ps.length + 1)).map fun k => frR (h k)))), some (.own (((List.range 0).map fun i => frR (evR ps h i)).map .sh)), none, none] g 0 ⟨rfl, none, none, rfl⟩ (fun i x ρ g' hx hI => by
      obtain ⟨rfl, x5, x6, rfl⟩ := hI
      rw [Nat.zero_add]
      obtain ⟨hi, e⟩ := List.getElem?_eq_some_iff.mp hx
      rw [List.getElem_range] at e
      subst e
      rw [List.length_range] at hi
      have ei : ((ps.length : Nat) : Int) - (i : Int) = ((ps.length - i : Nat) : Int) := by omega
      have ei1 : ((ps.length - i : Nat) : Int) - 1 = ((ps.length - (i + 1) : Nat) : Int) := by omega
      rw [ei]
      have a1 := rngAt (ptE ps) (show ps.length - i < ps.length + 1 by omega)
      have a2 := rngAt (ptE ps) (show ps.length - (i + 1) < ps.length + 1 by omega)
      have b1 := rngAt (fun k => frR (h k)) (show ps.length - i < ps.length + 1 by omega)
      have b2_ := rngAt (fun k => frR (h k)) (show ps.length - (i + 1) < ps.length + 1 by omega)
      obtain ⟨_, q1, em, ne, ee⟩ := evened_core ok C hi
      have x1 := QS.frac w0 (upW_sz ok (show ps.length - (ps.length - i) ≤ ps.length by omega)) (wsum_sz ok)
      have x2 := QS.frac w0 (upW_sz ok (show ps.length - (ps.length - (i + 1)) ≤ ps.length by omega)) (wsum_sz ok)
      have e1 := sub_eqR (g := g') x1 x2 (by decide)
      have em' := em
      unfold cvX at em'
      rw [em'] at e1
      have h1 := C.qs _ (Nat.sub_le ps.length i)
      have h2 := C.qs _ (Nat.sub_le ps.length (i + 1))
      have e2 := sub_eqR (g := g') h1 h2 (by decide)
      have e3 := div_eqR (g := g') (h1.sub h2) q1 ne (by decide)
      rw [ee] at e3
      have hL : lenOk (((List.range i).map fun i => frR (evR ps h i)).map DV.sh).length = true := lenOk_of (by rw [List.length_map, List.length_map, List.length_range]; omega)
      refine ⟨_, _, ?_, rfl, some (.sh (.int ((ps.length - i : Nat) : Int))), some (.sh (frR (((wW ps i : Int) : Rat) / ((wsum ps : Int) : Rat)))), rfl⟩
      rw [range_snoc (fun i => frR (evR ps h i)) i, List.map_append]
      clear em em' ee ne q1 x1 x2 h1 h2
      unfold ptE cvX at *
      generalize ((List.range i).map fun i => frR (evR ps h i)).map DV.sh = L at *
      generalize frR (evR ps h i) = E at *
      generalize frR (((wW ps i : Int) : Rat) / ((wsum ps : Int) : Rat)) = A at *
      generalize frR (((upW ps (ps.length - (ps.length - i)) : Int) : Rat) / ((wsum ps : Int) : Rat)) = X1 at *
      generalize frR (((upW ps (ps.length - (ps.length - (i + 1))) : Int) : Rat) / ((wsum ps : Int) : Rat)) = X2 at *
      generalize frR (h (ps.length - i) - h (ps.length - (i + 1))) = D at *
      generalize frR (h (ps.length - i)) = H1 at *
      generalize frR (h (ps.length - (i + 1))) = H2 at *
      generalize ((List.range (ps.length + 1)).map fun k => SV.tup _) = P at *
      generalize (List.range (ps.length + 1)).map (fun k => frR (h k)) = Q at *
      generalize ps.length - (i + 1) = k2 at *
      generalize ps.length - i = k1 at *
      simp [ei1, a1, a2, b1, b2_, e1, e2, e3, hL])
  rw [Nat.zero_add, List.length_range] at e
  have r1 : rngOk (((ps.length : Nat) : Int)) = true := rngOk_of (by omega)
  have r2 : rngOk 0 = true := by decide +kernel
  have r3 : ((ps.length : Nat) : Int).toNat = ps.length := by omega
  have eS : ((List.range 0).map fun i => frR (evR ps h i)).map DV.sh = [] := rfl
  rw [eS] at e
  rw [← dwn_map] at e
  have ql : (((List.range (ps.length + 1)).map (ptE ps)).length : Int) - 1 = (ps.length : Nat) := by rw [List.length_map, List.length_range]; omega
  generalize (List.range ps.length).map (fun i => frR (evR ps h i)) = L at *
  generalize (List.range (ps.length + 1)).map (fun k => frR (h k)) = Q at *
  generalize (List.range (ps.length + 1)).map (ptE ps) = P at *
  generalize ((ps.length : Nat) : Int) = nn at *
  generalize bkS bs = B at *
  simp [F_evened_worths, B_evened_worths, ec, eh, ql, r1, r2, r3, e]
/-! lifts, the table, and what the evened worths are -/
theorem lifts_eq {bs : List Prs} (H : BkOk bs) {b : Nat} {ps : Prs} {h : Nat → Rat} {g : GS} (hb : bs[b]? = some ps) (C : CvH ps h) : F_lifts [bkS bs, .int b] g = some (.own (((List.range ps.length).map fun i => frR (liR ps h i)).map .sh), g) := by
  have ok := H.ok ps (List.mem_of_getElem? hb)
  have l6 := ok.l6
  have w0 := wsum_pos ok
  have ec := curve_eq H (g := g) hb
  have eh := C.at_ ok g
  have cm := comp_map (β := Int) (wf := wN 4) (f := callF F_sub (aC (b2 hIx (vS 3) (vS 4)) (aC (b2 hIx (b2 hIx (vS 2) (vS 4)) (kS (.int 1))) (aN))))
    (ρ := [some (.sh (bkS bs)), some (.sh (.int b)), some (.sh (.lst ((List.range (ps.length + 1)).map (ptE ps)))), some (.sh (.lst ((List.range (ps.length + 1)).map fun k => frR (h k)))), none])
    (fun (i : Nat) => SV.int (((ps.length : Nat) : Int) - (i : Int))) (fun i => DV.sh (frR (liR ps h i))) (List.range ps.length) g (fun i hi g => by
      have hi := List.mem_range.mp hi
      have ei : ((ps.length : Nat) : Int) - (i : Int) = ((ps.length - i : Nat) : Int) := by omega
      rw [ei]
      have a1 := rngAt (ptE ps) (show ps.length - i < ps.length + 1 by omega)
      have b1 := rngAt (fun k => frR (h k)) (show ps.length - i < ps.length + 1 by omega)
      have h1 := C.qs _ (Nat.sub_le ps.length i)
      have y1 := QS.frac w0 ((cvY_sz1 ok (ps.length - i)).mono (by decide : 269 ≤ 275)) ((wsum_sz ok).mono (by decide))
      have e1 := sub_eqR (g := g) h1 y1 (by decide)
      have eE : h (ps.length - i) - ((cvY ps (ps.length - i) : Int) : Rat) / ((wsum ps : Int) : Rat) = liR ps h i := rfl
      rw [eE] at e1
      clear eE h1 y1
      unfold ptE at *
      generalize frR (liR ps h i) = E at *
      generalize frR (((cvY ps (ps.length - i) : Int) : Rat) / ((wsum ps : Int) : Rat)) = Y at *
      generalize frR (h (ps.length - i)) = H1 at *
      generalize ((List.range (ps.length + 1)).map fun k => SV.tup _) = P at *
      generalize (List.range (ps.length + 1)).map (fun k => frR (h k)) = Q at *
      generalize ps.length - i = k1 at *
      simp [a1, b1, e1])
  have er : ((List.range ps.length).map fun i => DV.sh (frR (liR ps h i))) = ((List.range ps.length).map fun i => frR (liR ps h i)).map .sh := by rw [List.map_map]; rfl
  rw [er, ← dwn_map] at cm
  have r1 : rngOk (((ps.length : Nat) : Int)) = true := rngOk_of (by omega)
  have r2 : rngOk 0 = true := by decide +kernel
  have r3 : ((ps.length : Nat) : Int).toNat = ps.length := by omega
  have hL : lenOk (dwnL (ps.length : Nat) ps.length).length = true := lenOk_of (by rw [dwn_map, List.length_map, List.length_range]; omega)
  have ql : (((List.range (ps.length + 1)).map (ptE ps)).length : Int) - 1 = (ps.length : Nat) := by rw [List.length_map, List.length_range]; omega
  generalize (List.range ps.length).map (fun i => frR (liR ps h i)) = L at *
  generalize (List.range (ps.length + 1)).map (fun k => frR (h k)) = Q at *
  generalize (List.range (ps.length + 1)).map (ptE ps) = P at *
  generalize ((ps.length : Nat) : Int) = nn at *
  generalize bkS bs = B at *
  simp [F_lifts, B_lifts, ec, eh, ql, r1, r2, r3, hL, cm]
/-- the evened worths are the isotonic means of the seller's worths -/
theorem evened_iso {ps : Prs} {h : Nat → Rat} (ok : PrsOk ps) (C : CvH ps h) : Iso ps.length (fun i => ((wW ps i : Int) : Rat)) (slR ps) (evR ps h) := by
  have w0 := wsum_pos ok
  have r0 := cast_pos w0
  have wp : ∀ i, i < ps.length → (0 : Rat) < ((wW ps i : Int) : Rat) := fun i hi => cast_pos (by have := ok.at_ hi; omega)
  have P : ∀ k, k ≤ ps.length → rsum (fun i => ((wW ps i : Int) : Rat) * (slR ps i - evR ps h i)) k = (((cvY ps ps.length : Int) : Rat) - ((wsum ps : Int) : Rat) * h ps.length) - (((cvY ps (ps.length - k) : Int) : Rat) - ((wsum ps : Int) : Rat) * h (ps.length - k)) := by
    intro k
    induction k with
    | zero => intro _; show (0 : Rat) = _; rw [Nat.sub_zero]; grind
    | succ k ih =>
      intro hk
      show rsum _ k + ((wW ps k : Int) : Rat) * (slR ps k - evR ps h k) = _
      rw [ih (by omega)]
      have w1 := wp k (by omega)
      have es : ((wW ps k : Int) : Rat) * slR ps k = ((slI ps k : Int) : Rat) := by unfold slR; grind
      have ee : ((wW ps k : Int) : Rat) * evR ps h k = (h (ps.length - k) - h (ps.length - (k + 1))) * ((wsum ps : Int) : Rat) := by unfold evR; grind
      have ei : slI ps k = cvY ps (ps.length - k) - cvY ps (ps.length - (k + 1)) := by
        unfold slI cvY
        rw [show ps.length - (ps.length - k) = k by omega, show ps.length - (ps.length - (k + 1)) = k + 1 by omega]
      rw [ei] at es
      push_cast at es
      grind
  have hn := C.hull.e1 ps.length rfl
  have h0 := C.hull.e0
  have y0 : cvY ps 0 = 0 := by unfold cvY; rw [Nat.sub_zero, upW_end, Int.zero_mul]
  have hn' : ((cvY ps ps.length : Int) : Rat) - ((wsum ps : Int) : Rat) * h ps.length = 0 := by rw [hn]; grind
  have ev : ∀ i, i + 1 < ps.length → ∀ a b c : Rat, a = h (ps.length - i) → b = h (ps.length - (i + 1)) → c = h (ps.length - (i + 2)) → (evR ps h i ≤ evR ps h (i + 1) ↔ (a - b) * ((wW ps (i + 1) : Int) : Rat) ≤ (b - c) * ((wW ps i : Int) : Rat)) ∧ (evR ps h i < evR ps h (i + 1) ↔ (a - b) * ((wW ps (i + 1) : Int) : Rat) < (b - c) * ((wW ps i : Int) : Rat)) := fun i hi a b c ha hb hc => by
    have p1 := wp i (by omega)
    have p2 := wp (i + 1) hi
    have e1 : evR ps h i = (a - b) * ((wsum ps : Int) : Rat) / ((wW ps i : Int) : Rat) := by unfold evR; rw [ha, hb]
    have e2 : evR ps h (i + 1) = (b - c) * ((wsum ps : Int) : Rat) / ((wW ps (i + 1) : Int) : Rat) := by unfold evR; rw [hb, hc]
    have m1 : evR ps h i * (((wW ps i : Int) : Rat) * ((wW ps (i + 1) : Int) : Rat)) = (a - b) * ((wW ps (i + 1) : Int) : Rat) * ((wsum ps : Int) : Rat) := by rw [e1]; grind
    have m2 : evR ps h (i + 1) * (((wW ps i : Int) : Rat) * ((wW ps (i + 1) : Int) : Rat)) = (b - c) * ((wW ps i : Int) : Rat) * ((wsum ps : Int) : Rat) := by rw [e2]; grind
    have pp := Rat.mul_pos p1 p2
    refine ⟨⟨fun hh => ?_, fun hh => ?_⟩, ⟨fun hh => ?_, fun hh => ?_⟩⟩
    · have := Rat.mul_le_mul_of_nonneg_right hh (Rat.le_of_lt pp)
      rw [m1, m2] at this
      exact Rat.le_of_mul_le_mul_right this r0
    · refine Rat.le_of_mul_le_mul_right (c := ((wW ps i : Int) : Rat) * ((wW ps (i + 1) : Int) : Rat)) ?_ pp
      rw [m1, m2]
      exact Rat.mul_le_mul_of_nonneg_right hh (Rat.le_of_lt r0)
    · have := Rat.mul_lt_mul_of_pos_right hh pp
      rw [m1, m2] at this
      exact Rat.lt_of_mul_lt_mul_right this (Rat.le_of_lt r0)
    · refine Rat.lt_of_mul_lt_mul_right (c := ((wW ps i : Int) : Rat) * ((wW ps (i + 1) : Int) : Rat)) ?_ (Rat.le_of_lt pp)
      rw [m1, m2]
      exact Rat.mul_lt_mul_of_pos_right hh r0
  have st : ∀ i, i + 1 < ps.length → ∃ k, k + 2 < ps.length + 1 ∧ ps.length - i = k + 2 ∧ ps.length - (i + 1) = k + 1 ∧ ps.length - (i + 2) = k ∧ cvX ps (k + 1) - cvX ps k = wW ps (i + 1) ∧ cvX ps (k + 2) - cvX ps (k + 1) = wW ps i := fun i hi => by
    refine ⟨ps.length - (i + 2), by omega, by omega, by omega, rfl, ?_, ?_⟩
    · rw [cvX_step (by omega), show ps.length - (ps.length - (i + 2) + 1) = i + 1 by omega]; omega
    · rw [cvX_step (k := ps.length - (i + 2) + 1) (by omega), show ps.length - (ps.length - (i + 2) + 1 + 1) = i by omega]; omega
  refine ⟨fun i hi => ?_, fun k hk => ?_, ?_, fun i hi hlt => ?_⟩
  · obtain ⟨k, k1, k2, k3, k4, k5, k6⟩ := st i hi
    refine (ev i hi _ _ _ rfl rfl rfl).1.mpr ?_
    have c := C.hull.conc k k1
    rw [k5, k6] at c
    rw [k2, k3, k4]
    exact c
  · rw [P k hk, hn']
    have g := C.hull.ge (ps.length - k) (by omega)
    have g2 := Rat.mul_le_mul_of_nonneg_right g (Rat.le_of_lt r0)
    have e : ((cvY ps (ps.length - k) : Int) : Rat) / ((wsum ps : Int) : Rat) * ((wsum ps : Int) : Rat) = ((cvY ps (ps.length - k) : Int) : Rat) := by grind
    rw [e] at g2
    grind
  · rw [P _ (Nat.le_refl _), hn', Nat.sub_self, h0, y0]
    push_cast
    grind
  · obtain ⟨k, k1, k2, k3, k4, k5, k6⟩ := st i hi
    have s := (ev i hi _ _ _ rfl rfl rfl).2.mp hlt
    rw [k2, k3, k4] at s
    have b := C.hull.bend k k1 (by rw [k5, k6]; exact s)
    rw [P _ (by omega), hn', k3, b]
    grind
/-! k22: lists of fractions, over one denominator, the seller's numbers -/
theorem same_eqR {q : Rat} {n d : Int} {k l : Nat} {g : GS} (hq : QS k q) (hk : k ≤ 2700) (hn : Sz l n) (hd : Sz l d) (hl : l ≤ 60000000) (e : q * (d : Rat) = (n : Rat)) : F_law_same [frR q, .int n, .int d] g = some (.sh (.bl true), g) := by
  rw [frR_fr]
  refine same_eq hq.frs hk hn hd hl ?_
  have h := num_div_den q
  have d0 := den_ne0 q
  have d1 : ((q.den : Int) : Rat) ≠ 0 := by simpa using d0
  have er : ((q.num : Int) : Rat) * ((d : Int) : Rat) = ((n : Int) : Rat) * ((q.den : Int) : Rat) := by
    conv at e => lhs; rw [← h]
    grind
  exact_mod_cast er
abbrev tlR (n : Nat) (m : Nat → Rat) : List SV := (List.range n).map fun i => frR (m i)
theorem tlR_len (n : Nat) (m : Nat → Rat) : (tlR n m).length = n := by simp
theorem is_list_eq {n k : Nat} {m : Nat → Rat} (hk : k ≤ 2700) (hq : ∀ i, i < n → QS k (m i)) {g : GS} : F_law_is_list [.lst (tlR n m), .int n] g = some (.sh (.bl true), g) := by
  obtain ⟨ρ', g', e, rfl, x2, rfl⟩ := loop_inv (gf := gN 2) (sb := L_law_is_list_1) (fun i => frR (m i))
    (fun i ρ g' => g' = g ∧ ∃ x2, ρ = [some (.sh (.lst (tlR n m))), some (.sh (.int n)), x2]) (List.range n) [some (.sh (.lst (tlR n m))), some (.sh (.int n)), none] g 0 ⟨rfl, none, rfl⟩ (fun i x ρ g' hx hI => by
      obtain ⟨rfl, x2, rfl⟩ := hI
      obtain ⟨hi, e⟩ := List.getElem?_eq_some_iff.mp hx
      rw [List.getElem_range] at e
      subst e
      rw [List.length_range] at hi
      have q := hq i hi
      have e1 := same_eqR (q := m i) (n := (m i).num) (d := ((m i).den : Nat)) (g := g') q hk q.n q.d (by omega) (by
        have h := num_div_den (m i)
        have d0 := den_ne0 (m i)
        conv => lhs; lhs; rw [← h]
        push_cast
        grind)
      refine ⟨_, _, ?_, rfl, some (.sh (frR (m i))), rfl⟩
      generalize tlR n m = A at *
      unfold frR at *
      simp [e1])
  have ql : (((tlR n m).length : Nat) : Int) = (n : Nat) := by rw [tlR_len]
  have e' : loopD (gN 2) L_law_is_list_1 (tlR n m) [some (.sh (.lst (tlR n m))), some (.sh (.int n)), none] g' = some (.nx [some (.sh (.lst (tlR n m))), some (.sh (.int n)), x2] g') := e
  clear e
  generalize tlR n m = A at *
  generalize ((n : Nat) : Int) = nn at *
  simp [F_law_is_list, B_law_is_list, ql, e']
/-- what the fractions are over one denominator -/
structure Scl (n : Nat) (m : Nat → Rat) (N : Nat → Int) (c : Int) (K : Nat) : Prop where
  c0 : 0 < c
  cs : Sz K c
  ns : ∀ i, i < n → Sz K (N i)
  eq : ∀ i, i < n → ((N i : Int) : Rat) = m i * ((c : Int) : Rat)
theorem lcm_quo (a b : Nat) : a / Nat.gcd a b * b = Nat.lcm a b := by
  unfold Nat.lcm
  rw [Nat.div_mul_right_comm (Nat.gcd_dvd_left a b)]
theorem scl_eq {n k : Nat} {m : Nat → Rat} (h0 : 0 < k) (hn : n ≤ 900) (hk : k ≤ 2700) (hK : n * k + 1 ≤ 8000) (hq : ∀ i, i < n → QS k (m i)) {g : GS} :
    ∃ N c, F_law_scaled [.lst (tlR n m)] g = some (.tup [.own (((List.range n).map fun i => SV.int (N i)).map .sh), .sh (.int c)], g) ∧ Scl n m N c (n * k + 1 + k) := by
  obtain ⟨ρ', g', e, rfl, x2, c, rfl, c0, cs, cd⟩ := loop_inv (gf := gN 2) (sb := L_law_scaled_1) (fun i => frR (m i))
    (fun i ρ g' => g' = g ∧ ∃ x2, ∃ c : Nat, ρ = [some (.sh (.lst (tlR n m))), some (.sh (.int c)), x2] ∧ 0 < c ∧ c < 2 ^ (i * k + 1) ∧ ∀ j, j < i → (m j).den ∣ c) (List.range n) [some (.sh (.lst (tlR n m))), some (.sh (.int ((1 : Nat) : Int))), none] g 0 ⟨rfl, none, 1, rfl, by decide, by rw [Nat.zero_mul]; decide, fun j hj => by omega⟩ (fun i x ρ g' hx hI => by
      obtain ⟨rfl, x2, c, rfl, c0, cs, cd⟩ := hI
      rw [Nat.zero_add] at *
      obtain ⟨hi, e⟩ := List.getElem?_eq_some_iff.mp hx
      rw [List.getElem_range] at e
      subst e
      rw [List.length_range] at hi
      have q := hq i hi
      have dp := (m i).den_pos
      have hg := law_gcd_eq (a := (c : Int)) (b := ((m i).den : Int)) (g := g') (q.d.mono hk)
      rw [Int.natAbs_natCast, Int.natAbs_natCast] at hg
      have hg0 : 0 < Nat.gcd c (m i).den := Nat.gcd_pos_of_pos_right _ dp
      have gle : Nat.gcd c (m i).den ≤ (m i).den := Nat.gcd_le_right _ dp
      have hd : divOk (c : Int) ((Nat.gcd c (m i).den : Nat) : Int) = true := divOk_of (k := k) (by omega) (by have := q.d; unfold Sz at *; omega) (by omega)
      have hik : i * k + 1 ≤ n * k + 1 := by have := Nat.mul_le_mul_right k (Nat.le_of_lt hi); omega
      have cS : Sz 8000 (c : Int) := by
        unfold Sz
        rw [Int.natAbs_natCast]
        exact Nat.lt_of_lt_of_le cs (Nat.pow_le_pow_right (by decide) (by omega))
      have cq : Sz 8000 (((c / Nat.gcd c (m i).den : Nat)) : Int) := by
        have := Nat.div_le_self c (Nat.gcd c (m i).den)
        unfold Sz at *
        rw [Int.natAbs_natCast] at *
        omega
      have mo : mulOk (((c / Nat.gcd c (m i).den : Nat)) : Int) ((m i).den : Int) = true := mulOk_of cq q.d (by decide) (by omega)
      have ee : (((c / Nat.gcd c (m i).den : Nat)) : Int) * ((m i).den : Int) = ((Nat.lcm c (m i).den : Nat) : Int) := by
        rw [← lcm_quo]; push_cast; rfl
      have ed : (c : Int) / ((Nat.gcd c (m i).den : Nat) : Int) = ((c / Nat.gcd c (m i).den : Nat) : Int) := by push_cast; rfl
      refine ⟨_, _, ?_, rfl, some (.sh (frR (m i))), Nat.lcm c (m i).den, rfl, Nat.lcm_pos c0 dp, ?_, fun j hj => ?_⟩
      · rw [← ed] at ee mo
        unfold frR
        generalize ((Nat.lcm c (m i).den : Nat) : Int) = LC at *
        generalize ((Nat.gcd c (m i).den : Nat) : Int) = G at *
        generalize ((m i).den : Int) = dd at *
        generalize (m i).num = nn at *
        generalize tlR n m = A at *
        clear ed cq cS
        generalize (c : Int) = cc at *
        simp [hg, hd, mo, ee]
      · have h1 : Nat.lcm c (m i).den ≤ c * (m i).den := Nat.le_of_dvd (Nat.mul_pos c0 dp) (by unfold Nat.lcm; exact Nat.div_dvd_of_dvd (Nat.dvd_trans (Nat.gcd_dvd_left _ _) (Nat.dvd_mul_right _ _)))
        have h2 : (m i).den < 2 ^ k := by have := q.d; unfold Sz at this; rwa [Int.natAbs_natCast] at this
        have h3 := Nat.mul_lt_mul'' cs h2
        rw [show (i + 1) * k + 1 = i * k + 1 + k by rw [Nat.succ_mul]; omega, Nat.pow_add]
        omega
      · by_cases hj' : j = i
        · subst hj'; exact Nat.dvd_lcm_right _ _
        · exact Nat.dvd_trans (cd j (by omega)) (Nat.dvd_lcm_left _ _))
  rw [Nat.zero_add, List.length_range] at *
  have qn : ∀ i, i < n → ((m i).num * ((c / (m i).den : Nat) : Int) : Int) = (m i).num * ((c / (m i).den : Nat) : Int) := fun _ _ => rfl
  have cS : Sz (n * k + 1) (c : Int) := by unfold Sz; rw [Int.natAbs_natCast]; exact cs
  have cqs : ∀ i, Sz (n * k + 1) ((c / (m i).den : Nat) : Int) := fun i => by
    have := Nat.div_le_self c (m i).den
    unfold Sz at *
    rw [Int.natAbs_natCast] at *
    omega
  refine ⟨fun i => (m i).num * ((c / (m i).den : Nat) : Int), c, ?_, by omega, cS.mono (by omega), fun i hi => (((hq i hi).n.mul (cqs i)).mono (by omega)), fun i hi => ?_⟩
  · have ec := comp_map (β := Int) (wf := wN 2) (f := oS (b2 hMul (b2 hIx (vS 2) (kS (.int 0))) (b2 hDiv (vS 1) (b2 hIx (vS 2) (kS (.int 1)))))) (ρ := [some (.sh (.lst (tlR n m))), some (.sh (.int c)), none]) (fun i => frR (m i)) (fun i => DV.sh (.int ((m i).num * ((c / (m i).den : Nat) : Int)))) (List.range n) g' (fun i hi g => by
      have hi := List.mem_range.mp hi
      have q := hq i hi
      have hd : divOk (c : Int) ((m i).den : Int) = true := divOk_of (k := k) (by have := (m i).den_pos; omega) q.d (by omega)
      have ed : (c : Int) / ((m i).den : Int) = ((c / (m i).den : Nat) : Int) := by push_cast; rfl
      have mo : mulOk (m i).num ((c / (m i).den : Nat) : Int) = true := mulOk_of q.n (cqs i) (by omega) (by omega)
      rw [← ed] at mo ⊢
      unfold frR
      generalize tlR n m = A at *
      generalize ((m i).den : Int) = dd at *
      generalize (m i).num = nn at *
      clear ed
      generalize (c : Int) = cc at *
      simp [hd, mo])
    have el : (List.range n).map (fun i => DV.sh (.int ((m i).num * ((c / (m i).den : Nat) : Int)))) = ((List.range n).map fun i => SV.int ((m i).num * ((c / (m i).den : Nat) : Int))).map .sh := by rw [List.map_map]; rfl
    rw [el] at ec
    have lO : lenOk (tlR n m).length = true := lenOk_of (by rw [tlR_len]; omega)
    have e' : loopD (gN 2) L_law_scaled_1 (tlR n m) [some (.sh (.lst (tlR n m))), some (.sh (.int 1)), none] g' = some (.nx [some (.sh (.lst (tlR n m))), some (.sh (.int c)), x2] g') := e
    have ec' : compL (wN 2) yesT (oS (b2 hMul (b2 hIx (vS 2) (kS (.int 0))) (b2 hDiv (vS 1) (b2 hIx (vS 2) (kS (.int 1)))))) [some (.sh (.lst (tlR n m))), some (.sh (.int c)), none] (tlR n m) g' = some (((List.range n).map fun i => SV.int ((m i).num * ((c / (m i).den : Nat) : Int))).map .sh, g') := ec
    clear e ec el
    generalize ((List.range n).map fun i => SV.int ((m i).num * ((c / (m i).den : Nat) : Int))).map DV.sh = R at *
    generalize tlR n m = A at *
    simp [F_law_scaled, B_law_scaled, e', lO, ec']
  · have hh := num_div_den (m i)
    obtain ⟨t, ht⟩ := cd i hi
    have dp := (m i).den_pos
    have et : c / (m i).den = t := by rw [ht]; exact Nat.mul_div_cancel_left t dp
    rw [et]
    have d0 := den_ne0 (m i)
    have ec : (((c : Nat) : Int) : Rat) = ((m i).den : Rat) * (t : Rat) := by rw [ht]; push_cast; rfl
    rw [ec]
    push_cast
    conv => rhs; lhs; rw [← hh]
    push_cast
    grind
/-! k22: the seller's numbers; what lifts and evened worths are to each other -/
theorem sum_wts (ps : Prs) : ((ps.map fun p => SV.int p.2) : List SV) = (ps.map (·.2)).map SV.int := by rw [List.map_map]; rfl
theorem slI_at {ps : Prs} {i : Nat} (hi : i < ps.length) : slI ps i = vW ps i * wW ps i - (if i + 1 < ps.length then (vW ps (i + 1) - vW ps i) * upW ps (i + 1) else 0) := by
  have st := upW_step hi
  unfold slI
  rw [st]
  split
  · grind
  · have e : upW ps (i + 1) = 0 := by rw [show i + 1 = ps.length by omega, upW_end]
    rw [e]; grind
theorem wts_comp {ps : Prs} (k : Nat) {g : GS} {ρ : Env} (h : ∀ (p : Int × Int) g, ((wN k (prS p) ρ).bind fun ρ' => oS (b2 hIx (vS k) (kS (.int 1))) ρ' g) = some (.sh (.int p.2), g)) : compL (wN k) yesT (oS (b2 hIx (vS k) (kS (.int 1)))) ρ (ps.map prS) g = some ((((ps.map (·.2)).map SV.int).map .sh), g) := by
  have := comp_map (β := Int) (wf := wN k) (f := oS (b2 hIx (vS k) (kS (.int 1)))) (ρ := ρ) prS (fun p => DV.sh (.int p.2)) ps g (fun p _ g' => h p g')
  rw [this, List.map_map, List.map_map]
  rfl
theorem seller22 {ps : Prs} (ok : PrsOk ps) {g : GS} : F_law_seller [.lst (ps.map prS)] g = some (.own (((List.range ps.length).map fun i => SV.int (slI ps i)).map .sh), g) := by
  have l6 := ok.l6
  obtain ⟨ρ', g', e, rfl, x3, x4, rfl⟩ := loop_rng (gf := gN 3) (sb := L_law_seller_1) (lo := 0) (n := ps.length)
    (fun i ρ g' => g' = g ∧ ∃ x3 x4, ρ = [some (.sh (.lst (ps.map prS))), some (.own (((List.range i).map fun i => SV.int (slI ps i)).map .sh)), some (.sh (.int (upW ps i))), x3, x4, none])
    (ρ := [some (.sh (.lst (ps.map prS))), some (.own (((List.range 0).map fun i => SV.int (slI ps i)).map .sh)), some (.sh (.int (upW ps 0))), none, none, none]) (g := g) ⟨rfl, none, none, rfl⟩ (fun i ρ g' hi hI => by
      obtain ⟨rfl, x3, x4, rfl⟩ := hI
      have ei : (0 : Int) + (i : Nat) = i := by omega
      have ei1 : ((i : Nat) : Int) + 1 = ((i + 1 : Nat) : Int) := by omega
      rw [ei]
      have p0 := bk_pr hi
      have st := upW_step hi
      have hL : lenOk (((List.range i).map fun i => SV.int (slI ps i)).map DV.sh).length = true := lenOk_of (by rw [List.length_map, List.length_map, List.length_range]; omega)
      have m1 : mulOk (vW ps i) (wW ps i) = true := mulOk_of (vW_sz ok hi) (wW_sz ok hi) (by decide) (by decide)
      have su : upW ps i - wW ps i = upW ps (i + 1) := by omega
      have es := slI_at hi
      refine ⟨_, _, ?_, rfl, some (.sh (.int i)), some (.sh (.int (if i + 1 < ps.length then (vW ps (i + 1) - vW ps i) * upW ps (i + 1) else 0))), rfl⟩
      rw [range_snoc (fun i => SV.int (slI ps i)) i, List.map_append]
      have ql : (((ps.map prS).length : Nat) : Int) = (ps.length : Nat) := by rw [List.length_map]
      by_cases h2 : i + 1 < ps.length
      · have p1 := bk_pr h2
        have m2 : mulOk (vW ps (i + 1) - vW ps i) (upW ps (i + 1)) = true := mulOk_of ((vW_sz ok h2).sub (vW_sz ok hi)) (upW_sz ok (Nat.le_of_lt h2)) (by decide) (by decide)
        rw [if_pos h2] at es ⊢
        have lt : ((i : Nat) : Int) + 1 < ((ps.length : Nat) : Int) := by omega
        have p1 := L2.atI_nat p1
        rw [← ei1] at p1
        generalize ((List.range i).map fun i => SV.int (slI ps i)).map DV.sh = L at *
        generalize slI ps i = S at *
        subst es
        generalize ps.map prS = P at *
        generalize ((ps.length : Nat) : Int) = nn at *
        clear ei1
        simp [p0, p1, su, ql, lt, m1, m2, hL]
      · rw [if_neg h2] at es ⊢
        have lt : ¬ ((i : Nat) : Int) + 1 < ((ps.length : Nat) : Int) := by omega
        clear ei1
        generalize ((List.range i).map fun i => SV.int (slI ps i)).map DV.sh = L at *
        generalize slI ps i = S at *
        subst es
        generalize ps.map prS = P at *
        generalize ((ps.length : Nat) : Int) = nn at *
        simp [p0, su, ql, lt, m1, hL])
  have ec := wts_comp (ps := ps) 5 (g := g') (ρ := [some (.sh (.lst (ps.map prS))), some (.own []), none, none, none, none]) (fun p g => by simp [prS])
  have lO : lenOk (ps.map prS).length = true := lenOk_of (by rw [List.length_map]; omega)
  have r1 : rngOk ((ps.length : Nat) : Int) = true := rngOk_of (by omega)
  have ql : (((ps.map prS).length : Nat) : Int) = (ps.length : Nat) := by rw [List.length_map]
  have ef := ev_frzo ((ps.map (·.2)).map SV.int)
  have ei := ev_intl (ps.map (·.2))
  have ew : (ps.map (·.2)).sum = upW ps 0 := rfl
  have e0 : ((List.range 0).map fun i => SV.int (slI ps i)).map DV.sh = [] := rfl
  rw [e0] at e
  generalize ((List.range ps.length).map fun i => SV.int (slI ps i)).map DV.sh = R at *
  generalize (ps.map (·.2)).map SV.int = WS at *
  generalize (ps.map (·.2)) = WW at *
  have t0 : ((ps.length : Nat) : Int).toNat = ps.length := rfl
  generalize upW ps 0 = u0 at *
  generalize upW ps ps.length = un at *
  generalize ps.map prS = P at *
  generalize ((ps.length : Nat) : Int) = nn at *
  simp [F_law_seller, B_law_seller, lO, ec, ef, ei, ew, ql, r1, t0, e]
/-- lifts and evened worths -/
structure LiF (ps : Prs) (h : Nat → Rat) : Prop where
  z0 : liR ps h 0 = 0
  zn : liR ps h ps.length = 0
  st : ∀ i, i < ps.length → ((wW ps i : Int) : Rat) * evR ps h i - ((slI ps i : Int) : Rat) = (liR ps h i - liR ps h (i + 1)) * ((wsum ps : Int) : Rat)
  nn : ∀ i, i ≤ ps.length → 0 ≤ liR ps h i
  mono : ∀ i, i + 1 < ps.length → evR ps h i ≤ evR ps h (i + 1)
  tie : ∀ i, i + 1 < ps.length → 0 < liR ps h (i + 1) → evR ps h i = evR ps h (i + 1)
theorem li_facts {ps : Prs} {h : Nat → Rat} (ok : PrsOk ps) (C : CvH ps h) : LiF ps h := by
  have w0 := wsum_pos ok
  have r0 := cast_pos w0
  have I := evened_iso ok C
  have hn := C.hull.e1 ps.length rfl
  have h0 := C.hull.e0
  have y0 : cvY ps 0 = 0 := by unfold cvY; rw [Nat.sub_zero, upW_end, Int.zero_mul]
  have z0 : liR ps h 0 = 0 := by unfold liR; rw [Nat.sub_zero, hn]; grind
  have zn : liR ps h ps.length = 0 := by unfold liR; rw [Nat.sub_self, h0]; grind
  have st : ∀ i, i < ps.length → ((wW ps i : Int) : Rat) * evR ps h i - ((slI ps i : Int) : Rat) = (liR ps h i - liR ps h (i + 1)) * ((wsum ps : Int) : Rat) := fun i hi => by
    have wp : (0 : Rat) < ((wW ps i : Int) : Rat) := cast_pos (by have := ok.at_ hi; omega)
    have ee : ((wW ps i : Int) : Rat) * evR ps h i = (h (ps.length - i) - h (ps.length - (i + 1))) * ((wsum ps : Int) : Rat) := by unfold evR; grind
    have ei : slI ps i = cvY ps (ps.length - i) - cvY ps (ps.length - (i + 1)) := by
      unfold slI cvY
      rw [show ps.length - (ps.length - i) = i by omega, show ps.length - (ps.length - (i + 1)) = i + 1 by omega]
    rw [ee, ei]
    unfold liR
    push_cast
    grind
  have rs : ∀ k, k ≤ ps.length → rsum (fun i => ((wW ps i : Int) : Rat) * (slR ps i - evR ps h i)) k = ((wsum ps : Int) : Rat) * liR ps h k := by
    intro k
    induction k with
    | zero => intro _; show (0 : Rat) = _; rw [z0]; grind
    | succ k ih =>
      intro hk
      show rsum _ k + ((wW ps k : Int) : Rat) * (slR ps k - evR ps h k) = _
      rw [ih (by omega)]
      have s := st k (by omega)
      have wp : (0 : Rat) < ((wW ps k : Int) : Rat) := cast_pos (by have := ok.at_ (show k < ps.length by omega); omega)
      have es : ((wW ps k : Int) : Rat) * slR ps k = ((slI ps k : Int) : Rat) := by unfold slR; grind
      grind
  refine ⟨z0, zn, st, fun i hi => ?_, I.mono, fun i hi hp => ?_⟩
  · have := I.nn i hi
    rw [rs i hi] at this
    have e : (0 : Rat) * ((wsum ps : Int) : Rat) ≤ liR ps h i * ((wsum ps : Int) : Rat) := by grind
    exact Rat.le_of_mul_le_mul_right e r0
  · have m := I.mono i hi
    by_cases hlt : evR ps h i < evR ps h (i + 1)
    · have t := I.tie i hi hlt
      rw [rs (i + 1) (by omega)] at t
      have := Rat.mul_pos r0 hp
      grind
    · grind
/-! k22: lifts and evened worths belong together -/
abbrev ilR (n : Nat) (N : Nat → Int) : List SV := (List.range n).map fun i => SV.int (N i)
theorem ilR_len (n : Nat) (N : Nat → Int) : (ilR n N).length = n := by simp
theorem ilR_at {n : Nat} {N : Nat → Int} {i : Nat} (hi : i < n) : (ilR n N)[i]? = some (.int (N i)) := by
  rw [List.getElem?_map, List.getElem?_range hi]; rfl
theorem ilR_pre {n : Nat} {N : Nat → Int} {i : Nat} (hi : i < n) (h0 : 0 < i) : L2.atI (ilR n N) ((i : Int) - 1) = some (.int (N (i - 1))) := by
  rw [show (i : Int) - 1 = ((i - 1 : Nat) : Int) by omega]
  exact L2.atI_nat (ilR_at (by omega))
theorem ilR_suc {n : Nat} {N : Nat → Int} {i : Nat} (hi : i + 1 < n) : L2.atI (ilR n N) ((i : Int) + 1) = some (.int (N (i + 1))) := L2.atI_nat (j := i + 1) (ilR_at hi)
def nxt (n : Nat) (N : Nat → Int) (i : Nat) : Int := if i < n then N i else 0
/-- the whole numbers' rules -/
structure LiI (ps : Prs) (N1 N2 : Nat → Int) (c1 c2 : Int) : Prop where
  z0 : N2 0 = 0
  st : ∀ i, i < ps.length → (wW ps i * N1 i - slI ps i * c1) * c2 = (N2 i - nxt ps.length N2 (i + 1)) * wsum ps * c1
  nn : ∀ i, i < ps.length → 0 ≤ N2 i
  mono : ∀ i, i + 1 < ps.length → N1 i ≤ N1 (i + 1)
  tie : ∀ i, i + 1 < ps.length → 0 < N2 (i + 1) → N1 (i + 1) = N1 i
theorem li_ints {ps : Prs} {h : Nat → Rat} {N1 N2 : Nat → Int} {c1 c2 : Int} {K : Nat} (ok : PrsOk ps) (L : LiF ps h) (S1 : Scl ps.length (evR ps h) N1 c1 K) (S2 : Scl ps.length (liR ps h) N2 c2 K) : LiI ps N1 N2 c1 c2 := by
  have a1 := cast_pos S1.c0
  have a2 := cast_pos S2.c0
  have l0 := ok.l0
  have nx : ∀ i, i ≤ ps.length → ((nxt ps.length N2 i : Int) : Rat) = liR ps h i * ((c2 : Int) : Rat) := fun i hi => by
    unfold nxt
    split
    · exact S2.eq i (by assumption)
    · have e : i = ps.length := by omega
      subst e
      rw [L.zn]
      push_cast
      grind
  refine ⟨?_, fun i hi => ?_, fun i hi => ?_, fun i hi => ?_, fun i hi hp => ?_⟩
  · have e := S2.eq 0 l0
    rw [L.z0] at e
    have : ((N2 0 : Int) : Rat) = ((0 : Int) : Rat) := by rw [e]; push_cast; grind
    exact_mod_cast this
  · have e1 := S1.eq i hi
    have e2 := S2.eq i hi
    have e3 := nx (i + 1) hi
    have s := L.st i hi
    have : (((wW ps i * N1 i - slI ps i * c1) * c2 : Int) : Rat) = (((N2 i - nxt ps.length N2 (i + 1)) * wsum ps * c1 : Int) : Rat) := by
      push_cast
      rw [e1, e2, e3]
      grind
    exact_mod_cast this
  · have e := S2.eq i hi
    have : ((0 : Int) : Rat) ≤ ((N2 i : Int) : Rat) := by
      rw [e]
      have := Rat.mul_nonneg (L.nn i (Nat.le_of_lt hi)) (Rat.le_of_lt a2)
      push_cast
      exact this
    exact_mod_cast this
  · have e1 := S1.eq i (by omega)
    have e2 := S1.eq (i + 1) hi
    have : ((N1 i : Int) : Rat) ≤ ((N1 (i + 1) : Int) : Rat) := by
      rw [e1, e2]
      exact Rat.mul_le_mul_of_nonneg_right (L.mono i hi) (Rat.le_of_lt a1)
    exact_mod_cast this
  · have e1 := S1.eq i (by omega)
    have e2 := S1.eq (i + 1) hi
    have e3 := S2.eq (i + 1) hi
    have hp' : 0 < liR ps h (i + 1) := by
      have q : ((0 : Int) : Rat) < ((N2 (i + 1) : Int) : Rat) := by exact_mod_cast hp
      rw [e3] at q
      refine Rat.lt_of_mul_lt_mul_right (c := ((c2 : Int) : Rat)) ?_ (Rat.le_of_lt a2)
      have z : (0 : Rat) * ((c2 : Int) : Rat) = ((0 : Int) : Rat) := by push_cast; grind
      rw [z]
      exact q
    have t := L.tie i hi hp'
    have : ((N1 (i + 1) : Int) : Rat) = ((N1 i : Int) : Rat) := by rw [e1, e2, t]
    exact_mod_cast this
theorem whole_comp {ps : Prs} {g : GS} {x1 x2 x3 : DV} : compL (wN 12) yesT (oS (b2 hIx (vS 12) (kS (.int 1)))) [some (.sh (.lst (ps.map prS))), some x1, some x2, some x3, none, none, none, none, none, none, none, none, none] (ps.map prS) g = some ((((ps.map (·.2)).map SV.int).map .sh), g) := wts_comp (ps := ps) 12 fun p g => by simp [prS]
theorem paired_step {P SL R T : List SV} {w v s r t fo rp c1 c2 wh : Int} {i : Nat} {x2 x3 : Option DV} {x9' x10' x11' x12 : Option DV} {g : GS} {n K : Nat} (hK : K ≤ 20000) (hw : Sz K w) (hs : Sz K s) (hr : Sz K r) (ht : Sz K t) (hfo : Sz K fo) (hc1 : Sz K c1) (hc2 : Sz K c2) (hwh : Sz K wh)
    (pl : ((P.length : Nat) : Int) = n) (p0 : P[i]? = some (.tup [.int v, .int w])) (s0 : SL[i]? = some (.int s)) (r0 : R[i]? = some (.int r)) (t0 : T[i]? = some (.int t)) (f1 : i + 1 < n → L2.atI T ((i : Int) + 1) = some (.int fo)) (f0 : ¬ i + 1 < n → fo = 0)
    (rp0 : 0 < i → L2.atI R ((i : Int) - 1) = some (.int rp)) (e : (w * r - s * c1) * c2 = (t - fo) * wh * c1) (nn : 0 ≤ t) (mo : 0 < i → rp ≤ r) (ti : 0 < i → 0 < t → r = rp) :
    ∃ x9 x10 x11, ((gN 9 (.sh (.int (i : Nat))) [some (.sh (.lst P)), some (.sh (.lst SL)), x2, x3, some (.sh (.int wh)), some (.sh (.lst R)), some (.sh (.int c1)), some (.sh (.lst T)), some (.sh (.int c2)), x9', x10', x11', x12] g).bind fun p => L_law_paired_1 p.1 p.2) =
      some (.nx [some (.sh (.lst P)), some (.sh (.lst SL)), x2, x3, some (.sh (.int wh)), some (.sh (.lst R)), some (.sh (.int c1)), some (.sh (.lst T)), some (.sh (.int c2)), x9, x10, x11, x12] g) := by
  have m1 : mulOk w r = true := mulOk_of hw hr (by omega) (by omega)
  have m2 : mulOk s c1 = true := mulOk_of hs hc1 (by omega) (by omega)
  have z1 : Sz (K + K + 1) (w * r - s * c1) := ((hw.mul hr).sub (hs.mul hc1)).mono (by omega)
  have m3 : mulOk (w * r - s * c1) c2 = true := mulOk_of z1 hc2 (by omega) (by omega)
  have z2 : Sz (K + 1) (t - fo) := (ht.sub hfo).mono (by omega)
  have m4 : mulOk (t - fo) wh = true := mulOk_of z2 hwh (by omega) (by omega)
  have m5 : mulOk ((t - fo) * wh) c1 = true := mulOk_of (z2.mul hwh) hc1 (by omega) (by omega)
  have n0 : ¬ t < 0 := by omega
  refine ⟨some (.sh (.int i)), some (.sh (.int fo)), some (.sh (.int (w * r - s * c1))), ?_⟩
  have fin : ∀ X : Option DV, ((ifD (tAnd1 (tB1 (b2 hGt (vS 9) (kS (.int 0)))) (tOr1 (tB1 (b2 hLt (b2 hIx (vS 5) (vS 9)) (b2 hIx (vS 5) (b2 hSub (vS 9) (kS (.int 1)))))) (tAnd1 (tB1 (b2 hGt (b2 hIx (vS 7) (vS 9)) (kS (.int 0)))) (tB1 (b2 hNe (b2 hIx (vS 5) (vS 9)) (b2 hIx (vS 5) (b2 hSub (vS 9) (kS (.int 1))))))))) (retD (oS (kS (.bl false)))) (skipD)) [some (.sh (.lst P)), some (.sh (.lst SL)), x2, x3, some (.sh (.int wh)), some (.sh (.lst R)), some (.sh (.int c1)), some (.sh (.lst T)), some (.sh (.int c2)), some (.sh (.int i)), some (.sh (.int fo)), X, x12] g) =
      some (.nx [some (.sh (.lst P)), some (.sh (.lst SL)), x2, x3, some (.sh (.int wh)), some (.sh (.lst R)), some (.sh (.int c1)), some (.sh (.lst T)), some (.sh (.int c2)), some (.sh (.int i)), some (.sh (.int fo)), X, x12] g) := fun X => by
    by_cases hi : 0 < i
    · have r1 := rp0 hi
      have m := mo hi
      have m' : ¬ r < rp := by omega
      have c : 0 < t → r = rp := ti hi
      by_cases h2 : 0 < t
      · have c' := c h2
        subst c'
        simp [hi, r0, r1, t0, h2]
      · simp [hi, r0, r1, t0, h2, m']
    · have : i = 0 := by omega
      subst this
      simp
  by_cases h2 : i + 1 < n
  · have f1 := f1 h2
    have lt : ((i : Nat) : Int) + 1 < ((n : Nat) : Int) := by omega
    simp only [L_law_paired_1, ev_seq] at *
    simp [pl, lt, f1, p0, s0, r0, t0, m1, m2, m3, m4, m5, n0, e]
    have := fin (some (.sh (.int (w * r - s * c1))))
    simp [r0, t0] at this
    exact this
  · have f0 := f0 h2
    subst f0
    have lt : ¬ ((i : Nat) : Int) + 1 < ((n : Nat) : Int) := by omega
    have z : t - 0 = t := by omega
    rw [z] at e m4 m5
    simp [pl, lt, p0, s0, r0, t0, m1, m2, m3, m4, m5, n0, e]
    have := fin (some (.sh (.int (w * r - s * c1))))
    simp [r0, t0] at this
    exact this
theorem paired22 {ps : Prs} {h : Nat → Rat} {N1 N2 : Nat → Int} {c1 c2 : Int} {K : Nat} (hK : K ≤ 10000) (h300 : 300 ≤ K) (ok : PrsOk ps) (L : LiI ps N1 N2 c1 c2) (S1 : Scl ps.length (evR ps h) N1 c1 K) (S2 : Scl ps.length (liR ps h) N2 c2 K) {g : GS} :
    F_law_paired [.lst (ps.map prS), .lst (ilR ps.length (slI ps)), .tup [.lst (ilR ps.length N1), .int c1], .tup [.lst (ilR ps.length N2), .int c2]] g = some (.sh (.bl true), g) := by
  have l6 := ok.l6
  have l0 := ok.l0
  have ql : (((ps.map prS).length : Nat) : Int) = (ps.length : Nat) := by rw [List.length_map]
  obtain ⟨ρ', g', e, rfl, x9, x10, x11, rfl⟩ := loop_rng (gf := gN 9) (sb := L_law_paired_1) (lo := 0) (n := ps.length)
    (fun i ρ g' => g' = g ∧ ∃ x9 x10 x11, ρ = [some (.sh (.lst (ps.map prS))), some (.sh (.lst (ilR ps.length (slI ps)))), some (.sh (.tup [.lst (ilR ps.length N1), .int c1])), some (.sh (.tup [.lst (ilR ps.length N2), .int c2])), some (.sh (.int (wsum ps))), some (.sh (.lst (ilR ps.length N1))), some (.sh (.int c1)), some (.sh (.lst (ilR ps.length N2))), some (.sh (.int c2)), x9, x10, x11, none])
    (ρ := [some (.sh (.lst (ps.map prS))), some (.sh (.lst (ilR ps.length (slI ps)))), some (.sh (.tup [.lst (ilR ps.length N1), .int c1])), some (.sh (.tup [.lst (ilR ps.length N2), .int c2])), some (.sh (.int (wsum ps))), some (.sh (.lst (ilR ps.length N1))), some (.sh (.int c1)), some (.sh (.lst (ilR ps.length N2))), some (.sh (.int c2)), none, none, none, none]) (g := g) ⟨rfl, none, none, none, rfl⟩ (fun i ρ g' hi hI => by
      obtain ⟨rfl, x9, x10, x11, rfl⟩ := hI
      have ei : (0 : Int) + (i : Nat) = i := by omega
      rw [ei]
      have fo : Sz K (nxt ps.length N2 (i + 1)) := by
        unfold nxt
        split
        · exact S2.ns _ (by assumption)
        · exact Nat.pow_pos (by decide)
      obtain ⟨y9, y10, y11, e⟩ := paired_step (P := ps.map prS) (SL := ilR ps.length (slI ps)) (R := ilR ps.length N1) (T := ilR ps.length N2) (w := wW ps i) (v := vW ps i) (s := slI ps i) (r := N1 i) (t := N2 i) (fo := nxt ps.length N2 (i + 1)) (rp := N1 (i - 1)) (c1 := c1) (c2 := c2) (wh := wsum ps) (i := i) (x2 := some (.sh (.tup [.lst (ilR ps.length N1), .int c1]))) (x3 := some (.sh (.tup [.lst (ilR ps.length N2), .int c2]))) (x9' := x9) (x10' := x10) (x11' := x11) (x12 := none) (g := g') (n := ps.length) (K := K) (by omega)
        ((wW_sz ok hi).mono (by omega)) ((slI_sz ok hi).mono (by omega)) (S1.ns i hi) (S2.ns i hi) fo S1.cs S2.cs ((wsum_sz ok).mono (by omega)) ql (bk_pr hi) (ilR_at hi) (ilR_at hi) (ilR_at hi) (fun h2 => by unfold nxt; rw [if_pos h2]; exact ilR_suc h2) (fun h2 => by unfold nxt; rw [if_neg h2]) (fun h0 => ilR_pre hi h0) (L.st i hi) (L.nn i hi)
        (fun h0 => by have := L.mono (i - 1) (by omega); rw [show i - 1 + 1 = i by omega] at this; exact this) (fun h0 ht => by have := L.tie (i - 1) (by omega); rw [show i - 1 + 1 = i by omega] at this; exact this ht)
      exact ⟨_, _, e, rfl, y9, y10, y11, rfl⟩)
  have ec := whole_comp (ps := ps) (g := g') (x1 := .sh (.lst (ilR ps.length (slI ps)))) (x2 := .sh (.tup [.lst (ilR ps.length N1), .int c1])) (x3 := .sh (.tup [.lst (ilR ps.length N2), .int c2]))
  have lO : lenOk (ps.map prS).length = true := lenOk_of (by rw [List.length_map]; omega)
  have r1 : rngOk ((ps.length : Nat) : Int) = true := rngOk_of (by omega)
  have ef := ev_frzo ((ps.map (·.2)).map SV.int)
  have ei := ev_intl (ps.map (·.2))
  have ew : (ps.map (·.2)).sum = wsum ps := rfl
  have t0 := L2.atI_nat (j := 0) (ilR_at (N := N2) l0)
  rw [L.z0] at t0
  have tN : ((ps.length : Nat) : Int).toNat = ps.length := rfl
  generalize (ps.map (·.2)).map SV.int = WS at *
  generalize (ps.map (·.2)) = WW at *
  generalize wsum ps = u0 at *
  generalize ps.map prS = P at *
  generalize ilR ps.length (slI ps) = SL at *
  generalize ilR ps.length N1 = R at *
  generalize ilR ps.length N2 = T at *
  have t0' : L2.atI T 0 = some (.int 0) := t0
  generalize ((ps.length : Nat) : Int) = nn at *
  clear L S1 S2
  simp [F_law_paired, B_law_paired, lO, ec, ef, ei, ew, ql, r1, tN, t0', e]
/-! k22: the weighted difference times any list -/
theorem gLat {as : List Int} {i : Nat} (hi : i < as.length) : (as.map SV.int)[i]? = some (.int (gL as i)) := by
  rw [List.getElem?_map, List.getElem?_eq_getElem hi]
  simp [gL, List.getD, List.getElem?_eq_getElem hi]
theorem pw_gL {xs : List Int} {r : Int → Int → Prop} (h : xs.Pairwise r) {i : Nat} (hi : i + 1 < xs.length) : r (gL xs i) (gL xs (i + 1)) := by
  have h1 : gL xs i = xs[i] := by simp [gL, List.getD, List.getElem?_eq_getElem (show i < xs.length by omega)]
  have h2 : gL xs (i + 1) = xs[i + 1] := by simp [gL, List.getD, List.getElem?_eq_getElem hi]
  rw [h1, h2]
  exact List.pairwise_iff_getElem.mp h i (i + 1) (by omega) hi (by omega)
theorem any_step {P SL R T AL : List SV} {w v s r t a ap lf rt c1 c2 wh : Int} {i : Nat} {x0 x3 x4 x10 x14 x15 : Option DV} {g : GS} {K : Nat} (hK : K ≤ 20000) (hw : Sz K w) (hs : Sz K s) (hr : Sz K r) (ht : Sz K t) (hc1 : Sz K c1) (ha : Sz 5 a) (hap : Sz 5 ap)
    (p0 : P[i]? = some (.tup [.int v, .int w])) (s0 : SL[i]? = some (.int s)) (r0 : R[i]? = some (.int r)) (t0 : T[i]? = some (.int t)) (a0 : AL[i]? = some (.int a)) (ap0 : 0 < i → L2.atI AL ((i : Int) - 1) = some (.int ap)) :
    ((gN 14 (.sh (.int (i : Nat))) [x0, some (.sh (.lst P)), some (.sh (.lst SL)), x3, x4, some (.sh (.int wh)), some (.sh (.lst R)), some (.sh (.int c1)), some (.sh (.lst T)), some (.sh (.int c2)), x10, some (.sh (.lst AL)), some (.sh (.int lf)), some (.sh (.int rt)), x14, x15] g).bind fun p => L_law_any_list_1 p.1 p.2) =
      some (.nx [x0, some (.sh (.lst P)), some (.sh (.lst SL)), x3, x4, some (.sh (.int wh)), some (.sh (.lst R)), some (.sh (.int c1)), some (.sh (.lst T)), some (.sh (.int c2)), x10, some (.sh (.lst AL)), some (.sh (.int (lf + (w * r - s * c1) * a))), some (.sh (.int (if 0 < i then rt + t * (a - ap) else rt))), some (.sh (.int i)), x15] g) := by
  have m1 : mulOk w r = true := mulOk_of hw hr (by omega) (by omega)
  have m2 : mulOk s c1 = true := mulOk_of hs hc1 (by omega) (by omega)
  have z1 : Sz (K + K + 1) (w * r - s * c1) := ((hw.mul hr).sub (hs.mul hc1)).mono (by omega)
  have m3 : mulOk (w * r - s * c1) a = true := mulOk_of z1 ha (by omega) (by omega)
  have m4 : mulOk t (a - ap) = true := mulOk_of ht (ha.sub hap) (by omega) (by decide)
  by_cases hi : 0 < i
  · have ap1 := ap0 hi
    simp [p0, s0, r0, t0, a0, ap1, hi, m1, m2, m3, m4]
  · simp [p0, s0, r0, t0, a0, hi, m1, m2, m3]
theorem any_inner {ps : Prs} {h : Nat → Rat} {N1 N2 : Nat → Int} {c1 c2 : Int} {K : Nat} (hK : K ≤ 10000) (h300 : 300 ≤ K) (ok : PrsOk ps) (L : LiI ps N1 N2 c1 c2) (S1 : Scl ps.length (evR ps h) N1 c1 K) (S2 : Scl ps.length (liR ps h) N2 c2 K) {as : List Int} (al : as.length = ps.length) (ab : ∀ i, i < ps.length → Sz 5 (gL as i)) {x0 x3 x4 x10 x14 x15 : Option DV} {g : GS} :
    ∃ lf rt x14', loopD (gN 14) L_law_any_list_1 (rngL 0 ps.length) [x0, some (.sh (.lst (ps.map prS))), some (.sh (.lst (ilR ps.length (slI ps)))), x3, x4, some (.sh (.int (wsum ps))), some (.sh (.lst (ilR ps.length N1))), some (.sh (.int c1)), some (.sh (.lst (ilR ps.length N2))), some (.sh (.int c2)), x10, some (.sh (.lst (as.map SV.int))), some (.sh (.int 0)), some (.sh (.int 0)), x14, x15] g =
      some (.nx [x0, some (.sh (.lst (ps.map prS))), some (.sh (.lst (ilR ps.length (slI ps)))), x3, x4, some (.sh (.int (wsum ps))), some (.sh (.lst (ilR ps.length N1))), some (.sh (.int c1)), some (.sh (.lst (ilR ps.length N2))), some (.sh (.int c2)), x10, some (.sh (.lst (as.map SV.int))), some (.sh (.int lf)), some (.sh (.int rt)), x14', x15] g) ∧
      lf * c2 = rt * wsum ps * c1 ∧ ((∀ i, i + 1 < ps.length → gL as i ≤ gL as (i + 1)) → 0 ≤ lf) ∧ Sz (2 * K + 16) lf ∧ Sz (K + 16) rt := by
  have l6 := ok.l6
  have l0 := ok.l0
  obtain ⟨ρ', g', e, rfl, lf, rt, y14, rfl, q1, q2, q3, q4, q5⟩ := loop_rng (gf := gN 14) (sb := L_law_any_list_1) (lo := 0) (n := ps.length)
    (fun i ρ g' => g' = g ∧ ∃ lf rt y14, ρ = [x0, some (.sh (.lst (ps.map prS))), some (.sh (.lst (ilR ps.length (slI ps)))), x3, x4, some (.sh (.int (wsum ps))), some (.sh (.lst (ilR ps.length N1))), some (.sh (.int c1)), some (.sh (.lst (ilR ps.length N2))), some (.sh (.int c2)), x10, some (.sh (.lst (as.map SV.int))), some (.sh (.int lf)), some (.sh (.int rt)), y14, x15] ∧
      (i = 0 → lf = 0 ∧ rt = 0) ∧ (0 < i → lf * c2 = (rt - nxt ps.length N2 i * gL as (i - 1)) * wsum ps * c1) ∧ ((∀ i, i + 1 < ps.length → gL as i ≤ gL as (i + 1)) → 0 ≤ rt) ∧ Sz (2 * K + 8 + i) lf ∧ Sz (K + 8 + i) rt)
    (ρ := [x0, some (.sh (.lst (ps.map prS))), some (.sh (.lst (ilR ps.length (slI ps)))), x3, x4, some (.sh (.int (wsum ps))), some (.sh (.lst (ilR ps.length N1))), some (.sh (.int c1)), some (.sh (.lst (ilR ps.length N2))), some (.sh (.int c2)), x10, some (.sh (.lst (as.map SV.int))), some (.sh (.int 0)), some (.sh (.int 0)), x14, x15]) (g := g) ⟨rfl, 0, 0, x14, rfl, fun _ => ⟨rfl, rfl⟩, fun h => absurd h (Nat.lt_irrefl 0), fun _ => Int.le_refl 0, Nat.pow_pos (by decide), Nat.pow_pos (by decide)⟩ (fun i ρ g' hi hI => by
      obtain ⟨rfl, lf, rt, y14, rfl, q1, q2, q3, q4, q5⟩ := hI
      have ei : (0 : Int) + (i : Nat) = i := by omega
      rw [ei]
      have hw := (wW_sz ok hi).mono (show 133 ≤ K by omega)
      have hs := (slI_sz ok hi).mono (show 271 ≤ K by omega)
      have hr := S1.ns i hi
      have ht := S2.ns i hi
      have ha := ab i hi
      have hap : Sz 5 (gL as (i - 1)) := ab (i - 1) (by omega)
      have st := L.st i hi
      have z1 : Sz (K + K + 1) (wW ps i * N1 i - slI ps i * c1) := ((hw.mul hr).sub (hs.mul S1.cs)).mono (by omega)
      refine ⟨_, _, any_step (K := K) (by omega) hw hs hr ht S1.cs ha hap (bk_pr hi) (ilR_at hi) (ilR_at hi) (ilR_at hi) (gLat (by omega)) (fun h0 => ?_), rfl, lf + (wW ps i * N1 i - slI ps i * c1) * gL as i, if 0 < i then rt + N2 i * (gL as i - gL as (i - 1)) else rt, _, rfl, fun h => absurd h (Nat.succ_ne_zero i), fun _ => ?_, fun so => ?_, ?_, ?_⟩
      · rw [show (i : Int) - 1 = ((i - 1 : Nat) : Int) by omega]
        exact L2.atI_nat (gLat (by omega))
      · rw [Nat.add_sub_cancel]
        by_cases h0 : 0 < i
        · rw [if_pos h0]
          have q := q2 h0
          have e0 : nxt ps.length N2 i = N2 i := by unfold nxt; rw [if_pos hi]
          rw [e0] at q
          generalize nxt ps.length N2 (i + 1) = nx at *
          generalize wW ps i * N1 i - slI ps i * c1 = d at *
          generalize gL as i = a at *
          generalize gL as (i - 1) = ap at *
          have : (lf + d * a) * c2 = lf * c2 + d * c2 * a := by grind
          rw [this, q, st]
          grind
        · have : i = 0 := by omega
          subst this
          rw [if_neg (by omega)]
          obtain ⟨y1, y2⟩ := q1 rfl
          subst y1 y2
          have zz := L.z0
          rw [zz] at st
          generalize nxt ps.length N2 (0 + 1) = nx at *
          generalize wW ps 0 * N1 0 - slI ps 0 * c1 = d at *
          generalize gL as 0 = a at *
          have : (0 + d * a) * c2 = d * c2 * a := by grind
          rw [this, st]
          grind
      · by_cases h0 : 0 < i
        · rw [if_pos h0]
          have s := so (i - 1) (by omega)
          rw [show i - 1 + 1 = i by omega] at s
          have := Int.mul_nonneg (L.nn i hi) (show 0 ≤ gL as i - gL as (i - 1) by omega)
          have := q3 so
          omega
        · rw [if_neg h0]
          exact q3 so
      · exact (q4.add (z1.mul ha)).mono (by omega)
      · by_cases h0 : 0 < i
        · rw [if_pos h0]
          exact (q5.add (ht.mul (ha.sub hap))).mono (by omega)
        · rw [if_neg h0]
          exact q5.mono (by omega))
  have qq := q2 l0
  have en : nxt ps.length N2 ps.length = 0 := by unfold nxt; rw [if_neg (Nat.lt_irrefl _)]
  rw [en, Int.zero_mul, Int.sub_zero] at qq
  refine ⟨lf, rt, y14, e, qq, fun so => ?_, q4.mono (by omega), q5.mono (by omega)⟩
  have r0 := q3 so
  have w0 := wsum_pos ok
  have b : 0 ≤ lf * c2 := by rw [qq]; exact Int.mul_nonneg (Int.mul_nonneg r0 (Int.le_of_lt w0)) (Int.le_of_lt S1.c0)
  have := S2.c0
  by_cases hn : lf < 0
  · have := Int.mul_neg_of_neg_of_pos hn this
    omega
  · omega
theorem sz_draw {r : Int} (h0 : 0 ≤ r) (h1 : r < 19) : Sz 5 (r - 9) := by unfold Sz; omega
theorem any_list22 {ps : Prs} {h : Nat → Rat} {N1 N2 : Nat → Int} {c1 c2 : Int} {K : Nat} (hK : K ≤ 10000) (h300 : 300 ≤ K) (ok : PrsOk ps) (L : LiI ps N1 N2 c1 c2) (S1 : Scl ps.length (evR ps h) N1 c1 K) (S2 : Scl ps.length (liR ps h) N2 c2 K) (g : GS) :
    ∃ g', F_law_any_list [.gen, .lst (ps.map prS), .lst (ilR ps.length (slI ps)), .tup [.lst (ilR ps.length N1), .int c1], .tup [.lst (ilR ps.length N2), .int c2]] g = some (.sh (.bl true), g') := by
  have l6 := ok.l6
  have l0 := ok.l0
  have ql : (((ps.map prS).length : Nat) : Int) = (ps.length : Nat) := by rw [List.length_map]
  have r1 : rngOk ((ps.length : Nat) : Int) = true := rngOk_of (by omega)
  have lO : lenOk (ps.map prS).length = true := lenOk_of (by rw [List.length_map]; omega)
  have tN : ((ps.length : Nat) : Int).toNat = ps.length := rfl
  obtain ⟨ρ', g', e, x10, x11, x12, x13, x14, rfl⟩ := loop_rng (gf := gN 10) (sb := L_law_any_list_2) (lo := 0) (n := 3)
    (fun i ρ g' => ∃ x10 x11 x12 x13 x14, ρ = [some (.sh .gen), some (.sh (.lst (ps.map prS))), some (.sh (.lst (ilR ps.length (slI ps)))), some (.sh (.tup [.lst (ilR ps.length N1), .int c1])), some (.sh (.tup [.lst (ilR ps.length N2), .int c2])), some (.sh (.int (wsum ps))), some (.sh (.lst (ilR ps.length N1))), some (.sh (.int c1)), some (.sh (.lst (ilR ps.length N2))), some (.sh (.int c2)), x10, x11, x12, x13, x14, none])
    (ρ := [some (.sh .gen), some (.sh (.lst (ps.map prS))), some (.sh (.lst (ilR ps.length (slI ps)))), some (.sh (.tup [.lst (ilR ps.length N1), .int c1])), some (.sh (.tup [.lst (ilR ps.length N2), .int c2])), some (.sh (.int (wsum ps))), some (.sh (.lst (ilR ps.length N1))), some (.sh (.int c1)), some (.sh (.lst (ilR ps.length N2))), some (.sh (.int c2)), none, none, none, none, none, none]) (g := g) ⟨none, none, none, none, none, rfl⟩ (fun i ρ g' hi hI => by
      obtain ⟨x10, x11, x12, x13, x14, rfl⟩ := hI
      obtain ⟨as, g2, ec, al, ab⟩ := comp_ex (β := Int) (wf := wN 15) (f := oS (b2 hSub (fz (callF drawF (aC (vS 0) (aC (kS (.int 19)) (aN))))) (kS (.int 9)))) (ρ := [some (.sh .gen), some (.sh (.lst (ps.map prS))), some (.sh (.lst (ilR ps.length (slI ps)))), some (.sh (.tup [.lst (ilR ps.length N1), .int c1])), some (.sh (.tup [.lst (ilR ps.length N2), .int c2])), some (.sh (.int (wsum ps))), some (.sh (.lst (ilR ps.length N1))), some (.sh (.int c1)), some (.sh (.lst (ilR ps.length N2))), some (.sh (.int c2)), some (.sh (.int (0 + (i : Nat)))), x11, x12, x13, x14, none]) (fun a => Sz 5 a) (fun a => DV.sh (.int a)) (ps.map prS) g' (fun x _ g => by
        obtain ⟨r, g2, e, r0, r1⟩ := draw_eq (b := 19) g (by decide) (by decide)
        exact ⟨r - 9, g2, by simp [e], sz_draw r0 r1⟩)
      rw [List.length_map] at al
      have ec2 : as.map (fun a => DV.sh (.int a)) = (as.map SV.int).map .sh := by rw [List.map_map]; rfl
      rw [ec2] at ec
      have ef := ev_frzo (as.map SV.int)
      have sp := sortI_perm as
      have sf := ev_frzo ((sortI as).map SV.int)
      have mi := ev_mapi as
      have gb : ∀ bs : List Int, bs.Perm as → ∀ i, i < ps.length → Sz 5 (gL bs i) := fun bs hp i hi => by
        have hl : i < bs.length := by rw [hp.length_eq, al]; exact hi
        refine ab _ (hp.mem_iff.mp ?_)
        have : gL bs i = bs[i] := by simp [gL, List.getD, List.getElem?_eq_getElem hl]
        rw [this]
        exact List.getElem_mem hl
      by_cases h1 : i = 1
      · obtain ⟨lf, rt, y14, el, q1, q2, q3, q4⟩ := any_inner hK h300 ok L S1 S2 (as := sortI as) (by rw [sp.length_eq, al]) (gb _ sp) (x0 := some (.sh .gen)) (x3 := some (.sh (.tup [.lst (ilR ps.length N1), .int c1]))) (x4 := some (.sh (.tup [.lst (ilR ps.length N2), .int c2]))) (x10 := some (.sh (.int (0 + (i : Nat))))) (x14 := x14) (x15 := none) (g := g2)
        have q2 := q2 fun i hi => pw_gL (sortI_le as) (by rw [sp.length_eq, al]; exact hi)
        have m1 : mulOk lf c2 = true := mulOk_of q3 S2.cs (by omega) (by omega)
        have m2 : mulOk rt (wsum ps) = true := mulOk_of q4 (wsum_sz ok) (by omega) (by decide)
        have m3 : mulOk (rt * wsum ps) c1 = true := mulOk_of (q4.mul (wsum_sz ok)) S1.cs (by omega) (by omega)
        have n0 : ¬ lf < 0 := by omega
        refine ⟨_, g2, ?_, some (.sh (.int (0 + (i : Nat)))), some (.sh (.lst ((sortI as).map SV.int))), some (.sh (.int lf)), some (.sh (.int rt)), y14, rfl⟩
        subst h1
        rw [show (0 : Int) + ((1 : Nat) : Int) = 1 from rfl] at el ec ⊢
        have sf2 : (DV.own ((sortI as).map (DV.sh ∘ SV.int))).frz = .lst ((sortI as).map SV.int) := by rw [← List.map_map]; exact ev_frzo _
        clear L S1 S2
        generalize (sortI as).map SV.int = SA at *
        generalize as.map SV.int = AA at *
        generalize ps.map prS = P at *
        generalize ilR ps.length (slI ps) = SL at *
        generalize ilR ps.length N1 = R at *
        generalize ilR ps.length N2 = T at *
        generalize wsum ps = wh at *
        generalize hn : ((ps.length : Nat) : Int) = nn at *
        have el' : loopD (gN 14) L_law_any_list_1 (rngL 0 ps.length) [some (.sh .gen), some (.sh (.lst P)), some (.sh (.lst SL)), some (.sh (.tup [.lst R, .int c1])), some (.sh (.tup [.lst T, .int c2])), some (.sh (.int wh)), some (.sh (.lst R)), some (.sh (.int c1)), some (.sh (.lst T)), some (.sh (.int c2)), some (.sh (.int 1)), some (.sh (.lst SA)), some (.sh (.int 0)), some (.sh (.int 0)), x14, none] g2 = _ := el
        clear el
        have ec' : compL (wN 15) yesT (oS (b2 hSub (fz (callF drawF (aC (vS 0) (aC (kS (.int 19)) (aN))))) (kS (.int 9)))) [some (.sh .gen), some (.sh (.lst P)), some (.sh (.lst SL)), some (.sh (.tup [.lst R, .int c1])), some (.sh (.tup [.lst T, .int c2])), some (.sh (.int wh)), some (.sh (.lst R)), some (.sh (.int c1)), some (.sh (.lst T)), some (.sh (.int c2)), some (.sh (.int 1)), x11, x12, x13, x14, none] P g' = _ := ec
        clear ec
        simp [ec', lO, frzEnv, ef, mi, sf2, ql, r1, tN, el', m1, m2, m3, q1, n0]
      · obtain ⟨lf, rt, y14, el, q1, q2, q3, q4⟩ := any_inner hK h300 ok L S1 S2 (as := as) al (gb _ (List.Perm.refl as)) (x0 := some (.sh .gen)) (x3 := some (.sh (.tup [.lst (ilR ps.length N1), .int c1]))) (x4 := some (.sh (.tup [.lst (ilR ps.length N2), .int c2]))) (x10 := some (.sh (.int (0 + (i : Nat))))) (x14 := x14) (x15 := none) (g := g2)
        have m1 : mulOk lf c2 = true := mulOk_of q3 S2.cs (by omega) (by omega)
        have m2 : mulOk rt (wsum ps) = true := mulOk_of q4 (wsum_sz ok) (by omega) (by decide)
        have m3 : mulOk (rt * wsum ps) c1 = true := mulOk_of (q4.mul (wsum_sz ok)) S1.cs (by omega) (by omega)
        have n1 : ¬ (0 : Int) + (i : Nat) = 1 := by omega
        refine ⟨_, g2, ?_, some (.sh (.int (0 + (i : Nat)))), some (.sh (.lst (as.map SV.int))), some (.sh (.int lf)), some (.sh (.int rt)), y14, rfl⟩
        clear L S1 S2
        generalize as.map SV.int = AA at *
        generalize ps.map prS = P at *
        generalize ilR ps.length (slI ps) = SL at *
        generalize ilR ps.length N1 = R at *
        generalize ilR ps.length N2 = T at *
        generalize wsum ps = wh at *
        generalize hn : ((ps.length : Nat) : Int) = nn at *
        generalize (0 : Int) + (i : Nat) = ii at *
        simp [ec, lO, frzEnv, ef, ql, r1, tN, el, m1, m2, m3, q1, n1])
  have ec := wts_comp (ps := ps) 15 (g := g) (ρ := [some (.sh .gen), some (.sh (.lst (ps.map prS))), some (.sh (.lst (ilR ps.length (slI ps)))), some (.sh (.tup [.lst (ilR ps.length N1), .int c1])), some (.sh (.tup [.lst (ilR ps.length N2), .int c2])), none, none, none, none, none, none, none, none, none, none, none]) (fun p g => by simp [prS])
  have ef := ev_frzo ((ps.map (·.2)).map SV.int)
  have ei := ev_intl (ps.map (·.2))
  have ew : (ps.map (·.2)).sum = wsum ps := rfl
  have r3 : rngOk 3 = true := by decide +kernel
  have t3 : (3 : Int).toNat = 3 := rfl
  refine ⟨g', ?_⟩
  generalize (ps.map (·.2)).map SV.int = WS at *
  generalize (ps.map (·.2)) = WW at *
  generalize wsum ps = u0 at *
  generalize ps.map prS = P at *
  generalize ilR ps.length (slI ps) = SL at *
  generalize ilR ps.length N1 = R at *
  generalize ilR ps.length N2 = T at *
  clear L S1 S2
  simp [F_law_any_list, B_law_any_list, lO, ec, ef, ei, ew, r3, t3, e]
/-! k22: loops that return; whether the seller's worths never fall -/
theorem loop_rt {gf : GF} {sb : SF} {x : SV} {xs : List SV} {ρ : Env} {d : DV} {g g' : GS} (h : ((gf (.sh x) ρ g).bind fun p => sb p.1 p.2) = some (.rt d g')) : loopD gf sb (x :: xs) ρ g = some (.rt d g') := by
  obtain ⟨p, e1, e2⟩ := Option.bind_eq_some_iff.mp h
  conv => lhs; unfold loopD
  rw [e1, Option.bind_some, e2, Option.bind_some]
theorem loop_find {α : Type} {gf : GF} {sb : SF} (enc : α → SV) (I : Nat → Env → GS → Prop) (R : DV → GS → Prop) (bad : Nat → Prop) : ∀ (xs : List α) (ρ : Env) (g : GS) (k : Nat), I k ρ g →
    (∀ i x ρ g, xs[i]? = some x → I (k + i) ρ g → ¬ bad (k + i) → ∃ ρ' g', ((gf (.sh (enc x)) ρ g).bind fun p => sb p.1 p.2) = some (.nx ρ' g') ∧ I (k + i + 1) ρ' g') →
    (∀ i x ρ g, xs[i]? = some x → I (k + i) ρ g → bad (k + i) → ∃ d g', ((gf (.sh (enc x)) ρ g).bind fun p => sb p.1 p.2) = some (.rt d g') ∧ R d g') →
    (∃ i, i < xs.length ∧ bad (k + i)) → ∃ d g', loopD gf sb (xs.map enc) ρ g = some (.rt d g') ∧ R d g'
  | [], ρ, g, k, h0, hs, hb, ⟨i, hi, _⟩ => absurd hi (Nat.not_lt_zero i)
  | x :: xs, ρ, g, k, h0, hs, hb, ⟨i, hi, hbad⟩ => by
    by_cases hk : bad k
    · obtain ⟨d, g', e, r⟩ := hb 0 x ρ g rfl h0 hk
      exact ⟨d, g', loop_rt e, r⟩
    · obtain ⟨ρ', g', e, h1⟩ := hs 0 x ρ g rfl h0 hk
      have hi0 : i ≠ 0 := fun z => hk (by subst z; exact hbad)
      have : ∃ i, i < xs.length ∧ bad (k + 1 + i) := ⟨i - 1, by simp at hi; omega, by rw [show k + 1 + (i - 1) = k + i by omega]; exact hbad⟩
      obtain ⟨d, g2, e2, r⟩ := loop_find enc I R bad xs ρ' g' (k + 1) h1 (fun j y ρ g hy hI hn => by
        rw [show k + 1 + j = k + (j + 1) by omega] at hI hn ⊢
        exact hs (j + 1) y ρ g (by simpa using hy) hI hn) (fun j y ρ g hy hI hn => by
        rw [show k + 1 + j = k + (j + 1) by omega] at hI hn
        exact hb (j + 1) y ρ g (by simpa using hy) hI hn) this
      refine ⟨d, g2, ?_, r⟩
      rw [List.map_cons, loop_nx e]
      exact e2
/-- the seller's worths never fall -/
def NvF (ps : Prs) : Prop := ∀ i, i + 1 < ps.length → slI ps i * wW ps (i + 1) ≤ slI ps (i + 1) * wW ps i
theorem never_step {P SL : List SV} {v w v' w' s s' : Int} {i : Nat} {x2 : Option DV} {g : GS} (hw : Sz 300 w) (hw' : Sz 300 w') (hs : Sz 300 s) (hs' : Sz 300 s') (p0 : P[i]? = some (.tup [.int v, .int w])) (p1 : L2.atI P ((i : Int) + 1) = some (.tup [.int v', .int w'])) (s0 : SL[i]? = some (.int s)) (s1 : L2.atI SL ((i : Int) + 1) = some (.int s')) :
    ((gN 2 (.sh (.int (i : Nat))) [some (.sh (.lst P)), some (.sh (.lst SL)), x2] g).bind fun p => L_law_never_falls_1 p.1 p.2) = if s' * w < s * w' then some (.rt (.sh (.bl false)) g) else some (.nx [some (.sh (.lst P)), some (.sh (.lst SL)), some (.sh (.int i))] g) := by
  have m1 : mulOk s w' = true := mulOk_of hs hw' (by decide) (by decide)
  have m2 : mulOk s' w = true := mulOk_of hs' hw (by decide) (by decide)
  simp [p0, p1, s0, s1, m1, m2]
theorem never22 {ps : Prs} (ok : PrsOk ps) {g : GS} : ∃ b : Bool, F_law_never_falls [.lst (ps.map prS), .lst (ilR ps.length (slI ps))] g = some (.sh (.bl b), g) ∧ (b = true ↔ NvF ps) := by
  have l6 := ok.l6
  have l0 := ok.l0
  have ql : (((ps.map prS).length : Nat) : Int) - 1 = ((ps.length - 1 : Nat) : Int) := by rw [List.length_map]; omega
  have r1 : rngOk ((ps.length - 1 : Nat) : Int) = true := rngOk_of (by omega)
  have tN : ((ps.length - 1 : Nat) : Int).toNat = ps.length - 1 := rfl
  have st : ∀ (i : Nat) x2, i < ps.length - 1 → ((gN 2 (.sh (.int (0 + (i : Nat)))) [some (.sh (.lst (ps.map prS))), some (.sh (.lst (ilR ps.length (slI ps)))), x2] g).bind fun p => L_law_never_falls_1 p.1 p.2) = if slI ps (i + 1) * wW ps i < slI ps i * wW ps (i + 1) then some (.rt (.sh (.bl false)) g) else some (.nx [some (.sh (.lst (ps.map prS))), some (.sh (.lst (ilR ps.length (slI ps)))), some (.sh (.int i))] g) := fun i x2 hi => by
    have ei : (0 : Int) + (i : Nat) = i := by omega
    rw [ei]
    have h0 : i < ps.length := by omega
    have h1 : i + 1 < ps.length := by omega
    exact never_step ((wW_sz ok h0).mono (by decide)) ((wW_sz ok h1).mono (by decide)) ((slI_sz ok h0).mono (by decide)) ((slI_sz ok h1).mono (by decide)) (bk_pr h0) (L2.atI_nat (j := i + 1) (bk_pr h1)) (ilR_at h0) (ilR_suc h1)
  by_cases hN : NvF ps
  · refine ⟨true, ?_, by simp [hN]⟩
    obtain ⟨ρ', g', e, rfl, x2, rfl⟩ := loop_rng (gf := gN 2) (sb := L_law_never_falls_1) (lo := 0) (n := ps.length - 1)
      (fun i ρ g' => g' = g ∧ ∃ x2, ρ = [some (.sh (.lst (ps.map prS))), some (.sh (.lst (ilR ps.length (slI ps)))), x2]) (ρ := [some (.sh (.lst (ps.map prS))), some (.sh (.lst (ilR ps.length (slI ps)))), none]) (g := g) ⟨rfl, none, rfl⟩ (fun i ρ g' hi hI => by
        obtain ⟨rfl, x2, rfl⟩ := hI
        have := hN i (by omega)
        exact ⟨_, _, by rw [st i x2 hi, if_neg (by omega)], rfl, _, rfl⟩)
    generalize ps.map prS = P at *
    generalize ilR ps.length (slI ps) = SL at *
    generalize ((ps.length - 1 : Nat) : Int) = nn at *
    simp [F_law_never_falls, B_law_never_falls, ql, r1, tN, e]
  · refine ⟨false, ?_, by simp [hN]⟩
    obtain ⟨j, hj, hjb⟩ : ∃ j, j + 1 < ps.length ∧ slI ps (j + 1) * wW ps j < slI ps j * wW ps (j + 1) := by
      by_cases hx : ∃ j, j + 1 < ps.length ∧ slI ps (j + 1) * wW ps j < slI ps j * wW ps (j + 1)
      · exact hx
      · exact absurd (fun i hi => by
          by_cases hc : slI ps i * wW ps (i + 1) ≤ slI ps (i + 1) * wW ps i
          · exact hc
          · exact absurd ⟨i, hi, by omega⟩ hx) hN
    obtain ⟨d, g', e, rfl, rfl⟩ := loop_find (gf := gN 2) (sb := L_law_never_falls_1) (fun (i : Nat) => SV.int (0 + (i : Int)))
      (fun i ρ g' => g' = g ∧ ∃ x2, ρ = [some (.sh (.lst (ps.map prS))), some (.sh (.lst (ilR ps.length (slI ps)))), x2]) (fun d g' => d = .sh (.bl false) ∧ g' = g) (fun i => slI ps (i + 1) * wW ps i < slI ps i * wW ps (i + 1)) (List.range (ps.length - 1)) [some (.sh (.lst (ps.map prS))), some (.sh (.lst (ilR ps.length (slI ps)))), none] g 0 ⟨rfl, none, rfl⟩ (fun i x ρ g' hx hI hb => by
        obtain ⟨rfl, x2, rfl⟩ := hI
        rw [Nat.zero_add] at *
        obtain ⟨hi, e⟩ := List.getElem?_eq_some_iff.mp hx
        rw [List.getElem_range] at e
        subst e
        rw [List.length_range] at hi
        exact ⟨_, _, by rw [st i x2 hi, if_neg hb], rfl, _, rfl⟩) (fun i x ρ g' hx hI hb => by
        obtain ⟨rfl, x2, rfl⟩ := hI
        rw [Nat.zero_add] at *
        obtain ⟨hi, e⟩ := List.getElem?_eq_some_iff.mp hx
        rw [List.getElem_range] at e
        subst e
        rw [List.length_range] at hi
        exact ⟨_, _, by rw [st i x2 hi, if_pos hb], rfl, rfl⟩) ⟨j, by rw [List.length_range]; omega, by rw [Nat.zero_add]; exact hjb⟩
    rw [← range_map] at e
    generalize ps.map prS = P at *
    generalize ilR ps.length (slI ps) = SL at *
    generalize ((ps.length - 1 : Nat) : Int) = nn at *
    simp [F_law_never_falls, B_law_never_falls, ql, r1, tN, e]
/-- no lift at all if and only if the seller's worths never fall -/
theorem lifts_zero {ps : Prs} {h : Nat → Rat} {N1 N2 : Nat → Int} {c1 c2 : Int} {K : Nat} (ok : PrsOk ps) (C : CvH ps h) (L : LiF ps h) (LI : LiI ps N1 N2 c1 c2) (S2 : Scl ps.length (liR ps h) N2 c2 K) : (∀ i, i < ps.length → N2 i = 0) ↔ NvF ps := by
  have a2 := cast_pos S2.c0
  have wp : ∀ i, i < ps.length → (0 : Rat) < ((wW ps i : Int) : Rat) := fun i hi => cast_pos (by have := ok.at_ hi; omega)
  have w0 := cast_pos (wsum_pos ok)
  have z2 : ∀ i, i < ps.length → (N2 i = 0 ↔ liR ps h i = 0) := fun i hi => by
    have e := S2.eq i hi
    constructor
    · intro z
      rw [z] at e
      have : liR ps h i * ((c2 : Int) : Rat) = 0 := by rw [← e]; push_cast; rfl
      rcases Rat.mul_eq_zero.mp this with q | q
      · exact q
      · grind
    · intro z
      rw [z] at e
      have : ((N2 i : Int) : Rat) = ((0 : Int) : Rat) := by rw [e]; push_cast; grind
      exact_mod_cast this
  have cross : ∀ i, i + 1 < ps.length → (slR ps i ≤ slR ps (i + 1) ↔ slI ps i * wW ps (i + 1) ≤ slI ps (i + 1) * wW ps i) := fun i hi => by
    have p1 := wp i (by omega)
    have p2 := wp (i + 1) hi
    have e1 : slR ps i * (((wW ps i : Int) : Rat) * ((wW ps (i + 1) : Int) : Rat)) = ((slI ps i * wW ps (i + 1) : Int) : Rat) := by unfold slR; push_cast; grind
    have e2 : slR ps (i + 1) * (((wW ps i : Int) : Rat) * ((wW ps (i + 1) : Int) : Rat)) = ((slI ps (i + 1) * wW ps i : Int) : Rat) := by unfold slR; push_cast; grind
    have pp := Rat.mul_pos p1 p2
    constructor
    · intro hh
      have := Rat.mul_le_mul_of_nonneg_right hh (Rat.le_of_lt pp)
      rw [e1, e2] at this
      exact_mod_cast this
    · intro hh
      refine Rat.le_of_mul_le_mul_right (c := ((wW ps i : Int) : Rat) * ((wW ps (i + 1) : Int) : Rat)) ?_ pp
      rw [e1, e2]
      exact_mod_cast hh
  have ee : ∀ i, i < ps.length → liR ps h i = 0 → liR ps h (i + 1) = 0 → evR ps h i = slR ps i := fun i hi z1 z3 => by
    have s := L.st i hi
    rw [z1, z3] at s
    have p1 := wp i hi
    unfold slR
    grind
  constructor
  · intro hz i hi
    have l1 := (z2 i (by omega)).mp (hz i (by omega))
    have l2 := (z2 (i + 1) hi).mp (hz (i + 1) hi)
    have l3 : liR ps h (i + 1 + 1) = 0 := by
      by_cases hc : i + 1 + 1 < ps.length
      · exact (z2 _ hc).mp (hz _ hc)
      · rw [show i + 1 + 1 = ps.length by omega]; exact L.zn
    rw [← cross i hi, ← ee i (by omega) l1 l2, ← ee (i + 1) hi l2 l3]
    exact L.mono i hi
  · intro hN i hi
    have J : Iso ps.length (fun i => ((wW ps i : Int) : Rat)) (slR ps) (slR ps) := by
      have z : ∀ k, rsum (fun i => ((wW ps i : Int) : Rat) * (slR ps i - slR ps i)) k = 0 := fun k => by
        induction k with
        | zero => rfl
        | succ k ih =>
          show rsum _ k + _ = _
          rw [ih]; grind
      exact ⟨fun i hi => (cross i hi).mpr (hN i hi), fun k _ => by rw [z]; grind, z _, fun i _ _ => z _⟩
    have U := Iso.uniq wp (evened_iso ok C) J
    have li : ∀ k, k ≤ ps.length → liR ps h k = 0 := by
      intro k
      induction k with
      | zero => intro _; exact L.z0
      | succ k ih =>
        intro hk
        have s := L.st k (by omega)
        have u := U k (by omega)
        rw [ih (by omega), u] at s
        have p1 := wp k (by omega)
        have e : ((wW ps k : Int) : Rat) * slR ps k = ((slI ps k : Int) : Rat) := by unfold slR; grind
        rw [e] at s
        have : liR ps h (k + 1) * ((wsum ps : Int) : Rat) = 0 := by grind
        rcases Rat.mul_eq_zero.mp this with q | q
        · exact q
        · grind
    exact (z2 i hi).mpr (li i (Nat.le_of_lt hi))
theorem maxL_zero {n : Nat} {N : Nat → Int} (h0 : 0 < n) (nn : ∀ i, i < n → 0 ≤ N i) : ∃ m, maxL ((List.range n).map N) = some m ∧ (m = 0 ↔ ∀ i, i < n → N i = 0) := by
  obtain ⟨k, rfl⟩ : ∃ k, n = k + 1 := ⟨n - 1, by omega⟩
  have e : (List.range (k + 1)).map N = N 0 :: ((List.range k).map fun i => N (i + 1)) := by rw [List.range_succ_eq_map, List.map_cons, List.map_map]; rfl
  rw [e]
  obtain ⟨h1, h2⟩ := foldl_max_mem ((List.range k).map fun i => N (i + 1)) (N 0)
  rw [← e] at h1 h2
  refine ⟨_, rfl, fun hm i hi => ?_, fun hz => ?_⟩
  · have := h2 (N i) (List.mem_map.mpr ⟨i, List.mem_range.mpr hi, rfl⟩)
    have := nn i hi
    omega
  · obtain ⟨i, hi, e2⟩ := List.mem_map.mp h1
    rw [← e2]
    exact hz i (List.mem_range.mp hi)
/-! k22: the points of the curve, and the lifts as heights above them -/
theorem same_int0 {q : Rat} {k : Nat} {g : GS} (hq : QS k q) (hk : k ≤ 2700) (h0 : q = 0) : F_law_same [frR q, .int 0, .int 1] g = some (.sh (.bl true), g) :=
  same_eqR (l := 1) hq hk (by unfold Sz; decide) (by unfold Sz; decide) (by decide) (by rw [h0]; push_cast; grind)
theorem curve_step {P T PT H : List SV} {v w t ab wh c2 : Int} {j k : Nat} {q1 q2 q3 : SV} {x0 x1 x10' x11' x9 : Option DV} {g : GS} (e0 : F_law_same [q1, .int (ab + w), .int wh] g = some (.sh (.bl true), g)) (e1 : F_law_same [q2, .int ((ab + w) * v), .int wh] g = some (.sh (.bl true), g)) (e2 : F_law_same [q3, .int ((ab + w) * v * c2 + t * wh), .int (wh * c2)] g = some (.sh (.bl true), g))
    (m1 : mulOk (ab + w) v = true) (m2 : mulOk ((ab + w) * v) c2 = true) (m3 : mulOk t wh = true) (m4 : mulOk wh c2 = true) (pl : ((P.length : Nat) : Int) - 1 - (k : Nat) = (j : Nat)) (p0 : P[j]? = some (.tup [.int v, .int w])) (t0 : T[j]? = some (.int t)) (pt : L2.atI PT ((k : Int) + 1) = some (.tup [q1, q2])) (hh : L2.atI H ((k : Int) + 1) = some q3) :
    ∃ x10 x11, ((gN 9 (.sh (.int (k : Nat))) [x0, x1, some (.sh (.lst P)), some (.sh (.lst T)), some (.sh (.int c2)), some (.sh (.lst PT)), some (.sh (.lst H)), some (.sh (.int wh)), some (.sh (.int ab)), x9, x10', x11', none] g).bind fun p => L_law_curve_right_1 p.1 p.2) =
      some (.nx [x0, x1, some (.sh (.lst P)), some (.sh (.lst T)), some (.sh (.int c2)), some (.sh (.lst PT)), some (.sh (.lst H)), some (.sh (.int wh)), some (.sh (.int (ab + w))), some (.sh (.int k)), x10, x11, none] g) := by
  refine ⟨some (.sh (.int j)), some (.sh (.tup [q1, q2])), ?_⟩
  generalize hw : ab + w = aw at *
  simp [pl, p0, t0, hw, pt, hh, e0, e1, e2, m1, m2, m3, m4]
theorem curve_right22 {bs : List Prs} (H : BkOk bs) {b : Nat} {ps : Prs} {h : Nat → Rat} {N2 : Nat → Int} {c2 : Int} {K : Nat} (hK : K ≤ 10000) (h300 : 300 ≤ K) (hb : bs[b]? = some ps) (C : CvH ps h) (S2 : Scl ps.length (liR ps h) N2 c2 K) {g : GS} :
    F_law_curve_right [bkS bs, .int b, .lst (ps.map prS), .lst (ilR ps.length N2), .int c2] g = some (.sh (.bl true), g) := by
  have ok := H.ok ps (List.mem_of_getElem? hb)
  have l6 := ok.l6
  have l0 := ok.l0
  have w0 := wsum_pos ok
  have r0 := cast_pos w0
  have ec := curve_eq H (g := g) hb
  have eh := C.at_ ok g
  have qX : ∀ k, k ≤ ps.length → QS 275 (((cvX ps k : Int) : Rat) / ((wsum ps : Int) : Rat)) := fun k hk => QS.frac w0 ((upW_sz ok (Nat.sub_le _ _)).mono (by decide)) ((wsum_sz ok).mono (by decide))
  have qY : ∀ k, k ≤ ps.length → QS 275 (((cvY ps k : Int) : Rat) / ((wsum ps : Int) : Rat)) := fun k hk => QS.frac w0 ((cvY_sz1 ok k).mono (by decide)) ((wsum_sz ok).mono (by decide))
  have x0 : cvX ps 0 = 0 := by unfold cvX; rw [Nat.sub_zero, upW_end]
  have y0 : cvY ps 0 = 0 := by unfold cvY; rw [Nat.sub_zero, upW_end, Int.zero_mul]
  have hz : h 0 = 0 := by rw [C.hull.e0, y0]; push_cast; grind
  have il : F_law_is_list [.lst (tlR (ps.length + 1) h), .int ((ps.length + 1 : Nat) : Int)] g = some (.sh (.bl true), g) := is_list_eq (k := 420) (by decide) fun i hi => C.qs i (by omega)
  have s1 := same_int0 (g := g) (C.qs 0 (Nat.zero_le _)) (by decide) hz
  have s2 := same_int0 (g := g) (qX 0 (Nat.zero_le _)) (by decide) (by rw [x0]; push_cast; grind)
  have s3 := same_int0 (g := g) (qY 0 (Nat.zero_le _)) (by decide) (by rw [y0]; push_cast; grind)
  obtain ⟨ρ', g', e, rfl, y9, y10, y11, rfl⟩ := loop_rng (gf := gN 9) (sb := L_law_curve_right_1) (lo := 0) (n := ps.length)
    (fun i ρ g' => g' = g ∧ ∃ y9 y10 y11, ρ = [some (.sh (bkS bs)), some (.sh (.int b)), some (.sh (.lst (ps.map prS))), some (.sh (.lst (ilR ps.length N2))), some (.sh (.int c2)), some (.sh (.lst ((List.range (ps.length + 1)).map (ptE ps)))), some (.sh (.lst (tlR (ps.length + 1) h))), some (.sh (.int (wsum ps))), some (.sh (.int (cvX ps i))), y9, y10, y11, none])
    (ρ := [some (.sh (bkS bs)), some (.sh (.int b)), some (.sh (.lst (ps.map prS))), some (.sh (.lst (ilR ps.length N2))), some (.sh (.int c2)), some (.sh (.lst ((List.range (ps.length + 1)).map (ptE ps)))), some (.sh (.lst (tlR (ps.length + 1) h))), some (.sh (.int (wsum ps))), some (.sh (.int (cvX ps 0))), none, none, none, none]) (g := g) ⟨rfl, none, none, none, rfl⟩ (fun k ρ g' hk hI => by
      obtain ⟨rfl, y9, y10, y11, rfl⟩ := hI
      have ei : (0 : Int) + (k : Nat) = k := by omega
      rw [ei]
      have hj : ps.length - (k + 1) < ps.length := by omega
      have cs := cvX_step hk
      have yv : cvX ps (k + 1) * vW ps (ps.length - (k + 1)) = cvY ps (k + 1) := rfl
      have e0 := same_eqR (g := g') (n := cvX ps (k + 1)) (d := wsum ps) (qX (k + 1) (by omega)) (by decide) (upW_sz ok (Nat.sub_le _ _)) (wsum_sz ok) (by decide) (by grind)
      have e1 := same_eqR (g := g') (n := cvY ps (k + 1)) (d := wsum ps) (qY (k + 1) (by omega)) (by decide) (cvY_sz1 ok _) ((wsum_sz ok).mono (by decide)) (by decide) (by grind)
      have t2 := S2.ns _ hj
      have z1 : Sz (300 + K) (cvY ps (k + 1) * c2) := ((cvY_sz1 ok (k + 1)).mul S2.cs).mono (by omega)
      have z2 : Sz (300 + K) (N2 (ps.length - (k + 1)) * wsum ps) := (t2.mul (wsum_sz ok)).mono (by omega)
      have z3 : Sz (301 + K) (wsum ps * c2) := ((wsum_sz ok).mul S2.cs).mono (by omega)
      have n2 := S2.eq _ hj
      have z4 : Sz (301 + K) (cvY ps (k + 1) * c2 + N2 (ps.length - (k + 1)) * wsum ps) := (z1.add z2).mono (by omega)
      have e2 := same_eqR (g := g') (q := h (k + 1)) (n := cvY ps (k + 1) * c2 + N2 (ps.length - (k + 1)) * wsum ps) (d := wsum ps * c2) (C.qs (k + 1) (by omega)) (by decide) z4 z3 (by omega) (by
        push_cast
        rw [n2]
        unfold liR
        rw [show ps.length - (ps.length - (k + 1)) = k + 1 by omega]
        grind)
      have m1 : mulOk (cvX ps (k + 1)) (vW ps (ps.length - (k + 1))) = true := mulOk_of (upW_sz ok (Nat.sub_le _ _)) (vW_sz ok hj) (by decide) (by decide)
      have m2 : mulOk (cvY ps (k + 1)) c2 = true := mulOk_of (cvY_sz1 ok _) S2.cs (by decide) (by omega)
      have m3 : mulOk (N2 (ps.length - (k + 1))) (wsum ps) = true := mulOk_of t2 (wsum_sz ok) (by omega) (by decide)
      have m4 : mulOk (wsum ps) c2 = true := mulOk_of (wsum_sz ok) S2.cs (by decide) (by omega)
      rw [← yv] at e1 e2 m2
      rw [cs] at e0 e1 e2 m1 m2
      obtain ⟨z10, z11, es⟩ := curve_step (x0 := some (.sh (bkS bs))) (x1 := some (.sh (.int b))) (x9 := y9) (x10' := y10) (x11' := y11) (P := ps.map prS) (T := ilR ps.length N2) (PT := (List.range (ps.length + 1)).map (ptE ps)) (H := tlR (ps.length + 1) h) (j := ps.length - (k + 1)) (k := k) e0 e1 e2 m1 m2 m3 m4 (by rw [List.length_map]; omega) (bk_pr hj) (ilR_at hj) (by
        have e : ((List.range (ps.length + 1)).map (ptE ps))[k + 1]? = some (ptE ps (k + 1)) := rngAt _ (by omega)
        have e2 : ptE ps (k + 1) = .tup [frR (((cvX ps k + wW ps (ps.length - (k + 1)) : Int) : Rat) / ((wsum ps : Int) : Rat)), frR ((((cvX ps k + wW ps (ps.length - (k + 1))) * vW ps (ps.length - (k + 1)) : Int) : Rat) / ((wsum ps : Int) : Rat))] := by
          unfold ptE
          rw [← yv, cs]
        rw [e2] at e
        exact L2.atI_nat e) (by
        have e : (tlR (ps.length + 1) h)[k + 1]? = some (frR (h (k + 1))) := rngAt (fun i => frR (h i)) (by omega)
        exact L2.atI_nat e)
      rw [← cs] at es
      exact ⟨_, _, es, rfl, some (.sh (.int (k : Nat))), z10, z11, rfl⟩)
  have ew := wts_comp (ps := ps) 12 (g := g') (ρ := [some (.sh (bkS bs)), some (.sh (.int b)), some (.sh (.lst (ps.map prS))), some (.sh (.lst (ilR ps.length N2))), some (.sh (.int c2)), some (.sh (.lst ((List.range (ps.length + 1)).map (ptE ps)))), some (.sh (.lst (tlR (ps.length + 1) h))), none, none, none, none, none, none]) (fun p g => by simp [prS])
  have lO : lenOk (ps.map prS).length = true := lenOk_of (by rw [List.length_map]; omega)
  have r1 : rngOk ((ps.length : Nat) : Int) = true := rngOk_of (by omega)
  have ef := ev_frzo ((ps.map (·.2)).map SV.int)
  have ei := ev_intl (ps.map (·.2))
  have es : (ps.map (·.2)).sum = wsum ps := rfl
  have tN : ((ps.length : Nat) : Int).toNat = ps.length := rfl
  have ql : (((ps.map prS).length : Nat) : Int) = (ps.length : Nat) := by rw [List.length_map]
  have qp : ((((List.range (ps.length + 1)).map (ptE ps)).length : Nat) : Int) = ((ps.length + 1 : Nat) : Int) := by rw [List.length_map, List.length_range]
  have qn : ((ps.length : Nat) : Int) + 1 = ((ps.length + 1 : Nat) : Int) := by omega
  have a0 : L2.atI ((List.range (ps.length + 1)).map (ptE ps)) 0 = some (.tup [frR (((cvX ps 0 : Int) : Rat) / ((wsum ps : Int) : Rat)), frR (((cvY ps 0 : Int) : Rat) / ((wsum ps : Int) : Rat))]) := by
    have e : ((List.range (ps.length + 1)).map (ptE ps))[0]? = some (ptE ps 0) := rngAt _ (by omega)
    exact L2.atI_nat (j := 0) e
  have b0 : L2.atI (tlR (ps.length + 1) h) 0 = some (frR (h 0)) := by
    have e : (tlR (ps.length + 1) h)[0]? = some (frR (h 0)) := rngAt (fun i => frR (h i)) (by omega)
    exact L2.atI_nat (j := 0) e
  have fP := ev_frzo ((List.range (ps.length + 1)).map (ptE ps))
  have fH := ev_frzo (tlR (ps.length + 1) h)
  have eh' : F_upper_heights [.lst ((List.range (ps.length + 1)).map (ptE ps))] g' = some (.own ((tlR (ps.length + 1) h).map .sh), g') := eh
  clear C S2 H hb qX qY eh
  rw [x0] at e
  generalize (ps.map (·.2)).map SV.int = WS at *
  generalize (ps.map (·.2)) = WW at *
  generalize frR (((cvX ps 0 : Int) : Rat) / ((wsum ps : Int) : Rat)) = X0 at *
  generalize frR (((cvY ps 0 : Int) : Rat) / ((wsum ps : Int) : Rat)) = Y0 at *
  generalize frR (h 0) = H0 at *
  generalize cvX ps ps.length = cn at *
  generalize (List.range (ps.length + 1)).map (ptE ps) = PT at *
  generalize tlR (ps.length + 1) h = HH at *
  generalize ilR ps.length N2 = T at *
  generalize wsum ps = wh at *
  generalize ps.map prS = P at *
  generalize ((ps.length + 1 : Nat) : Int) = n1 at *
  generalize ((ps.length : Nat) : Int) = nn at *
  generalize bkS bs = B at *
  simp [F_law_curve_right, B_law_curve_right, ec, eh', fP, fH, ew, lO, ef, ei, es, ql, qp, qn, il, a0, b0, s1, s2, s3, r1, tN, e]
/-! k22: the law's own pooling -/
theorem Fwd.mem {A W : Nat → Int} {n : Nat} : ∀ {bs : List (Nat × Nat)} {s : Nat} {o : Option (Nat × Nat)}, Fwd A W n s o bs → ∀ p ∈ bs, p.1 < p.2 ∧ p.2 ≤ n
  | [], _, _, _, p, hp => absurd hp List.not_mem_nil
  | _ :: _, _, _, h, p, hp => by
    rcases List.mem_cons.mp hp with rfl | hp
    · exact ⟨by rw [h.1]; exact h.2.1, h.2.2.1⟩
    · exact h.2.2.2.2.2.mem p hp
theorem mlR_len {A W : Nat → Int} {n : Nat} : ∀ (bs : List (Nat × Nat)) (s : Nat) (o : Option (Nat × Nat)), Fwd A W n s o bs → (mlR A W bs).length + s = n
  | [], s, o, F => by have : s = n := F; simp [mlR]; omega
  | q :: bs, s, o, F => by
    obtain ⟨f1, f2, f3, f4, f5, f6⟩ := F
    have := mlR_len bs q.2 (some q) f6
    unfold mlR at *
    rw [List.flatMap_cons, List.length_append, List.length_replicate]
    omega
theorem at_last22 {α : Type} (xs : List α) (y x : α) : L2.atI (xs ++ [y] ++ [x]) (-2) = some y := by
  unfold L2.atI L2.ixN
  rw [if_neg (by omega), if_pos (by simp; omega)]
  have e : (-2 + ((xs ++ [y] ++ [x]).length : Int)).toNat = xs.length := by rw [List.length_append, List.length_append]; simp; omega
  rw [Option.bind_some, e, List.append_assoc, List.getElem?_append_right (Nat.le_refl _)]
  simp
theorem frzL_snoc (L : List DV) (d : DV) : frzL (L ++ [d]) = L ++ [.sh d.frz] := by
  unfold frzL
  rw [List.getLast?_concat, List.dropLast_concat]
abbrev b3 (x y z : Int) : DV := .own [.sh (.int x), .sh (.int y), .sh (.int z)]
theorem b3_frz (x y z : Int) : (b3 x y z).frz = .lst [.int x, .int y, .int z] := ev_frzo [.int x, .int y, .int z]
def encE (A W : Nat → Int) (p : Nat × Nat) : DV := b3 (seg A p.1 p.2) (seg W p.1 p.2) (((p.2 - p.1 : Nat)) : Int)
abbrev rvE (A W : Nat → Int) (rs : List (Nat × Nat)) : List DV := rs.reverse.map (encE A W)
theorem rvE_cons (A W : Nat → Int) (p : Nat × Nat) (rs : List (Nat × Nat)) : rvE A W (p :: rs) = rvE A W rs ++ [encE A W p] := by unfold rvE; rw [List.reverse_cons, List.map_append]; rfl
/-- a turn that merges, one that does not -/
theorem ev_merge {L : List DV} {a1 w1 n1 a2 w2 n2 : Int} {x0 x2 x3 x4 x5 x6 x7 x8 x9 x10 : Option DV} {y : SV} {g : GS} (m1 : mulOk a1 w2 = true) (m2 : mulOk a2 w1 = true) (hl : lenOk L.length = true) (hc : a2 * w1 < a1 * w2) :
    ∃ x6' x7', ((gN 5 (.sh y) [x0, some (.own (L ++ [b3 a1 w1 n1] ++ [b3 a2 w2 n2])), x2, x3, x4, x5, x6, x7, x8, x9, x10] g).bind fun p => L_law_evened_1 p.1 p.2) = some (.nx [x0, some (.own (L ++ [b3 (a1 + a2) (w1 + w2) (n1 + n2)])), x2, x3, x4, some (.sh y), x6', x7', x8, x9, x10] g) := by
  have h1 := at_last22 L (b3 a1 w1 n1) (b3 a2 w2 n2)
  have h2 := at_last (L ++ [b3 a1 w1 n1]) (b3 a2 w2 n2)
  refine ⟨some (.sh (.lst [.int a2, .int w2, .int n2])), some (.sh (.lst [.int a1, .int w1, .int n1])), ?_⟩
  have hn : (1 : Int) < ((L ++ [b3 a1 w1 n1] ++ [b3 a2 w2 n2]).length : Nat) := by simp; omega
  have t : tAnd1 (tB1 (b2 hGt (lenP (vP 1)) (kS (.int 1)))) (tB1 (b2 hGt (b2 hMul (un (ixP (ixP (vP 1) (u1 hNeg (kS (.int 2)))) (kS (.int 0)))) (un (ixP (ixP (vP 1) (u1 hNeg (kS (.int 1)))) (kS (.int 1))))) (b2 hMul (un (ixP (ixP (vP 1) (u1 hNeg (kS (.int 1)))) (kS (.int 0)))) (un (ixP (ixP (vP 1) (u1 hNeg (kS (.int 2)))) (kS (.int 1))))))) [x0, some (.own (L ++ [b3 a1 w1 n1] ++ [b3 a2 w2 n2])), x2, x3, x4, some (.sh y), x6, x7, x8, x9, x10] g = some (true, g) := by
    generalize hB : L ++ [b3 a1 w1 n1] ++ [b3 a2 w2 n2] = BB at *
    simp [hn, h1, h2, m1, m2, hc]
  have s1 : frzLD 1 (popD 6 1) [x0, some (.own (L ++ [b3 a1 w1 n1] ++ [b3 a2 w2 n2])), x2, x3, x4, some (.sh y), x6, x7, x8, x9, x10] g = some (.nx [x0, some (.own (L ++ [b3 a1 w1 n1])), x2, x3, x4, some (.sh y), some (.sh (.lst [.int a2, .int w2, .int n2])), x7, x8, x9, x10] g) := by
    have f := frzL_snoc (L ++ [b3 a1 w1 n1]) (b3 a2 w2 n2)
    rw [b3_frz] at f
    have l := lastS_snoc (L ++ [b3 a1 w1 n1]) (.lst [.int a2, .int w2, .int n2])
    have dl : (L ++ [b3 a1 w1 n1] ++ [DV.sh (.lst [.int a2, .int w2, .int n2])]).dropLast = L ++ [b3 a1 w1 n1] := List.dropLast_concat
    unfold frzLD frzLE
    simp only [List.getElem?_cons_succ, List.getElem?_cons_zero, f, List.set_cons_succ, List.set_cons_zero, ev_popD, l, Option.map_some, dl]
  have s2 : ∀ z, frzLD 1 (popD 7 1) [x0, some (.own (L ++ [b3 a1 w1 n1])), x2, x3, x4, some (.sh y), z, x7, x8, x9, x10] g = some (.nx [x0, some (.own L), x2, x3, x4, some (.sh y), z, some (.sh (.lst [.int a1, .int w1, .int n1])), x8, x9, x10] g) := fun z => by
    have f := frzL_snoc L (b3 a1 w1 n1)
    rw [b3_frz] at f
    have l := lastS_snoc L (.lst [.int a1, .int w1, .int n1])
    have dl : (L ++ [DV.sh (.lst [.int a1, .int w1, .int n1])]).dropLast = L := List.dropLast_concat
    unfold frzLD frzLE
    simp only [List.getElem?_cons_succ, List.getElem?_cons_zero, f, List.set_cons_succ, List.set_cons_zero, ev_popD, l, Option.map_some, dl]
  rw [ev_gN, Option.bind_some]
  simp only [List.set_cons_succ, List.set_cons_zero]
  unfold L_law_evened_1
  rw [ev_if, t, Option.bind_some, if_pos rfl, ev_seq, s1, Option.bind_some]
  simp only
  rw [ev_seq, s2, Option.bind_some]
  simp [hl]
theorem ev_stay {L : List DV} {a1 w1 n1 a2 w2 n2 : Int} {x0 x2 x3 x4 x5 x6 x7 x8 x9 x10 : Option DV} {y : SV} {g : GS} (m1 : mulOk a1 w2 = true) (m2 : mulOk a2 w1 = true) (hc : ¬ a2 * w1 < a1 * w2) :
    ((gN 5 (.sh y) [x0, some (.own (L ++ [b3 a1 w1 n1] ++ [b3 a2 w2 n2])), x2, x3, x4, x5, x6, x7, x8, x9, x10] g).bind fun p => L_law_evened_1 p.1 p.2) = some (.nx [x0, some (.own (L ++ [b3 a1 w1 n1] ++ [b3 a2 w2 n2])), x2, x3, x4, some (.sh y), x6, x7, x8, x9, x10] g) := by
  have h1 := at_last22 L (b3 a1 w1 n1) (b3 a2 w2 n2)
  have h2 := at_last (L ++ [b3 a1 w1 n1]) (b3 a2 w2 n2)
  have hn : (1 : Int) < ((L ++ [b3 a1 w1 n1] ++ [b3 a2 w2 n2]).length : Nat) := by simp; omega
  generalize hB : L ++ [b3 a1 w1 n1] ++ [b3 a2 w2 n2] = BB at *
  simp [hn, h1, h2, m1, m2, hc]
theorem ev_one {d : DV} {x0 x2 x3 x4 x5 x6 x7 x8 x9 x10 : Option DV} {y : SV} {g : GS} :
    ((gN 5 (.sh y) [x0, some (.own [d]), x2, x3, x4, x5, x6, x7, x8, x9, x10] g).bind fun p => L_law_evened_1 p.1 p.2) = some (.nx [x0, some (.own [d]), x2, x3, x4, some (.sh y), x6, x7, x8, x9, x10] g) := by
  simp
theorem ev_same {B : List DV} {x0 x2 x3 x4 x8 x9 x10 : Option DV} {g : GS} (h : ∀ (x5 x6 x7 : Option DV) (y : SV), ((gN 5 (.sh y) [x0, some (.own B), x2, x3, x4, x5, x6, x7, x8, x9, x10] g).bind fun p => L_law_evened_1 p.1 p.2) = some (.nx [x0, some (.own B), x2, x3, x4, some (.sh y), x6, x7, x8, x9, x10] g)) : ∀ (ys : List SV) (x5 x6 x7 : Option DV), ∃ x5' x6' x7', loopD (gN 5) L_law_evened_1 ys [x0, some (.own B), x2, x3, x4, x5, x6, x7, x8, x9, x10] g = some (.nx [x0, some (.own B), x2, x3, x4, x5', x6', x7', x8, x9, x10] g)
  | [], x5, x6, x7 => ⟨x5, x6, x7, rfl⟩
  | y :: ys, x5, x6, x7 => by
    obtain ⟨y5, y6, y7, e⟩ := ev_same h ys (some (.sh y)) x6 x7
    exact ⟨y5, y6, y7, by rw [loop_nx (h x5 x6 x7 y)]; exact e⟩
/-- the turns for the block that ends at t -/
theorem ev_turns {A W : Nat → Int} {n t : Nat} (hW : ∀ i, i < n → 0 < W i) (sA : ∀ i, i < n → Sz 300 (A i)) (sW : ∀ i, i < n → Sz 300 (W i)) (hn : n ≤ 60) (ht : t ≤ n) {x0 x2 x3 x4 x8 x9 x10 : Option DV} {g : GS} : ∀ (ys : List SV) (rs : List (Nat × Nat)) (s : Nat) (x5 x6 x7 : Option DV), rs.length ≤ ys.length → rs.length ≤ 60 → s < t → Stk A W rs s → SP A W s t →
    ∃ rs' s' x5' x6' x7', loopD (gN 5) L_law_evened_1 ys [x0, some (.own (rvE A W ((s, t) :: rs))), x2, x3, x4, x5, x6, x7, x8, x9, x10] g = some (.nx [x0, some (.own (rvE A W ((s', t) :: rs'))), x2, x3, x4, x5', x6', x7', x8, x9, x10] g) ∧ rs'.length ≤ rs.length ∧ Stk A W ((s', t) :: rs') t
  | ys, [], s, x5, x6, x7, hl, h60, hs, k, S => by
    obtain ⟨y5, y6, y7, e⟩ := ev_same (B := rvE A W [(s, t)]) (x0 := x0) (x2 := x2) (x3 := x3) (x4 := x4) (x8 := x8) (x9 := x9) (x10 := x10) (g := g) (fun x5 x6 x7 y => ev_one) ys x5 x6 x7
    exact ⟨[], s, y5, y6, y7, e, Nat.le_refl _, .cons k hs S fun p hp => by simp at hp⟩
  | ys, (a, s) :: rs, s2, x5, x6, x7, hl, h60, hs, k, S => by
    cases k with
    | cons k hlt S0 hb =>
      have n1 : a ≤ n := by omega
      have n2 : s ≤ n := by omega
      have z1 := seg_sz sW (by omega) n1 n2
      have z2 := seg_sz sA (by omega) n1 n2
      have z3 := seg_sz sW (by omega) n2 ht
      have z4 := seg_sz sA (by omega) n2 ht
      have m1 : mulOk (seg A a s) (seg W s t) = true := mulOk_of z2 z3 (by decide) (by decide)
      have m2 : mulOk (seg A s t) (seg W a s) = true := mulOk_of z4 z1 (by decide) (by decide)
      have eB : rvE A W ((s, t) :: (a, s) :: rs) = rvE A W rs ++ [encE A W (a, s)] ++ [encE A W (s, t)] := by rw [rvE_cons, rvE_cons]
      by_cases hB : Bey A W (a, s) (s, t)
      · cases ys with
        | nil => exact absurd hl (by simp)
        | cons y ys =>
          obtain ⟨y6, y7, e⟩ := ev_merge (L := rvE A W rs) (n1 := ((s - a : Nat) : Int)) (n2 := ((t - s : Nat) : Int)) (x0 := x0) (x2 := x2) (x3 := x3) (x4 := x4) (x5 := x5) (x6 := x6) (x7 := x7) (x8 := x8) (x9 := x9) (x10 := x10) (y := y) (g := g) m1 m2 (lenOk_of (by rw [List.length_map, List.length_reverse]; simp at h60; omega)) hB
          have ea := seg_add A a s t
          have ew := seg_add W a s t
          have en : ((s - a : Nat) : Int) + ((t - s : Nat) : Int) = ((t - a : Nat) : Int) := by omega
          rw [ea, ew, en] at e
          obtain ⟨rs', s', y5, z6, z7, e2, q1, q2⟩ := ev_turns hW sA sW hn ht (x0 := x0) (x2 := x2) (x3 := x3) (x4 := x4) (x8 := x8) (x9 := x9) (x10 := x10) (g := g) ys rs a (some (.sh y)) y6 y7 (by simp at hl; omega) (by simp at h60; omega) (by omega) k (sp_merge hW hlt hs ht S0 S hB)
          refine ⟨rs', s', y5, z6, z7, ?_, by simp; omega, q2⟩
          rw [eB]
          have e' : ((gN 5 (.sh y) [x0, some (.own (rvE A W rs ++ [encE A W (a, s)] ++ [encE A W (s, t)])), x2, x3, x4, x5, x6, x7, x8, x9, x10] g).bind fun p => L_law_evened_1 p.1 p.2) = some (.nx [x0, some (.own (rvE A W ((a, t) :: rs))), x2, x3, x4, some (.sh y), y6, y7, x8, x9, x10] g) := by rw [rvE_cons]; exact e
          rw [loop_nx e']
          exact e2
      · obtain ⟨y5, y6, y7, e⟩ := ev_same (B := rvE A W rs ++ [encE A W (a, s)] ++ [encE A W (s, t)]) (x0 := x0) (x2 := x2) (x3 := x3) (x4 := x4) (x8 := x8) (x9 := x9) (x10 := x10) (g := g) (fun x5 x6 x7 y => ev_stay (L := rvE A W rs) m1 m2 hB) ys x5 x6 x7
        refine ⟨(a, s) :: rs, s, y5, y6, y7, by rw [eB]; exact e, Nat.le_refl _, .cons (.cons k hlt S0 hb) hs S fun p hp => ?_⟩
        simp at hp
        rw [← hp]
        exact hB
/-! k22: the law's evened worths, the table -/
theorem slI_get {ps : Prs} {i : Nat} : slI ps i = upW ps i * vW ps i - upW ps (i + 1) * vW ps (i + 1) := rfl
theorem ev_outer {ps : Prs} (ok : PrsOk ps) {g : GS} : ∃ rs x2 x3 x4 x5 x6 x7, loopD (gN 3) L_law_evened_2 (rngL 0 ps.length) [some (.sh (.lst (ps.map prS))), some (.own []), some (.sh (.int (wsum ps))), none, none, none, none, none, none, none, none] g =
    some (.nx [some (.sh (.lst (ps.map prS))), some (.own (rvE (slI ps) (wW ps) rs)), x2, x3, x4, x5, x6, x7, none, none, none] g) ∧ Stk (slI ps) (wW ps) rs ps.length := by
  have l6 := ok.l6
  have hW : ∀ i, i < ps.length → 0 < wW ps i := fun i hi => by have := ok.at_ hi; omega
  obtain ⟨ρ', g', e, rfl, rs, x3, x4, x5, x6, x7, rfl, hl, k⟩ := loop_rng (gf := gN 3) (sb := L_law_evened_2) (lo := 0) (n := ps.length)
    (fun i ρ g' => g' = g ∧ ∃ rs x3 x4 x5 x6 x7, ρ = [some (.sh (.lst (ps.map prS))), some (.own (rvE (slI ps) (wW ps) rs)), some (.sh (.int (upW ps i))), x3, x4, x5, x6, x7, none, none, none] ∧ rs.length ≤ i ∧ Stk (slI ps) (wW ps) rs i)
    (ρ := [some (.sh (.lst (ps.map prS))), some (.own (rvE (slI ps) (wW ps) [])), some (.sh (.int (upW ps 0))), none, none, none, none, none, none, none, none]) (g := g) ⟨rfl, [], none, none, none, none, none, rfl, Nat.le_refl _, .nil⟩ (fun i ρ g' hi hI => by
      obtain ⟨rfl, rs, x3, x4, x5, x6, x7, rfl, hl, k⟩ := hI
      have ei : (0 : Int) + (i : Nat) = i := by omega
      have ei1 : ((i : Nat) : Int) + 1 = ((i + 1 : Nat) : Int) := by omega
      rw [ei]
      have p0 := bk_pr hi
      have st := upW_step hi
      have su : upW ps i - wW ps i = upW ps (i + 1) := by omega
      have m1 : mulOk (upW ps i) (vW ps i) = true := mulOk_of (upW_sz ok (Nat.le_of_lt hi)) (vW_sz ok hi) (by decide) (by decide)
      have S1 : SP (slI ps) (wW ps) i (i + 1) := fun k h1 h2 => by omega
      obtain ⟨rs', s', y5, y6, y7, et, q1, q2⟩ := ev_turns hW (fun i hi => (slI_sz ok hi).mono (by decide)) (fun i hi => (wW_sz ok hi).mono (by decide)) (by omega) (show i + 1 ≤ ps.length by omega) (x0 := some (.sh (.lst (ps.map prS)))) (x2 := some (.sh (.int (upW ps (i + 1))))) (x3 := some (.sh (.int (i : Nat)))) (x4 := some (.sh (.int (slI ps i)))) (x8 := none) (x9 := none) (x10 := none) (g := g') (rngL 0 ps.length) rs i x5 x6 x7 (by rw [rngL_len]; omega) (by omega) (Nat.lt_succ_self i) k S1
      have eE : encE (slI ps) (wW ps) (i, i + 1) = b3 (slI ps i) (wW ps i) 1 := by
        unfold encE
        simp only [seg_one]
        rw [show i + 1 - i = 1 by omega]
        rfl
      rw [rvE_cons, eE] at et
      have hL : lenOk (rvE (slI ps) (wW ps) rs).length = true := lenOk_of (by unfold rvE; rw [List.length_map, List.length_reverse]; omega)
      have ql : (((ps.map prS).length : Nat) : Int) = (ps.length : Nat) := by rw [List.length_map]
      have r1 : rngOk ((ps.length : Nat) : Int) = true := rngOk_of (by omega)
      have tN : ((ps.length : Nat) : Int).toNat = ps.length := rfl
      refine ⟨_, _, ?_, rfl, (s', i + 1) :: rs', some (.sh (.int (i : Nat))), some (.sh (.int (slI ps i))), y5, y6, y7, rfl, by simp; omega, q2⟩
      by_cases h2 : i + 1 < ps.length
      · have p1 := L2.atI_nat (j := i + 1) (bk_pr h2)
        rw [← ei1] at p1
        have m2 : mulOk (upW ps (i + 1)) (vW ps (i + 1)) = true := mulOk_of (upW_sz ok (Nat.le_of_lt h2)) (vW_sz ok h2) (by decide) (by decide)
        have lt : ((i : Nat) : Int) + 1 < ((ps.length : Nat) : Int) := by omega
        have es : upW ps i * vW ps i - upW ps (i + 1) * vW ps (i + 1) = slI ps i := rfl
        generalize rvE (slI ps) (wW ps) rs = L at *
        generalize rvE (slI ps) (wW ps) ((s', i + 1) :: rs') = L' at *
        generalize slI ps i = S at *
        generalize ps.map prS = P at *
        generalize hn : ((ps.length : Nat) : Int) = nn at *
        clear ei1
        simp [p0, p1, su, ql, lt, m1, m2, hL, es, r1, tN, et]
      · have lt : ¬ ((i : Nat) : Int) + 1 < ((ps.length : Nat) : Int) := by omega
        have es : upW ps i * vW ps i = slI ps i := by
          have u0 : upW ps (i + 1) = 0 := by rw [show i + 1 = ps.length by omega, upW_end]
          rw [slI_get, u0, Int.zero_mul, Int.sub_zero]
        generalize rvE (slI ps) (wW ps) rs = L at *
        generalize rvE (slI ps) (wW ps) ((s', i + 1) :: rs') = L' at *
        generalize slI ps i = S at *
        generalize ps.map prS = P at *
        generalize hn : ((ps.length : Nat) : Int) = nn at *
        clear ei1
        simp [p0, su, ql, lt, m1, hL, es, r1, tN, et])
  exact ⟨rs, _, x3, x4, x5, x6, x7, e, k⟩
def dueL (bs : List (Nat × Nat)) : List (Nat × Nat) := bs.flatMap fun p => List.replicate (p.2 - p.1) p
theorem mlR_due (A W : Nat → Int) (bs : List (Nat × Nat)) : mlR A W bs = (dueL bs).map (mvR A W) := by
  unfold mlR dueL
  rw [List.map_flatMap]
  congr 1
  funext p
  rw [List.map_replicate]
abbrev duE (A W : Nat → Int) (p : Nat × Nat) : SV := .tup [.int (seg A p.1 p.2), .int (seg W p.1 p.2)]
theorem due_loop {A W : Nat → Int} {n : Nat} (hn : n ≤ 60) {x0 x1 x2 x3 x4 x5 x6 x7 x10 : Option DV} {g : GS} : ∀ (bs : List (Nat × Nat)) (acc : List SV) (x9 : Option DV), (∀ p ∈ bs, p.2 ≤ n) → acc.length + (dueL bs).length ≤ 60 → ∃ x9', loopD (gN 9) L_law_evened_3 (bs.map fun p => (encE A W p).frz) [x0, x1, x2, x3, x4, x5, x6, x7, some (.sh (.lst acc)), x9, x10] g =
    some (.nx [x0, x1, x2, x3, x4, x5, x6, x7, some (.sh (.lst (acc ++ (dueL bs).map (duE A W)))), x9', x10] g)
  | [], acc, x9, _, _ => ⟨x9, by simp [dueL]⟩
  | p :: bs, acc, x9, hp, hl => by
    have hd : dueL (p :: bs) = List.replicate (p.2 - p.1) p ++ dueL bs := by unfold dueL; rw [List.flatMap_cons]
    rw [hd] at hl ⊢
    rw [List.length_append, List.length_replicate] at hl
    have p2 := hp p List.mem_cons_self
    have hr := hRep_one (x := duE A W p) (n := p.2 - p.1) (by omega)
    have hc : hCatL acc (List.replicate (p.2 - p.1) (duE A W p)) = some (acc ++ List.replicate (p.2 - p.1) (duE A W p)) := by
      unfold hCatL
      rw [if_pos (lenOk_of (by rw [List.length_replicate]; omega))]
    obtain ⟨y9, e⟩ := due_loop hn (A := A) (W := W) (x0 := x0) (x1 := x1) (x2 := x2) (x3 := x3) (x4 := x4) (x5 := x5) (x6 := x6) (x7 := x7) (x10 := x10) (g := g) bs (acc ++ List.replicate (p.2 - p.1) (duE A W p)) (some (.sh (encE A W p).frz)) (fun q hq => hp q (List.mem_cons_of_mem _ hq)) (by rw [List.length_append, List.length_replicate]; omega)
    refine ⟨y9, ?_⟩
    have st : ((gN 9 (.sh ((encE A W p).frz)) [x0, x1, x2, x3, x4, x5, x6, x7, some (.sh (.lst acc)), x9, x10] g).bind fun p => L_law_evened_3 p.1 p.2) = some (.nx [x0, x1, x2, x3, x4, x5, x6, x7, some (.sh (.lst (acc ++ List.replicate (p.2 - p.1) (duE A W p)))), some (.sh (encE A W p).frz), x10] g) := by
      unfold encE at *
      rw [b3_frz]
      unfold duE at *
      generalize hk : ((p.2 - p.1 : Nat) : Int) = kk at *
      generalize List.replicate (p.2 - p.1) (SV.tup [.int (seg A p.1 p.2), .int (seg W p.1 p.2)]) = RR at *
      generalize seg A p.1 p.2 = sa at *
      generalize seg W p.1 p.2 = sw at *
      clear e
      have fz2 := ev_frzo (acc ++ RR)
      rw [List.map_append] at fz2
      simp [hr, hc, fz2]
    rw [List.map_cons, loop_nx st, e, List.map_append, List.map_replicate, List.append_assoc]
/-- what the law's own pooling gives is what the evened worths are -/
theorem law_evened22 {ps : Prs} {h : Nat → Rat} (ok : PrsOk ps) (C : CvH ps h) {g : GS} : ∃ due : List (Nat × Nat), due.length = ps.length ∧ F_law_evened [.lst (ps.map prS)] g = some (.sh (.lst (due.map (duE (slI ps) (wW ps)))), g) ∧
    ∀ j p, due[j]? = some p → Sz 308 (seg (slI ps) p.1 p.2) ∧ Sz 308 (seg (wW ps) p.1 p.2) ∧ evR ps h j * ((seg (wW ps) p.1 p.2 : Int) : Rat) = ((seg (slI ps) p.1 p.2 : Int) : Rat) := by
  have l6 := ok.l6
  have hW : ∀ i, i < ps.length → 0 < wW ps i := fun i hi => by have := ok.at_ hi; omega
  obtain ⟨rs, x2, x3, x4, x5, x6, x7, e, k⟩ := ev_outer ok (g := g)
  have F := k.fwd (n := ps.length) (bs := []) rfl
  rw [List.append_nil] at F
  unfold rvE at e
  generalize rs.reverse = bs at *
  have hm := F.mem
  have L := mlR_len bs 0 none F
  rw [Nat.add_zero, mlR_due, List.length_map] at L
  refine ⟨dueL bs, L, ?_, fun j p hj => ?_⟩
  · obtain ⟨y9, ed⟩ := due_loop (A := slI ps) (W := wW ps) (n := ps.length) (by omega) (x0 := some (.sh (.lst (ps.map prS)))) (x1 := some (.sh (.lst (bs.map fun p => (encE (slI ps) (wW ps) p).frz)))) (x2 := x2) (x3 := x3) (x4 := x4) (x5 := x5) (x6 := x6) (x7 := x7) (x10 := none) (g := g) bs [] none (fun p hp => (hm p hp).2) (by simp; omega)
    rw [List.nil_append] at ed
    have fz : (DV.own (bs.map (encE (slI ps) (wW ps)))).frz = .lst (bs.map fun p => (encE (slI ps) (wW ps) p).frz) := by
      have : ∀ l : List (Nat × Nat), DV.frzs (l.map (encE (slI ps) (wW ps))) = l.map fun p => (encE (slI ps) (wW ps) p).frz := fun l => by
        induction l with
        | nil => rfl
        | cons p l ih => rw [List.map_cons, ev_frzs_cons, ih]; rfl
      have e0 : ∀ ds, (DV.own ds).frz = .lst (DV.frzs ds) := fun ds => by simp only [DV.frz]
      rw [e0, this]
    have ec := wts_comp (ps := ps) 10 (g := g) (ρ := [some (.sh (.lst (ps.map prS))), some (.own []), none, none, none, none, none, none, none, none, none]) (fun p g => by simp [prS])
    have lO : lenOk (ps.map prS).length = true := lenOk_of (by rw [List.length_map]; omega)
    have r1 : rngOk ((ps.length : Nat) : Int) = true := rngOk_of (by omega)
    have ql : (((ps.map prS).length : Nat) : Int) = (ps.length : Nat) := by rw [List.length_map]
    have ef := ev_frzo ((ps.map (·.2)).map SV.int)
    have ei := ev_intl (ps.map (·.2))
    have es : (ps.map (·.2)).sum = wsum ps := rfl
    have tN : ((ps.length : Nat) : Int).toNat = ps.length := rfl
    generalize (ps.map (·.2)).map SV.int = WS at *
    generalize (ps.map (·.2)) = WW at *
    generalize wsum ps = wh at *
    generalize (bs.map fun p => (encE (slI ps) (wW ps) p).frz) = BF at *
    generalize bs.map (encE (slI ps) (wW ps)) = BD at *
    generalize (dueL bs).map (duE (slI ps) (wW ps)) = DU at *
    generalize ps.map prS = P at *
    clear C
    generalize hnn : ((ps.length : Nat) : Int) = nn at *
    simp [F_law_evened, B_law_evened, lO, ec, ef, ei, es, ql, r1, tN, e, frzEnv, fz, ed]
  · obtain ⟨i1, i2, i3, i4, _⟩ := Fwd.iso hW (fun i => (mlR (slI ps) (wW ps) bs).getD i 0) bs 0 none F (fun j hj => by
      rw [Nat.zero_add] at hj ⊢
      have : j < (mlR (slI ps) (wW ps) bs).length := by rw [mlR_due, List.length_map]; omega
      simp [List.getD, List.getElem?_eq_getElem this]) (fun p h => by cases h)
    have ef : ∀ k, k ≤ ps.length → rsum (fun i => ((wW ps i : Int) : Rat) * (slR ps i - (mlR (slI ps) (wW ps) bs).getD i 0)) k = rsum (fun i => ((slI ps i : Int) : Rat) - ((wW ps i : Int) : Rat) * (mlR (slI ps) (wW ps) bs).getD i 0) k := fun k hk => rsum_congr fun i hi => by
      have w1 := cast_pos (hW i (by omega))
      unfold slR
      grind
    have I0 : Iso ps.length (fun i => ((wW ps i : Int) : Rat)) (slR ps) (fun i => (mlR (slI ps) (wW ps) bs).getD i 0) :=
      ⟨fun i hi => i1 i (Nat.zero_le _) hi, fun k hk => by rw [ef k hk]; exact i2 k (Nat.zero_le _) hk, by rw [ef _ (Nat.le_refl _)]; exact i3, fun i hi h => by rw [ef _ (by omega)]; exact i4 i (Nat.zero_le _) hi h⟩
    have hj' : j < ps.length := by
      have := (List.getElem?_eq_some_iff.mp hj).1
      omega
    have U := Iso.uniq (fun i hi => cast_pos (hW i hi)) (evened_iso ok C) I0 j hj'
    have hmem : p ∈ bs := by
      have := List.mem_of_getElem? hj
      unfold dueL at this
      obtain ⟨q, hq, hr⟩ := List.mem_flatMap.mp this
      rw [List.eq_of_mem_replicate hr]
      exact hq
    obtain ⟨q1, q2⟩ := hm p hmem
    have wp := cast_pos (seg_pos hW q1 q2)
    have em : (mlR (slI ps) (wW ps) bs).getD j 0 = mvR (slI ps) (wW ps) p := by
      rw [mlR_due, List.getD_eq_getElem?_getD, List.getElem?_map, hj]
      rfl
    refine ⟨seg_sz (k := 300) (fun i hi => (slI_sz ok hi).mono (by decide)) (by omega) (by omega) q2, seg_sz (k := 300) (fun i hi => (wW_sz ok hi).mono (by decide)) (by omega) (by omega) q2, ?_⟩
    rw [U, em]
    unfold mvR
    grind
/-! k22: a buyer -/
theorem Scl.mono {n : Nat} {m : Nat → Rat} {N : Nat → Int} {c : Int} {K K' : Nat} (S : Scl n m N c K) (h : K ≤ K') : Scl n m N c K' := ⟨S.c0, S.cs.mono h, fun i hi => (S.ns i hi).mono h, S.eq⟩
theorem comp_cons {wf : WF} {f : OF} {ρ : Env} {x : SV} {xs : List SV} {g g1 g2 : GS} {d : DV} {ds : List DV} (h : ((wf x ρ).bind fun ρ' => f ρ' g) = some (d, g1)) (h2 : compL wf yesT f ρ xs g1 = some (ds, g2)) : compL wf yesT f ρ (x :: xs) g = some (d :: ds, g2) := by
  obtain ⟨ρ', e3, e4⟩ := Option.bind_eq_some_iff.mp h
  unfold compL
  rw [e3, Option.bind_some, ev_yes, Option.bind_some, if_pos rfl, e4, Option.bind_some, h2]
  rfl
theorem frR_noL (q : Rat) : (frR q).noL = true := by simp [frR]
theorem tlR_noL (n : Nat) (m : Nat → Rat) : SV.noLs (tlR n m) = true := by
  unfold tlR
  exact snls_map (f := fun i => frR (m i)) (fun i => frR_noL _) _
theorem ilR_noL (n : Nat) (N : Nat → Int) : SV.noLs (ilR n N) = true := snls_map (f := fun i => SV.int (N i)) (fun i => ev_snl_i _) _
theorem inD_trues (n : Nat) (hn : n ≤ 1000) : hInD (fun x => x) (.bl false) (.lst (List.replicate n (.bl true))) = some (.bl false) := by
  have h1 : SV.pds (List.replicate n (.bl true)) = some (List.replicate n (.bool true)) := by
    induction n with
    | zero => rfl
    | succ n ih => rw [List.replicate_succ, List.replicate_succ, SV.pds, ih (by omega)]; rfl
  have h2 : (List.replicate n (SV.bl true)).mapM (fun z => SV.eq z (.bl false)) = some (List.replicate n false) := by
    induction n with
    | zero => rfl
    | succ n ih =>
      rw [List.replicate_succ, List.replicate_succ, List.mapM_cons, ih (by omega) (by
        have := h1
        rw [List.replicate_succ, List.replicate_succ, SV.pds] at this
        obtain ⟨d, _, e⟩ := Option.bind_eq_some_iff.mp this
        obtain ⟨ds, e1, e2⟩ := Option.map_eq_some_iff.mp e
        rw [e1]
        exact congrArg some (List.cons.inj e2).2)]
      rfl
  have h3 : SV.deps (List.replicate n (.bl true)) = 0 := by
    clear h1 h2
    induction n with
    | zero => rfl
    | succ n ih => rw [List.replicate_succ, SV.deps, ih (by omega)]; rfl
  have h4 : ((List.replicate n false).any fun r => r) = false := by
    clear h1 h2 h3
    induction n with
    | zero => rfl
    | succ n ih => rw [List.replicate_succ, List.any_cons, ih (by omega)]; rfl
  unfold hInD
  simp only [SV.pd, h1, h2, h4]
  rw [if_pos ⟨by decide, by rw [SV.dep, h3]; decide⟩]
theorem snoc_sh (A : List SV) (t : SV) : A.map DV.sh ++ [.sh t] = (A ++ [t]).map .sh := by rw [List.map_append]; rfl
theorem forA3 {A B C : List SV} {x0 x1 x2 x3 x4 x6 x7 x8 x9 x10 x11 x12 : Option DV} {g : GS} (hA : lenOk A.length = true) (hB : lenOk B.length = true) (hC : lenOk C.length = true) :
    ∃ d, forA 5 6 (seqA (appA 5 (oS (tupF (aC (kS (.int 3)) (aC (kS (.int 1)) (aN)))))) (revA 5)) [x0, x1, x2, x3, x4, some (.own [.own (A.map .sh), .own (B.map .sh), .own (C.map .sh)]), x6, x7, x8, x9, x10, x11, x12] g =
      some (.nx [x0, x1, x2, x3, x4, some d, none, x7, x8, x9, x10, x11, x12] g) := by
  have a := snoc_sh A (.tup [.int 3, .int 1])
  have b := snoc_sh B (.tup [.int 3, .int 1])
  have c := snoc_sh C (.tup [.int 3, .int 1])
  have ma := mapM_sh (A ++ [.tup [.int 3, .int 1]])
  have mb := mapM_sh (B ++ [.tup [.int 3, .int 1]])
  have mc := mapM_sh (C ++ [.tup [.int 3, .int 1]])
  have la : lenOk (A.map DV.sh).length = true := by rw [List.length_map]; exact hA
  have lb : lenOk (B.map DV.sh).length = true := by rw [List.length_map]; exact hB
  have lc : lenOk (C.map DV.sh).length = true := by rw [List.length_map]; exact hC
  generalize (A ++ [SV.tup [.int 3, .int 1]]).map DV.sh = A' at *
  generalize (B ++ [SV.tup [.int 3, .int 1]]).map DV.sh = B' at *
  generalize (C ++ [SV.tup [.int 3, .int 1]]).map DV.sh = C' at *
  generalize A.map DV.sh = AA at *
  generalize B.map DV.sh = BB at *
  generalize C.map DV.sh = CC at *
  simp only [ev_forA, ev_slotL, List.getElem?_cons_succ, List.getElem?_cons_zero, Option.bind_some]
  rw [if_neg (by decide)]
  simp [la, lb, lc, a, b, c, ma, mb, mc]
theorem hEq_three {A B C : List SV} {p q r : List PySem.PyData} (ha : SV.pds A = some p) (hb : SV.pds B = some q) (hc : SV.pds C = some r) (da : SV.deps A ≤ 10) (db : SV.deps B ≤ 10) (dc : SV.deps C ≤ 10) : hEq (.lst [.tup A, .tup B, .tup C]) (.lst [.tup A, .tup B, .tup C]) = some (.bl true) := by
  have h1 : (SV.lst [.tup A, .tup B, .tup C]).pd = some (.list [.tuple p, .tuple q, .tuple r]) := by
    simp [SV.pd, SV.pds, ha, hb, hc]
  have h2 : (SV.lst [.tup A, .tup B, .tup C]).dep ≤ 64 := by
    simp [SV.dep, SV.deps]
    omega
  have := hEqD_refl (k := fun x => x) h1 h2
  unfold hEq
  exact this
theorem frR_pd (q : Rat) : (frR q).pd = some (.tuple [.int q.num, .int (q.den : Nat)]) := by simp [frR, SV.pd, SV.pds]
theorem frR_dep (q : Rat) : (frR q).dep ≤ 1 := by simp [frR, SV.dep, SV.deps]
theorem tlR_pds (n : Nat) (m : Nat → Rat) : ∃ ds, SV.pds (tlR n m) = some ds := ⟨_, pds_map (p := fun i : Nat => .tuple [.int (m i).num, .int ((m i).den : Nat)]) (f := fun i => frR (m i)) (List.range n) fun i _ => frR_pd _⟩
theorem tlR_deps (n : Nat) (m : Nat → Rat) : SV.deps (tlR n m) ≤ 10 := by
  have : SV.deps (tlR n m) ≤ 1 := deps_map (f := fun i => frR (m i)) (n := 1) (List.range n) fun i _ => frR_dep _
  omega
theorem told_loop {ps : Prs} (ok : PrsOk ps) {B C : DV} {x0 x1 x2 x4 x6 x9 x10 x11 x12 : Option DV} {g : GS} : ∃ x8, loopD (gN 8) L_law_buyer_right_1 (rngL 0 ps.length) [x0, x1, x2, some (.sh (.lst (ps.map prS))), x4, some (.own [.own ((tlR ps.length (slR ps)).map .sh), B, C]), x6, some (.sh (.lst (ilR ps.length (slI ps)))), none, x9, x10, x11, x12] g =
    some (.nx [x0, x1, x2, some (.sh (.lst (ps.map prS))), x4, some (.own [.own ((tlR ps.length (slR ps)).map .sh), B, C]), x6, some (.sh (.lst (ilR ps.length (slI ps)))), x8, x9, x10, x11, x12] g) := by
  obtain ⟨ρ', g', e, rfl, x8, rfl⟩ := loop_rng (gf := gN 8) (sb := L_law_buyer_right_1) (lo := 0) (n := ps.length)
    (fun i ρ g' => g' = g ∧ ∃ x8, ρ = [x0, x1, x2, some (.sh (.lst (ps.map prS))), x4, some (.own [.own ((tlR ps.length (slR ps)).map .sh), B, C]), x6, some (.sh (.lst (ilR ps.length (slI ps)))), x8, x9, x10, x11, x12])
    (ρ := [x0, x1, x2, some (.sh (.lst (ps.map prS))), x4, some (.own [.own ((tlR ps.length (slR ps)).map .sh), B, C]), x6, some (.sh (.lst (ilR ps.length (slI ps)))), none, x9, x10, x11, x12]) (g := g) ⟨rfl, none, rfl⟩ (fun i ρ g' hi hI => by
      obtain ⟨rfl, x8, rfl⟩ := hI
      have ei : (0 : Int) + (i : Nat) = i := by omega
      rw [ei]
      have w1 := cast_pos (show 0 < wW ps i by have := ok.at_ hi; omega)
      have p0 := bk_pr hi
      have s0 := ilR_at (N := slI ps) hi
      have t0 : ((tlR ps.length (slR ps)).map DV.sh)[i]? = some (.sh (frR (slR ps i))) := by
        rw [List.getElem?_map, rngAt (fun i => frR (slR ps i)) hi]; rfl
      have e1 := same_eqR (g := g') (q := slR ps i) (n := slI ps i) (d := wW ps i) (slR_qs ok hi) (by decide) ((slI_sz ok hi).mono (show 271 ≤ 300 by decide)) ((wW_sz ok hi).mono (by decide)) (by decide) (by unfold slR; grind)
      refine ⟨_, _, ?_, rfl, some (.sh (.int (i : Nat))), rfl⟩
      generalize (tlR ps.length (slR ps)).map DV.sh = T at *
      generalize ps.map prS = P at *
      generalize ilR ps.length (slI ps) = S at *
      simp [p0, s0, t0, e1])
  exact ⟨x8, e⟩
theorem buyer_right22 {bs : List Prs} (H : BkOk bs) {b : Nat} {ps : Prs} (hb : bs[b]? = some ps) (g : GS) : ∃ g', F_law_buyer_right [.gen, bkS bs, .int b, .lst (ps.map prS)] g = some (.sh (.bl true), g') := by
  have ok := H.ok ps (List.mem_of_getElem? hb)
  have l6 := ok.l6
  have l0 := ok.l0
  obtain ⟨h, C, _⟩ := cv_heights ok g
  have L := li_facts ok C
  have qe : ∀ i, i < ps.length → QS 1200 (evR ps h i) := fun i hi => evR_qs ok C hi
  have ql : ∀ i, i < ps.length → QS 1200 (liR ps h i) := fun i hi => ((C.qs _ (Nat.sub_le _ _)).sub (QS.frac (wsum_pos ok) ((cvY_sz1 ok (ps.length - i)).mono (show 269 ≤ 275 by decide)) ((wsum_sz ok).mono (by decide)))).mono (by decide)
  have sc1 : ∀ g, ∃ N c, F_law_scaled [.lst (tlR ps.length (evR ps h))] g = some (.tup [.own ((ilR ps.length N).map .sh), .sh (.int c)], g) ∧ Scl ps.length (evR ps h) N c 9000 := fun g => by
    obtain ⟨N, c, e, S⟩ := scl_eq (g := g) (by decide) (by omega) (by decide) (by omega) qe
    exact ⟨N, c, e, S.mono (by omega)⟩
  have sc2 : ∀ g, ∃ N c, F_law_scaled [.lst (tlR ps.length (liR ps h))] g = some (.tup [.own ((ilR ps.length N).map .sh), .sh (.int c)], g) ∧ Scl ps.length (liR ps h) N c 9000 := fun g => by
    obtain ⟨N, c, e, S⟩ := scl_eq (g := g) (by decide) (by omega) (by decide) (by omega) ql
    exact ⟨N, c, e, S.mono (by omega)⟩
  obtain ⟨N1, c1, e9, S1⟩ := sc1 g
  obtain ⟨N2, c2, e10, S2⟩ := sc2 g
  have LI := li_ints ok L S1 S2
  have es : ∀ g, F_seller_worths [bkS bs, .int b] g = some (.own ((tlR ps.length (slR ps)).map .sh), g) := fun g => seller_eq H hb
  have ee : ∀ g, F_evened_worths [bkS bs, .int b] g = some (.own ((tlR ps.length (evR ps h)).map .sh), g) := fun g => evened_eq H hb C
  have el : ∀ g, F_lifts [bkS bs, .int b] g = some (.own ((tlR ps.length (liR ps h)).map .sh), g) := fun g => lifts_eq H hb C
  have i1 := is_list_eq (g := g) (k := 271) (by decide) (fun i hi => slR_qs ok hi)
  have i2 := is_list_eq (g := g) (k := 1200) (by decide) qe
  have i3 := is_list_eq (g := g) (k := 1200) (by decide) ql
  have e7 : F_law_seller [.lst (ps.map prS)] g = some (.own ((ilR ps.length (slI ps)).map .sh), g) := seller22 ok
  have ep := paired22 (by decide) (by decide) ok LI S1 S2 (g := g)
  obtain ⟨g1, ea⟩ := any_list22 (by decide) (by decide) ok LI S1 S2 g
  obtain ⟨bn, en, hbn⟩ := never22 ok (g := g1)
  obtain ⟨mx, emx, hmx⟩ := maxL_zero l0 (LI.nn)
  have hz : decide (mx = 0) = bn := by
    have := (hmx.trans (lifts_zero ok C L LI S2)).trans hbn.symm
    cases bn
    · exact decide_eq_false fun z => by have := this.mp z; cases this
    · exact decide_eq_true (this.mpr rfl)
  have ec := curve_right22 H (by decide) (by decide) hb C S2 (g := g1)
  obtain ⟨x8, eloop⟩ := told_loop ok (B := .own ((tlR ps.length (evR ps h)).map .sh)) (C := .own ((tlR ps.length (liR ps h)).map .sh)) (x0 := some (.sh .gen)) (x1 := some (.sh (bkS bs))) (x2 := some (.sh (.int b))) (x4 := some (.sh (.int (ps.length : Nat)))) (x6 := none) (x9 := none) (x10 := none) (x11 := none) (x12 := none) (g := g)
  obtain ⟨d5, eA⟩ := forA3 (A := tlR ps.length (slR ps)) (B := tlR ps.length (evR ps h)) (C := tlR ps.length (liR ps h)) (x0 := some (.sh .gen)) (x1 := some (.sh (bkS bs))) (x2 := some (.sh (.int b))) (x3 := some (.sh (.lst (ps.map prS)))) (x4 := some (.sh (.int (ps.length : Nat)))) (x6 := none) (x7 := some (.sh (.lst (ilR ps.length (slI ps))))) (x8 := x8) (x9 := some (.sh (.tup [.lst (ilR ps.length N1), .int c1]))) (x10 := some (.sh (.tup [.lst (ilR ps.length N2), .int c2]))) (x11 := some (.sh (.lst [.tup (tlR ps.length (slR ps)), .tup (tlR ps.length (evR ps h)), .tup (tlR ps.length (liR ps h))]))) (x12 := none) (g := g1)
    (lenOk_of (by rw [tlR_len]; omega)) (lenOk_of (by rw [tlR_len]; omega)) (lenOk_of (by rw [tlR_len]; omega))
  obtain ⟨p1, q1⟩ := tlR_pds ps.length (slR ps)
  obtain ⟨p2, q2⟩ := tlR_pds ps.length (evR ps h)
  obtain ⟨p3, q3⟩ := tlR_pds ps.length (liR ps h)
  have eq := hEq_three q1 q2 q3 (tlR_deps _ _) (tlR_deps _ _) (tlR_deps _ _)
  have n1 := tlR_noL ps.length (slR ps)
  have n2 := tlR_noL ps.length (evR ps h)
  have n3 := tlR_noL ps.length (liR ps h)
  have m1 := nls_sh (ilR ps.length N1)
  have m2 := nls_sh (ilR ps.length N2)
  rw [ilR_noL] at m1 m2
  have ft := inD_trues 3 (by decide)
  have fz : ∀ X Y Z : List SV, (DV.own [.own (X.map .sh), .own (Y.map .sh), .own (Z.map .sh)]).frz = .lst [.lst X, .lst Y, .lst Z] := fun X Y Z => by simp only [DV.frz, DV.frzs, frzs_sh]
  have f3 : ∀ x y z : SV, (DV.own [.sh x, .sh y, .sh z]).frz = .lst [x, y, z] := fun x y z => ev_frzo [x, y, z]
  have fT := fun (X : List SV) => ev_frzo X
  have im := ev_intl ((List.range ps.length).map N2)
  have eil : ((List.range ps.length).map N2).map SV.int = ilR ps.length N2 := by rw [List.map_map]; rfl
  rw [eil] at im
  have lp : (((ps.map prS).length : Nat) : Int) = (ps.length : Nat) := by rw [List.length_map]
  have r1 : rngOk ((ps.length : Nat) : Int) = true := rngOk_of (by omega)
  have tN : ((ps.length : Nat) : Int).toNat = ps.length := rfl
  have rep3 : List.replicate 3 (SV.bl true) = [.bl true, .bl true, .bl true] := rfl
  rw [rep3] at ft
  have lO3 : lenOk 3 = true := lenOk_of (by decide)
  have nb : hNe (.bl bn) (.bl bn) = some (.bl false) := by show some (SV.bl (!decide (bn = bn))) = _; simp
  refine ⟨g1, ?_⟩
  clear L LI S1 S2 hbn hmx hb C ok sc1 sc2 qe ql q1 q2 q3 eil H
  generalize (List.range ps.length).map N2 = NN at *
  generalize tlR ps.length (slR ps) = SL at *
  generalize tlR ps.length (evR ps h) = EV at *
  generalize tlR ps.length (liR ps h) = LI at *
  generalize ilR ps.length (slI ps) = SI at *
  generalize ilR ps.length N1 = R at *
  generalize ilR ps.length N2 = T at *
  generalize ps.map prS = P at *
  generalize bkS bs = B at *
  have c6 : compL (wN 6) yesT (callF F_law_is_list (aC (vS 6) (aC (vS 4) aN))) [some (.sh .gen), some (.sh B), some (.sh (.int b)), some (.sh (.lst P)), some (.sh (.int (ps.length : Nat))), some (.sh (.lst [.lst SL, .lst EV, .lst LI])), none, none, none, none, none, none, none] [.lst SL, .lst EV, .lst LI] g = some ([.sh (.bl true), .sh (.bl true), .sh (.bl true)], g) :=
    comp_cons (g1 := g) (by simp [i1]) (comp_cons (g1 := g) (by simp [i2]) (comp_cons (g1 := g) (by simp [i3]) rfl))
  have ct : ∀ (x0 x1 x2 x3 x4 x5 x7 x8 x9 x10 x11 x12 : Option DV) g, compL (wN 6) yesT (oS (tupleP (vP 6))) [x0, x1, x2, x3, x4, x5, none, x7, x8, x9, x10, x11, x12] [.lst SL, .lst EV, .lst LI] g = some ([.sh (.tup SL), .sh (.tup EV), .sh (.tup LI)], g) := fun x0 x1 x2 x3 x4 x5 x7 x8 x9 x10 x11 x12 g =>
    comp_cons (g1 := g) (by simp) (comp_cons (g1 := g) (by simp) (comp_cons (g1 := g) (by simp) rfl))
  generalize hn : ((ps.length : Nat) : Int) = nn at *
  have h01 : L2.atI [SV.lst SL, .lst EV, .lst LI] 1 = some (.lst EV) := at1 _ _ _
  have h02 : L2.atI [SV.lst SL, .lst EV, .lst LI] 2 = some (.lst LI) := at2 _ _ _ _
  simp [-ev_forA, F_law_buyer_right, B_law_buyer_right, lp, es, ee, el, frzEnv, fz, f3, fT, lO3, c6, ft, e7, r1, tN, eloop, h01, h02, e9, e10, m1, m2, ep, ea, im, emx, hz, nb, en, ec, ct, n1, n2, n3, eA, eq]
/-! k22: the drawn crowd -/
theorem cut_take {α : Type} (xs : List α) (i : Nat) (hi : i ≤ xs.length) : cutS xs none (some (i : Int)) = xs.take i := by
  unfold cutS
  rw [HT.sIx_nat, HT.sIx_none, Nat.min_eq_left hi, List.drop_zero, Nat.sub_zero]
theorem great22 (g : GS) : ∃ r g', F_law_great [.gen, .bl true] g = some (.sh (.int r), g') ∧ 0 ≤ r ∧ r < 10 ^ 40 := by
  have hp : powOk 10 8 = true := by decide
  obtain ⟨ρ', g', e, r, x3, rfl, r0, r1⟩ := loop_rng (gf := gN 3) (sb := L_law_great_1) (lo := 0) (n := 5)
    (fun i ρ g' => ∃ r x3, ρ = [some (.sh .gen), some (.sh (.bl true)), some (.sh (.int r)), x3] ∧ 0 ≤ r ∧ r < 10 ^ (8 * i))
    (ρ := [some (.sh .gen), some (.sh (.bl true)), some (.sh (.int 0)), none]) (g := g) ⟨0, none, rfl, by decide, by decide⟩ (fun i ρ g' hi hI => by
      obtain ⟨r, x3, rfl, r0, r1⟩ := hI
      obtain ⟨d, g2, e, d0, d1⟩ := draw_eq (b := 100000000) g' (by decide) (by decide)
      have hb : r < 10 ^ 40 := Int.lt_of_lt_of_le r1 (by
        have := Nat.pow_le_pow_right (n := 10) (by decide) (show 8 * i ≤ 40 by omega)
        exact_mod_cast this)
      have m1 : mulOk r 100000000 = true := mulOk_of (k := 140) (l := 40) (by unfold Sz; omega) (by unfold Sz; decide) (by decide) (by decide)
      refine ⟨_, g2, ?_, r * 100000000 + d, some (.sh (.int (0 + (i : Nat)))), rfl, by omega, ?_⟩
      · simp [hp, m1, e]
      · have e9 : (10 : Int) ^ (8 * (i + 1)) = 10 ^ (8 * i) * 100000000 := by rw [show 8 * (i + 1) = 8 * i + 8 by omega, Int.pow_add]; rfl
        rw [e9]
        generalize (10 : Int) ^ (8 * i) = p at *
        omega)
  refine ⟨r, g', ?_, r0, by simpa using r1⟩
  have r4 : rngOk 5 = true := by decide +kernel
  have t4 : (5 : Int).toNat = 5 := rfl
  simp [F_law_great, B_law_great, r4, t4, e]
structure CsOk (cs : List Nat) : Prop where
  l0 : 0 < cs.length
  l6 : cs.length ≤ 6
  c : ∀ x ∈ cs, 1 ≤ x ∧ x ≤ 6
  p : cs.foldl (· * ·) 1 ≤ 144
structure PrsTo (ps : Prs) (i : Nat) (v : Int) : Prop where
  len : ps.length = i
  inc : ∀ i, i + 1 < ps.length → (ps.getD i (0, 0)).1 < (ps.getD (i + 1) (0, 0)).1
  ok : ∀ p ∈ ps, 0 ≤ p.1 ∧ p.1 + 1 < 10 ^ 40 ∧ 1 ≤ p.2 ∧ p.2 < 10 ^ 40
  lt : ∀ p ∈ ps, p.1 < v
  v0 : 0 ≤ v
theorem PrsTo.snoc {ps : Prs} {i : Nat} {v w v' : Int} (h : PrsTo ps i v) (hv : v + 1 < 10 ^ 40) (w0 : 1 ≤ w) (w1 : w < 10 ^ 40) (hv' : v < v') : PrsTo (ps ++ [(v, w)]) (i + 1) v' := by
  refine ⟨by rw [List.length_append, h.len]; rfl, fun j hj => ?_, fun p hp => ?_, fun p hp => ?_, by have := h.v0; omega⟩
  · rw [List.length_append, h.len] at hj
    have hj : j + 1 < i + 1 := hj
    rw [List.getD_eq_getElem?_getD, List.getD_eq_getElem?_getD, List.getElem?_append_left (by rw [h.len]; omega)]
    by_cases hl : j + 1 < i
    · rw [List.getElem?_append_left (by rw [h.len]; omega), ← List.getD_eq_getElem?_getD, ← List.getD_eq_getElem?_getD]
      exact h.inc j (by rw [h.len]; exact hl)
    · rw [List.getElem?_append_right (by rw [h.len]; omega), h.len, show j + 1 - i = 0 by omega]
      have hj' : j < ps.length := by rw [h.len]; omega
      rw [List.getElem?_eq_getElem hj']
      exact h.lt _ (List.getElem_mem hj')
  · rcases List.mem_append.mp hp with hp | hp
    · exact h.ok p hp
    · rw [List.mem_singleton.mp hp]
      exact ⟨h.v0, hv, w0, w1⟩
  · rcases List.mem_append.mp hp with hp | hp
    · have := h.lt p hp; omega
    · rw [List.mem_singleton.mp hp]; exact hv'
theorem crowd_pairs {c : Nat} (c6 : c ≤ 6) {bg ev : Bool} {w0 wt st : Int} (a0 : 0 ≤ w0) (a1 : w0 ≤ 3) (b0 : 1 ≤ wt) (b1 : wt < 10) (s0 : 1 ≤ st) (s1 : st < 10) {x1 x3 x4 x10' : Option DV} (g : GS) :
    ∃ ps v wt' st' x10 g', loopD (gN 10) L_law_crowd_1 (rngL 0 c) [some (.sh .gen), x1, some (.sh (.bl bg)), x3, x4, some (.sh (.bl ev)), some (.sh (.int w0)), some (.sh (.int wt)), some (.sh (.int st)), some (.own []), x10'] g =
      some (.nx [some (.sh .gen), x1, some (.sh (.bl bg)), x3, x4, some (.sh (.bl ev)), some (.sh (.int v)), some (.sh (.int wt')), some (.sh (.int st')), some (.own ((ps.map prS).map .sh)), x10] g') ∧ PrsTo ps c v := by
  obtain ⟨ρ', g', e, ps, v, wt', st', x10, rfl, P, hv, w1, w2, t1, t2⟩ := loop_rng (gf := gN 10) (sb := L_law_crowd_1) (lo := 0) (n := c)
    (fun i ρ g' => ∃ ps v wt' st' x10, ρ = [some (.sh .gen), x1, some (.sh (.bl bg)), x3, x4, some (.sh (.bl ev)), some (.sh (.int v)), some (.sh (.int wt')), some (.sh (.int st')), some (.own ((ps.map prS).map .sh)), x10] ∧ PrsTo ps i v ∧ v ≤ 3 + i * (10 ^ 39 + 3 * 10 ^ 38) ∧ 1 ≤ wt' ∧ wt' < 10 ^ 40 ∧ 1 ≤ st' ∧ st' ≤ 10 ^ 39 + 3 * 10 ^ 38)
    (ρ := [some (.sh .gen), x1, some (.sh (.bl bg)), x3, x4, some (.sh (.bl ev)), some (.sh (.int w0)), some (.sh (.int wt)), some (.sh (.int st)), some (.own []), x10']) (g := g) ⟨[], w0, wt, st, x10', rfl, ⟨rfl, fun i hi => absurd hi (by simp), fun p hp => absurd hp List.not_mem_nil, fun p hp => absurd hp List.not_mem_nil, a0⟩, by omega, b0, by omega, s0, by omega⟩ (fun i ρ g' hi hI => by
      obtain ⟨ps, v, wt', st', x10, rfl, P, hv, w1, w2, t1, t2⟩ := hI
      have vb : v + 1 < 10 ^ 40 := by
        have : (i : Int) ≤ 5 := by omega
        have := Int.mul_le_mul_of_nonneg_right this (show (0 : Int) ≤ 10 ^ 39 + 3 * 10 ^ 38 by decide)
        omega
      have hL : lenOk ((ps.map prS).map DV.sh).length = true := lenOk_of (by rw [List.length_map, List.length_map, P.len]; omega)
      have evv : ∀ s : Int, s ≤ 10 ^ 39 + 3 * 10 ^ 38 → v + s ≤ 3 + ((i + 1 : Nat) : Int) * (10 ^ 39 + 3 * 10 ^ 38) := fun s hs => by
        have : ((i + 1 : Nat) : Int) * (10 ^ 39 + 3 * 10 ^ 38) = (i : Int) * (10 ^ 39 + 3 * 10 ^ 38) + (10 ^ 39 + 3 * 10 ^ 38) := by push_cast; grind
        omega
      have er : ∀ w : Int, (ps ++ [(v, w)]).map prS = ps.map prS ++ [.tup [.int v, .int w]] := fun w => by rw [List.map_append]; rfl
      cases ev with
      | true =>
        refine ⟨_, g', ?_, ps ++ [(v, wt')], v + st', wt', st', some (.sh (.int (0 + (i : Nat)))), rfl, P.snoc vb w1 w2 (by omega), evv _ t2, w1, w2, t1, t2⟩
        rw [er, List.map_append]
        generalize (ps.map prS).map DV.sh = L at *
        simp [hL]
      | false =>
        cases bg with
        | true =>
          obtain ⟨r, g2, e2, r0, r1⟩ := great22 g'
          obtain ⟨q, g3, e3, q0, q1⟩ := great22 g2
          have d2 : divOk r 2 = true := divOk_of (k := 2) (by decide) (by unfold Sz; decide) (by decide)
          have d8 : divOk q 8 = true := divOk_of (k := 4) (by decide) (by unfold Sz; decide) (by decide)
          refine ⟨_, g3, ?_, ps ++ [(v, 1 + r / 2)], v + (1 + q / 8), 1 + r / 2, 1 + q / 8, some (.sh (.int (0 + (i : Nat)))), rfl, P.snoc vb (by omega) (by omega) (by omega), evv _ (by omega), by omega, by omega, by omega, by omega⟩
          rw [er, List.map_append]
          generalize (ps.map prS).map DV.sh = L at *
          simp [hL, e2, e3, d2, d8]
        | false =>
          obtain ⟨r, g2, e2, r0, r1⟩ := draw_eq (b := 9) g' (by decide) (by decide)
          obtain ⟨q, g3, e3, q0, q1⟩ := draw_eq (b := 9) g2 (by decide) (by decide)
          refine ⟨_, g3, ?_, ps ++ [(v, 1 + r)], v + (1 + q), 1 + r, 1 + q, some (.sh (.int (0 + (i : Nat)))), rfl, P.snoc vb (by omega) (by omega) (by omega), evv _ (by omega), by omega, by omega, by omega, by omega⟩
          rw [er, List.map_append]
          generalize (ps.map prS).map DV.sh = L at *
          simp [hL, e2, e3])
  exact ⟨ps, v, wt', st', x10, g', e, P⟩
/-- a crowd: a book's buyers, every worth well below the bound -/
structure Crw (bs : List Prs) : Prop where
  ok : BkOk bs
  up : ∀ ps ∈ bs, ∀ p ∈ ps, p.1 + 1 < 10 ^ 40
theorem crowd_counts (g : GS) : ∃ cs d g', (seqD (setD 1 (oS (fz (slP (oS (fz (lstF (oC (oS (b2 hAdd (kS (.int 1)) (fz (callF drawF (aC (vS 0) (aC (kS (.int 6)) (aN))))))) (oC (oS (b2 hAdd (kS (.int 1)) (fz (callF drawF (aC (vS 0) (aC (kS (.int 6)) (aN))))))) (oC (oS (b2 hAdd (kS (.int 1)) (fz (callF drawF (aC (vS 0) (aC (kS (.int 4)) (aN))))))) (oN))))))) (ptN) (ptS (b2 hAdd (kS (.int 1)) (fz (callF drawF (aC (vS 0) (aC (kS (.int 3)) (aN)))))))))))
  (ifD (tB1 (b2 hEq (fz (callF drawF (aC (vS 0) (aC (kS (.int 8)) (aN))))) (kS (.int 0)))) (setD 1 (oS (b2 hIx (fz (lstF (oC (lstF (oC (oS (kS (.int 2))) (oC (oS (kS (.int 2))) (oC (oS (kS (.int 2))) (oC (oS (kS (.int 2))) (oC (oS (kS (.int 2))) (oC (oS (kS (.int 2))) (oN)))))))) (oC (lstF (oC (oS (kS (.int 1))) (oC (oS (kS (.int 6))) (oC (oS (kS (.int 1))) (oC (oS (kS (.int 6))) (oC (oS (kS (.int 2))) (oC (oS (kS (.int 2))) (oN)))))))) (oC (lstF (oC (oS (kS (.int 3))) (oC (oS (kS (.int 1))) (oC (oS (kS (.int 4))) (oC (oS (kS (.int 1))) (oC (oS (kS (.int 6))) (oC (oS (kS (.int 2))) (oN)))))))) (oN)))))) (fz (callF drawF (aC (vS 0) (aC (kS (.int 3)) (aN)))))))) (skipD))) [some (.sh .gen), none, none, none, none, none, none, none, none, none, none] g =
    some (.nx [some (.sh .gen), some (.sh (.lst (cs.map fun (c : Nat) => SV.int (c : Int)))), none, none, none, none, none, none, none, none, d] g') ∧ CsOk cs := by
  obtain ⟨a, g1, e1, a0, a1⟩ := draw_eq (b := 6) g (by decide) (by decide)
  obtain ⟨b, g2, e2, b0, b1⟩ := draw_eq (b := 6) g1 (by decide) (by decide)
  obtain ⟨c, g3, e3, c0, c1⟩ := draw_eq (b := 4) g2 (by decide) (by decide)
  obtain ⟨k, g4, e4, k0, k1⟩ := draw_eq (b := 3) g3 (by decide) (by decide)
  obtain ⟨z, g5, e5, z0, z1⟩ := draw_eq (b := 8) g4 (by decide) (by decide)
  have f3 : ∀ x y z : SV, (DV.own [.sh x, .sh y, .sh z]).frz = .lst [x, y, z] := fun x y z => ev_frzo [x, y, z]
  have f6 : ∀ a b c d e f : SV, (DV.own [.sh a, .sh b, .sh c, .sh d, .sh e, .sh f]).frz = .lst [a, b, c, d, e, f] := fun a b c d e f => ev_frzo [a, b, c, d, e, f]
  have fo : ∀ a b c : DV, (DV.own [a, b, c]).frz = .lst [a.frz, b.frz, c.frz] := fun a b c => by simp only [DV.frz, DV.frzs]
  have hct := cut_take [SV.int (1 + a), .int (1 + b), .int (1 + c)] (1 + k).toNat (by simp; omega)
  rw [show (((1 + k).toNat : Nat) : Int) = 1 + k by omega] at hct
  have fT := fun (X : List SV) => ev_frzo X
  by_cases hz : z = 0
  · subst hz
    obtain ⟨r, g6, e6, r0, r1⟩ := draw_eq (b := 3) g5 (by decide) (by decide)
    have hr : r = 0 ∨ r = 1 ∨ r = 2 := by omega
    rcases hr with rfl | rfl | rfl
    · refine ⟨[2, 2, 2, 2, 2, 2], none, g6, ?_, by decide, by decide, by decide, by decide⟩
      simp [e1, e2, e3, e4, e5, e6, f3, f6, fo, hct, fT]
    · refine ⟨[1, 6, 1, 6, 2, 2], none, g6, ?_, by decide, by decide, by decide, by decide⟩
      simp [e1, e2, e3, e4, e5, e6, f3, f6, fo, hct, fT]
    · refine ⟨[3, 1, 4, 1, 6, 2], none, g6, ?_, by decide, by decide, by decide, by decide⟩
      simp [e1, e2, e3, e4, e5, e6, f3, f6, fo, hct, fT]
  · obtain ⟨na, rfl⟩ : ∃ n : Nat, a = n := ⟨a.toNat, by omega⟩
    obtain ⟨nb, rfl⟩ : ∃ n : Nat, b = n := ⟨b.toNat, by omega⟩
    obtain ⟨nc, rfl⟩ : ∃ n : Nat, c = n := ⟨c.toNat, by omega⟩
    have hk : k = 0 ∨ k = 1 ∨ k = 2 := by omega
    have bnd : ∀ x y : Nat, x ≤ 6 → y ≤ 6 → x * y ≤ 36 := fun x y hx hy => Nat.mul_le_mul hx hy
    rcases hk with rfl | rfl | rfl
    · refine ⟨[1 + na], none, g5, ?_, by simp, by simp, fun x hx => by simp at hx; omega, by simp; omega⟩
      have hct' : cutS [SV.int (1 + (na : Int)), .int (1 + (nb : Int)), .int (1 + (nc : Int))] none (some (1 + 0)) = [SV.int (1 + (na : Int))] := hct
      simp only [show (1 : Int) + 0 = 1 from rfl] at hct'
      simp [e1, e2, e3, e4, e5, f3, hct', fT, hz]
    · refine ⟨[1 + na, 1 + nb], none, g5, ?_, by simp, by simp, fun x hx => by simp at hx; omega, ?_⟩
      · have hct' : cutS [SV.int (1 + (na : Int)), .int (1 + (nb : Int)), .int (1 + (nc : Int))] none (some (1 + 1)) = [SV.int (1 + (na : Int)), SV.int (1 + (nb : Int))] := hct
        simp only [show (1 : Int) + 1 = 2 from rfl] at hct'
        have f2 : ∀ x y : SV, (DV.own [.sh x, .sh y]).frz = .lst [x, y] := fun x y => ev_frzo [x, y]
        simp [e1, e2, e3, e4, e5, f3, hct', f2, hz]
      · have := bnd (1 + na) (1 + nb) (by omega) (by omega)
        simp; omega
    · refine ⟨[1 + na, 1 + nb, 1 + nc], none, g5, ?_, by simp, by simp, fun x hx => by simp at hx; omega, ?_⟩
      · have hct' : cutS [SV.int (1 + (na : Int)), .int (1 + (nb : Int)), .int (1 + (nc : Int))] none (some (1 + 2)) = [SV.int (1 + (na : Int)), SV.int (1 + (nb : Int)), SV.int (1 + (nc : Int))] := hct
        simp only [show (1 : Int) + 2 = 3 from rfl] at hct'
        simp [e1, e2, e3, e4, e5, f3, hct', hz]
      · have h1 := bnd (1 + na) (1 + nb) (by omega) (by omega)
        have h2 := Nat.mul_le_mul h1 (show 1 + nc ≤ 4 by omega)
        simp; omega
theorem rowsN_snoc (bs : List Prs) (ps : Prs) : rowsN (bs ++ [ps]) = rowsN bs * ps.length := by
  unfold rowsN
  rw [List.map_append, List.foldl_append]
  rfl
theorem crowd22 (g : GS) : ∃ bs g', F_law_crowd [.gen] g = some (.own ((bs.map encL).map .sh), g') ∧ Crw bs := by
  obtain ⟨cs, d10, g1, e1, CO⟩ := crowd_counts g
  obtain ⟨z, g2, e2, z0, z1⟩ := draw_eq (b := 8) g1 (by decide) (by decide)
  have l6 := CO.l6
  obtain ⟨ρ', g', e, bs, y4, y5, y6, y7, y8, y9, y10, rfl, hf, hP⟩ := loop_lst (gf := gN 4) (sb := L_law_crowd_2) (fun (c : Nat) => SV.int (c : Int)) (xs := cs)
    (fun i ρ g' => ∃ (bs : List Prs) (y4 y5 y6 y7 y8 y9 y10 : Option DV), ρ = [some (.sh .gen), some (.sh (.lst (cs.map fun (c : Nat) => SV.int (c : Int)))), some (.sh (.bl (decide (z = 0)))), some (.own ((bs.map encL).map .sh)), y4, y5, y6, y7, y8, y9, y10] ∧ bs.map List.length = cs.take i ∧ ∀ ps ∈ bs, PrsOk ps ∧ ∀ p ∈ ps, p.1 + 1 < 10 ^ 40)
    (ρ := [some (.sh .gen), some (.sh (.lst (cs.map fun (c : Nat) => SV.int (c : Int)))), some (.sh (.bl (decide (z = 0)))), some (.own []), none, none, none, none, none, none, d10]) (g := g2) ⟨[], none, none, none, none, none, none, d10, rfl, rfl, fun ps h => absurd h List.not_mem_nil⟩ (fun i c ρ g' hc hI => by
      obtain ⟨bs, y4, y5, y6, y7, y8, y9, y10, rfl, hf, hP⟩ := hI
      obtain ⟨c1, c6⟩ := CO.c c (List.mem_of_getElem? hc)
      have hi : i < cs.length := (List.getElem?_eq_some_iff.mp hc).1
      obtain ⟨a, g3, e3, a0, a1⟩ := draw_eq (b := 3) g' (by decide) (by decide)
      obtain ⟨w, g4, e4, w0, w1⟩ := draw_eq (b := 4) g3 (by decide) (by decide)
      obtain ⟨t, g5, e5, t0, t1⟩ := draw_eq (b := 9) g4 (by decide) (by decide)
      obtain ⟨s, g6, e6, s0, s1⟩ := draw_eq (b := 9) g5 (by decide) (by decide)
      obtain ⟨ps, v, wt', st', x10, g7, e7, P⟩ := crowd_pairs (c := c) c6 (bg := decide (z = 0)) (ev := decide (a = 0)) (w0 := w) (wt := 1 + t) (st := 1 + s) w0 (by omega) (by omega) (by omega) (by omega) (by omega) (x1 := some (.sh (.lst (cs.map fun (c : Nat) => SV.int (c : Int))))) (x3 := some (.own ((bs.map encL).map .sh))) (x4 := some (.sh (.int (c : Int)))) (x10' := y10) g6
      have bl : bs.length = i := by rw [← List.length_map (f := List.length), hf, List.length_take]; omega
      have hL : lenOk ((bs.map encL).map DV.sh).length = true := lenOk_of (by rw [List.length_map, List.length_map]; omega)
      have er : (bs ++ [ps]).map encL = bs.map encL ++ [encL ps] := by rw [List.map_append]; rfl
      have rc : rngOk ((c : Nat) : Int) = true := rngOk_of (by omega)
      have tc : ((c : Nat) : Int).toNat = c := rfl
      have fz := ev_frzo (ps.map prS)
      refine ⟨_, g7, ?_, bs ++ [ps], some (.sh (.int (c : Int))), some (.sh (.bl (decide (a = 0)))), some (.sh (.int v)), some (.sh (.int wt')), some (.sh (.int st')), some (.sh (.lst (ps.map prS))), x10, rfl, ?_, fun q hq => ?_⟩
      · rw [er, List.map_append]
        generalize ((bs.map encL).map DV.sh) = BB at *
        generalize cs.map (fun (c : Nat) => SV.int (c : Int)) = CC at *
        unfold encL
        generalize ps.map prS = PP at *
        generalize decide (z = 0) = zz at *
        generalize hcc : ((c : Nat) : Int) = cc at *
        simp [e3, e4, e5, e6, rc, tc, e7, frzEnv, fz, hL]
      · rw [List.map_append, hf, List.map_cons, List.map_nil, P.len, List.take_add_one, hc]
        rfl
      · rcases List.mem_append.mp hq with hq | hq
        · exact hP q hq
        · rw [List.mem_singleton.mp hq]
          exact ⟨⟨by rw [P.len]; omega, by rw [P.len]; omega, P.inc, fun p hp => by have := P.ok p hp; omega⟩, fun p hp => (P.ok p hp).2.1⟩)
  rw [List.take_length] at hf
  have bl : bs.length = cs.length := by rw [← hf, List.length_map]
  refine ⟨bs, g', ?_, ⟨⟨by have := CO.l0; omega, by omega, fun ps h => (hP ps h).1, by unfold rowsN; rw [hf]; exact CO.p⟩, fun ps h => (hP ps h).2⟩⟩
  generalize (bs.map encL).map DV.sh = R at *
  have es : ∀ (s1 s2 s3 : SF) (ρ : Env) (g : GS), seqD s1 (seqD s2 s3) ρ g = seqD (seqD s1 s2) s3 ρ g := fun s1 s2 s3 ρ g => by
    simp only [ev_seq]
    cases s1 ρ g with
    | none => rfl
    | some r => cases r <;> rfl
  unfold F_law_crowd B_law_crowd
  rw [ev_fn, if_pos (show [SV.gen].length = 1 from rfl), es, ev_seq]
  simp only [ev_env0, List.map_cons, List.map_nil, List.length_cons, List.length_nil]
  have er : List.replicate (11 - (0 + 1)) (none : Option DV) = [none, none, none, none, none, none, none, none, none, none] := rfl
  rw [er]
  simp only [List.cons_append, List.nil_append]
  rw [e1, Option.bind_some]
  clear e1 es
  generalize cs.map (fun (c : Nat) => SV.int (c : Int)) = CC at *
  simp [e2, e]
/-! k22: the table, the law -/
theorem frzs_map {α : Type} (f : α → DV) (s : α → SV) (h : ∀ x, (f x).frz = s x) : ∀ xs : List α, DV.frzs (xs.map f) = xs.map s
  | [] => by simp only [List.map_nil, DV.frzs]
  | x :: xs => by simp only [List.map_cons, DV.frzs, h, frzs_map f s h xs]
theorem frz_map {α : Type} (f : α → DV) (s : α → SV) (h : ∀ x, (f x).frz = s x) (xs : List α) : (DV.own (xs.map f)).frz = .lst (xs.map s) := by
  simp only [DV.frz, frzs_map f s h]
abbrev psA (bs : List Prs) (b : Nat) : Prs := bs.getD b []
theorem psA_at {bs : List Prs} {b : Nat} {ps : Prs} (h : bs[b]? = some ps) : psA bs b = ps := by simp [psA, List.getD, h]
abbrev rowL (bs : List Prs) (hs : Nat → Nat → Rat) (b : Nat) : List SV := tlR (psA bs b).length (evR (psA bs b) (hs b))
theorem heights_all {bs : List Prs} (H : BkOk bs) (g : GS) : ∃ hs : Nat → Nat → Rat, ∀ b ps, bs[b]? = some ps → CvH ps (hs b) := by
  have : ∀ b : Nat, ∃ h : Nat → Rat, ∀ ps, bs[b]? = some ps → CvH ps h := fun b => by
    cases hb : bs[b]? with
    | none => exact ⟨fun _ => 0, fun ps h => by cases h⟩
    | some ps =>
      obtain ⟨h, C, _⟩ := cv_heights (H.ok ps (List.mem_of_getElem? hb)) g
      exact ⟨h, fun ps' e => by cases e; exact C⟩
  obtain ⟨f, hf⟩ := Classical.skolem.mp this
  exact ⟨f, fun b ps h => hf b ps h⟩
theorem table22 {bs : List Prs} (H : BkOk bs) {hs : Nat → Nat → Rat} (C : ∀ b ps, bs[b]? = some ps → CvH ps (hs b)) (g : GS) : F_evened_table [bkS bs] g = some (.own ((List.range bs.length).map fun b => DV.own ((rowL bs hs b).map .sh)), g) := by
  have l6 := H.l6
  have ec := comp_map (β := Int) (wf := wN 1) (f := callF F_evened_worths (aC (vS 0) (aC (vS 1) (aN)))) (ρ := [some (.sh (bkS bs)), none]) (fun (i : Nat) => SV.int (0 + (i : Int))) (fun b => DV.own ((rowL bs hs b).map .sh)) (List.range bs.length) g (fun i hi g => by
    have hi := List.mem_range.mp hi
    have hb : bs[i]? = some bs[i] := List.getElem?_eq_getElem hi
    have e := evened_eq H (g := g) hb (C i _ hb)
    have ep := psA_at hb
    rw [← ep] at e
    have e' : F_evened_worths [bkS bs, .int i] g = some (.own ((rowL bs hs i).map .sh), g) := e
    generalize rowL bs hs i = R at *
    clear e ep hb
    generalize bkS bs = B at *
    simp [e'])
  rw [← range_map] at ec
  have r1 : rngOk ((bs.length : Nat) : Int) = true := rngOk_of (by omega)
  have lR : lenOk (rngL 0 bs.length).length = true := lenOk_of (by rw [rngL_len]; omega)
  have e1 : (DV.sh (bkS bs)).fld CA.Book ns_Book 1 = some (.int (bs.length : Nat)) := by unfold bkS; exact ev_fldo
  generalize (List.range bs.length).map (fun b => DV.own ((rowL bs hs b).map .sh)) = R at *
  generalize bkS bs = B at *
  generalize bs.length = n at *
  simp [F_evened_table, B_evened_table, e1, r1, lR, ec]
theorem same_comp {ps : Prs} {h : Nat → Rat} {due : List (Nat × Nat)} {T DU : List SV} (ok : PrsOk ps) (C : CvH ps h) (dl : due.length = ps.length) (hd : ∀ j p, due[j]? = some p → Sz 308 (seg (slI ps) p.1 p.2) ∧ Sz 308 (seg (wW ps) p.1 p.2) ∧ evR ps h j * ((seg (wW ps) p.1 p.2 : Int) : Rat) = ((seg (slI ps) p.1 p.2 : Int) : Rat)) {b : Nat} (hT : T[b]? = some (.lst (tlR ps.length (evR ps h)))) (hD : DU = due.map (duE (slI ps) (wW ps))) {x1 : Option DV} {g : GS} :
    compL (wN 4) yesT (callF F_law_same (aC (b2 hIx (b2 hIx (vS 0) (vS 2)) (vS 4)) (aC (b2 hIx (b2 hIx (vS 3) (vS 4)) (kS (.int 0))) (aC (b2 hIx (b2 hIx (vS 3) (vS 4)) (kS (.int 1))) (aN))))) [some (.sh (.lst T)), x1, some (.sh (.int (b : Nat))), some (.sh (.lst DU)), none] (rngL 0 ps.length) g = some ((List.replicate ps.length (.bl true)).map .sh, g) := by
  have ec := comp_map (β := Int) (wf := wN 4) (f := callF F_law_same (aC (b2 hIx (b2 hIx (vS 0) (vS 2)) (vS 4)) (aC (b2 hIx (b2 hIx (vS 3) (vS 4)) (kS (.int 0))) (aC (b2 hIx (b2 hIx (vS 3) (vS 4)) (kS (.int 1))) (aN))))) (ρ := [some (.sh (.lst T)), x1, some (.sh (.int (b : Nat))), some (.sh (.lst DU)), none]) (fun (i : Nat) => SV.int (0 + (i : Int))) (fun _ => DV.sh (.bl true)) (List.range ps.length) g (fun j hj g => by
    have hj := List.mem_range.mp hj
    obtain ⟨p, hp⟩ : ∃ p, due[j]? = some p := ⟨_, List.getElem?_eq_getElem (by omega)⟩
    obtain ⟨z1, z2, e⟩ := hd j p hp
    have es := same_eqR (g := g) (evR_qs ok C hj) (by decide) z1 z2 (by decide) e
    have t0 : (tlR ps.length (evR ps h))[j]? = some (frR (evR ps h j)) := rngAt (fun i => frR (evR ps h i)) hj
    have d0 : DU[j]? = some (duE (slI ps) (wW ps) p) := by rw [hD, List.getElem?_map, hp]; rfl
    have ei : (0 : Int) + (j : Nat) = j := by omega
    rw [ei]
    unfold duE at d0
    generalize tlR ps.length (evR ps h) = R at *
    simp [hT, t0, d0, es])
  rw [← range_map] at ec
  rw [ec]
  congr 2
  rw [List.map_const', List.length_range, List.map_replicate]
theorem table_step {T BB DU : List SV} {n b : Nat} {P : SV} {x2' x3 x4 : Option DV} {R : List SV} {g : GS} (n1 : n ≤ 1000) (eB : BB[b]? = some P) (ev : F_law_evened [P] g = some (.sh (.lst DU), g)) (dl : DU.length = n) (hT : T[b]? = some (.lst R)) (il : F_law_is_list [.lst R, .int n] g = some (.sh (.bl true), g)) (ft : hInD (fun x => x) (.bl false) (.lst (List.replicate n (.bl true))) = some (.bl false))
    (ec : compL (wN 4) yesT (callF F_law_same (aC (b2 hIx (b2 hIx (vS 0) (vS 2)) (vS 4)) (aC (b2 hIx (b2 hIx (vS 3) (vS 4)) (kS (.int 0))) (aC (b2 hIx (b2 hIx (vS 3) (vS 4)) (kS (.int 1))) (aN))))) [some (.sh (.lst T)), some (.sh (.lst BB)), some (.sh (.int (b : Nat))), some (.sh (.lst DU)), none] (rngL 0 n) g = some ((List.replicate n (.bl true)).map .sh, g)) :
    ((gN 2 (.sh (.int (b : Nat))) [some (.sh (.lst T)), some (.sh (.lst BB)), x2', x3, x4] g).bind fun p => L_law_table_right_1 p.1 p.2) = some (.nx [some (.sh (.lst T)), some (.sh (.lst BB)), some (.sh (.int (b : Nat))), some (.sh (.lst DU)), x4] g) := by
  have lR : lenOk (rngL 0 n).length = true := lenOk_of (by rw [rngL_len]; omega)
  have r1 : rngOk ((n : Nat) : Int) = true := rngOk_of (by omega)
  have fz := ev_frzo (List.replicate n (SV.bl true))
  have qd : ((DU.length : Nat) : Int) = (n : Nat) := by rw [dl]
  have tN : ((n : Nat) : Int).toNat = n := rfl
  generalize List.replicate n (SV.bl true) = RT at *
  generalize hn : ((n : Nat) : Int) = nn at *
  simp [eB, ev, hT, qd, il, r1, tN, lR, ec, fz, ft]
theorem table_right22 {bs : List Prs} (H : BkOk bs) {hs : Nat → Nat → Rat} (C : ∀ b ps, bs[b]? = some ps → CvH ps (hs b)) (g : GS) : F_law_table_right [.lst ((List.range bs.length).map fun b => SV.lst (rowL bs hs b)), .lst (bs.map encL)] g = some (.sh (.bl true), g) := by
  have l6 := H.l6
  obtain ⟨ρ', g', e, rfl, x2, x3, x4, rfl⟩ := loop_rng (gf := gN 2) (sb := L_law_table_right_1) (lo := 0) (n := bs.length)
    (fun i ρ g' => g' = g ∧ ∃ x2 x3 x4, ρ = [some (.sh (.lst ((List.range bs.length).map fun b => SV.lst (rowL bs hs b)))), some (.sh (.lst (bs.map encL))), x2, x3, x4])
    (ρ := [some (.sh (.lst ((List.range bs.length).map fun b => SV.lst (rowL bs hs b)))), some (.sh (.lst (bs.map encL))), none, none, none]) (g := g) ⟨rfl, none, none, none, rfl⟩ (fun i ρ g' hi hI => by
      obtain ⟨rfl, x2, x3, x4, rfl⟩ := hI
      have ei : (0 : Int) + (i : Nat) = i := by omega
      rw [ei]
      have hb : bs[i]? = some bs[i] := List.getElem?_eq_getElem hi
      have ok := H.ok _ (List.mem_of_getElem? hb)
      have p6 := ok.l6
      have Cb := C i _ hb
      obtain ⟨due, dl, ev, hd⟩ := law_evened22 ok Cb (g := g')
      have ep := psA_at hb
      have hT : ((List.range bs.length).map fun b => SV.lst (rowL bs hs b))[i]? = some (.lst (tlR bs[i].length (evR bs[i] (hs i)))) := by
        rw [rngAt (fun b => SV.lst (rowL bs hs b)) hi]
        unfold rowL
        rw [ep]
      have eB : (bs.map encL)[i]? = some (.lst (bs[i].map prS)) := by rw [List.getElem?_map, hb]; rfl
      have il := is_list_eq (g := g') (k := 1200) (by decide) (fun j hj => evR_qs ok Cb hj)
      exact ⟨_, _, table_step (n := bs[i].length) (by omega) eB ev (by rw [List.length_map, dl]) hT il (inD_trues _ (by omega)) (same_comp ok Cb dl hd hT rfl), rfl, _, _, _, rfl⟩)
  have r1 : rngOk ((bs.length : Nat) : Int) = true := rngOk_of (by omega)
  have qT : ((((List.range bs.length).map fun b => SV.lst (rowL bs hs b)).length : Nat) : Int) = (bs.length : Nat) := by rw [List.length_map, List.length_range]
  have qB : (((bs.map encL).length : Nat) : Int) = (bs.length : Nat) := by rw [List.length_map]
  have tN : ((bs.length : Nat) : Int).toNat = bs.length := rfl
  clear C H
  generalize (List.range bs.length).map (fun b => SV.lst (rowL bs hs b)) = T at *
  generalize bs.map encL = BB at *
  generalize hn : ((bs.length : Nat) : Int) = nn at *
  simp [F_law_table_right, B_law_table_right, qT, qB, r1, tN, e]
end DL

namespace DL
variable [CA]
/-! k22: the law -/
def upP (p : Int × Int) : Int × Int := (p.1 + 1, p.2)
theorem up_ok {bs : List Prs} (H : Crw bs) : BkOk (bs.map fun ps => ps.map upP) := by
  refine ⟨by rw [List.length_map]; exact H.ok.l0, by rw [List.length_map]; exact H.ok.l6, fun qs hq => ?_, ?_⟩
  · obtain ⟨ps, hp, rfl⟩ := List.mem_map.mp hq
    have ok := H.ok.ok ps hp
    refine ⟨by rw [List.length_map]; exact ok.l0, by rw [List.length_map]; exact ok.l6, fun i hi => ?_, fun q hq => ?_⟩
    · rw [List.length_map] at hi
      have := ok.inc i hi
      have e : ∀ j, j < ps.length → ((ps.map upP).getD j (0, 0)).1 = (ps.getD j (0, 0)).1 + 1 := fun j hj => by
        rw [List.getD_eq_getElem?_getD, List.getD_eq_getElem?_getD, List.getElem?_map, List.getElem?_eq_getElem hj]; rfl
      rw [e i (by omega), e (i + 1) hi]
      omega
    · obtain ⟨p, hp2, rfl⟩ := List.mem_map.mp hq
      have h1 := ok.ok p hp2
      have h2 := H.up ps hp p hp2
      show 0 ≤ p.1 + 1 ∧ p.1 + 1 < 10 ^ 40 ∧ 1 ≤ p.2 ∧ p.2 < 10 ^ 40
      omega
  · have e : rowsN (bs.map fun ps => ps.map upP) = rowsN bs := by
      unfold rowsN
      rw [List.map_map]
      congr 1
      exact List.map_congr_left fun ps _ => by simp
    rw [e]
    exact H.ok.rows
theorem list_comp {bs : List Prs} {ρ : Env} {k : Nat} {g : GS} (h : ∀ (ps : Prs) g, ((wN k (encL ps) ρ).bind fun ρ' => listP (vP k) ρ' g) = some (.own ((ps.map prS).map .sh), g)) : compL (wN k) yesT (listP (vP k)) ρ (bs.map encL) g = some (bs.map fun ps => DV.own ((ps.map prS).map .sh), g) :=
  comp_map (β := Int) (wf := wN k) (f := listP (vP k)) (ρ := ρ) encL (fun ps => DV.own ((ps.map prS).map .sh)) bs g fun ps _ g => h ps g
theorem law2_step {BB T0 : List SV} {TD : List DV} {TS B : SV} {x0 x4 x5 x6 x7 x8 x9 x10 x11 : Option DV} {y : SV} {g : GS} (et : F_evened_table [B] g = some (.own TD, g)) (fz : (DV.own TD).frz = TS) (er : F_law_table_right [TS, .lst BB] g = some (.sh (.bl true), g)) (x0' : L2.ixN TD.length 0 = some 0) (t0 : TD[0]? = some (.own (T0.map .sh))) (lO : lenOk T0.length = true) :
    ∃ d, ((gN 5 (.sh y) [x0, some (.sh .gen), some (.sh (.lst BB)), some (.sh B), x4, x5, x6, x7, x8, x9, x10, x11] g).bind fun p => L_law_2 p.1 p.2) = some (.nx [x0, some (.sh .gen), some (.sh (.lst BB)), some (.sh B), x4, some (.sh y), some d, x7, x8, x9, x10, x11] g) := by
  have l2 : lenOk (T0.map DV.sh).length = true := by rw [List.length_map]; exact lO
  generalize T0.map DV.sh = TT at *
  refine ⟨.own (TD.set 0 (.own (TT ++ [.sh (.tup [.int 1, .int 1])]))).reverse, ?_⟩
  simp [et, fz, er, x0', t0, l2]
theorem law_true (g : GS) : ∃ g', B_law ((List.replicate 12 none).set 1 (some (.sh .gen))) g = some (.rt (.sh (.bl true)) g') := by
  obtain ⟨bs, g1, e1, CR⟩ := crowd22 g
  have H := CR.ok
  have l6 := H.l6
  have l0 := H.l0
  have H' := up_ok CR
  obtain ⟨hs, C⟩ := heights_all H g
  have fB := ev_frzo (bs.map encL)
  have ab : ∀ i ps, bs[i]? = some ps → (bs.map encL)[i]? = some (encL ps) := fun i ps h => by rw [List.getElem?_map, h]; rfl
  have ebi := book_init H
  have efb := bkF_frz bs
  have ebi' := book_init H'
  have efb' := bkF_frz (bs.map fun ps => ps.map upP)
  have lB : lenOk (bs.map encL).length = true := lenOk_of (by rw [List.length_map]; omega)
  have fD : ∀ cs : List Prs, (DV.own (cs.map fun ps => DV.own ((ps.map prS).map .sh))).frz = .lst (cs.map encL) := fun cs => frz_map _ _ (fun ps => ev_frzo _) cs
  have c10 : ∀ (x2 x3 x4 x5 x6 x7 x8 x9 x11 : Option DV) (cs : List Prs) g, compL (wN 10) yesT (listP (vP 10)) [none, some (.sh .gen), x2, x3, x4, x5, x6, x7, x8, x9, none, x11] (cs.map encL) g = some (cs.map fun ps => DV.own ((ps.map prS).map .sh), g) := fun x2 x3 x4 x5 x6 x7 x8 x9 x11 cs g => list_comp fun ps g => by simp
  have qB : (((bs.map encL).length : Nat) : Int) = (bs.length : Nat) := by rw [List.length_map]
  have r1 : rngOk ((bs.length : Nat) : Int) = true := rngOk_of (by omega)
  have tN : ((bs.length : Nat) : Int).toNat = bs.length := rfl
  obtain ⟨ρ1, g2, e2, y4, rfl⟩ := loop_rng (gf := gN 4) (sb := L_law_1) (lo := 0) (n := bs.length)
    (fun i ρ g' => ∃ y4, ρ = [none, some (.sh .gen), some (.sh (.lst (bs.map encL))), some (.sh (bkS bs)), y4, none, none, none, none, none, none, none])
    (ρ := [none, some (.sh .gen), some (.sh (.lst (bs.map encL))), some (.sh (bkS bs)), none, none, none, none, none, none, none, none]) (g := g1) ⟨none, rfl⟩ (fun i ρ g' hi hI => by
      obtain ⟨y4, rfl⟩ := hI
      have ei : (0 : Int) + (i : Nat) = i := by omega
      rw [ei]
      have hb : bs[i]? = some bs[i] := List.getElem?_eq_getElem hi
      obtain ⟨g3, e3⟩ := buyer_right22 H hb g'
      have a := ab i _ hb
      refine ⟨_, g3, ?_, some (.sh (.int (i : Nat))), rfl⟩
      unfold encL at a
      generalize bs.map (fun ps : Prs => SV.lst (ps.map prS)) = BB at *
      generalize bkS bs = B at *
      simp [a, e3])
  have tT : ((List.range bs.length).map fun b => DV.own ((rowL bs hs b).map .sh))[0]? = some (.own ((rowL bs hs 0).map .sh)) := by
    rw [List.getElem?_map, List.getElem?_range l0]; rfl
  have x0T : L2.ixN ((List.range bs.length).map fun b => DV.own ((rowL bs hs b).map .sh)).length 0 = some 0 := by
    have := ixN_natE ((List.range bs.length).map fun b => DV.own ((rowL bs hs b).map .sh)).length 0
    rw [if_pos (by simp; omega)] at this
    exact this
  have fT : (DV.own ((List.range bs.length).map fun b => DV.own ((rowL bs hs b).map .sh))).frz = .lst ((List.range bs.length).map fun b => SV.lst (rowL bs hs b)) := frz_map (fun b => DV.own ((rowL bs hs b).map .sh)) (fun b => SV.lst (rowL bs hs b)) (fun b => ev_frzo _) (List.range bs.length)
  have p6 : (psA bs 0).length ≤ 6 := by
    have hb : bs[0]? = some bs[0] := List.getElem?_eq_getElem l0
    rw [psA_at hb]
    exact (H.ok _ (List.mem_of_getElem? hb)).l6
  have lT : lenOk (rowL bs hs 0).length = true := lenOk_of (by rw [tlR_len]; omega)
  obtain ⟨ρ2, g3, e3, rfl, y5, y6, rfl⟩ := loop_rng (gf := gN 5) (sb := L_law_2) (lo := 0) (n := 2)
    (fun i ρ g' => g' = g2 ∧ ∃ y5 y6, ρ = [none, some (.sh .gen), some (.sh (.lst (bs.map encL))), some (.sh (bkS bs)), y4, y5, y6, none, none, none, none, none])
    (ρ := [none, some (.sh .gen), some (.sh (.lst (bs.map encL))), some (.sh (bkS bs)), y4, none, none, none, none, none, none, none]) (g := g2) ⟨rfl, none, none, rfl⟩ (fun i ρ g' hi hI => by
      obtain ⟨rfl, y5, y6, rfl⟩ := hI
      obtain ⟨d, e⟩ := law2_step (x0 := none) (x4 := y4) (x5 := y5) (x6 := y6) (x7 := none) (x8 := none) (x9 := none) (x10 := none) (x11 := none) (y := .int (0 + (i : Nat))) (table22 H C g') fT (table_right22 H C g') x0T tT lT
      exact ⟨_, _, e, rfl, _, _, rfl⟩)
  have cup : ∀ g, compL (wN 10) yesT (compD (iSeq (vS 10)) (wN 11) (yesT) (oS (tupF (aC (b2 hAdd (b2 hIx (vS 11) (kS (.int 0))) (kS (.int 1))) (aC (b2 hIx (vS 11) (kS (.int 1))) (aN))))) [11]) [none, some (.sh .gen), some (.sh (.lst (bs.map encL))), some (.sh (bkS bs)), y4, y5, y6, none, none, none, none, none] (bs.map encL) g = some (bs.map fun ps => DV.own (((ps.map upP).map prS).map .sh), g) := fun g =>
    comp_map (β := Int) (wf := wN 10) (ρ := [none, some (.sh .gen), some (.sh (.lst (bs.map encL))), some (.sh (bkS bs)), y4, y5, y6, none, none, none, none, none]) encL (fun ps => DV.own (((ps.map upP).map prS).map .sh)) bs g fun ps hp g => by
      have p6 := (H.ok ps hp).l6
      have ec := comp_map (β := Int) (wf := wN 11) (f := oS (tupF (aC (b2 hAdd (b2 hIx (vS 11) (kS (.int 0))) (kS (.int 1))) (aC (b2 hIx (vS 11) (kS (.int 1))) (aN))))) (ρ := [none, some (.sh .gen), some (.sh (.lst (bs.map encL))), some (.sh (bkS bs)), y4, y5, y6, none, none, none, some (.sh (.lst (ps.map prS))), none]) prS (fun p => DV.sh (prS (upP p))) ps g (fun p _ g => by simp [prS, upP])
      have er : (ps.map fun p => DV.sh (prS (upP p))) = ((ps.map upP).map prS).map .sh := by rw [List.map_map, List.map_map]; rfl
      rw [er] at ec
      have lO : lenOk (ps.map prS).length = true := lenOk_of (by rw [List.length_map]; omega)
      generalize ((ps.map upP).map prS).map DV.sh = R at *
      unfold encL
      generalize ps.map prS = P at *
      generalize bs.map (fun ps : Prs => SV.lst (ps.map prS)) = BB at *
      generalize bkS bs = B at *
      simp [lO, ec]
  have fU : (DV.own (bs.map fun ps => DV.own (((ps.map upP).map prS).map .sh))).frz = .lst ((bs.map fun ps => ps.map upP).map encL) := by
    rw [List.map_map]
    exact frz_map _ _ (fun ps => ev_frzo _) bs
  obtain ⟨r, g4, e4, q0, q1⟩ := draw_eq (b := (bs.length : Nat)) g3 (by omega) (by omega)
  obtain ⟨rn, rfl⟩ : ∃ rn : Nat, r = rn := ⟨r.toNat, by omega⟩
  obtain ⟨pr, hrb⟩ : ∃ p, bs[rn]? = some p := ⟨_, List.getElem?_eq_getElem (by omega)⟩
  have hrb' : (bs.map fun ps => ps.map upP)[rn]? = some (pr.map upP) := by rw [List.getElem?_map, hrb]; rfl
  have ar := ab rn _ hrb
  have ar' : ((bs.map fun ps => ps.map upP).map encL)[rn]? = some (encL (pr.map upP)) := by rw [List.getElem?_map, hrb']; rfl
  obtain ⟨g5, e5⟩ := buyer_right22 H' hrb' g4
  obtain ⟨g6, e6⟩ := buyer_right22 H hrb g5
  have r2 : rngOk 2 = true := by decide +kernel
  have t2 : (2 : Int).toNat = 2 := rfl
  have lB' : lenOk ((bs.map fun ps => ps.map upP).map encL).length = true := lenOk_of (by rw [List.length_map, List.length_map]; omega)
  have c10a := fun (x3 x4 x5 x6 x7 x8 x9 x11 : Option DV) g => c10 (some (.sh (.lst (bs.map encL)))) x3 x4 x5 x6 x7 x8 x9 x11 bs g
  have c10b := fun (x3 x4 x5 x6 x7 x8 x9 x11 : Option DV) g => c10 (some (.sh (.lst (bs.map encL)))) x3 x4 x5 x6 x7 x8 x9 x11 (bs.map fun ps => ps.map upP) g
  have fDa := fD bs
  have fDb := fD (bs.map fun ps => ps.map upP)
  refine ⟨g6, ?_⟩
  clear H H' CR C hrb hrb' ab tT x0T fT lT c10 fD
  generalize ((bs.map fun ps => ps.map upP).map encL) = UU at *
  generalize (bs.map fun ps => DV.own (((ps.map upP).map prS).map .sh)) = UD at *
  generalize ((bs.map fun ps => ps.map upP).map fun ps => DV.own ((ps.map prS).map .sh)) = UE at *
  generalize bkS (bs.map fun ps => ps.map upP) = B' at *
  generalize bkF (bs.map fun ps => ps.map upP) = BF' at *
  unfold encL at *
  generalize (pr.map upP).map prS = PU at *
  generalize pr.map prS = PR at *
  generalize bs.map (fun ps : Prs => SV.lst (ps.map prS)) = BB at *
  generalize (bs.map fun ps => DV.own ((ps.map prS).map .sh)) = BD at *
  generalize bkS bs = B at *
  generalize bkF bs = BF at *
  generalize hn : ((bs.length : Nat) : Int) = nn at *
  simp [B_law, e1, fB, frzEnv, lB, c10a, fDa, ebi, efb, qB, r1, tN, e2, r2, t2, e3, cup, fU, lB', c10b, fDb, ebi', efb', e4, ar', e5, ar, e6]
end DL

namespace DL
open PySem PySem.Spec L2

theorem all_mk {l : PySem.W.OpenLaw} {w : World} {K : Fg} {h : Heap} {mg : Str → Option Value} {fa : Addr} (X : K.In h) (G : h.Ns mainGlobals mg) (hfa : mg "law" = some (.ref fa))
  {C_Book : Addr}
  {t_MOST_BUYERS : Tok}
  {t_MOST_ROWS : Tok}
  {t_MOST_WORTHS : Tok}
  {t_NUMBER_END : Tok}
  {a_ZERO : Addr} {od_ZERO : Option Addr} {n_ZERO : Nat} {sl_ZERO : Array (Option Value)} {t_ZERO_0 t_ZERO_1 : Tok}
  {f_check_pairs : Addr} {od_check_pairs an_check_pairs : Option Addr} {sl_check_pairs : Array (Option Value)} {oc_check_pairs kV_check_pairs dc_check_pairs pm_check_pairs cd_check_pairs ct_check_pairs : Value}
  {f_fixed_pairs : Addr} {od_fixed_pairs an_fixed_pairs : Option Addr} {sl_fixed_pairs : Array (Option Value)} {oc_fixed_pairs kV_fixed_pairs dc_fixed_pairs pm_fixed_pairs cd_fixed_pairs ct_fixed_pairs : Value}
  {f_weight_of : Addr} {od_weight_of an_weight_of : Option Addr} {sl_weight_of : Array (Option Value)} {oc_weight_of kV_weight_of dc_weight_of pm_weight_of cd_weight_of ct_weight_of : Value}
  {f_Book_init : Addr} {od_Book_init an_Book_init : Option Addr} {sl_Book_init : Array (Option Value)} {oc_Book_init kV_Book_init dc_Book_init pm_Book_init cd_Book_init ct_Book_init : Value}
  {f_law_draw : Addr} {od_law_draw an_law_draw : Option Addr} {sl_law_draw : Array (Option Value)} {oc_law_draw kV_law_draw dc_law_draw pm_law_draw cd_law_draw ct_law_draw : Value}
  {f_law_any_list : Addr} {od_law_any_list an_law_any_list : Option Addr} {sl_law_any_list : Array (Option Value)} {oc_law_any_list kV_law_any_list dc_law_any_list pm_law_any_list cd_law_any_list ct_law_any_list : Value}
  {f_law_gcd : Addr} {od_law_gcd an_law_gcd : Option Addr} {sl_law_gcd : Array (Option Value)} {oc_law_gcd kV_law_gcd dc_law_gcd pm_law_gcd cd_law_gcd ct_law_gcd : Value}
  {f_law_is_integer : Addr} {od_law_is_integer an_law_is_integer : Option Addr} {sl_law_is_integer : Array (Option Value)} {oc_law_is_integer kV_law_is_integer dc_law_is_integer pm_law_is_integer cd_law_is_integer ct_law_is_integer : Value}
  {f_law_same : Addr} {od_law_same an_law_same : Option Addr} {sl_law_same : Array (Option Value)} {oc_law_same kV_law_same dc_law_same pm_law_same cd_law_same ct_law_same : Value}
  {f_law_is_list : Addr} {od_law_is_list an_law_is_list : Option Addr} {sl_law_is_list : Array (Option Value)} {oc_law_is_list kV_law_is_list dc_law_is_list pm_law_is_list cd_law_is_list ct_law_is_list : Value}
  {f_ratio : Addr} {od_ratio an_ratio : Option Addr} {sl_ratio : Array (Option Value)} {oc_ratio kV_ratio dc_ratio pm_ratio cd_ratio ct_ratio : Value}
  {f_Book_upper : Addr} {od_Book_upper an_Book_upper : Option Addr} {sl_Book_upper : Array (Option Value)} {oc_Book_upper kV_Book_upper dc_Book_upper pm_Book_upper cd_Book_upper ct_Book_upper : Value}
  {f_Book_worth : Addr} {od_Book_worth an_Book_worth : Option Addr} {sl_Book_worth : Array (Option Value)} {oc_Book_worth kV_Book_worth dc_Book_worth pm_Book_worth cd_Book_worth ct_Book_worth : Value}
  {f_mul : Addr} {od_mul an_mul : Option Addr} {sl_mul : Array (Option Value)} {oc_mul kV_mul dc_mul pm_mul cd_mul ct_mul : Value}
  {f_curve : Addr} {od_curve an_curve : Option Addr} {sl_curve : Array (Option Value)} {oc_curve kV_curve dc_curve pm_curve cd_curve ct_curve : Value}
  {f_is_above : Addr} {od_is_above an_is_above : Option Addr} {sl_is_above : Array (Option Value)} {oc_is_above kV_is_above dc_is_above pm_is_above cd_is_above ct_is_above : Value}
  {f_hull_places : Addr} {od_hull_places an_hull_places : Option Addr} {sl_hull_places : Array (Option Value)} {oc_hull_places kV_hull_places dc_hull_places pm_hull_places cd_hull_places ct_hull_places : Value}
  {f_scaled : Addr} {od_scaled an_scaled : Option Addr} {sl_scaled : Array (Option Value)} {oc_scaled kV_scaled dc_scaled pm_scaled cd_scaled ct_scaled : Value}
  {f_upper_heights : Addr} {od_upper_heights an_upper_heights : Option Addr} {sl_upper_heights : Array (Option Value)} {oc_upper_heights kV_upper_heights dc_upper_heights pm_upper_heights cd_upper_heights ct_upper_heights : Value}
  {f_law_curve_right : Addr} {od_law_curve_right an_law_curve_right : Option Addr} {sl_law_curve_right : Array (Option Value)} {oc_law_curve_right kV_law_curve_right dc_law_curve_right pm_law_curve_right cd_law_curve_right ct_law_curve_right : Value}
  {f_law_never_falls : Addr} {od_law_never_falls an_law_never_falls : Option Addr} {sl_law_never_falls : Array (Option Value)} {oc_law_never_falls kV_law_never_falls dc_law_never_falls pm_law_never_falls cd_law_never_falls ct_law_never_falls : Value}
  {f_law_paired : Addr} {od_law_paired an_law_paired : Option Addr} {sl_law_paired : Array (Option Value)} {oc_law_paired kV_law_paired dc_law_paired pm_law_paired cd_law_paired ct_law_paired : Value}
  {f_law_scaled : Addr} {od_law_scaled an_law_scaled : Option Addr} {sl_law_scaled : Array (Option Value)} {oc_law_scaled kV_law_scaled dc_law_scaled pm_law_scaled cd_law_scaled ct_law_scaled : Value}
  {f_law_seller : Addr} {od_law_seller an_law_seller : Option Addr} {sl_law_seller : Array (Option Value)} {oc_law_seller kV_law_seller dc_law_seller pm_law_seller cd_law_seller ct_law_seller : Value}
  {f_div : Addr} {od_div an_div : Option Addr} {sl_div : Array (Option Value)} {oc_div kV_div dc_div pm_div cd_div ct_div : Value}
  {f_sub : Addr} {od_sub an_sub : Option Addr} {sl_sub : Array (Option Value)} {oc_sub kV_sub dc_sub pm_sub cd_sub ct_sub : Value}
  {f_evened_worths : Addr} {od_evened_worths an_evened_worths : Option Addr} {sl_evened_worths : Array (Option Value)} {oc_evened_worths kV_evened_worths dc_evened_worths pm_evened_worths cd_evened_worths ct_evened_worths : Value}
  {f_lifts : Addr} {od_lifts an_lifts : Option Addr} {sl_lifts : Array (Option Value)} {oc_lifts kV_lifts dc_lifts pm_lifts cd_lifts ct_lifts : Value}
  {f_Book_chance : Addr} {od_Book_chance an_Book_chance : Option Addr} {sl_Book_chance : Array (Option Value)} {oc_Book_chance kV_Book_chance dc_Book_chance pm_Book_chance cd_Book_chance ct_Book_chance : Value}
  {f_seller_worths : Addr} {od_seller_worths an_seller_worths : Option Addr} {sl_seller_worths : Array (Option Value)} {oc_seller_worths kV_seller_worths dc_seller_worths pm_seller_worths cd_seller_worths ct_seller_worths : Value}
  {f_law_buyer_right : Addr} {od_law_buyer_right an_law_buyer_right : Option Addr} {sl_law_buyer_right : Array (Option Value)} {oc_law_buyer_right kV_law_buyer_right dc_law_buyer_right pm_law_buyer_right cd_law_buyer_right ct_law_buyer_right : Value}
  {f_law_great : Addr} {od_law_great an_law_great : Option Addr} {sl_law_great : Array (Option Value)} {oc_law_great kV_law_great dc_law_great pm_law_great cd_law_great ct_law_great : Value}
  {f_law_crowd : Addr} {od_law_crowd an_law_crowd : Option Addr} {sl_law_crowd : Array (Option Value)} {oc_law_crowd kV_law_crowd dc_law_crowd pm_law_crowd cd_law_crowd ct_law_crowd : Value}
  {f_law_start : Addr} {od_law_start an_law_start : Option Addr} {sl_law_start : Array (Option Value)} {oc_law_start kV_law_start dc_law_start pm_law_start cd_law_start ct_law_start : Value}
  {f_law_evened : Addr} {od_law_evened an_law_evened : Option Addr} {sl_law_evened : Array (Option Value)} {oc_law_evened kV_law_evened dc_law_evened pm_law_evened cd_law_evened ct_law_evened : Value}
  {f_law_table_right : Addr} {od_law_table_right an_law_table_right : Option Addr} {sl_law_table_right : Array (Option Value)} {oc_law_table_right kV_law_table_right dc_law_table_right pm_law_table_right cd_law_table_right ct_law_table_right : Value}
  {f_evened_table : Addr} {od_evened_table an_evened_table : Option Addr} {sl_evened_table : Array (Option Value)} {oc_evened_table kV_evened_table dc_evened_table pm_evened_table cd_evened_table ct_evened_table : Value}
  {f_law : Addr} {od_law an_law : Option Addr} {sl_law : Array (Option Value)} {oc_law kV_law dc_law pm_law cd_law ct_law : Value}
  (z_abs : PySem.W.nsIn K mainGlobals "abs" = some none)
  (z_bool : PySem.W.nsIn K mainGlobals "bool" = some none)
  (z_enumerate : PySem.W.nsIn K mainGlobals "enumerate" = some none)
  (z_gcd : PySem.W.nsIn K mainGlobals "gcd" = some (some (.builtin "math.gcd")))
  (z_int : PySem.W.nsIn K mainGlobals "int" = some none)
  (z_isinstance : PySem.W.nsIn K mainGlobals "isinstance" = some none)
  (z_lcm : PySem.W.nsIn K mainGlobals "lcm" = some (some (.builtin "math.lcm")))
  (z_len : PySem.W.nsIn K mainGlobals "len" = some none)
  (z_list : PySem.W.nsIn K mainGlobals "list" = some none)
  (z_max : PySem.W.nsIn K mainGlobals "max" = some none)
  (z_range : PySem.W.nsIn K mainGlobals "range" = some none)
  (z_sorted : PySem.W.nsIn K mainGlobals "sorted" = some none)
  (z_sum : PySem.W.nsIn K mainGlobals "sum" = some none)
  (z_tuple : PySem.W.nsIn K mainGlobals "tuple" = some none)
  (z_zip : PySem.W.nsIn K mainGlobals "zip" = some none)
  (g_Book : PySem.W.nsIn K mainGlobals "Book" = some (some (.ref C_Book))) (pg_Book : PySem.W.plainGet K C_Book Str.empty = true) (hd_Book : PySem.W.hasDictIn K C_Book = true) (po_Book : PySem.W.plainOver K C_Book = true) (sa_Book : PySem.W.findIn K (.ref C_Book) "__setattr__" = some (some (.builtin "object.__setattr__"))) (mk_Book : PySem.W.makesIn K C_Book = true) (kc_Book : PySem.W.keepIn K (.ref C_Book) = true)
  (n_Book_buyers : PySem.W.findIn K (.ref C_Book) "buyers" = some none)
  (n_Book_size : PySem.W.findIn K (.ref C_Book) "size" = some none)
  (n_Book_counts : PySem.W.findIn K (.ref C_Book) "counts" = some none)
  (n_Book_row_count : PySem.W.findIn K (.ref C_Book) "row_count" = some none)
  (n_Book_weights : PySem.W.findIn K (.ref C_Book) "_weights" = some none)
  (g_MOST_BUYERS : PySem.W.nsIn K mainGlobals "MOST_BUYERS" = some (some (.int 6 t_MOST_BUYERS)))
  (g_MOST_ROWS : PySem.W.nsIn K mainGlobals "MOST_ROWS" = some (some (.int 144 t_MOST_ROWS)))
  (g_MOST_WORTHS : PySem.W.nsIn K mainGlobals "MOST_WORTHS" = some (some (.int 6 t_MOST_WORTHS)))
  (g_NUMBER_END : PySem.W.nsIn K mainGlobals "NUMBER_END" = some (some (.int 10000000000000000000000000000000000000000 t_NUMBER_END)))
  (g_ZERO : PySem.W.nsIn K mainGlobals "ZERO" = some (some (.ref a_ZERO))) (l_ZERO : K.lookup a_ZERO = some ⟨.type "tuple", od_ZERO, .seq #[.int 0 t_ZERO_0, .int 1 t_ZERO_1] n_ZERO, sl_ZERO⟩)
  (a_check_pairs : PySem.W.nsIn K mainGlobals "check_pairs" = some (some (.ref f_check_pairs))) (l_check_pairs : K.lookup f_check_pairs = some ⟨oc_check_pairs, od_check_pairs, .func (PySem.W.fnOf "check_pairs" "check_pairs" (defArgs s_check_pairs) (defBody s_check_pairs) (defScope s_check_pairs) .none kV_check_pairs dc_check_pairs pm_check_pairs an_check_pairs cd_check_pairs ct_check_pairs), sl_check_pairs⟩) (c_check_pairs : PySem.W.codeIn K cd_check_pairs "check_pairs" = true) (k_check_pairs : PySem.W.keepIn K (.ref f_check_pairs) = true)
  (a_fixed_pairs : PySem.W.nsIn K mainGlobals "fixed_pairs" = some (some (.ref f_fixed_pairs))) (l_fixed_pairs : K.lookup f_fixed_pairs = some ⟨oc_fixed_pairs, od_fixed_pairs, .func (PySem.W.fnOf "fixed_pairs" "fixed_pairs" (defArgs s_fixed_pairs) (defBody s_fixed_pairs) (defScope s_fixed_pairs) .none kV_fixed_pairs dc_fixed_pairs pm_fixed_pairs an_fixed_pairs cd_fixed_pairs ct_fixed_pairs), sl_fixed_pairs⟩) (c_fixed_pairs : PySem.W.codeIn K cd_fixed_pairs "fixed_pairs" = true) (k_fixed_pairs : PySem.W.keepIn K (.ref f_fixed_pairs) = true)
  (a_weight_of : PySem.W.nsIn K mainGlobals "weight_of" = some (some (.ref f_weight_of))) (l_weight_of : K.lookup f_weight_of = some ⟨oc_weight_of, od_weight_of, .func (PySem.W.fnOf "weight_of" "weight_of" (defArgs s_weight_of) (defBody s_weight_of) (defScope s_weight_of) .none kV_weight_of dc_weight_of pm_weight_of an_weight_of cd_weight_of ct_weight_of), sl_weight_of⟩) (c_weight_of : PySem.W.codeIn K cd_weight_of "weight_of" = true) (k_weight_of : PySem.W.keepIn K (.ref f_weight_of) = true)
  (a_Book_init : PySem.W.findIn K (.ref C_Book) "__init__" = some (some (.ref f_Book_init))) (i_Book_init : PySem.W.isFn K (.ref f_Book_init) = true) (l_Book_init : K.lookup f_Book_init = some ⟨oc_Book_init, od_Book_init, .func (PySem.W.fnOf "__init__" "Book.__init__" (defArgs s_Book_init) (defBody s_Book_init) (defScope s_Book_init) .none kV_Book_init dc_Book_init pm_Book_init an_Book_init cd_Book_init ct_Book_init), sl_Book_init⟩) (c_Book_init : PySem.W.codeIn K cd_Book_init "Book.__init__" = true) (k_Book_init : PySem.W.keepIn K (.ref f_Book_init) = true)
  (a_law_draw : PySem.W.nsIn K mainGlobals "_law_draw" = some (some (.ref f_law_draw))) (l_law_draw : K.lookup f_law_draw = some ⟨oc_law_draw, od_law_draw, .func (PySem.W.fnOf "_law_draw" "_law_draw" (defArgs s_law_draw) (defBody s_law_draw) (defScope s_law_draw) .none kV_law_draw dc_law_draw pm_law_draw an_law_draw cd_law_draw ct_law_draw), sl_law_draw⟩) (c_law_draw : PySem.W.codeIn K cd_law_draw "_law_draw" = true) (k_law_draw : PySem.W.keepIn K (.ref f_law_draw) = true)
  (a_law_any_list : PySem.W.nsIn K mainGlobals "_law_any_list" = some (some (.ref f_law_any_list))) (l_law_any_list : K.lookup f_law_any_list = some ⟨oc_law_any_list, od_law_any_list, .func (PySem.W.fnOf "_law_any_list" "_law_any_list" (defArgs s_law_any_list) (defBody s_law_any_list) (defScope s_law_any_list) .none kV_law_any_list dc_law_any_list pm_law_any_list an_law_any_list cd_law_any_list ct_law_any_list), sl_law_any_list⟩) (c_law_any_list : PySem.W.codeIn K cd_law_any_list "_law_any_list" = true) (k_law_any_list : PySem.W.keepIn K (.ref f_law_any_list) = true)
  (a_law_gcd : PySem.W.nsIn K mainGlobals "_law_gcd" = some (some (.ref f_law_gcd))) (l_law_gcd : K.lookup f_law_gcd = some ⟨oc_law_gcd, od_law_gcd, .func (PySem.W.fnOf "_law_gcd" "_law_gcd" (defArgs s_law_gcd) (defBody s_law_gcd) (defScope s_law_gcd) .none kV_law_gcd dc_law_gcd pm_law_gcd an_law_gcd cd_law_gcd ct_law_gcd), sl_law_gcd⟩) (c_law_gcd : PySem.W.codeIn K cd_law_gcd "_law_gcd" = true) (k_law_gcd : PySem.W.keepIn K (.ref f_law_gcd) = true)
  (a_law_is_integer : PySem.W.nsIn K mainGlobals "_law_is_integer" = some (some (.ref f_law_is_integer))) (l_law_is_integer : K.lookup f_law_is_integer = some ⟨oc_law_is_integer, od_law_is_integer, .func (PySem.W.fnOf "_law_is_integer" "_law_is_integer" (defArgs s_law_is_integer) (defBody s_law_is_integer) (defScope s_law_is_integer) .none kV_law_is_integer dc_law_is_integer pm_law_is_integer an_law_is_integer cd_law_is_integer ct_law_is_integer), sl_law_is_integer⟩) (c_law_is_integer : PySem.W.codeIn K cd_law_is_integer "_law_is_integer" = true) (k_law_is_integer : PySem.W.keepIn K (.ref f_law_is_integer) = true)
  (a_law_same : PySem.W.nsIn K mainGlobals "_law_same" = some (some (.ref f_law_same))) (l_law_same : K.lookup f_law_same = some ⟨oc_law_same, od_law_same, .func (PySem.W.fnOf "_law_same" "_law_same" (defArgs s_law_same) (defBody s_law_same) (defScope s_law_same) .none kV_law_same dc_law_same pm_law_same an_law_same cd_law_same ct_law_same), sl_law_same⟩) (c_law_same : PySem.W.codeIn K cd_law_same "_law_same" = true) (k_law_same : PySem.W.keepIn K (.ref f_law_same) = true)
  (a_law_is_list : PySem.W.nsIn K mainGlobals "_law_is_list" = some (some (.ref f_law_is_list))) (l_law_is_list : K.lookup f_law_is_list = some ⟨oc_law_is_list, od_law_is_list, .func (PySem.W.fnOf "_law_is_list" "_law_is_list" (defArgs s_law_is_list) (defBody s_law_is_list) (defScope s_law_is_list) .none kV_law_is_list dc_law_is_list pm_law_is_list an_law_is_list cd_law_is_list ct_law_is_list), sl_law_is_list⟩) (c_law_is_list : PySem.W.codeIn K cd_law_is_list "_law_is_list" = true) (k_law_is_list : PySem.W.keepIn K (.ref f_law_is_list) = true)
  (a_ratio : PySem.W.nsIn K mainGlobals "ratio" = some (some (.ref f_ratio))) (l_ratio : K.lookup f_ratio = some ⟨oc_ratio, od_ratio, .func (PySem.W.fnOf "ratio" "ratio" (defArgs s_ratio) (defBody s_ratio) (defScope s_ratio) .none kV_ratio dc_ratio pm_ratio an_ratio cd_ratio ct_ratio), sl_ratio⟩) (c_ratio : PySem.W.codeIn K cd_ratio "ratio" = true) (k_ratio : PySem.W.keepIn K (.ref f_ratio) = true)
  (a_Book_upper : PySem.W.findIn K (.ref C_Book) "upper" = some (some (.ref f_Book_upper))) (i_Book_upper : PySem.W.isFn K (.ref f_Book_upper) = true) (l_Book_upper : K.lookup f_Book_upper = some ⟨oc_Book_upper, od_Book_upper, .func (PySem.W.fnOf "upper" "Book.upper" (defArgs s_Book_upper) (defBody s_Book_upper) (defScope s_Book_upper) .none kV_Book_upper dc_Book_upper pm_Book_upper an_Book_upper cd_Book_upper ct_Book_upper), sl_Book_upper⟩) (c_Book_upper : PySem.W.codeIn K cd_Book_upper "Book.upper" = true) (k_Book_upper : PySem.W.keepIn K (.ref f_Book_upper) = true)
  (a_Book_worth : PySem.W.findIn K (.ref C_Book) "worth" = some (some (.ref f_Book_worth))) (i_Book_worth : PySem.W.isFn K (.ref f_Book_worth) = true) (l_Book_worth : K.lookup f_Book_worth = some ⟨oc_Book_worth, od_Book_worth, .func (PySem.W.fnOf "worth" "Book.worth" (defArgs s_Book_worth) (defBody s_Book_worth) (defScope s_Book_worth) .none kV_Book_worth dc_Book_worth pm_Book_worth an_Book_worth cd_Book_worth ct_Book_worth), sl_Book_worth⟩) (c_Book_worth : PySem.W.codeIn K cd_Book_worth "Book.worth" = true) (k_Book_worth : PySem.W.keepIn K (.ref f_Book_worth) = true)
  (a_mul : PySem.W.nsIn K mainGlobals "mul" = some (some (.ref f_mul))) (l_mul : K.lookup f_mul = some ⟨oc_mul, od_mul, .func (PySem.W.fnOf "mul" "mul" (defArgs s_mul) (defBody s_mul) (defScope s_mul) .none kV_mul dc_mul pm_mul an_mul cd_mul ct_mul), sl_mul⟩) (c_mul : PySem.W.codeIn K cd_mul "mul" = true) (k_mul : PySem.W.keepIn K (.ref f_mul) = true)
  (a_curve : PySem.W.nsIn K mainGlobals "curve" = some (some (.ref f_curve))) (l_curve : K.lookup f_curve = some ⟨oc_curve, od_curve, .func (PySem.W.fnOf "curve" "curve" (defArgs s_curve) (defBody s_curve) (defScope s_curve) .none kV_curve dc_curve pm_curve an_curve cd_curve ct_curve), sl_curve⟩) (c_curve : PySem.W.codeIn K cd_curve "curve" = true) (k_curve : PySem.W.keepIn K (.ref f_curve) = true)
  (a_is_above : PySem.W.nsIn K mainGlobals "is_above" = some (some (.ref f_is_above))) (l_is_above : K.lookup f_is_above = some ⟨oc_is_above, od_is_above, .func (PySem.W.fnOf "is_above" "is_above" (defArgs s_is_above) (defBody s_is_above) (defScope s_is_above) .none kV_is_above dc_is_above pm_is_above an_is_above cd_is_above ct_is_above), sl_is_above⟩) (c_is_above : PySem.W.codeIn K cd_is_above "is_above" = true) (k_is_above : PySem.W.keepIn K (.ref f_is_above) = true)
  (a_hull_places : PySem.W.nsIn K mainGlobals "hull_places" = some (some (.ref f_hull_places))) (l_hull_places : K.lookup f_hull_places = some ⟨oc_hull_places, od_hull_places, .func (PySem.W.fnOf "hull_places" "hull_places" (defArgs s_hull_places) (defBody s_hull_places) (defScope s_hull_places) .none kV_hull_places dc_hull_places pm_hull_places an_hull_places cd_hull_places ct_hull_places), sl_hull_places⟩) (c_hull_places : PySem.W.codeIn K cd_hull_places "hull_places" = true) (k_hull_places : PySem.W.keepIn K (.ref f_hull_places) = true)
  (a_scaled : PySem.W.nsIn K mainGlobals "scaled" = some (some (.ref f_scaled))) (l_scaled : K.lookup f_scaled = some ⟨oc_scaled, od_scaled, .func (PySem.W.fnOf "scaled" "scaled" (defArgs s_scaled) (defBody s_scaled) (defScope s_scaled) .none kV_scaled dc_scaled pm_scaled an_scaled cd_scaled ct_scaled), sl_scaled⟩) (c_scaled : PySem.W.codeIn K cd_scaled "scaled" = true) (k_scaled : PySem.W.keepIn K (.ref f_scaled) = true)
  (a_upper_heights : PySem.W.nsIn K mainGlobals "upper_heights" = some (some (.ref f_upper_heights))) (l_upper_heights : K.lookup f_upper_heights = some ⟨oc_upper_heights, od_upper_heights, .func (PySem.W.fnOf "upper_heights" "upper_heights" (defArgs s_upper_heights) (defBody s_upper_heights) (defScope s_upper_heights) .none kV_upper_heights dc_upper_heights pm_upper_heights an_upper_heights cd_upper_heights ct_upper_heights), sl_upper_heights⟩) (c_upper_heights : PySem.W.codeIn K cd_upper_heights "upper_heights" = true) (k_upper_heights : PySem.W.keepIn K (.ref f_upper_heights) = true)
  (a_law_curve_right : PySem.W.nsIn K mainGlobals "_law_curve_right" = some (some (.ref f_law_curve_right))) (l_law_curve_right : K.lookup f_law_curve_right = some ⟨oc_law_curve_right, od_law_curve_right, .func (PySem.W.fnOf "_law_curve_right" "_law_curve_right" (defArgs s_law_curve_right) (defBody s_law_curve_right) (defScope s_law_curve_right) .none kV_law_curve_right dc_law_curve_right pm_law_curve_right an_law_curve_right cd_law_curve_right ct_law_curve_right), sl_law_curve_right⟩) (c_law_curve_right : PySem.W.codeIn K cd_law_curve_right "_law_curve_right" = true) (k_law_curve_right : PySem.W.keepIn K (.ref f_law_curve_right) = true)
  (a_law_never_falls : PySem.W.nsIn K mainGlobals "_law_never_falls" = some (some (.ref f_law_never_falls))) (l_law_never_falls : K.lookup f_law_never_falls = some ⟨oc_law_never_falls, od_law_never_falls, .func (PySem.W.fnOf "_law_never_falls" "_law_never_falls" (defArgs s_law_never_falls) (defBody s_law_never_falls) (defScope s_law_never_falls) .none kV_law_never_falls dc_law_never_falls pm_law_never_falls an_law_never_falls cd_law_never_falls ct_law_never_falls), sl_law_never_falls⟩) (c_law_never_falls : PySem.W.codeIn K cd_law_never_falls "_law_never_falls" = true) (k_law_never_falls : PySem.W.keepIn K (.ref f_law_never_falls) = true)
  (a_law_paired : PySem.W.nsIn K mainGlobals "_law_paired" = some (some (.ref f_law_paired))) (l_law_paired : K.lookup f_law_paired = some ⟨oc_law_paired, od_law_paired, .func (PySem.W.fnOf "_law_paired" "_law_paired" (defArgs s_law_paired) (defBody s_law_paired) (defScope s_law_paired) .none kV_law_paired dc_law_paired pm_law_paired an_law_paired cd_law_paired ct_law_paired), sl_law_paired⟩) (c_law_paired : PySem.W.codeIn K cd_law_paired "_law_paired" = true) (k_law_paired : PySem.W.keepIn K (.ref f_law_paired) = true)
  (a_law_scaled : PySem.W.nsIn K mainGlobals "_law_scaled" = some (some (.ref f_law_scaled))) (l_law_scaled : K.lookup f_law_scaled = some ⟨oc_law_scaled, od_law_scaled, .func (PySem.W.fnOf "_law_scaled" "_law_scaled" (defArgs s_law_scaled) (defBody s_law_scaled) (defScope s_law_scaled) .none kV_law_scaled dc_law_scaled pm_law_scaled an_law_scaled cd_law_scaled ct_law_scaled), sl_law_scaled⟩) (c_law_scaled : PySem.W.codeIn K cd_law_scaled "_law_scaled" = true) (k_law_scaled : PySem.W.keepIn K (.ref f_law_scaled) = true)
  (a_law_seller : PySem.W.nsIn K mainGlobals "_law_seller" = some (some (.ref f_law_seller))) (l_law_seller : K.lookup f_law_seller = some ⟨oc_law_seller, od_law_seller, .func (PySem.W.fnOf "_law_seller" "_law_seller" (defArgs s_law_seller) (defBody s_law_seller) (defScope s_law_seller) .none kV_law_seller dc_law_seller pm_law_seller an_law_seller cd_law_seller ct_law_seller), sl_law_seller⟩) (c_law_seller : PySem.W.codeIn K cd_law_seller "_law_seller" = true) (k_law_seller : PySem.W.keepIn K (.ref f_law_seller) = true)
  (a_div : PySem.W.nsIn K mainGlobals "div" = some (some (.ref f_div))) (l_div : K.lookup f_div = some ⟨oc_div, od_div, .func (PySem.W.fnOf "div" "div" (defArgs s_div) (defBody s_div) (defScope s_div) .none kV_div dc_div pm_div an_div cd_div ct_div), sl_div⟩) (c_div : PySem.W.codeIn K cd_div "div" = true) (k_div : PySem.W.keepIn K (.ref f_div) = true)
  (a_sub : PySem.W.nsIn K mainGlobals "sub" = some (some (.ref f_sub))) (l_sub : K.lookup f_sub = some ⟨oc_sub, od_sub, .func (PySem.W.fnOf "sub" "sub" (defArgs s_sub) (defBody s_sub) (defScope s_sub) .none kV_sub dc_sub pm_sub an_sub cd_sub ct_sub), sl_sub⟩) (c_sub : PySem.W.codeIn K cd_sub "sub" = true) (k_sub : PySem.W.keepIn K (.ref f_sub) = true)
  (a_evened_worths : PySem.W.nsIn K mainGlobals "evened_worths" = some (some (.ref f_evened_worths))) (l_evened_worths : K.lookup f_evened_worths = some ⟨oc_evened_worths, od_evened_worths, .func (PySem.W.fnOf "evened_worths" "evened_worths" (defArgs s_evened_worths) (defBody s_evened_worths) (defScope s_evened_worths) .none kV_evened_worths dc_evened_worths pm_evened_worths an_evened_worths cd_evened_worths ct_evened_worths), sl_evened_worths⟩) (c_evened_worths : PySem.W.codeIn K cd_evened_worths "evened_worths" = true) (k_evened_worths : PySem.W.keepIn K (.ref f_evened_worths) = true)
  (a_lifts : PySem.W.nsIn K mainGlobals "lifts" = some (some (.ref f_lifts))) (l_lifts : K.lookup f_lifts = some ⟨oc_lifts, od_lifts, .func (PySem.W.fnOf "lifts" "lifts" (defArgs s_lifts) (defBody s_lifts) (defScope s_lifts) .none kV_lifts dc_lifts pm_lifts an_lifts cd_lifts ct_lifts), sl_lifts⟩) (c_lifts : PySem.W.codeIn K cd_lifts "lifts" = true) (k_lifts : PySem.W.keepIn K (.ref f_lifts) = true)
  (a_Book_chance : PySem.W.findIn K (.ref C_Book) "chance" = some (some (.ref f_Book_chance))) (i_Book_chance : PySem.W.isFn K (.ref f_Book_chance) = true) (l_Book_chance : K.lookup f_Book_chance = some ⟨oc_Book_chance, od_Book_chance, .func (PySem.W.fnOf "chance" "Book.chance" (defArgs s_Book_chance) (defBody s_Book_chance) (defScope s_Book_chance) .none kV_Book_chance dc_Book_chance pm_Book_chance an_Book_chance cd_Book_chance ct_Book_chance), sl_Book_chance⟩) (c_Book_chance : PySem.W.codeIn K cd_Book_chance "Book.chance" = true) (k_Book_chance : PySem.W.keepIn K (.ref f_Book_chance) = true)
  (a_seller_worths : PySem.W.nsIn K mainGlobals "seller_worths" = some (some (.ref f_seller_worths))) (l_seller_worths : K.lookup f_seller_worths = some ⟨oc_seller_worths, od_seller_worths, .func (PySem.W.fnOf "seller_worths" "seller_worths" (defArgs s_seller_worths) (defBody s_seller_worths) (defScope s_seller_worths) .none kV_seller_worths dc_seller_worths pm_seller_worths an_seller_worths cd_seller_worths ct_seller_worths), sl_seller_worths⟩) (c_seller_worths : PySem.W.codeIn K cd_seller_worths "seller_worths" = true) (k_seller_worths : PySem.W.keepIn K (.ref f_seller_worths) = true)
  (a_law_buyer_right : PySem.W.nsIn K mainGlobals "_law_buyer_right" = some (some (.ref f_law_buyer_right))) (l_law_buyer_right : K.lookup f_law_buyer_right = some ⟨oc_law_buyer_right, od_law_buyer_right, .func (PySem.W.fnOf "_law_buyer_right" "_law_buyer_right" (defArgs s_law_buyer_right) (defBody s_law_buyer_right) (defScope s_law_buyer_right) .none kV_law_buyer_right dc_law_buyer_right pm_law_buyer_right an_law_buyer_right cd_law_buyer_right ct_law_buyer_right), sl_law_buyer_right⟩) (c_law_buyer_right : PySem.W.codeIn K cd_law_buyer_right "_law_buyer_right" = true) (k_law_buyer_right : PySem.W.keepIn K (.ref f_law_buyer_right) = true)
  (a_law_great : PySem.W.nsIn K mainGlobals "_law_great" = some (some (.ref f_law_great))) (l_law_great : K.lookup f_law_great = some ⟨oc_law_great, od_law_great, .func (PySem.W.fnOf "_law_great" "_law_great" (defArgs s_law_great) (defBody s_law_great) (defScope s_law_great) .none kV_law_great dc_law_great pm_law_great an_law_great cd_law_great ct_law_great), sl_law_great⟩) (c_law_great : PySem.W.codeIn K cd_law_great "_law_great" = true) (k_law_great : PySem.W.keepIn K (.ref f_law_great) = true)
  (a_law_crowd : PySem.W.nsIn K mainGlobals "_law_crowd" = some (some (.ref f_law_crowd))) (l_law_crowd : K.lookup f_law_crowd = some ⟨oc_law_crowd, od_law_crowd, .func (PySem.W.fnOf "_law_crowd" "_law_crowd" (defArgs s_law_crowd) (defBody s_law_crowd) (defScope s_law_crowd) .none kV_law_crowd dc_law_crowd pm_law_crowd an_law_crowd cd_law_crowd ct_law_crowd), sl_law_crowd⟩) (c_law_crowd : PySem.W.codeIn K cd_law_crowd "_law_crowd" = true) (k_law_crowd : PySem.W.keepIn K (.ref f_law_crowd) = true)
  (a_law_start : PySem.W.nsIn K mainGlobals "_law_start" = some (some (.ref f_law_start))) (l_law_start : K.lookup f_law_start = some ⟨oc_law_start, od_law_start, .func (PySem.W.fnOf "_law_start" "_law_start" (defArgs s_law_start) (defBody s_law_start) (defScope s_law_start) .none kV_law_start dc_law_start pm_law_start an_law_start cd_law_start ct_law_start), sl_law_start⟩) (c_law_start : PySem.W.codeIn K cd_law_start "_law_start" = true) (k_law_start : PySem.W.keepIn K (.ref f_law_start) = true)
  (a_law_evened : PySem.W.nsIn K mainGlobals "_law_evened" = some (some (.ref f_law_evened))) (l_law_evened : K.lookup f_law_evened = some ⟨oc_law_evened, od_law_evened, .func (PySem.W.fnOf "_law_evened" "_law_evened" (defArgs s_law_evened) (defBody s_law_evened) (defScope s_law_evened) .none kV_law_evened dc_law_evened pm_law_evened an_law_evened cd_law_evened ct_law_evened), sl_law_evened⟩) (c_law_evened : PySem.W.codeIn K cd_law_evened "_law_evened" = true) (k_law_evened : PySem.W.keepIn K (.ref f_law_evened) = true)
  (a_law_table_right : PySem.W.nsIn K mainGlobals "_law_table_right" = some (some (.ref f_law_table_right))) (l_law_table_right : K.lookup f_law_table_right = some ⟨oc_law_table_right, od_law_table_right, .func (PySem.W.fnOf "_law_table_right" "_law_table_right" (defArgs s_law_table_right) (defBody s_law_table_right) (defScope s_law_table_right) .none kV_law_table_right dc_law_table_right pm_law_table_right an_law_table_right cd_law_table_right ct_law_table_right), sl_law_table_right⟩) (c_law_table_right : PySem.W.codeIn K cd_law_table_right "_law_table_right" = true) (k_law_table_right : PySem.W.keepIn K (.ref f_law_table_right) = true)
  (a_evened_table : PySem.W.nsIn K mainGlobals "evened_table" = some (some (.ref f_evened_table))) (l_evened_table : K.lookup f_evened_table = some ⟨oc_evened_table, od_evened_table, .func (PySem.W.fnOf "evened_table" "evened_table" (defArgs s_evened_table) (defBody s_evened_table) (defScope s_evened_table) .none kV_evened_table dc_evened_table pm_evened_table an_evened_table cd_evened_table ct_evened_table), sl_evened_table⟩) (c_evened_table : PySem.W.codeIn K cd_evened_table "evened_table" = true) (k_evened_table : PySem.W.keepIn K (.ref f_evened_table) = true)
  (a_law : PySem.W.nsIn K mainGlobals "law" = some (some (.ref f_law))) (l_law : K.lookup f_law = some ⟨oc_law, od_law, .func (PySem.W.fnOf "law" "law" (defArgs s_law) (defBody s_law) (defScope s_law) .none kV_law dc_law pm_law an_law cd_law ct_law), sl_law⟩) (c_law : PySem.W.codeIn K cd_law "law" = true) (k_law : PySem.W.keepIn K (.ref f_law) = true) :
    ∃ fd : FuncData, (∀ (s : Shared) (v : Value), BindsTo s fd ⟨[v], []⟩ [("script", v)]) ∧ ∀ base : Heap, K.In base → base.Ns mainGlobals mg → FnOk l.prog w K mg base CX0 6 fa fd ["script"] (spLaw K) := by
  have e := hfa.symm.trans (PySem.W.mg_of X G a_law)
  cases e
  letI : CA := ⟨C_Book⟩
  let T : Txt K mg := {
    z_abs := PySem.W.mg_none_of X G z_abs
    z_bool := PySem.W.mg_none_of X G z_bool
    z_enumerate := PySem.W.mg_none_of X G z_enumerate
    z_gcd := PySem.W.mg_of X G z_gcd
    z_int := PySem.W.mg_none_of X G z_int
    z_isinstance := PySem.W.mg_none_of X G z_isinstance
    z_lcm := PySem.W.mg_of X G z_lcm
    z_len := PySem.W.mg_none_of X G z_len
    z_list := PySem.W.mg_none_of X G z_list
    z_max := PySem.W.mg_none_of X G z_max
    z_range := PySem.W.mg_none_of X G z_range
    z_sorted := PySem.W.mg_none_of X G z_sorted
    z_sum := PySem.W.mg_none_of X G z_sum
    z_tuple := PySem.W.mg_none_of X G z_tuple
    z_zip := PySem.W.mg_none_of X G z_zip
    cl_Book := ⟨pg_Book, hd_Book, po_Book, sa_Book⟩
    g_Book := PySem.W.mg_of X G g_Book
    n_Book_buyers := n_Book_buyers
    n_Book_size := n_Book_size
    n_Book_counts := n_Book_counts
    n_Book_row_count := n_Book_row_count
    n_Book_weights := n_Book_weights
    t_MOST_BUYERS := t_MOST_BUYERS
    g_MOST_BUYERS := PySem.W.mg_of X G g_MOST_BUYERS
    r_MOST_BUYERS := fun W H => .int
    t_MOST_ROWS := t_MOST_ROWS
    g_MOST_ROWS := PySem.W.mg_of X G g_MOST_ROWS
    r_MOST_ROWS := fun W H => .int
    t_MOST_WORTHS := t_MOST_WORTHS
    g_MOST_WORTHS := PySem.W.mg_of X G g_MOST_WORTHS
    r_MOST_WORTHS := fun W H => .int
    t_NUMBER_END := t_NUMBER_END
    g_NUMBER_END := PySem.W.mg_of X G g_NUMBER_END
    r_NUMBER_END := fun W H => .int
    a_ZERO := a_ZERO
    g_ZERO := PySem.W.mg_of X G g_ZERO
    r_ZERO := fun W H => .tup (vs := [.int 0, .int 1]) (.inr ⟨_, _, _, l_ZERO, rfl, rfl, (by show 2 ≤ sizeLine; decide), (.cons ⟨t_ZERO_0, rfl⟩ (.cons ⟨t_ZERO_1, rfl⟩ Paired.nil))⟩) (.cons .int (.cons .int RepSs.nil))
    a_check_pairs := f_check_pairs
    d_check_pairs := _
    F_check_pairs := fun_mk (st := s_check_pairs) l_check_pairs c_check_pairs k_check_pairs
    g_check_pairs := PySem.W.mg_of X G a_check_pairs
    b_check_pairs := (fun_mk (st := s_check_pairs) l_check_pairs c_check_pairs k_check_pairs).binds (ps := ["buyer", "pairs"]) fun _ _ _ _ _ _ us hl => match us, hl with | [_, _], _ => rfl
    a_fixed_pairs := f_fixed_pairs
    d_fixed_pairs := _
    F_fixed_pairs := fun_mk (st := s_fixed_pairs) l_fixed_pairs c_fixed_pairs k_fixed_pairs
    g_fixed_pairs := PySem.W.mg_of X G a_fixed_pairs
    b_fixed_pairs := (fun_mk (st := s_fixed_pairs) l_fixed_pairs c_fixed_pairs k_fixed_pairs).binds (ps := ["pairs"]) fun _ _ _ _ _ _ us hl => match us, hl with | [_], _ => rfl
    a_weight_of := f_weight_of
    d_weight_of := _
    F_weight_of := fun_mk (st := s_weight_of) l_weight_of c_weight_of k_weight_of
    g_weight_of := PySem.W.mg_of X G a_weight_of
    b_weight_of := (fun_mk (st := s_weight_of) l_weight_of c_weight_of k_weight_of).binds (ps := ["pairs"]) fun _ _ _ _ _ _ us hl => match us, hl with | [_], _ => rfl
    a_Book_init := f_Book_init
    d_Book_init := _
    F_Book_init := fun_mk (st := s_Book_init) l_Book_init c_Book_init k_Book_init
    m_Book_init := ⟨mk_Book, a_Book_init, i_Book_init, kc_Book⟩
    b_Book_init := (fun_mk (st := s_Book_init) l_Book_init c_Book_init k_Book_init).binds (ps := ["self", "buyers"]) fun _ _ _ _ _ _ us hl => match us, hl with | [_, _], _ => rfl
    a_law_draw := f_law_draw
    d_law_draw := _
    F_law_draw := fun_mk (st := s_law_draw) l_law_draw c_law_draw k_law_draw
    g_law_draw := PySem.W.mg_of X G a_law_draw
    b_law_draw := (fun_mk (st := s_law_draw) l_law_draw c_law_draw k_law_draw).binds (ps := ["state", "base"]) fun _ _ _ _ _ _ us hl => match us, hl with | [_, _], _ => rfl
    a_law_any_list := f_law_any_list
    d_law_any_list := _
    F_law_any_list := fun_mk (st := s_law_any_list) l_law_any_list c_law_any_list k_law_any_list
    g_law_any_list := PySem.W.mg_of X G a_law_any_list
    b_law_any_list := (fun_mk (st := s_law_any_list) l_law_any_list c_law_any_list k_law_any_list).binds (ps := ["state", "pairs", "seller", "evened", "heights"]) fun _ _ _ _ _ _ us hl => match us, hl with | [_, _, _, _, _], _ => rfl
    a_law_gcd := f_law_gcd
    d_law_gcd := _
    F_law_gcd := fun_mk (st := s_law_gcd) l_law_gcd c_law_gcd k_law_gcd
    g_law_gcd := PySem.W.mg_of X G a_law_gcd
    b_law_gcd := (fun_mk (st := s_law_gcd) l_law_gcd c_law_gcd k_law_gcd).binds (ps := ["a", "b"]) fun _ _ _ _ _ _ us hl => match us, hl with | [_, _], _ => rfl
    a_law_is_integer := f_law_is_integer
    d_law_is_integer := _
    F_law_is_integer := fun_mk (st := s_law_is_integer) l_law_is_integer c_law_is_integer k_law_is_integer
    g_law_is_integer := PySem.W.mg_of X G a_law_is_integer
    b_law_is_integer := (fun_mk (st := s_law_is_integer) l_law_is_integer c_law_is_integer k_law_is_integer).binds (ps := ["actual"]) fun _ _ _ _ _ _ us hl => match us, hl with | [_], _ => rfl
    a_law_same := f_law_same
    d_law_same := _
    F_law_same := fun_mk (st := s_law_same) l_law_same c_law_same k_law_same
    g_law_same := PySem.W.mg_of X G a_law_same
    b_law_same := (fun_mk (st := s_law_same) l_law_same c_law_same k_law_same).binds (ps := ["actual", "n", "d"]) fun _ _ _ _ _ _ us hl => match us, hl with | [_, _, _], _ => rfl
    a_law_is_list := f_law_is_list
    d_law_is_list := _
    F_law_is_list := fun_mk (st := s_law_is_list) l_law_is_list c_law_is_list k_law_is_list
    g_law_is_list := PySem.W.mg_of X G a_law_is_list
    b_law_is_list := (fun_mk (st := s_law_is_list) l_law_is_list c_law_is_list k_law_is_list).binds (ps := ["actual", "size"]) fun _ _ _ _ _ _ us hl => match us, hl with | [_, _], _ => rfl
    a_ratio := f_ratio
    d_ratio := _
    F_ratio := fun_mk (st := s_ratio) l_ratio c_ratio k_ratio
    g_ratio := PySem.W.mg_of X G a_ratio
    b_ratio := (fun_mk (st := s_ratio) l_ratio c_ratio k_ratio).binds (ps := ["n", "d"]) fun _ _ _ _ _ _ us hl => match us, hl with | [_, _], _ => rfl
    a_Book_upper := f_Book_upper
    d_Book_upper := _
    F_Book_upper := fun_mk (st := s_Book_upper) l_Book_upper c_Book_upper k_Book_upper
    m_Book_upper := ⟨a_Book_upper, i_Book_upper, k_Book_upper⟩
    b_Book_upper := (fun_mk (st := s_Book_upper) l_Book_upper c_Book_upper k_Book_upper).binds (ps := ["self", "buyer", "index"]) fun _ _ _ _ _ _ us hl => match us, hl with | [_, _, _], _ => rfl
    a_Book_worth := f_Book_worth
    d_Book_worth := _
    F_Book_worth := fun_mk (st := s_Book_worth) l_Book_worth c_Book_worth k_Book_worth
    m_Book_worth := ⟨a_Book_worth, i_Book_worth, k_Book_worth⟩
    b_Book_worth := (fun_mk (st := s_Book_worth) l_Book_worth c_Book_worth k_Book_worth).binds (ps := ["self", "buyer", "index"]) fun _ _ _ _ _ _ us hl => match us, hl with | [_, _, _], _ => rfl
    a_mul := f_mul
    d_mul := _
    F_mul := fun_mk (st := s_mul) l_mul c_mul k_mul
    g_mul := PySem.W.mg_of X G a_mul
    b_mul := (fun_mk (st := s_mul) l_mul c_mul k_mul).binds (ps := ["a", "b"]) fun _ _ _ _ _ _ us hl => match us, hl with | [_, _], _ => rfl
    a_curve := f_curve
    d_curve := _
    F_curve := fun_mk (st := s_curve) l_curve c_curve k_curve
    g_curve := PySem.W.mg_of X G a_curve
    b_curve := (fun_mk (st := s_curve) l_curve c_curve k_curve).binds (ps := ["book", "buyer"]) fun _ _ _ _ _ _ us hl => match us, hl with | [_, _], _ => rfl
    a_is_above := f_is_above
    d_is_above := _
    F_is_above := fun_mk (st := s_is_above) l_is_above c_is_above k_is_above
    g_is_above := PySem.W.mg_of X G a_is_above
    b_is_above := (fun_mk (st := s_is_above) l_is_above c_is_above k_is_above).binds (ps := ["xs", "ys", "start", "middle", "end"]) fun _ _ _ _ _ _ us hl => match us, hl with | [_, _, _, _, _], _ => rfl
    a_hull_places := f_hull_places
    d_hull_places := _
    F_hull_places := fun_mk (st := s_hull_places) l_hull_places c_hull_places k_hull_places
    g_hull_places := PySem.W.mg_of X G a_hull_places
    b_hull_places := (fun_mk (st := s_hull_places) l_hull_places c_hull_places k_hull_places).binds (ps := ["xs", "ys"]) fun _ _ _ _ _ _ us hl => match us, hl with | [_, _], _ => rfl
    a_scaled := f_scaled
    d_scaled := _
    F_scaled := fun_mk (st := s_scaled) l_scaled c_scaled k_scaled
    g_scaled := PySem.W.mg_of X G a_scaled
    b_scaled := (fun_mk (st := s_scaled) l_scaled c_scaled k_scaled).binds (ps := ["fractions"]) fun _ _ _ _ _ _ us hl => match us, hl with | [_], _ => rfl
    a_upper_heights := f_upper_heights
    d_upper_heights := _
    F_upper_heights := fun_mk (st := s_upper_heights) l_upper_heights c_upper_heights k_upper_heights
    g_upper_heights := PySem.W.mg_of X G a_upper_heights
    b_upper_heights := (fun_mk (st := s_upper_heights) l_upper_heights c_upper_heights k_upper_heights).binds (ps := ["points"]) fun _ _ _ _ _ _ us hl => match us, hl with | [_], _ => rfl
    a_law_curve_right := f_law_curve_right
    d_law_curve_right := _
    F_law_curve_right := fun_mk (st := s_law_curve_right) l_law_curve_right c_law_curve_right k_law_curve_right
    g_law_curve_right := PySem.W.mg_of X G a_law_curve_right
    b_law_curve_right := (fun_mk (st := s_law_curve_right) l_law_curve_right c_law_curve_right k_law_curve_right).binds (ps := ["book", "buyer", "pairs", "tops", "under"]) fun _ _ _ _ _ _ us hl => match us, hl with | [_, _, _, _, _], _ => rfl
    a_law_never_falls := f_law_never_falls
    d_law_never_falls := _
    F_law_never_falls := fun_mk (st := s_law_never_falls) l_law_never_falls c_law_never_falls k_law_never_falls
    g_law_never_falls := PySem.W.mg_of X G a_law_never_falls
    b_law_never_falls := (fun_mk (st := s_law_never_falls) l_law_never_falls c_law_never_falls k_law_never_falls).binds (ps := ["pairs", "seller"]) fun _ _ _ _ _ _ us hl => match us, hl with | [_, _], _ => rfl
    a_law_paired := f_law_paired
    d_law_paired := _
    F_law_paired := fun_mk (st := s_law_paired) l_law_paired c_law_paired k_law_paired
    g_law_paired := PySem.W.mg_of X G a_law_paired
    b_law_paired := (fun_mk (st := s_law_paired) l_law_paired c_law_paired k_law_paired).binds (ps := ["pairs", "seller", "evened", "heights"]) fun _ _ _ _ _ _ us hl => match us, hl with | [_, _, _, _], _ => rfl
    a_law_scaled := f_law_scaled
    d_law_scaled := _
    F_law_scaled := fun_mk (st := s_law_scaled) l_law_scaled c_law_scaled k_law_scaled
    g_law_scaled := PySem.W.mg_of X G a_law_scaled
    b_law_scaled := (fun_mk (st := s_law_scaled) l_law_scaled c_law_scaled k_law_scaled).binds (ps := ["actual"]) fun _ _ _ _ _ _ us hl => match us, hl with | [_], _ => rfl
    a_law_seller := f_law_seller
    d_law_seller := _
    F_law_seller := fun_mk (st := s_law_seller) l_law_seller c_law_seller k_law_seller
    g_law_seller := PySem.W.mg_of X G a_law_seller
    b_law_seller := (fun_mk (st := s_law_seller) l_law_seller c_law_seller k_law_seller).binds (ps := ["pairs"]) fun _ _ _ _ _ _ us hl => match us, hl with | [_], _ => rfl
    a_div := f_div
    d_div := _
    F_div := fun_mk (st := s_div) l_div c_div k_div
    g_div := PySem.W.mg_of X G a_div
    b_div := (fun_mk (st := s_div) l_div c_div k_div).binds (ps := ["a", "b"]) fun _ _ _ _ _ _ us hl => match us, hl with | [_, _], _ => rfl
    a_sub := f_sub
    d_sub := _
    F_sub := fun_mk (st := s_sub) l_sub c_sub k_sub
    g_sub := PySem.W.mg_of X G a_sub
    b_sub := (fun_mk (st := s_sub) l_sub c_sub k_sub).binds (ps := ["a", "b"]) fun _ _ _ _ _ _ us hl => match us, hl with | [_, _], _ => rfl
    a_evened_worths := f_evened_worths
    d_evened_worths := _
    F_evened_worths := fun_mk (st := s_evened_worths) l_evened_worths c_evened_worths k_evened_worths
    g_evened_worths := PySem.W.mg_of X G a_evened_worths
    b_evened_worths := (fun_mk (st := s_evened_worths) l_evened_worths c_evened_worths k_evened_worths).binds (ps := ["book", "buyer"]) fun _ _ _ _ _ _ us hl => match us, hl with | [_, _], _ => rfl
    a_lifts := f_lifts
    d_lifts := _
    F_lifts := fun_mk (st := s_lifts) l_lifts c_lifts k_lifts
    g_lifts := PySem.W.mg_of X G a_lifts
    b_lifts := (fun_mk (st := s_lifts) l_lifts c_lifts k_lifts).binds (ps := ["book", "buyer"]) fun _ _ _ _ _ _ us hl => match us, hl with | [_, _], _ => rfl
    a_Book_chance := f_Book_chance
    d_Book_chance := _
    F_Book_chance := fun_mk (st := s_Book_chance) l_Book_chance c_Book_chance k_Book_chance
    m_Book_chance := ⟨a_Book_chance, i_Book_chance, k_Book_chance⟩
    b_Book_chance := (fun_mk (st := s_Book_chance) l_Book_chance c_Book_chance k_Book_chance).binds (ps := ["self", "buyer", "index"]) fun _ _ _ _ _ _ us hl => match us, hl with | [_, _, _], _ => rfl
    a_seller_worths := f_seller_worths
    d_seller_worths := _
    F_seller_worths := fun_mk (st := s_seller_worths) l_seller_worths c_seller_worths k_seller_worths
    g_seller_worths := PySem.W.mg_of X G a_seller_worths
    b_seller_worths := (fun_mk (st := s_seller_worths) l_seller_worths c_seller_worths k_seller_worths).binds (ps := ["book", "buyer"]) fun _ _ _ _ _ _ us hl => match us, hl with | [_, _], _ => rfl
    a_law_buyer_right := f_law_buyer_right
    d_law_buyer_right := _
    F_law_buyer_right := fun_mk (st := s_law_buyer_right) l_law_buyer_right c_law_buyer_right k_law_buyer_right
    g_law_buyer_right := PySem.W.mg_of X G a_law_buyer_right
    b_law_buyer_right := (fun_mk (st := s_law_buyer_right) l_law_buyer_right c_law_buyer_right k_law_buyer_right).binds (ps := ["state", "book", "buyer", "pairs"]) fun _ _ _ _ _ _ us hl => match us, hl with | [_, _, _, _], _ => rfl
    a_law_great := f_law_great
    d_law_great := _
    F_law_great := fun_mk (st := s_law_great) l_law_great c_law_great k_law_great
    g_law_great := PySem.W.mg_of X G a_law_great
    b_law_great := (fun_mk (st := s_law_great) l_law_great c_law_great k_law_great).binds (ps := ["state", "big"]) fun _ _ _ _ _ _ us hl => match us, hl with | [_, _], _ => rfl
    a_law_crowd := f_law_crowd
    d_law_crowd := _
    F_law_crowd := fun_mk (st := s_law_crowd) l_law_crowd c_law_crowd k_law_crowd
    g_law_crowd := PySem.W.mg_of X G a_law_crowd
    b_law_crowd := (fun_mk (st := s_law_crowd) l_law_crowd c_law_crowd k_law_crowd).binds (ps := ["state"]) fun _ _ _ _ _ _ us hl => match us, hl with | [_], _ => rfl
    a_law_start := f_law_start
    d_law_start := _
    F_law_start := fun_mk (st := s_law_start) l_law_start c_law_start k_law_start
    g_law_start := PySem.W.mg_of X G a_law_start
    b_law_start := (fun_mk (st := s_law_start) l_law_start c_law_start k_law_start).binds (ps := ["script"]) fun _ _ _ _ _ _ us hl => match us, hl with | [_], _ => rfl
    a_law_evened := f_law_evened
    d_law_evened := _
    F_law_evened := fun_mk (st := s_law_evened) l_law_evened c_law_evened k_law_evened
    g_law_evened := PySem.W.mg_of X G a_law_evened
    b_law_evened := (fun_mk (st := s_law_evened) l_law_evened c_law_evened k_law_evened).binds (ps := ["pairs"]) fun _ _ _ _ _ _ us hl => match us, hl with | [_], _ => rfl
    a_law_table_right := f_law_table_right
    d_law_table_right := _
    F_law_table_right := fun_mk (st := s_law_table_right) l_law_table_right c_law_table_right k_law_table_right
    g_law_table_right := PySem.W.mg_of X G a_law_table_right
    b_law_table_right := (fun_mk (st := s_law_table_right) l_law_table_right c_law_table_right k_law_table_right).binds (ps := ["table", "buyers"]) fun _ _ _ _ _ _ us hl => match us, hl with | [_, _], _ => rfl
    a_evened_table := f_evened_table
    d_evened_table := _
    F_evened_table := fun_mk (st := s_evened_table) l_evened_table c_evened_table k_evened_table
    g_evened_table := PySem.W.mg_of X G a_evened_table
    b_evened_table := (fun_mk (st := s_evened_table) l_evened_table c_evened_table k_evened_table).binds (ps := ["book"]) fun _ _ _ _ _ _ us hl => match us, hl with | [_], _ => rfl
    a_law := fa
    d_law := _
    F_law := fun_mk (st := s_law) l_law c_law k_law
    g_law := PySem.W.mg_of X G a_law
    b_law := (fun_mk (st := s_law) l_law c_law k_law).binds (ps := ["script"]) fun _ _ _ _ _ _ us hl => match us, hl with | [_], _ => rfl }
  exact ⟨T.d_law, fun s v => .of_eq rfl, fun base _ _ => ok_law T law_true⟩
end DL
open PySem PySem.W
set_option maxHeartbeats 0 in
theorem PySem.Challenge.cw_soldtoworths_k22_whole_lifts_and_evened_holds : PySem.Challenge.rw_soldtoworths_k22_whole_lifts_and_evened.Holds := by
  w_on; o_law; k_head; (case hw => w_witness2)
  k_fill
  refine L2.walk_of (l := PySem.Challenge.rw_soldtoworths_k22_whole_lifts_and_evened) (n := 63) (k := 6) (x := "script") (CX := fun _ => L2.CX0) (sp := fun w => DL.spLaw _) rfl (by decide) rfl ⟨rfl, by decide, by decide⟩ (fun w h Y => PySem.W.kIn_of Y) ?F (fun _ _ a ns hl _ hS => ⟨a, ns, rfl, hS, hl, fun _ => rfl⟩) (fun _ _ _ _ _ h => h)
  case F =>
    intro w mg fa h KX G hmg
    refine' DL.all_mk KX G hmg ?z_abs ?z_bool ?z_enumerate ?z_gcd ?z_int ?z_isinstance ?z_lcm ?z_len ?z_list ?z_max ?z_range ?z_sorted ?z_sum ?z_tuple ?z_zip ?g_Book ?pg_Book ?hd_Book ?po_Book ?sa_Book ?mk_Book ?kc_Book ?n_Book_buyers ?n_Book_size ?n_Book_counts ?n_Book_row_count ?n_Book_weights ?g_MOST_BUYERS ?g_MOST_ROWS ?g_MOST_WORTHS ?g_NUMBER_END ?g_ZERO ?l_ZERO ?a_check_pairs ?l_check_pairs ?c_check_pairs ?k_check_pairs ?a_fixed_pairs ?l_fixed_pairs ?c_fixed_pairs ?k_fixed_pairs ?a_weight_of ?l_weight_of ?c_weight_of ?k_weight_of ?a_Book_init ?i_Book_init ?l_Book_init ?c_Book_init ?k_Book_init ?a_law_draw ?l_law_draw ?c_law_draw ?k_law_draw ?a_law_any_list ?l_law_any_list ?c_law_any_list ?k_law_any_list ?a_law_gcd ?l_law_gcd ?c_law_gcd ?k_law_gcd ?a_law_is_integer ?l_law_is_integer ?c_law_is_integer ?k_law_is_integer ?a_law_same ?l_law_same ?c_law_same ?k_law_same ?a_law_is_list ?l_law_is_list ?c_law_is_list ?k_law_is_list ?a_ratio ?l_ratio ?c_ratio ?k_ratio ?a_Book_upper ?i_Book_upper ?l_Book_upper ?c_Book_upper ?k_Book_upper ?a_Book_worth ?i_Book_worth ?l_Book_worth ?c_Book_worth ?k_Book_worth ?a_mul ?l_mul ?c_mul ?k_mul ?a_curve ?l_curve ?c_curve ?k_curve ?a_is_above ?l_is_above ?c_is_above ?k_is_above ?a_hull_places ?l_hull_places ?c_hull_places ?k_hull_places ?a_scaled ?l_scaled ?c_scaled ?k_scaled ?a_upper_heights ?l_upper_heights ?c_upper_heights ?k_upper_heights ?a_law_curve_right ?l_law_curve_right ?c_law_curve_right ?k_law_curve_right ?a_law_never_falls ?l_law_never_falls ?c_law_never_falls ?k_law_never_falls ?a_law_paired ?l_law_paired ?c_law_paired ?k_law_paired ?a_law_scaled ?l_law_scaled ?c_law_scaled ?k_law_scaled ?a_law_seller ?l_law_seller ?c_law_seller ?k_law_seller ?a_div ?l_div ?c_div ?k_div ?a_sub ?l_sub ?c_sub ?k_sub ?a_evened_worths ?l_evened_worths ?c_evened_worths ?k_evened_worths ?a_lifts ?l_lifts ?c_lifts ?k_lifts ?a_Book_chance ?i_Book_chance ?l_Book_chance ?c_Book_chance ?k_Book_chance ?a_seller_worths ?l_seller_worths ?c_seller_worths ?k_seller_worths ?a_law_buyer_right ?l_law_buyer_right ?c_law_buyer_right ?k_law_buyer_right ?a_law_great ?l_law_great ?c_law_great ?k_law_great ?a_law_crowd ?l_law_crowd ?c_law_crowd ?k_law_crowd ?a_law_start ?l_law_start ?c_law_start ?k_law_start ?a_law_evened ?l_law_evened ?c_law_evened ?k_law_evened ?a_law_table_right ?l_law_table_right ?c_law_table_right ?k_law_table_right ?a_evened_table ?l_evened_table ?c_evened_table ?k_evened_table ?a_law ?l_law ?c_law ?k_law
    (case z_abs => k_is); (case z_bool => k_is); (case z_enumerate => k_is); (case z_gcd => k_is); (case z_int => k_is); (case z_isinstance => k_is); (case z_lcm => k_is); (case z_len => k_is); (case z_list => k_is); (case z_max => k_is); (case z_range => k_is); (case z_sorted => k_is); (case z_sum => k_is); (case z_tuple => k_is); (case z_zip => k_is); (case g_Book => k_is); (case pg_Book => k_is); (case hd_Book => k_is); (case po_Book => k_is); (case sa_Book => k_is); (case mk_Book => k_is); (case kc_Book => k_is); (case n_Book_buyers => k_is); (case n_Book_size => k_is); (case n_Book_counts => k_is); (case n_Book_row_count => k_is); (case n_Book_weights => k_is); (case g_MOST_BUYERS => k_is); (case g_MOST_ROWS => k_is); (case g_MOST_WORTHS => k_is); (case g_NUMBER_END => k_is); (case g_ZERO => k_is); (case l_ZERO => k_is); (case a_check_pairs => k_is); (case l_check_pairs => k_is); (case c_check_pairs => k_is); (case k_check_pairs => k_is); (case a_fixed_pairs => k_is); (case l_fixed_pairs => k_is); (case c_fixed_pairs => k_is); (case k_fixed_pairs => k_is); (case a_weight_of => k_is); (case l_weight_of => k_is); (case c_weight_of => k_is); (case k_weight_of => k_is); (case a_Book_init => k_is); (case i_Book_init => k_is); (case l_Book_init => k_is); (case c_Book_init => k_is); (case k_Book_init => k_is); (case a_law_draw => k_is); (case l_law_draw => k_is); (case c_law_draw => k_is); (case k_law_draw => k_is); (case a_law_any_list => k_is); (case l_law_any_list => k_is); (case c_law_any_list => k_is); (case k_law_any_list => k_is); (case a_law_gcd => k_is); (case l_law_gcd => k_is); (case c_law_gcd => k_is); (case k_law_gcd => k_is); (case a_law_is_integer => k_is); (case l_law_is_integer => k_is); (case c_law_is_integer => k_is); (case k_law_is_integer => k_is); (case a_law_same => k_is); (case l_law_same => k_is); (case c_law_same => k_is); (case k_law_same => k_is); (case a_law_is_list => k_is); (case l_law_is_list => k_is); (case c_law_is_list => k_is); (case k_law_is_list => k_is); (case a_ratio => k_is); (case l_ratio => k_is); (case c_ratio => k_is); (case k_ratio => k_is); (case a_Book_upper => k_is); (case i_Book_upper => k_is); (case l_Book_upper => k_is); (case c_Book_upper => k_is); (case k_Book_upper => k_is); (case a_Book_worth => k_is); (case i_Book_worth => k_is); (case l_Book_worth => k_is); (case c_Book_worth => k_is); (case k_Book_worth => k_is); (case a_mul => k_is); (case l_mul => k_is); (case c_mul => k_is); (case k_mul => k_is); (case a_curve => k_is); (case l_curve => k_is); (case c_curve => k_is); (case k_curve => k_is); (case a_is_above => k_is); (case l_is_above => k_is); (case c_is_above => k_is); (case k_is_above => k_is); (case a_hull_places => k_is); (case l_hull_places => k_is); (case c_hull_places => k_is); (case k_hull_places => k_is); (case a_scaled => k_is); (case l_scaled => k_is); (case c_scaled => k_is); (case k_scaled => k_is); (case a_upper_heights => k_is); (case l_upper_heights => k_is); (case c_upper_heights => k_is); (case k_upper_heights => k_is); (case a_law_curve_right => k_is); (case l_law_curve_right => k_is); (case c_law_curve_right => k_is); (case k_law_curve_right => k_is); (case a_law_never_falls => k_is); (case l_law_never_falls => k_is); (case c_law_never_falls => k_is); (case k_law_never_falls => k_is); (case a_law_paired => k_is); (case l_law_paired => k_is); (case c_law_paired => k_is); (case k_law_paired => k_is); (case a_law_scaled => k_is); (case l_law_scaled => k_is); (case c_law_scaled => k_is); (case k_law_scaled => k_is); (case a_law_seller => k_is); (case l_law_seller => k_is); (case c_law_seller => k_is); (case k_law_seller => k_is); (case a_div => k_is); (case l_div => k_is); (case c_div => k_is); (case k_div => k_is); (case a_sub => k_is); (case l_sub => k_is); (case c_sub => k_is); (case k_sub => k_is); (case a_evened_worths => k_is); (case l_evened_worths => k_is); (case c_evened_worths => k_is); (case k_evened_worths => k_is); (case a_lifts => k_is); (case l_lifts => k_is); (case c_lifts => k_is); (case k_lifts => k_is); (case a_Book_chance => k_is); (case i_Book_chance => k_is); (case l_Book_chance => k_is); (case c_Book_chance => k_is); (case k_Book_chance => k_is); (case a_seller_worths => k_is); (case l_seller_worths => k_is); (case c_seller_worths => k_is); (case k_seller_worths => k_is); (case a_law_buyer_right => k_is); (case l_law_buyer_right => k_is); (case c_law_buyer_right => k_is); (case k_law_buyer_right => k_is); (case a_law_great => k_is); (case l_law_great => k_is); (case c_law_great => k_is); (case k_law_great => k_is); (case a_law_crowd => k_is); (case l_law_crowd => k_is); (case c_law_crowd => k_is); (case k_law_crowd => k_is); (case a_law_start => k_is); (case l_law_start => k_is); (case c_law_start => k_is); (case k_law_start => k_is); (case a_law_evened => k_is); (case l_law_evened => k_is); (case c_law_evened => k_is); (case k_law_evened => k_is); (case a_law_table_right => k_is); (case l_law_table_right => k_is); (case c_law_table_right => k_is); (case k_law_table_right => k_is); (case a_evened_table => k_is); (case l_evened_table => k_is); (case c_evened_table => k_is); (case k_evened_table => k_is); (case a_law => k_is); (case l_law => k_is); (case c_law => k_is); (case k_law => k_is)

