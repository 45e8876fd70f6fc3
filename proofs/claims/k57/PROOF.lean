import PyProof.Rows.All
import Wide.All
import OpenK.AllK
import Wide.FinOn
import HandS.ForMost
import HandS.IsInst
import HandS.TupAny
import HandS.Conv
import HandS.Deep
import HandS.Wide
import HandS.More
import HandS.NoneIn
import PySem.Challenge.RW_kingsandcourts_k57_closed_terms_counted
set_option Elab.async false
set_option linter.all false
set_option autoImplicit false
set_option maxRecDepth 100000
set_option maxHeartbeats 4000000
/-! VL1: data, environments, the judgements of the value level -/
namespace VL
open PySem PySem.Spec PyProof.Rows L2

inductive D where
  | non | bl (b : Bool) | int (i : Int) | str (s : Str)
  | tup (l : List D) | lst (l : List D)
  | dic (ks : List Key) (l : List D)
  | ins (C : Addr) (ns : List Str) (l : List D)
  | scr (ns : List Int)

mutual
def Rep (K : PySem.W.Frag) (F : Hp) : D → V → Prop
  | .non, v => v = .non
  | .bl b, v => v = .bl b
  | .int i, v => v = .int i
  | .str s, v => v = .str s
  | .tup l, v => ∃ a xs, v = .ref a ∧ SqT K F a xs ∧ Reps K F l xs ∧ l.length ≤ sizeLine
  | .lst l, v => ∃ a xs, v = .ref a ∧ F a = some (.lst xs) ∧ Reps K F l xs ∧ l.length ≤ sizeLine
  | .dic ks l, v => ∃ a kvs, v = .ref a ∧ F a = some (.dK kvs) ∧ kvs.map (·.1) = ks ∧ Reps K F l (kvs.map (·.2))
  | .ins C ns l, v => ∃ a dx fs, v = .ref a ∧ F a = some (.ins C dx fs) ∧ fs.map (·.1) = ns ∧ Reps K F l (fs.map (·.2))
  | .scr ns, v => ∃ a, v = .ref a ∧ SqL K F a (ns.map V.int)
def Reps (K : PySem.W.Frag) (F : Hp) : List D → List V → Prop
  | [], xs => xs = []
  | d :: ds, xs => ∃ x r, xs = x :: r ∧ Rep K F d x ∧ Reps K F ds r
end

section
variable {K : PySem.W.Frag} {F F' H H' : Hp}
theorem sqt_mono {a : Addr} {xs : List V} (e : Same F F') (h : SqT K F a xs) : SqT K F' a xs := by
  rcases h with (h | ⟨o, h⟩) | h
  · exact .inl (.inl (e _ _ h))
  · exact .inl (.inr ⟨o, e _ _ h⟩)
  · exact .inr h
mutual
theorem Rep.mono (e : Same F F') : ∀ (d : D) {v : V}, Rep K F d v → Rep K F' d v
  | .non, _, h => h
  | .bl _, _, h => h
  | .int _, _, h => h
  | .str _, _, h => h
  | .tup l, _, ⟨a, xs, e1, e2, e3⟩ => ⟨a, xs, e1, sqt_mono e e2, Reps.mono e l e3.1, e3.2⟩
  | .lst l, _, ⟨a, xs, e1, e2, e3⟩ => ⟨a, xs, e1, e _ _ e2, Reps.mono e l e3.1, e3.2⟩
  | .dic _ l, _, ⟨a, kvs, e1, e2, e3, e4⟩ => ⟨a, kvs, e1, e _ _ e2, e3, Reps.mono e l e4⟩
  | .ins _ _ l, _, ⟨a, dx, fs, e1, e2, e3, e4⟩ => ⟨a, dx, fs, e1, e _ _ e2, e3, Reps.mono e l e4⟩
  | .scr _, _, ⟨a, e1, e2⟩ => ⟨a, e1, e.seq e2⟩
theorem Reps.mono (e : Same F F') : ∀ (ds : List D) {xs : List V}, Reps K F ds xs → Reps K F' ds xs
  | [], _, h => h
  | d :: ds, _, ⟨x, r, e1, e2, e3⟩ => ⟨x, r, e1, Rep.mono e d e2, Reps.mono e ds e3⟩
end
theorem Reps.nil : Reps K F [] [] := rfl
theorem Reps.cons {d : D} {ds : List D} {x : V} {xs : List V} (h : Rep K F d x) (t : Reps K F ds xs) : Reps K F (d :: ds) (x :: xs) := ⟨x, xs, rfl, h, t⟩
theorem Reps.one {d : D} {x : V} (h : Rep K F d x) : Reps K F [d] [x] := .cons h .nil
theorem Reps.length : ∀ {ds : List D} {xs : List V}, Reps K F ds xs → xs.length = ds.length
  | [], _, h => by rw [show _ = ([] : List V) from h]; rfl
  | d :: ds, _, ⟨x, r, e1, e2, e3⟩ => by rw [e1, List.length_cons, List.length_cons, Reps.length e3]
theorem Reps.append : ∀ {ds es : List D} {xs ys : List V}, Reps K F ds xs → Reps K F es ys → Reps K F (ds ++ es) (xs ++ ys)
  | [], _, _, _, h, g => by rw [show _ = ([] : List V) from h]; exact g
  | d :: ds, _, _, _, ⟨x, r, e1, e2, e3⟩, g => by rw [e1]; exact ⟨x, _, rfl, e2, Reps.append e3 g⟩
theorem Reps.get : ∀ {ds : List D} {xs : List V} {i : Nat} {d : D}, Reps K F ds xs → ds[i]? = some d → ∃ x, xs[i]? = some x ∧ Rep K F d x
  | [], _, _, _, _, e => by simp at e
  | d :: ds, _, 0, _, ⟨x, r, e1, e2, e3⟩, e => by
    rw [e1]
    simp at e
    subst e
    exact ⟨x, rfl, e2⟩
  | d :: ds, _, i + 1, _, ⟨x, r, e1, e2, e3⟩, e => by
    rw [e1]
    obtain ⟨y, g1, g2⟩ := Reps.get (i := i) e3 (by simpa using e)
    exact ⟨y, by simpa using g1, g2⟩
theorem Reps.get2 : ∀ {ds : List D} {xs : List V} {i : Nat} {x : V}, Reps K F ds xs → xs[i]? = some x → ∃ d, ds[i]? = some d ∧ Rep K F d x
  | [], _, _, _, h, e => by rw [show _ = ([] : List V) from h] at e; simp at e
  | d :: ds, _, 0, _, ⟨x, r, e1, e2, e3⟩, e => by
    rw [e1] at e
    simp at e
    subst e
    exact ⟨d, rfl, e2⟩
  | d :: ds, _, i + 1, _, ⟨x, r, e1, e2, e3⟩, e => by
    rw [e1] at e
    obtain ⟨y, g1, g2⟩ := Reps.get2 (i := i) e3 (by simpa using e)
    exact ⟨y, by simpa using g1, g2⟩
theorem Reps.take : ∀ {ds : List D} {xs : List V} (n : Nat), Reps K F ds xs → Reps K F (ds.take n) (xs.take n)
  | [], _, n, h => by rw [show _ = ([] : List V) from h]; simp; exact .nil
  | d :: ds, _, 0, h => by simp; exact .nil
  | d :: ds, _, n + 1, ⟨x, r, e1, e2, e3⟩ => by rw [e1]; exact ⟨x, _, rfl, e2, Reps.take n e3⟩
theorem Reps.drop : ∀ {ds : List D} {xs : List V} (n : Nat), Reps K F ds xs → Reps K F (ds.drop n) (xs.drop n)
  | [], _, n, h => by rw [show _ = ([] : List V) from h]; simp; exact .nil
  | d :: ds, _, 0, h => h
  | d :: ds, _, n + 1, ⟨x, r, e1, e2, e3⟩ => by rw [e1]; exact Reps.drop n e3
theorem Reps.set : ∀ {ds : List D} {xs : List V} (i : Nat) {d : D} {x : V}, Reps K F ds xs → Rep K F d x → Reps K F (ds.set i d) (xs.set i x)
  | [], _, _, _, _, h, _ => by rw [show _ = ([] : List V) from h]; exact .nil
  | d :: ds, _, 0, _, _, ⟨x, r, e1, e2, e3⟩, g => by rw [e1]; exact ⟨_, r, rfl, g, e3⟩
  | d :: ds, _, n + 1, _, _, ⟨x, r, e1, e2, e3⟩, g => by rw [e1]; exact ⟨x, _, rfl, e2, Reps.set n e3 g⟩
theorem Reps.reverse : ∀ {ds : List D} {xs : List V}, Reps K F ds xs → Reps K F ds.reverse xs.reverse
  | [], _, h => by rw [show _ = ([] : List V) from h]; exact .nil
  | d :: ds, _, ⟨x, r, e1, e2, e3⟩ => by
    rw [e1, List.reverse_cons, List.reverse_cons]
    exact Reps.append (Reps.reverse e3) (.one e2)
theorem Reps.eraseIdx : ∀ {ds : List D} {xs : List V} (i : Nat), Reps K F ds xs → Reps K F (ds.eraseIdx i) (xs.eraseIdx i)
  | [], _, _, h => by rw [show _ = ([] : List V) from h]; exact .nil
  | d :: ds, _, 0, ⟨x, r, e1, e2, e3⟩ => by rw [e1]; exact e3
  | d :: ds, _, n + 1, ⟨x, r, e1, e2, e3⟩ => by rw [e1]; exact ⟨x, _, rfl, e2, Reps.eraseIdx n e3⟩
theorem Reps.dropLast {ds : List D} {xs : List V} (h : Reps K F ds xs) : Reps K F ds.dropLast xs.dropLast := by
  rw [List.dropLast_eq_take, List.dropLast_eq_take, h.length]
  exact h.take _
theorem Reps.ints : ∀ (ns : List Int), Reps K F (ns.map D.int) (ns.map V.int)
  | [] => .nil
  | n :: ns => .cons rfl (Reps.ints ns)
theorem Reps.strs : ∀ (ns : List Str), Reps K F (ns.map D.str) (ns.map V.str)
  | [] => .nil
  | n :: ns => .cons rfl (Reps.strs ns)
theorem Reps.of_ints : ∀ {ns : List Int} {xs : List V}, Reps K F (ns.map D.int) xs → xs = ns.map V.int
  | [], _, h => h
  | n :: ns, _, ⟨x, r, e1, e2, e3⟩ => by rw [e1, Reps.of_ints e3, show x = V.int n from e2]; rfl
theorem Reps.of_strs : ∀ {ns : List Str} {xs : List V}, Reps K F (ns.map D.str) xs → xs = ns.map V.str
  | [], _, h => h
  | n :: ns, _, ⟨x, r, e1, e2, e3⟩ => by rw [e1, Reps.of_strs e3, show x = V.str n from e2]; rfl
theorem Reps.of_bls : ∀ {ns : List Bool} {xs : List V}, Reps K F (ns.map D.bl) xs → xs = ns.map V.bl
  | [], _, h => h
  | n :: ns, _, ⟨x, r, e1, e2, e3⟩ => by rw [e1, Reps.of_bls e3, show x = V.bl n from e2]; rfl
theorem Reps.rep : ∀ {ds : List D} {xs : List V} (n : Nat), Reps K F ds xs → Reps K F (List.replicate n ds).flatten (List.replicate n xs).flatten
  | _, _, 0, _ => .nil
  | _, _, n + 1, h => by
    rw [List.replicate_succ, List.replicate_succ, List.flatten_cons, List.flatten_cons]
    exact h.append (Reps.rep n h)

/-- what stands at an owned place -/
def OHold (K : PySem.W.Frag) (F : Hp) : D → HO → Prop
  | .lst l, o => ∃ xs, o = .lst xs ∧ Reps K F l xs ∧ l.length ≤ sizeLine
  | .dic ks l, o => ∃ kvs, o = .dK kvs ∧ kvs.map (·.1) = ks ∧ Reps K F l (kvs.map (·.2))
  | .ins C ns l, o => ∃ dx fs, o = .ins C dx fs ∧ fs.map (·.1) = ns ∧ Reps K F l (fs.map (·.2))
  | _, _ => False
theorem OHold.mono (e : Same F F') : ∀ {d : D} {o : HO}, OHold K F d o → OHold K F' d o
  | .lst l, _, ⟨xs, e1, e2⟩ => ⟨xs, e1, Reps.mono e l e2.1, e2.2⟩
  | .dic _ l, _, ⟨xs, e1, e2, e3⟩ => ⟨xs, e1, e2, Reps.mono e l e3⟩
  | .ins _ _ l, _, ⟨dx, fs, e1, e2, e3⟩ => ⟨dx, fs, e1, e2, Reps.mono e l e3⟩
theorem OHold.rep : ∀ {d : D} {o : HO} {a : Addr}, OHold K F d o → F a = some o → Rep K F d (.ref a)
  | .lst l, _, a, ⟨xs, e1, e2⟩, h => ⟨a, xs, rfl, by rw [h, e1], e2⟩
  | .dic _ l, _, a, ⟨xs, e1, e2, e3⟩, h => ⟨a, xs, rfl, by rw [h, e1], e2, e3⟩
  | .ins _ _ l, _, a, ⟨dx, fs, e1, e2, e3⟩, h => ⟨a, dx, fs, rfl, by rw [h, e1], e2, e3⟩
end

/-! ### environments -/
/-- a slot: nothing known; data; an object that the slot alone owns; the k-th borrowed object -/
inductive SV where
  | any | p (d : D) | o (d : D) | b (k : Nat) (d : D)
/-- a result: data; a new object; the object that slot i owns -/
inductive R where
  | p (d : D) | o (d : D) | al (i : Nat)
def R.fz : R → R
  | .o d => .p d
  | r => r
def SV.owns : SV → Bool
  | .o _ => true
  | .b _ _ => true
  | _ => false
def SV.upd (d : D) : SV → SV
  | .o _ => .o d
  | .b k _ => .b k d
  | s => s
def SV.cont : SV → D
  | .p d => d
  | .o d => d
  | .b _ d => d
  | .any => .non
abbrev Env := List SV

structure Bs where
  F0 : Hp
  H0 : Hp
  M : Addr → Prop
  O : List Addr

section
variable (K : PySem.W.Frag)
def SlotOk (O : List Addr) (F H : Hp) (s : Option V) : SV → Prop
  | .any => True
  | .p d => ∃ v, s = some v ∧ Rep K F d v
  | .o d => ∃ l o, s = some (.ref l) ∧ H l = some o ∧ OHold K F d o ∧ F l = none
  | .b k d => ∃ l o, s = some (.ref l) ∧ O[k]? = some l ∧ H l = some o ∧ OHold K F d o ∧ F l = none
def OwnAt (σ : L2.St) (ρ : Env) (i : Nat) (l : Addr) : Prop := σ[i]? = some (some (.ref l)) ∧ ∃ t, ρ[i]? = some t ∧ t.owns = true
structure EnvOk (B : Bs) (F H : Hp) (σ : L2.St) (ρ : Env) : Prop where
  len : σ.length = ρ.length
  fh : Same F H
  f0 : Same B.F0 F
  ff : ∀ a o, F a = some o → B.F0 a = some o ∨ B.H0 a = none ∨ B.M a
  h0 : ∀ a o, B.H0 a = some o → ¬ B.M a → H a = some o
  sl : ∀ (i : Nat) (s : Option V) (t : SV), σ[i]? = some s → ρ[i]? = some t → SlotOk K B.O F H s t
  di : ∀ i j l, OwnAt σ ρ i l → OwnAt σ ρ j l → i = j
  ow : ∀ i l, OwnAt σ ρ i l → B.M l ∨ B.H0 l = none
def ResOk (B : Bs) (F H : Hp) (σ : L2.St) (ρ : Env) (v : V) : R → Prop
  | .p d => Rep K F d v
  | .o d => ∃ l o, v = .ref l ∧ H l = some o ∧ OHold K F d o ∧ F l = none ∧ (∀ i, ¬ OwnAt σ ρ i l) ∧ (B.M l ∨ B.H0 l = none)
  | .al i => ∃ l, v = .ref l ∧ OwnAt σ ρ i l
def Keep (σ : L2.St) (ρ ρ' : Env) : Prop := ∀ i l, OwnAt σ ρ i l → OwnAt σ ρ' i l
end

section
variable {K : PySem.W.Frag} {B : Bs} {F F' H H' : Hp} {σ : L2.St} {ρ ρ' ρ'' : Env} {i j : Nat} {l p : Addr} {o : HO} {d : D} {v : V} {t : R}
theorem Keep.refl : Keep σ ρ ρ := fun _ _ h => h
theorem Keep.trans (a : Keep σ ρ ρ') (b : Keep σ ρ' ρ'') : Keep σ ρ ρ'' := fun i l h => b i l (a i l h)
theorem EnvOk.ownH (e : EnvOk K B F H σ ρ) (h : OwnAt σ ρ i l) : ∃ o, H l = some o ∧ F l = none := by
  obtain ⟨h1, t, h2, h3⟩ := h
  have q := e.sl i _ t h1 h2
  cases t with
  | any => cases h3
  | p d => cases h3
  | o d =>
    obtain ⟨l', o, e1, e2, e3, e4⟩ := q
    cases e1
    exact ⟨o, e2, e4⟩
  | b k d =>
    obtain ⟨l', o, e1, _, e2, e3, e4⟩ := q
    cases e1
    exact ⟨o, e2, e4⟩
/-- the content of an owned slot -/
theorem EnvOk.own (e : EnvOk K B F H σ ρ) (h : OwnAt σ ρ i l) : ∃ t o, ρ[i]? = some t ∧ H l = some o ∧ OHold K F t.cont o ∧ F l = none := by
  obtain ⟨h1, t, h2, h3⟩ := h
  have q := e.sl i _ t h1 h2
  cases t with
  | any => cases h3
  | p d => cases h3
  | o d =>
    obtain ⟨l', o, e1, e2, e3, e4⟩ := q
    cases e1
    exact ⟨_, o, h2, e2, e3, e4⟩
  | b k d =>
    obtain ⟨l', o, e1, _, e2, e3, e4⟩ := q
    cases e1
    exact ⟨_, o, h2, e2, e3, e4⟩
theorem SlotOk.growF {O : List Addr} {s : Option V} (e : Same F F') : ∀ {t : SV}, SlotOk K O F H s t → (∀ l, s = some (.ref l) → t.owns = true → F' l = none) → SlotOk K O F' H s t
  | .any, _, _ => trivial
  | .p d, ⟨v, e1, e2⟩, _ => ⟨v, e1, Rep.mono e d e2⟩
  | .o d, ⟨l, o, e1, e2, e3, e4⟩, f => ⟨l, o, e1, e2, OHold.mono e e3, f l e1 rfl⟩
  | .b k d, ⟨l, o, e1, e0, e2, e3, e4⟩, f => ⟨l, o, e1, e0, e2, OHold.mono e e3, f l e1 rfl⟩
theorem SlotOk.growH {O : List Addr} {s : Option V} : ∀ {t : SV}, SlotOk K O F H s t → (∀ l o, s = some (.ref l) → t.owns = true → H l = some o → H' l = some o) → SlotOk K O F H' s t
  | .any, _, _ => trivial
  | .p d, h, _ => h
  | .o d, ⟨l, o, e1, e2, e3, e4⟩, f => ⟨l, o, e1, f l o e1 rfl e2, e3, e4⟩
  | .b k d, ⟨l, o, e1, e0, e2, e3, e4⟩, f => ⟨l, o, e1, e0, f l o e1 rfl e2, e3, e4⟩
theorem EnvOk.fnone (e : EnvOk K B F H σ ρ) (h : H p = none) : F p = none := e.fh.free h
/-- a new object, not frozen -/
theorem EnvOk.new (e : EnvOk K B F H σ ρ) (h : H p = none) : EnvOk K B F (upd H p o) σ ρ where
  len := e.len
  fh := fun a u q => by rw [upd_ne (ne_of_none (e.fh a u q) h)]; exact e.fh a u q
  f0 := e.f0
  ff := e.ff
  h0 := fun a u q m => by
    have z := e.h0 a u q m
    rw [upd_ne (ne_of_none z h)]
    exact z
  sl := fun i s t h1 h2 => (e.sl i s t h1 h2).growH fun l u _ _ z => by
    rw [upd_ne (ne_of_none z h)]
    exact z
  di := e.di
  ow := e.ow
theorem same_new (h : H p = none) : Same H (upd H p o) := fun a u q => by rw [upd_ne (ne_of_none q h)]; exact q
/-- an object that nobody owns is frozen -/
theorem EnvOk.freeze (e : EnvOk K B F H σ ρ) (h : H p = some o) (hf : F p = none) (hb : B.M p ∨ B.H0 p = none) (ho : ∀ i, ¬ OwnAt σ ρ i p) : EnvOk K B (upd F p o) H σ ρ where
  len := e.len
  fh := fun a u q => by
    by_cases z : a = p
    · subst z
      rw [upd_same] at q
      rw [h, q]
    · rw [upd_ne z] at q
      exact e.fh a u q
  f0 := e.f0.trans (same_new hf)
  ff := fun a u q => by
    by_cases z : a = p
    · subst z
      exact .inr hb.symm
    · rw [upd_ne z] at q
      exact e.ff a u q
  h0 := e.h0
  sl := fun i s t h1 h2 => (e.sl i s t h1 h2).growF (same_new hf) fun l h3 h4 => by
    have hn : OwnAt σ ρ i l := ⟨by rw [h1, h3], t, h2, h4⟩
    have z : l ≠ p := fun z => ho i (z ▸ hn)
    rw [upd_ne z]
    obtain ⟨_, _, z2⟩ := e.ownH hn
    exact z2
  di := e.di
  ow := e.ow
theorem EnvOk.noown (e : EnvOk K B F H σ ρ) (h : H p = none) : ∀ i, ¬ OwnAt σ ρ i p := fun i q => by
  obtain ⟨o, z, _⟩ := e.ownH q
  rw [h] at z
  cases z
theorem EnvOk.bnew (e : EnvOk K B F H σ ρ) (h : H p = none) : B.M p ∨ B.H0 p = none := by
  cases q : B.H0 p with
  | none => exact .inr rfl
  | some u =>
    refine .inl (Classical.byContradiction fun m => ?_)
    have z := e.h0 p u q m
    rw [h] at z
    cases z
/-- a new frozen object -/
theorem EnvOk.alloc (e : EnvOk K B F H σ ρ) (h : H p = none) : EnvOk K B (upd F p o) (upd H p o) σ ρ := by
  have e1 : EnvOk K B F (upd H p o) σ ρ := e.new h
  refine e1.freeze upd_same (e.fnone h) (e.bnew h) fun i q => ?_
  exact e.noown h i q
theorem EnvOk.freezeRes (e : EnvOk K B F H σ ρ) (h : ResOk K B F H σ ρ v t) : ∃ F', Same F F' ∧ EnvOk K B F' H σ ρ ∧ ResOk K B F' H σ ρ v t.fz := by
  cases t with
  | p d => exact ⟨F, Same.refl F, e, h⟩
  | al i => exact ⟨F, Same.refl F, e, h⟩
  | o d =>
    obtain ⟨l, o, rfl, h1, h2, h3, h4, h5⟩ := h
    refine ⟨upd F l o, same_new h3, e.freeze h1 h3 h5 h4, ?_⟩
    exact OHold.rep (h2.mono (same_new h3)) upd_same
/-- pending results stay -/
def R.pend : R → Prop
  | .o _ => False
  | _ => True
theorem fz_pend (t : R) : t.fz.pend := by cases t <;> exact trivial
theorem ResOk.stay {B : Bs} (h : ResOk K B F H σ ρ v t) (hp : t.pend) (e : Same F F') (k : Keep σ ρ ρ') : ResOk K B F' H' σ ρ' v t := by
  cases t with
  | p d => exact Rep.mono e d h
  | o d => exact hp.elim
  | al i =>
    obtain ⟨l, e1, e2⟩ := h
    exact ⟨l, e1, k i l e2⟩
/-- an owned object's content is changed -/
theorem OwnAt.set_iff {t t' : SV} (ht : ρ[i]? = some t) (ho : t.owns = true) (ho' : t'.owns = true) : OwnAt σ (ρ.set i t') j l ↔ OwnAt σ ρ j l := by
  have hi : i < ρ.length := by
    rcases Nat.lt_or_ge i ρ.length with h | h
    · exact h
    · rw [List.getElem?_eq_none h] at ht; cases ht
  constructor
  · rintro ⟨h1, u, h2, h3⟩
    by_cases z : i = j
    · subst z
      exact ⟨h1, t, ht, ho⟩
    · rw [List.getElem?_set_ne z] at h2
      exact ⟨h1, u, h2, h3⟩
  · rintro ⟨h1, u, h2, h3⟩
    by_cases z : i = j
    · subst z
      exact ⟨h1, t', by rw [List.getElem?_set_self hi], ho'⟩
    · exact ⟨h1, u, by rw [List.getElem?_set_ne z]; exact h2, h3⟩
theorem owns_upd {t : SV} (h : t.owns = true) : (t.upd d).owns = true := by cases t <;> first | rfl | cases h
theorem EnvOk.write (e : EnvOk K B F H σ ρ) {t : SV} (h : OwnAt σ ρ i l) (ht : ρ[i]? = some t) (hh : OHold K F d o) : EnvOk K B F (upd H l o) σ (ρ.set i (t.upd d)) := by
  obtain ⟨h1, t', ht', hw⟩ := h
  rw [ht] at ht'
  cases ht'
  have hi : i < ρ.length := by
    rcases Nat.lt_or_ge i ρ.length with h | h
    · exact h
    · rw [List.getElem?_eq_none h] at ht; cases ht
  have own : OwnAt σ ρ i l := ⟨h1, t, ht, hw⟩
  obtain ⟨u0, hl, fl⟩ := e.ownH own
  refine ⟨by rw [List.length_set]; exact e.len, fun a u q => ?_, e.f0, e.ff, fun a u q m => ?_, fun j s u q1 q2 => ?_, fun j k l' q1 q2 => ?_, fun j l' q => ?_⟩
  · have z : a ≠ l := fun z => by rw [z, fl] at q; cases q
    rw [upd_ne z]
    exact e.fh a u q
  · have z : a ≠ l := fun z => by
      subst z
      rcases e.ow i a own with z | z
      · exact m z
      · rw [z] at q; cases q
    rw [upd_ne z]
    exact e.h0 a u q m
  · by_cases z : i = j
    · subst z
      rw [List.getElem?_set_self hi] at q2
      cases q2
      rw [h1] at q1
      cases q1
      have z := e.sl i _ t h1 ht
      cases t with
      | any => cases hw
      | p d => cases hw
      | o d =>
        obtain ⟨l', o', e1, e2, e3, e4⟩ := z
        exact ⟨l, o, rfl, upd_same, hh, fl⟩
      | b k d =>
        obtain ⟨l', o', e1, e0, e2, e3, e4⟩ := z
        cases e1
        exact ⟨l, o, rfl, e0, upd_same, hh, fl⟩
    · rw [List.getElem?_set_ne z] at q2
      refine (e.sl j s u q1 q2).growH fun l' o' g1 g2 g3 => ?_
      have z2 : l' ≠ l := fun z2 => by
        subst z2
        exact z (e.di i j l' own ⟨by rw [q1, g1], u, q2, g2⟩)
      rw [upd_ne z2]
      exact g3
  · exact e.di j k l' ((OwnAt.set_iff ht hw (owns_upd hw)).mp q1) ((OwnAt.set_iff ht hw (owns_upd hw)).mp q2)
  · exact e.ow j l' ((OwnAt.set_iff ht hw (owns_upd hw)).mp q)
theorem keep_set {t : SV} (ht : ρ[i]? = some t) (hw : t.owns = true) : Keep σ ρ (ρ.set i (t.upd d)) := fun j l q => (OwnAt.set_iff ht hw (owns_upd hw)).mpr q
end

/-! ### judgements -/
section
variable (K : PySem.W.Frag)
def E (te : TE) (ρ : Env) (P : R → Env → Prop) : Prop := ∀ (B : Bs) (F H : Hp) (σ : L2.St), EnvOk K B F H σ ρ → ∀ Q : VK,
  (∀ v F' H' t ρ', Same F F' → EnvOk K B F' H' σ ρ' → Keep σ ρ ρ' → ResOk K B F' H' σ ρ' v t → P t ρ' → Q v H') → te σ H Q
def T (tt : TT) (ρ : Env) (P : Bool → Env → Prop) : Prop := ∀ (B : Bs) (F H : Hp) (σ : L2.St), EnvOk K B F H σ ρ → ∀ Q : Bool → Hp → Prop,
  (∀ b F' H' ρ', Same F F' → EnvOk K B F' H' σ ρ' → Keep σ ρ ρ' → P b ρ' → Q b H') → tt σ H Q
/-- results beside each other -/
def RessOk (B : Bs) (F H : Hp) (σ : L2.St) (ρ : Env) : List V → List R → Prop
  | [], [] => True
  | v :: vs, t :: ts => t.pend ∧ ResOk K B F H σ ρ v t ∧ RessOk B F H σ ρ vs ts
  | _, _ => False
def A (ta : TA) (ρ : Env) (P : List R → Env → Prop) : Prop := ∀ (B : Bs) (F H : Hp) (σ : L2.St), EnvOk K B F H σ ρ → ∀ Q : List V → Hp → Prop,
  (∀ vs F' H' ts ρ', Same F F' → EnvOk K B F' H' σ ρ' → Keep σ ρ ρ' → RessOk K B F' H' σ ρ' vs ts → P ts ρ' → Q vs H') → ta σ H Q
/-- an operation on values: what is wanted of its answer -/
def O1 (r : V → Hp → VK → Prop) (t : R) (ρ : Env) (P : R → Env → Prop) : Prop := ∀ (B : Bs) (F H : Hp) (σ : L2.St), EnvOk K B F H σ ρ → ∀ v, ResOk K B F H σ ρ v t → t.pend → ∀ Q : VK,
  (∀ v F' H' t ρ', Same F F' → EnvOk K B F' H' σ ρ' → Keep σ ρ ρ' → ResOk K B F' H' σ ρ' v t → P t ρ' → Q v H') → r v H Q
def O2 (r : R2) (t1 t2 : R) (ρ : Env) (P : R → Env → Prop) : Prop := ∀ (B : Bs) (F H : Hp) (σ : L2.St), EnvOk K B F H σ ρ → ∀ v1 v2, ResOk K B F H σ ρ v1 t1 → t1.pend → ResOk K B F H σ ρ v2 t2 → t2.pend → ∀ Q : VK,
  (∀ v F' H' t ρ', Same F F' → EnvOk K B F' H' σ ρ' → Keep σ ρ ρ' → ResOk K B F' H' σ ρ' v t → P t ρ' → Q v H') → r v1 v2 H Q
def OA (r : List V → Hp → VK → Prop) (ts : List R) (ρ : Env) (P : R → Env → Prop) : Prop := ∀ (B : Bs) (F H : Hp) (σ : L2.St), EnvOk K B F H σ ρ → ∀ vs, RessOk K B F H σ ρ vs ts → ∀ Q : VK,
  (∀ v F' H' t ρ', Same F F' → EnvOk K B F' H' σ ρ' → Keep σ ρ ρ' → ResOk K B F' H' σ ρ' v t → P t ρ' → Q v H') → r vs H Q
end

structure Po where
  nx : Env → Prop
  rt : R → Env → Prop
  bk : Env → Prop := fun _ => False
  ct : Env → Prop := fun _ => False
section
variable (K : PySem.W.Frag)
structure DOk (B : Bs) (P : Po) (D : Ends) : Prop where
  nx : ∀ σ F H ρ, EnvOk K B F H σ ρ → P.nx ρ → D.nx σ H
  rt : ∀ v σ F H t ρ, EnvOk K B F H σ ρ → ResOk K B F H σ ρ v t → P.rt t ρ → D.rt v H
  bk : ∀ σ F H ρ, EnvOk K B F H σ ρ → P.bk ρ → D.bk σ H
  ct : ∀ σ F H ρ, EnvOk K B F H σ ρ → P.ct ρ → D.ct σ H
def S (ts : TS) (ρ : Env) (P : Po) : Prop := ∀ (B : Bs) (F H : Hp) (σ : L2.St) (D : Ends), EnvOk K B F H σ ρ → DOk K B P D → ts D σ H
def G (g : TG) (t : R) (ρ : Env) (P : Env → Prop) : Prop := ∀ (B : Bs) (F H : Hp) (σ : L2.St), EnvOk K B F H σ ρ → ∀ v, ResOk K B F H σ ρ v t → ∀ Q : L2.St → Hp → Prop,
  (∀ σ' F' H' ρ', Same F F' → EnvOk K B F' H' σ' ρ' → P ρ' → Q σ' H') → g v σ H Q
end
end VL
/-! VL2: rules for names, constants, operators, tests, arguments, statements -/
namespace VL
open PySem PySem.Spec PyProof.Rows L2
section
variable {K : PySem.W.Frag} {B : Bs} {F F' H H' : Hp} {σ : L2.St} {ρ ρ' : Env} {i j : Nat} {d : D} {v : V} {ta tb tc te : TE} {tt tu : TT} {r r' : R2} {P P' : R → Env → Prop} {PT : Bool → Env → Prop}

theorem EnvOk.slot {t : SV} (e : EnvOk K B F H σ ρ) (h : ρ[i]? = some t) : ∃ s, σ[i]? = some s ∧ SlotOk K B.O F H s t := by
  have hi : i < ρ.length := by
    rcases Nat.lt_or_ge i ρ.length with z | z
    · exact z
    · rw [List.getElem?_eq_none z] at h; cases h
  have hs : σ[i]? = some (σ[i]'(by rw [e.len]; exact hi)) := List.getElem?_eq_getElem _
  exact ⟨_, hs, e.sl i _ t hs h⟩
theorem EnvOk.ownOf {t : SV} (e : EnvOk K B F H σ ρ) (h : ρ[i]? = some t) (ho : t.owns = true) : ∃ l, OwnAt σ ρ i l := by
  obtain ⟨s, h1, h2⟩ := e.slot h
  cases t with
  | any => cases ho
  | p d => cases ho
  | o d =>
    obtain ⟨l, o, e1, _⟩ := h2
    exact ⟨l, by rw [h1, e1], _, h, rfl⟩
  | b k d =>
    obtain ⟨l, o, e1, _⟩ := h2
    exact ⟨l, by rw [h1, e1], _, h, rfl⟩
theorem EnvOk.resH (e : EnvOk K B F H σ ρ) (h : Rep K F d v) : Rep K H d v := Rep.mono e.fh d h

/-! ### expressions -/
theorem E.mono (h : E K te ρ P) (f : ∀ t ρ', P t ρ' → P' t ρ') : E K te ρ P' := fun B F H σ e Q k =>
  h B F H σ e Q fun v F' H' t ρ' a b c x y => k v F' H' t ρ' a b c x (f t ρ' y)
theorem T.mono {P' : Bool → Env → Prop} (h : T K tt ρ PT) (f : ∀ t ρ', PT t ρ' → P' t ρ') : T K tt ρ P' := fun B F H σ e Q k =>
  h B F H σ e Q fun b F' H' ρ' a c x y => k b F' H' ρ' a c x (f b ρ' y)
theorem e_var (h : ρ[i]? = some (.p d)) (q : P (.p d) ρ) : E K (tVar i) ρ P := fun B F H σ e Q k => by
  obtain ⟨s, h1, v, h2, h3⟩ := e.slot h
  exact ⟨v, by rw [h1, h2], k v F H (.p d) ρ (Same.refl F) e Keep.refl h3 q⟩
theorem e_al {t : SV} (h : ρ[i]? = some t) (ho : t.owns = true) (q : P (.al i) ρ) : E K (tVar i) ρ P := fun B F H σ e Q k => by
  obtain ⟨l, g⟩ := e.ownOf h ho
  exact ⟨.ref l, g.1, k _ F H (.al i) ρ (Same.refl F) e Keep.refl ⟨l, rfl, g⟩ q⟩
theorem e_ct (h : ∀ F, Rep K F d v) (q : P (.p d) ρ) : E K (tC v) ρ P := fun B F H σ e Q k =>
  k v F H (.p d) ρ (Same.refl F) e Keep.refl (h F) q
theorem e_int {n : Int} (q : P (.p (.int n)) ρ) : E K (tC (.int n)) ρ P := e_ct (d := .int n) (fun _ => rfl) q
theorem e_bl {b : Bool} (q : P (.p (.bl b)) ρ) : E K (tC (.bl b)) ρ P := e_ct (d := .bl b) (fun _ => rfl) q
theorem e_str {s : Str} (q : P (.p (.str s)) ρ) : E K (tC (.str s)) ρ P := e_ct (d := .str s) (fun _ => rfl) q
theorem e_non (q : P (.p .non) ρ) : E K (tC .non) ρ P := e_ct (d := .non) (fun _ => rfl) q
/-- results are frozen where they are used -/
theorem E.frozen (h : E K te ρ fun t ρ' => P t.fz ρ') {B : Bs} {F H : Hp} {σ : L2.St} (e : EnvOk K B F H σ ρ) {Q : VK}
    (k : ∀ v F' H' t ρ', Same F F' → EnvOk K B F' H' σ ρ' → Keep σ ρ ρ' → t.pend → ResOk K B F' H' σ ρ' v t → P t ρ' → Q v H') : te σ H Q :=
  h B F H σ e Q fun v F1 H1 t ρ1 a b c x y => by
    obtain ⟨F2, a2, b2, x2⟩ := b.freezeRes x
    exact k v F2 H1 t.fz ρ1 (a.trans a2) b2 c (fz_pend t) x2 y
theorem e_op (h : E K ta ρ fun t1 ρ1 => E K tb ρ1 fun t2 ρ2 => O2 K r t1.fz t2.fz ρ2 P) : E K (tOp r ta tb) ρ P := fun B F H σ e Q k =>
  E.frozen (P := fun t1 ρ1 => E K tb ρ1 fun t2 ρ2 => O2 K r t1 t2.fz ρ2 P) h e fun v1 F1 H1 t1 ρ1 a1 e1 c1 p1 x1 y1 =>
    E.frozen (P := fun t2 ρ2 => O2 K r t1 t2 ρ2 P) y1 e1 fun v2 F2 H2 t2 ρ2 a2 e2 c2 p2 x2 y2 =>
      y2 B F2 H2 σ e2 v1 v2 (x1.stay p1 a2 c2) p1 x2 p2 Q fun v F' H' t ρ' a b c => k v F' H' t ρ' ((a1.trans a2).trans a) b ((c1.trans c2).trans c)
theorem e_un {q : V → Hp → VK → Prop} (h : E K ta ρ fun t1 ρ1 => O1 K q t1.fz ρ1 P) : E K (tUn q ta) ρ P := fun B F H σ e Q k =>
  E.frozen (P := fun t1 ρ1 => O1 K q t1 ρ1 P) h e fun v1 F1 H1 t1 ρ1 a1 e1 c1 p1 x1 y1 =>
    y1 B F1 H1 σ e1 v1 x1 p1 Q fun v F' H' t ρ' a b c => k v F' H' t ρ' (a1.trans a) b (c1.trans c)

/-! ### tests -/
theorem t_B (h : E K te ρ fun t ρ1 => ∃ b, t = .p (.bl b) ∧ PT b ρ1) : T K (tB te) ρ PT := fun B F H σ e Q k =>
  h B F H σ e _ fun v F' H' t ρ' a b c x ⟨q, y, z⟩ => by
    subst y
    exact ⟨q, x, k q F' H' ρ' a b c z⟩
theorem t_test (h : E K te ρ fun t ρ1 => ∃ b, t = .p (.bl b) ∧ PT b ρ1) : T K (tTest te) ρ PT := t_B h
theorem t_and (h : T K tt ρ fun b ρ1 => if b = true then T K tu ρ1 PT else PT false ρ1) : T K (tAnd tt tu) ρ PT := fun B F H σ e Q k =>
  h B F H σ e _ fun b F1 H1 ρ1 a1 e1 c1 y => by
    cases b with
    | true =>
      rw [if_pos rfl] at y ⊢
      exact y B F1 H1 σ e1 Q fun b F' H' ρ' a e c => k b F' H' ρ' (a1.trans a) e (c1.trans c)
    | false =>
      rw [if_neg Bool.false_ne_true] at y ⊢
      exact k false F1 H1 ρ1 a1 e1 c1 y
theorem t_or (h : T K tt ρ fun b ρ1 => if b = true then PT true ρ1 else T K tu ρ1 PT) : T K (tOr tt tu) ρ PT := fun B F H σ e Q k =>
  h B F H σ e _ fun b F1 H1 ρ1 a1 e1 c1 y => by
    cases b with
    | true =>
      rw [if_pos rfl] at y ⊢
      exact k true F1 H1 ρ1 a1 e1 c1 y
    | false =>
      rw [if_neg Bool.false_ne_true] at y ⊢
      exact y B F1 H1 σ e1 Q fun b F' H' ρ' a e c => k b F' H' ρ' (a1.trans a) e (c1.trans c)
theorem t_not (h : T K tt ρ fun b ρ1 => PT (!b) ρ1) : T K (tNot tt) ρ PT := fun B F H σ e Q k =>
  h B F H σ e _ fun b F1 H1 ρ1 a1 e1 c1 y => k (!b) F1 H1 ρ1 a1 e1 c1 y
theorem t_yes (h : PT true ρ) : T K tYes ρ PT := fun B F H σ e Q k => k true F H ρ (Same.refl F) e Keep.refl h
theorem e_andV (h : E K ta ρ fun t ρ1 => ∃ b, t = .p (.bl b) ∧ if b = true then E K tb ρ1 P else P (.p (.bl false)) ρ1) : E K (tAndV ta tb) ρ P := fun B F H σ e Q k =>
  h B F H σ e _ fun v F1 H1 t ρ1 a1 e1 c1 x ⟨b, y, z⟩ => by
    subst y
    refine ⟨b, x, ?_⟩
    cases b with
    | true =>
      rw [if_pos rfl] at z ⊢
      exact z B F1 H1 σ e1 Q fun v F' H' t ρ' a e c => k v F' H' t ρ' (a1.trans a) e (c1.trans c)
    | false =>
      rw [if_neg Bool.false_ne_true] at z ⊢
      exact k _ F1 H1 (.p (.bl false)) ρ1 a1 e1 c1 rfl z
theorem e_orV (h : E K ta ρ fun t ρ1 => ∃ b, t = .p (.bl b) ∧ if b = true then P (.p (.bl true)) ρ1 else E K tb ρ1 P) : E K (tOrV ta tb) ρ P := fun B F H σ e Q k =>
  h B F H σ e _ fun v F1 H1 t ρ1 a1 e1 c1 x ⟨b, y, z⟩ => by
    subst y
    refine ⟨b, x, ?_⟩
    cases b with
    | true =>
      rw [if_pos rfl] at z ⊢
      exact k _ F1 H1 (.p (.bl true)) ρ1 a1 e1 c1 rfl z
    | false =>
      rw [if_neg Bool.false_ne_true] at z ⊢
      exact z B F1 H1 σ e1 Q fun v F' H' t ρ' a e c => k v F' H' t ρ' (a1.trans a) e (c1.trans c)
theorem e_notV (h : E K ta ρ fun t ρ1 => ∃ b, t = .p (.bl b) ∧ P (.p (.bl (!b))) ρ1) : E K (tNotV ta) ρ P := fun B F H σ e Q k =>
  h B F H σ e _ fun v F1 H1 t ρ1 a1 e1 c1 x ⟨b, y, z⟩ => by
    subst y
    exact ⟨b, x, k _ F1 H1 (.p (.bl (!b))) ρ1 a1 e1 c1 rfl z⟩
theorem e_if (h : T K tt ρ fun b ρ1 => if b = true then E K ta ρ1 P else E K tb ρ1 P) : E K (tIf tt ta tb) ρ P := fun B F H σ e Q k =>
  h B F H σ e _ fun b F1 H1 ρ1 a1 e1 c1 y => by
    cases b with
    | true =>
      rw [if_pos rfl] at y ⊢
      exact y B F1 H1 σ e1 Q fun v F' H' t ρ' a e c => k v F' H' t ρ' (a1.trans a) e (c1.trans c)
    | false =>
      rw [if_neg Bool.false_ne_true] at y ⊢
      exact y B F1 H1 σ e1 Q fun v F' H' t ρ' a e c => k v F' H' t ρ' (a1.trans a) e (c1.trans c)
theorem e_chain (h : E K ta ρ fun t1 ρ1 => E K tb ρ1 fun t2 ρ2 => O2 K r t1.fz t2.fz ρ2 fun t ρ3 => ∃ b, t = .p (.bl b) ∧
      if b = true then E K tc ρ3 fun t3 ρ4 => O2 K r' t2.fz t3.fz ρ4 P else P (.p (.bl false)) ρ3) : E K (tChain r r' ta tb tc) ρ P := fun B F H σ e Q k =>
  E.frozen (P := fun t1 ρ1 => E K tb ρ1 fun t2 ρ2 => O2 K r t1 t2.fz ρ2 fun t ρ3 => ∃ b, t = .p (.bl b) ∧
      if b = true then E K tc ρ3 fun t3 ρ4 => O2 K r' t2.fz t3.fz ρ4 P else P (.p (.bl false)) ρ3) h e fun v1 F1 H1 t1 ρ1 a1 e1 c1 p1 x1 y1 =>
    E.frozen (P := fun t2 ρ2 => O2 K r t1 t2 ρ2 fun t ρ3 => ∃ b, t = .p (.bl b) ∧
      if b = true then E K tc ρ3 fun t3 ρ4 => O2 K r' t2 t3.fz ρ4 P else P (.p (.bl false)) ρ3) y1 e1 fun v2 F2 H2 t2 ρ2 a2 e2 c2 p2 x2 y2 =>
      y2 B F2 H2 σ e2 v1 v2 (x1.stay p1 a2 c2) p1 x2 p2 _ fun v F3 H3 t ρ3 a3 e3 c3 x3 ⟨b, y3, z3⟩ => by
        subst y3
        refine ⟨b, x3, ?_⟩
        cases b with
        | true =>
          rw [if_pos rfl] at z3 ⊢
          exact E.frozen (P := fun t3 ρ4 => O2 K r' t2 t3 ρ4 P) z3 e3 fun v4 F4 H4 t4 ρ4 a4 e4 c4 p4 x4 y4 =>
            y4 B F4 H4 σ e4 v2 v4 (x2.stay p2 (a3.trans a4) (c3.trans c4)) p2 x4 p4 Q fun v F' H' t ρ' a b c => k v F' H' t ρ' ((((a1.trans a2).trans a3).trans a4).trans a) b ((((c1.trans c2).trans c3).trans c4).trans c)
        | false =>
          rw [if_neg Bool.false_ne_true] at z3 ⊢
          exact k _ F3 H3 (.p (.bl false)) ρ3 ((a1.trans a2).trans a3) e3 ((c1.trans c2).trans c3) rfl z3

/-! ### arguments -/
theorem RessOk.stay : ∀ {vs : List V} {ts : List R}, RessOk K B F H σ ρ vs ts → Same F F' → Keep σ ρ ρ' → RessOk K B F' H' σ ρ' vs ts
  | [], [], _, _, _ => trivial
  | v :: vs, t :: ts, ⟨p, x, y⟩, a, c => ⟨p, x.stay p a c, RessOk.stay y a c⟩
  | [], _ :: _, h, _, _ => h.elim
  | _ :: _, [], h, _, _ => h.elim
theorem RessOk.reps : ∀ {vs : List V} {ds : List D}, RessOk K B F H σ ρ vs (ds.map R.p) → Reps K F ds vs
  | [], [], _ => .nil
  | v :: vs, d :: ds, ⟨p, x, y⟩ => .cons x (RessOk.reps y)
  | [], _ :: _, h => h.elim
  | _ :: _, [], h => h.elim
variable {t1 tr : TA} {PA : List R → Env → Prop}
theorem a_nil (q : PA [] ρ) : A K tNil ρ PA := fun B F H σ e Q k => k [] F H [] ρ (Same.refl F) e Keep.refl trivial q
theorem a_cons (h : E K ta ρ fun t ρ1 => A K tr ρ1 fun ts ρ2 => PA (t.fz :: ts) ρ2) : A K (tCons ta tr) ρ PA := fun B F H σ e Q k =>
  E.frozen (P := fun t ρ1 => A K tr ρ1 fun ts ρ2 => PA (t :: ts) ρ2) h e fun v F1 H1 t ρ1 a1 e1 c1 p1 x1 y1 =>
    y1 B F1 H1 σ e1 _ fun vs F2 H2 ts ρ2 a2 e2 c2 x2 y2 => k (v :: vs) F2 H2 (t :: ts) ρ2 (a1.trans a2) e2 (c1.trans c2) ⟨p1, x1.stay p1 a2 c2, x2⟩ y2
theorem e_tup (h : A K t1 ρ fun ts ρ1 => ∃ ds, ts = ds.map R.p ∧ ds.length ≤ sizeLine ∧ P (.p (.tup ds)) ρ1) : E K (tTup t1) ρ P := fun B F H σ e Q k =>
  h B F H σ e _ fun vs F1 H1 ts ρ1 a1 e1 c1 x1 ⟨ds, y, z, q⟩ => by
    subst y
    have hr := x1.reps
    refine ⟨by rw [hr.length]; exact z, fun p hp => ?_⟩
    have hs : Same F1 (upd F1 p (.tup vs)) := same_new (e1.fnone hp)
    exact k _ _ _ (.p (.tup ds)) ρ1 (a1.trans hs) (e1.alloc hp) c1 ⟨p, vs, rfl, SqT.of upd_same, Reps.mono hs ds hr, z⟩ q
theorem e_lst (h : A K t1 ρ fun ts ρ1 => ∃ ds, ts = ds.map R.p ∧ ds.length ≤ sizeLine ∧ P (.o (.lst ds)) ρ1) : E K (tLst t1) ρ P := fun B F H σ e Q k =>
  h B F H σ e _ fun vs F1 H1 ts ρ1 a1 e1 c1 x1 ⟨ds, y, z, q⟩ => by
    subst y
    have hr := x1.reps
    refine ⟨by rw [hr.length]; exact z, fun p hp => ?_⟩
    exact k _ _ _ (.o (.lst ds)) ρ1 a1 (e1.new hp) c1 ⟨p, _, rfl, upd_same, ⟨vs, rfl, hr, z⟩, e1.fnone hp, e1.noown hp, e1.bnew hp⟩ q
theorem e_cb {q : List V → Hp → VK → Prop} (h : A K t1 ρ fun ts ρ1 => OA K q ts ρ1 P) : E K (tCB q t1) ρ P := fun B F H σ e Q k =>
  h B F H σ e _ fun vs F1 H1 ts ρ1 a1 e1 c1 x1 y1 => y1 B F1 H1 σ e1 vs x1 Q fun v F' H' t ρ' a b c => k v F' H' t ρ' (a1.trans a) b (c1.trans c)

/-! ### evaluated while all objects stand still -/
def SV.fz : SV → SV
  | .o d => .p d
  | .b _ d => .p d
  | s => s
def D.flat : D → Bool
  | .non | .bl _ | .int _ | .str _ => true
  | _ => false
open Classical in
/-- the heap in which all that a slot owns is frozen -/
noncomputable def fzF (σ : L2.St) (ρ : Env) (F H : Hp) : Hp := fun a => if ∃ i, OwnAt σ ρ i a then H a else F a
open Classical in
noncomputable def unF (σ : L2.St) (ρ : Env) (F : Hp) : Hp := fun a => if ∃ i, OwnAt σ ρ i a then none else F a
theorem fzF_own (h : OwnAt σ ρ i j) : fzF σ ρ F H j = H j := by unfold fzF; rw [if_pos ⟨i, h⟩]
theorem fzF_not {a : Addr} (h : ¬ ∃ i, OwnAt σ ρ i a) : fzF σ ρ F H a = F a := by unfold fzF; rw [if_neg h]
theorem unF_own (h : OwnAt σ ρ i j) : unF σ ρ F j = none := by unfold unF; rw [if_pos ⟨i, h⟩]
theorem unF_not {a : Addr} (h : ¬ ∃ i, OwnAt σ ρ i a) : unF σ ρ F a = F a := by unfold unF; rw [if_neg h]
theorem EnvOk.notOwn (e : EnvOk K B F H σ ρ) {a : Addr} {o : HO} (h : F a = some o) : ¬ ∃ i, OwnAt σ ρ i a := fun ⟨i, q⟩ => by
  obtain ⟨_, _, z⟩ := e.ownH q
  rw [h] at z
  cases z
theorem EnvOk.sameFz (e : EnvOk K B F H σ ρ) : Same F (fzF σ ρ F H) := fun a o h => by rw [fzF_not (e.notOwn h)]; exact h
theorem map_fz_own {l : Addr} : ¬ OwnAt σ (ρ.map SV.fz) i l := fun ⟨_, t, h2, h3⟩ => by
  rw [List.getElem?_map] at h2
  cases q : ρ[i]? with
  | none => rw [q] at h2; cases h2
  | some u =>
    rw [q] at h2
    cases h2
    cases u <;> cases h3
theorem EnvOk.allFz (e : EnvOk K B F H σ ρ) : EnvOk K B (fzF σ ρ F H) H σ (ρ.map SV.fz) where
  len := by rw [List.length_map]; exact e.len
  fh := fun a o h => by
    by_cases q : ∃ i, OwnAt σ ρ i a
    · obtain ⟨i, q⟩ := q
      rw [fzF_own q] at h
      exact h
    · rw [fzF_not q] at h
      exact e.fh a o h
  f0 := e.f0.trans e.sameFz
  ff := fun a o h => by
    by_cases q : ∃ i, OwnAt σ ρ i a
    · obtain ⟨i, q⟩ := q
      exact .inr (e.ow i a q).symm
    · rw [fzF_not q] at h
      exact e.ff a o h
  h0 := e.h0
  sl := fun i s t h1 h2 => by
    rw [List.getElem?_map] at h2
    cases q : ρ[i]? with
    | none => rw [q] at h2; cases h2
    | some u =>
      rw [q] at h2
      cases h2
      have z := e.sl i s u h1 q
      cases u with
      | any => trivial
      | p d =>
        obtain ⟨v, z1, z2⟩ := z
        exact ⟨v, z1, Rep.mono e.sameFz d z2⟩
      | o d =>
        obtain ⟨l, o, z1, z2, z3, z4⟩ := z
        have hw : OwnAt σ ρ i l := ⟨by rw [h1, z1], _, q, rfl⟩
        exact ⟨_, z1, OHold.rep (z3.mono e.sameFz) (by rw [fzF_own hw]; exact z2)⟩
      | b k d =>
        obtain ⟨l, o, z1, _, z2, z3, z4⟩ := z
        have hw : OwnAt σ ρ i l := ⟨by rw [h1, z1], _, q, rfl⟩
        exact ⟨_, z1, OHold.rep (z3.mono e.sameFz) (by rw [fzF_own hw]; exact z2)⟩
  di := fun i j l q _ => (map_fz_own q).elim
  ow := fun i l q => (map_fz_own q).elim
theorem EnvOk.thaw {ρ1 : Env} (e : EnvOk K B F H σ ρ) (e1 : EnvOk K B F' H' σ ρ1) (a : Same (fzF σ ρ F H) F') : Same F (unF σ ρ F') ∧ EnvOk K B (unF σ ρ F') H' σ ρ := by
  have hs : Same F (unF σ ρ F') := fun b o h => by
    rw [unF_not (e.notOwn h)]
    exact a b o (e.sameFz b o h)
  refine ⟨hs, e.len, fun b o h => ?_, e.f0.trans hs, fun b o h => ?_, e1.h0, fun i s t h1 h2 => ?_, e.di, e.ow⟩
  · by_cases q : ∃ i, OwnAt σ ρ i b
    · obtain ⟨i, q⟩ := q
      rw [unF_own q] at h
      cases h
    · rw [unF_not q] at h
      exact e1.fh b o h
  · by_cases q : ∃ i, OwnAt σ ρ i b
    · obtain ⟨i, q⟩ := q
      rw [unF_own q] at h
      cases h
    · rw [unF_not q] at h
      exact e1.ff b o h
  · refine SlotOk.growH (H := H) ((e.sl i s t h1 h2).growF hs fun l q1 q2 => ?_) fun l o q1 q2 q3 => ?_
    · exact unF_own (i := i) ⟨by rw [h1, q1], t, h2, q2⟩
    · have hw : OwnAt σ ρ i l := ⟨by rw [h1, q1], t, h2, q2⟩
      exact e1.fh l o (a l o (by rw [fzF_own hw]; exact q3))
theorem e_ro (h : E K te (ρ.map SV.fz) fun t _ => ∃ d, t = .p d ∧ d.flat = true ∧ P (.p d) ρ) : E K te ρ P := fun B F H σ e Q k =>
  h B _ H σ e.allFz Q fun v F1 H1 t ρ1 a1 e1 c1 x1 ⟨d, y, z, q⟩ => by
    subst y
    obtain ⟨s2, e2⟩ := e.thaw e1 a1
    refine k v _ H1 (.p d) ρ s2 e2 Keep.refl ?_ q
    cases d <;> first | exact x1 | cases z
theorem t_ro (h : T K tt (ρ.map SV.fz) fun b _ => PT b ρ) : T K tt ρ PT := fun B F H σ e Q k =>
  h B _ H σ e.allFz Q fun b F1 H1 ρ1 a1 e1 c1 q => by
    obtain ⟨s2, e2⟩ := e.thaw e1 a1
    exact k b _ H1 ρ s2 e2 Keep.refl q
end

/-! ### statements -/
section
variable {K : PySem.W.Frag} {ρ ρ' : Env} {i j : Nat} {d : D} {ta tb te : TE} {tt : TT} {ts tu : TS} {g : TG} {P : Po}
theorem DOk.nxOf {B : Bs} {D : Ends} {q : Env → Prop} {q' : L2.St → Hp → Prop} (h : DOk K B P D) (f : ∀ σ F H ρ, EnvOk K B F H σ ρ → q ρ → q' σ H) : DOk K B { P with nx := q } { D with nx := q' } := ⟨f, h.rt, h.bk, h.ct⟩
theorem s_seq (h : S K ts ρ { P with nx := fun ρ1 => S K tu ρ1 P }) : S K (tSeq ts tu) ρ P := fun B F H σ D e k =>
  h B F H σ { D with nx := tu D } e (k.nxOf fun σ' F' H' ρ' e' q => q B F' H' σ' D e' k)
theorem s_next (h : P.nx ρ) : S K tNext ρ P := fun B F H σ D e k => k.nx σ F H ρ e h
theorem s_brk (h : P.bk ρ) : S K tBreak ρ P := fun B F H σ D e k => k.bk σ F H ρ e h
theorem s_cont (h : P.ct ρ) : S K tCont ρ P := fun B F H σ D e k => k.ct σ F H ρ e h
theorem s_asg (h : E K te ρ fun t ρ1 => G K g t ρ1 P.nx) : S K (tAsg te g) ρ P := fun B F H σ D e k =>
  h B F H σ e _ fun v F1 H1 t ρ1 a1 e1 c1 x1 y1 => y1 B F1 H1 σ e1 v x1 _ fun σ' F' H' ρ' _ e' q => k.nx σ' F' H' ρ' e' q
theorem s_drop (h : E K te ρ fun t ρ1 => P.nx ρ1) : S K (tDrop te) ρ P := fun B F H σ D e k =>
  h B F H σ e _ fun v F1 H1 t ρ1 a1 e1 c1 x1 y1 => k.nx σ F1 H1 ρ1 e1 y1
theorem s_ret (h : E K te ρ fun t ρ1 => P.rt t ρ1) : S K (tRet te) ρ P := fun B F H σ D e k =>
  h B F H σ e _ fun v F1 H1 t ρ1 a1 e1 c1 x1 y1 => k.rt v σ F1 H1 t ρ1 e1 x1 y1
theorem s_retN (h : P.rt (.p .non) ρ) : S K tRetN ρ P := fun B F H σ D e k => k.rt .non σ F H (.p .non) ρ e rfl h
theorem s_if (h : T K tt ρ fun b ρ1 => if b = true then S K ts ρ1 P else S K tu ρ1 P) : S K (tIfS tt ts tu) ρ P := fun B F H σ D e k =>
  h B F H σ e _ fun b F1 H1 ρ1 a1 e1 c1 y => by
    cases b with
    | true =>
      rw [if_pos rfl] at y ⊢
      exact y B F1 H1 σ D e1 k
    | false =>
      rw [if_neg Bool.false_ne_true] at y ⊢
      exact y B F1 H1 σ D e1 k
theorem S.mono {P' : Po} (h : S K ts ρ P) (f1 : ∀ ρ, P.nx ρ → P'.nx ρ) (f2 : ∀ t ρ, P.rt t ρ → P'.rt t ρ) (f3 : ∀ ρ, P.bk ρ → P'.bk ρ) (f4 : ∀ ρ, P.ct ρ → P'.ct ρ) : S K ts ρ P' := fun B F H σ D e k =>
  h B F H σ D e ⟨fun σ' F' H' ρ' e' q => k.nx σ' F' H' ρ' e' (f1 _ q), fun v σ' F' H' t ρ' e' x q => k.rt v σ' F' H' t ρ' e' x (f2 _ _ q), fun σ' F' H' ρ' e' q => k.bk σ' F' H' ρ' e' (f3 _ q), fun σ' F' H' ρ' e' q => k.ct σ' F' H' ρ' e' (f4 _ q)⟩

/-! ### stores into slots -/
theorem set_st {ρ : Env} {t : SV} {k : Nat} : (ρ.set i t)[k]? = if i = k then (if k < ρ.length then some t else none) else ρ[k]? := by
  by_cases h : i = k
  · subst h
    rw [if_pos rfl]
    by_cases hl : i < ρ.length
    · rw [if_pos hl, List.getElem?_set_self hl]
    · rw [if_neg hl, List.getElem?_eq_none (by rw [List.length_set]; omega)]
  · rw [if_neg h, List.getElem?_set_ne h]
/-- slot i gets a value that nobody owns -/
theorem EnvOk.setP {B : Bs} {F H : Hp} {σ : L2.St} {v : V} {t : SV} (e : EnvOk K B F H σ ρ) (ht : t.owns = false) (h : SlotOk K B.O F H (some v) t) : EnvOk K B F H (σ.set i (some v)) (ρ.set i t) := by
  have own : ∀ j l, OwnAt (σ.set i (some v)) (ρ.set i t) j l → i ≠ j ∧ OwnAt σ ρ j l := fun j l ⟨h1, u, h2, h3⟩ => by
    by_cases z : i = j
    · subst z
      exfalso
      rw [set_st, if_pos rfl] at h2
      by_cases hl : i < ρ.length
      · rw [if_pos hl] at h2
        cases h2
        rw [ht] at h3
        cases h3
      · rw [if_neg hl] at h2
        cases h2
    · rw [List.getElem?_set_ne z] at h1 h2
      exact ⟨z, h1, u, h2, h3⟩
  refine ⟨by rw [List.length_set, List.length_set]; exact e.len, e.fh, e.f0, e.ff, e.h0, fun j s u h1 h2 => ?_, fun j k l h1 h2 => e.di j k l (own j l h1).2 (own k l h2).2, fun j l q => e.ow j l (own j l q).2⟩
  by_cases z : i = j
  · subst z
    have hl : i < σ.length := by
      rcases Nat.lt_or_ge i σ.length with z | z
      · exact z
      · rw [List.getElem?_eq_none (by rw [List.length_set]; exact z)] at h1; cases h1
    rw [List.getElem?_set_self hl] at h1
    rw [List.getElem?_set_self (by rw [← e.len]; exact hl)] at h2
    cases h1
    cases h2
    exact h
  · rw [List.getElem?_set_ne z] at h1 h2
    exact e.sl j s u h1 h2
theorem EnvOk.setO {B : Bs} {F H : Hp} {σ : L2.St} {l : Addr} {o : HO} (e : EnvOk K B F H σ ρ) (hl : H l = some o) (hh : OHold K F d o) (hf : F l = none) (hn : ∀ i, ¬ OwnAt σ ρ i l) (hb : B.M l ∨ B.H0 l = none) :
    EnvOk K B F H (σ.set i (some (.ref l))) (ρ.set i (.o d)) := by
  have own : ∀ j l', OwnAt (σ.set i (some (.ref l))) (ρ.set i (.o d)) j l' → (i = j ∧ l' = l) ∨ (i ≠ j ∧ OwnAt σ ρ j l') := fun j l' ⟨h1, u, h2, h3⟩ => by
    by_cases z : i = j
    · subst z
      have hs : i < σ.length := by
        rcases Nat.lt_or_ge i σ.length with z | z
        · exact z
        · rw [List.getElem?_eq_none (by rw [List.length_set]; exact z)] at h1; cases h1
      rw [List.getElem?_set_self hs] at h1
      cases h1
      exact .inl ⟨rfl, rfl⟩
    · rw [List.getElem?_set_ne z] at h1 h2
      exact .inr ⟨z, h1, u, h2, h3⟩
  refine ⟨by rw [List.length_set, List.length_set]; exact e.len, e.fh, e.f0, e.ff, e.h0, fun j s u h1 h2 => ?_, fun j k l' h1 h2 => ?_, fun j l' q => ?_⟩
  · by_cases z : i = j
    · subst z
      have hs : i < σ.length := by
        rcases Nat.lt_or_ge i σ.length with z | z
        · exact z
        · rw [List.getElem?_eq_none (by rw [List.length_set]; exact z)] at h1; cases h1
      rw [List.getElem?_set_self hs] at h1
      rw [List.getElem?_set_self (by rw [← e.len]; exact hs)] at h2
      cases h1
      cases h2
      exact ⟨l, o, rfl, hl, hh, hf⟩
    · rw [List.getElem?_set_ne z] at h1 h2
      exact e.sl j s u h1 h2
  · rcases own j l' h1 with ⟨rfl, rfl⟩ | ⟨z1, q1⟩
    · rcases own k l' h2 with ⟨rfl, _⟩ | ⟨z2, q2⟩
      · rfl
      · exact (hn k q2).elim
    · rcases own k l' h2 with ⟨rfl, rfl⟩ | ⟨z2, q2⟩
      · exact (hn j q1).elim
      · exact e.di j k l' q1 q2
  · rcases own j l' q with ⟨_, rfl⟩ | ⟨z, q⟩
    · exact hb
    · exact e.ow j l' q
variable {PG : Env → Prop}
theorem g_name (q : PG (ρ.set i (.p d))) : G K (gName i) (.p d) ρ PG := fun B F H σ e v x Q k =>
  k _ F H _ (Same.refl F) (e.setP (t := .p d) rfl ⟨v, rfl, x⟩) q
theorem g_nameO (q : PG (ρ.set i (.o d))) : G K (gName i) (.o d) ρ PG := fun B F H σ e v x Q k => by
  obtain ⟨l, o, rfl, h1, h2, h3, h4, h5⟩ := x
  exact k _ F H _ (Same.refl F) (e.setO h1 h2 h3 h4 h5) q
/-- what a slot owns may be taken as data -/
theorem EnvOk.fzSlot {B : Bs} {F H : Hp} {σ : L2.St} (e : EnvOk K B F H σ ρ) (h : ρ[i]? = some (.o d)) : ∃ F', Same F F' ∧ EnvOk K B F' H σ (ρ.set i (.p d)) := by
  obtain ⟨s, h1, l, o, rfl, h2, h3, h4⟩ := e.slot h
  have own : OwnAt σ ρ i l := ⟨h1, _, h, rfl⟩
  have hi : i < σ.length := by
    rcases Nat.lt_or_ge i σ.length with z | z
    · exact z
    · rw [List.getElem?_eq_none z] at h1; cases h1
  have e1 : EnvOk K B F H (σ.set i (some .non)) (ρ.set i (.p .non)) := e.setP rfl ⟨.non, rfl, rfl⟩
  have e2 := e1.freeze (p := l) (o := o) h2 h4 (e.ow i l own) fun j ⟨q1, u, q2, q3⟩ => by
    by_cases z : i = j
    · subst z
      rw [List.getElem?_set_self hi] at q1
      cases q1
    · rw [List.getElem?_set_ne z] at q1 q2
      exact z (e.di i j l own ⟨q1, u, q2, q3⟩)
  have e3 := e2.setP (i := i) (v := .ref l) (t := .p d) rfl ⟨_, rfl, OHold.rep (h3.mono (same_new h4)) upd_same⟩
  refine ⟨upd F l o, same_new h4, ?_⟩
  have q1 : (σ.set i (some .non)).set i (some (.ref l)) = σ := by
    rw [List.set_set]
    apply List.ext_getElem?
    intro k
    by_cases z : i = k
    · subst z
      rw [List.getElem?_set_self hi, h1]
    · rw [List.getElem?_set_ne z]
  have q2 : (ρ.set i (.p .non)).set i (.p d) = ρ.set i (.p d) := List.set_set ..
  rw [q1, q2] at e3
  exact e3
theorem s_fz (h : ρ[i]? = some (.o d)) (q : S K ts (ρ.set i (.p d)) P) : S K ts ρ P := fun B F H σ D e k => by
  obtain ⟨F', _, e'⟩ := e.fzSlot h
  exact q B F' H σ D e' k
theorem EnvOk.forget {B : Bs} {F H : Hp} {σ : L2.St} (e : EnvOk K B F H σ ρ) : EnvOk K B F H σ (ρ.set i .any) := by
  have own : ∀ j l, OwnAt σ (ρ.set i .any) j l → OwnAt σ ρ j l := fun j l ⟨h1, u, h2, h3⟩ => by
    rw [set_st] at h2
    by_cases z : i = j
    · rw [if_pos z] at h2
      by_cases hl : j < ρ.length
      · rw [if_pos hl] at h2
        cases h2
        cases h3
      · rw [if_neg hl] at h2
        cases h2
    · rw [if_neg z] at h2
      exact ⟨h1, u, h2, h3⟩
  refine ⟨by rw [List.length_set]; exact e.len, e.fh, e.f0, e.ff, e.h0, fun j s u h1 h2 => ?_, fun j k l h1 h2 => e.di j k l (own j l h1) (own k l h2), fun j l q => e.ow j l (own j l q)⟩
  rw [set_st] at h2
  by_cases z : i = j
  · rw [if_pos z] at h2
    by_cases hl : j < ρ.length
    · rw [if_pos hl] at h2
      cases h2
      trivial
    · rw [if_neg hl] at h2
      cases h2
  · rw [if_neg z] at h2
    exact e.sl j s u h1 h2
theorem s_any (q : S K ts (ρ.set i .any) P) : S K ts ρ P := fun B F H σ D e k => q B F H σ D e.forget k
/-- return of what a slot owns -/
theorem s_retO (h : ρ[i]? = some (.o d)) (q : P.rt (.o d) (ρ.set i .any)) : S K (tRet (tVar i)) ρ P := fun B F H σ D e k => by
  obtain ⟨s, h1, l, o, rfl, h2, h3, h4⟩ := e.slot h
  have own : OwnAt σ ρ i l := ⟨h1, _, h, rfl⟩
  refine ⟨.ref l, h1, k.rt _ σ F H (.o d) _ e.forget ⟨l, o, rfl, h2, h3, h4, fun j ⟨q1, u, q2, q3⟩ => ?_, e.ow i l own⟩ q⟩
  rw [set_st] at q2
  by_cases z : i = j
  · rw [if_pos z] at q2
    by_cases hl : j < ρ.length
    · rw [if_pos hl] at q2
      cases q2
      cases q3
    · rw [if_neg hl] at q2
      cases q2
  · rw [if_neg z] at q2
    exact z (e.di i j l own ⟨q1, u, q2, q3⟩)
/-- a, b, .. = a tuple -/
def Gs (K : PySem.W.Frag) (g : TGs) (ds : List D) (ρ : Env) (P : Env → Prop) : Prop := ∀ (B : Bs) (F H : Hp) (σ : L2.St), EnvOk K B F H σ ρ → ∀ vs, Reps K F ds vs → ∀ Q : L2.St → Hp → Prop,
  (∀ σ' F' H' ρ', Same F F' → EnvOk K B F' H' σ' ρ' → P ρ' → Q σ' H') → g vs σ H Q
theorem gs_nil (q : PG ρ) : Gs K gNil [] ρ PG := fun B F H σ e v x Q k => ⟨x, k σ F H ρ (Same.refl F) e q⟩
theorem gs_cons {gs : TGs} {ds : List D} (h : G K g (.p d) ρ fun ρ1 => Gs K gs ds ρ1 PG) : Gs K (gCons g gs) (d :: ds) ρ PG := fun B F H σ e vs ⟨v, r, e1, e2, e3⟩ Q k =>
  ⟨v, r, e1, h B F H σ e v e2 _ fun σ1 F1 H1 ρ1 a1 x1 y1 => y1 B F1 H1 σ1 x1 r (Reps.mono a1 ds e3) Q fun σ' F' H' ρ' a => k σ' F' H' ρ' (a1.trans a)⟩
theorem g_tup {gs : TGs} {ds : List D} {n : Nat} (hn : ds.length = n) (h : Gs K gs ds ρ PG) : G K (gTup K n gs) (.p (.tup ds)) ρ PG := fun B F H σ e v ⟨a, xs, e1, e2, e3⟩ Q k =>
  ⟨a, xs, e1, sqt_mono e.fh e2, by rw [e3.1.length]; exact hn, h B F H σ e xs e3.1 Q k⟩
end
end VL
/-! VL3: loops, comprehensions, calls of defs -/
namespace VL
open PySem PySem.Spec PyProof.Rows L2
section
variable {K : PySem.W.Frag} {B : Bs} {F F' F1 H H' H1 : Hp} {σ σ1 : L2.St} {ρ ρ' ρ1 : Env} {i j : Nat} {d : D} {v : V}

/-! ### what is walked -/
structure Src (K : PySem.W.Frag) (J : It) (F : Hp) (ds : List D) : Prop where
  go : ∀ i H, Same F H → i < ds.length → J.go i H
  stop : ∀ i H, Same F H → ds.length ≤ i → J.stop i H
  yld : ∀ (i : Nat) H x H' d, Same F H → ds[i]? = some d → J.yld i H x H' → (H' = H ∧ Rep K F d x) ∨ ∃ T xs es, x = .ref T ∧ H T = none ∧ H' = upd H T (.tup xs) ∧ d = .tup es ∧ Reps K F es xs ∧ es.length ≤ sizeLine
def IE (K : PySem.W.Frag) (wi : TI) (ρ : Env) (P : List D → Env → Prop) : Prop := ∀ (B : Bs) (F H : Hp) (σ : L2.St), EnvOk K B F H σ ρ → ∀ R : It → Hp → Prop,
  (∀ J F' H' ds ρ', Same F F' → EnvOk K B F' H' σ ρ' → Keep σ ρ ρ' → Src K J F' ds → P ds ρ' → R J H') → wi σ H R
theorem src_list {a : Addr} {xs : List V} {ds : List D} (h : F a = some (.lst xs)) (r : Reps K F ds xs) : Src K (Itl K a) F ds where
  go := fun i H e hi => by
    obtain ⟨x, hx, _⟩ := r.get (List.getElem?_eq_getElem hi)
    exact ⟨xs, x, SqL.of (e _ _ h), hx⟩
  stop := fun i H e hi => ⟨xs, SqL.of (e _ _ h), by rw [r.length]; exact hi⟩
  yld := fun i H x H' d e hd ⟨z, y⟩ => by
    obtain ⟨x', hx, hr⟩ := r.get hd
    have q := y xs (SqL.of (e _ _ h))
    rw [hx] at q
    cases q
    exact .inl ⟨z, hr⟩
theorem src_tup {a : Addr} {xs : List V} {ds : List D} (h : SqT K F a xs) (r : Reps K F ds xs) : Src K (Itt K a) F ds where
  go := fun i H e hi => by
    obtain ⟨x, hx, _⟩ := r.get (List.getElem?_eq_getElem hi)
    exact ⟨xs, x, sqt_mono e h, hx⟩
  stop := fun i H e hi => ⟨xs, sqt_mono e h, by rw [r.length]; exact hi⟩
  yld := fun i H x H' d e hd ⟨z, y⟩ => by
    obtain ⟨x', hx, hr⟩ := r.get hd
    have q := y xs (sqt_mono e h)
    rw [hx] at q
    cases q
    exact .inl ⟨z, hr⟩
def rngD (lo : Int) (n : Nat) : List D := (List.range n).map fun i => .int (lo + (i : Nat))
theorem rngD_get {lo : Int} {n i : Nat} {d : D} (h : (rngD lo n)[i]? = some d) : i < n ∧ d = .int (lo + (i : Nat)) := by
  unfold rngD at h
  rw [List.getElem?_map] at h
  by_cases z : i < n
  · rw [List.getElem?_range z] at h
    cases h
    exact ⟨z, rfl⟩
  · rw [List.getElem?_eq_none (by rw [List.length_range]; omega)] at h
    cases h
theorem rngD_len {lo : Int} {n : Nat} : (rngD lo n).length = n := by unfold rngD; rw [List.length_map, List.length_range]
theorem src_rng {lo : Int} {n : Nat} : Src K (Itr lo n) F (rngD lo n) where
  go := fun i H e hi => by rw [rngD_len] at hi; exact hi
  stop := fun i H e hi => by rw [rngD_len] at hi; exact hi
  yld := fun i H x H' d e hd ⟨z, y⟩ => by
    obtain ⟨_, q⟩ := rngD_get hd
    subst q
    exact .inl ⟨z, y⟩
def strD (s : Str) : List D := s.cps.toList.map fun c => .str ⟨#[c]⟩
theorem src_str {s : Str} : Src K (Its s) F (strD s) where
  go := fun i H e hi => by
    unfold strD at hi
    rw [List.length_map, Array.length_toList] at hi
    exact hi
  stop := fun i H e hi => by
    unfold strD at hi
    rw [List.length_map, Array.length_toList] at hi
    exact hi
  yld := fun i H x H' d e hd ⟨z, c, hc, y⟩ => by
    unfold strD at hd
    rw [List.getElem?_map, Array.getElem?_toList, hc] at hd
    cases hd
    exact .inl ⟨z, y⟩
variable {tl te : TE} {ta : TA} {PI : List D → Env → Prop}
theorem i_list (h : E K tl ρ fun t ρ1 => ∃ ds, t.fz = .p (.lst ds) ∧ PI ds ρ1) : IE K (iList K tl) ρ PI := fun B F H σ e R k =>
  E.frozen (P := fun t ρ1 => ∃ ds, t = .p (.lst ds) ∧ PI ds ρ1) h e fun v F1 H1 t ρ1 a1 e1 c1 p1 x1 ⟨ds, y, q⟩ => by
    subst y
    obtain ⟨a, xs, z1, z2, z3⟩ := x1
    exact ⟨a, z1, ⟨xs, SqL.of (e1.fh _ _ z2)⟩, k _ F1 H1 ds ρ1 a1 e1 c1 (src_list z2 z3.1) q⟩
theorem i_tup (h : E K tl ρ fun t ρ1 => ∃ ds, t = .p (.tup ds) ∧ PI ds ρ1) : IE K (iTup K tl) ρ PI := fun B F H σ e R k =>
  h B F H σ e _ fun v F1 H1 t ρ1 a1 e1 c1 x1 ⟨ds, y, q⟩ => by
    subst y
    obtain ⟨a, xs, z1, z2, z3⟩ := x1
    exact ⟨a, z1, ⟨xs, sqt_mono e1.fh z2⟩, k _ F1 H1 ds ρ1 a1 e1 c1 (src_tup z2 z3.1) q⟩
theorem i_str (h : E K tl ρ fun t ρ1 => ∃ s, t = .p (.str s) ∧ PI (strD s) ρ1) : IE K (iStr tl) ρ PI := fun B F H σ e R k =>
  h B F H σ e _ fun v F1 H1 t ρ1 a1 e1 c1 x1 ⟨s, y, q⟩ => by
    subst y
    exact ⟨s, x1, k _ F1 H1 _ ρ1 a1 e1 c1 src_str q⟩
theorem i_rng1 (h : A K ta ρ fun ts ρ1 => ∃ n : Int, ts = [.p (.int n)] ∧ -(2 ^ 62) ≤ n ∧ n < 2 ^ 62 ∧ PI (rngD 0 n.toNat) ρ1) : IE K (iRng1 ta) ρ PI := fun B F H σ e R k =>
  h B F H σ e _ fun vs F1 H1 ts ρ1 a1 e1 c1 x1 ⟨n, y, z1, z2, q⟩ => by
    subst y
    have hr : Reps K F1 [.int n] vs := RessOk.reps x1
    obtain ⟨x, r, w1, w2, w3⟩ := hr
    exact ⟨n, by rw [w1, show r = [] from w3, show x = V.int n from w2], z1, z2, k _ F1 H1 _ ρ1 a1 e1 c1 src_rng q⟩
theorem i_rng2 (h : A K ta ρ fun ts ρ1 => ∃ m n : Int, ts = [.p (.int m), .p (.int n)] ∧ (-(2 ^ 62) ≤ m ∧ m < 2 ^ 62 ∧ -(2 ^ 62) ≤ n ∧ n < 2 ^ 62) ∧ PI (rngD m (n - m).toNat) ρ1) : IE K (iRng2 ta) ρ PI := fun B F H σ e R k =>
  h B F H σ e _ fun vs F1 H1 ts ρ1 a1 e1 c1 x1 ⟨m, n, y, z1, q⟩ => by
    subst y
    have hr : Reps K F1 [.int m, .int n] vs := RessOk.reps x1
    obtain ⟨x, r, w1, w2, w3⟩ := hr
    obtain ⟨x', r', w1', w2', w3'⟩ := w3
    exact ⟨m, n, by rw [w1, w1', show r' = [] from w3', show x = V.int m from w2, show x' = V.int n from w2'], z1, k _ F1 H1 _ ρ1 a1 e1 c1 src_rng q⟩

/-! ### for, while -/
theorem EnvOk.rebase (e1 : EnvOk K B F1 H1 σ1 ρ1) (e : EnvOk K B F H σ ρ) (a : Same F1 F) : EnvOk K { B with F0 := F1 } F H σ ρ :=
  ⟨e.len, e.fh, a, fun b o h => by
    rcases e.ff b o h with q | q
    · exact .inl (e1.f0 b o q)
    · exact .inr q, e.h0, e.sl, e.di, e.ow⟩
theorem EnvOk.unbase (e1 : EnvOk K B F1 H1 σ1 ρ1) (e : EnvOk K { B with F0 := F1 } F H σ ρ) : EnvOk K B F H σ ρ ∧ Same F1 F :=
  ⟨⟨e.len, e.fh, e1.f0.trans e.f0, fun b o h => by
    rcases e.ff b o h with q | q
    · exact e1.ff b o q
    · exact .inr q, e.h0, e.sl, e.di, e.ow⟩, e.f0⟩
/-- the object of a turn, as it comes -/
theorem Src.turn {J : It} {ds : List D} (s : Src K J F1 ds) (e : EnvOk K B F H σ ρ) (a : Same F1 F) {x : V} (hd : ds[i]? = some d) (y : J.yld i H x H') : ∃ F', Same F F' ∧ EnvOk K B F' H' σ ρ ∧ Rep K F' d x ∧ (∀ b o, H b = some o → H' b = some o) ∧ ∀ b o, F' b = some o → F b = some o ∨ H b = none := by
  rcases s.yld i H x H' d (a.trans e.fh) hd y with ⟨z, q⟩ | ⟨T, xs, es, z1, z2, z3, z4, z5⟩
  · subst z
    exact ⟨F, Same.refl F, e, Rep.mono a d q, fun _ _ h => h, fun _ _ h => .inl h⟩
  · subst z1 z3 z4
    have hs : Same F (upd F T (.tup xs)) := same_new (e.fnone z2)
    refine ⟨_, hs, e.alloc z2, ⟨T, xs, rfl, SqT.of upd_same, Reps.mono (a.trans hs) es z5.1, z5.2⟩, same_new z2, fun b o h => ?_⟩
    by_cases z : b = T
    · exact .inr (by rw [z]; exact z2)
    · rw [upd_ne z] at h
      exact .inl h
variable {wi : TI} {g : TG} {tb : TS} {P : Po} {tt : TT}
theorem s_for (h : IE K wi ρ fun ds ρ1 => ∃ I : Nat → Env → Prop, I 0 ρ1 ∧ (∀ (i : Nat) d ρ, ds[i]? = some d → I i ρ → G K g (.p d) ρ fun ρ' => S K tb ρ' { nx := I (i + 1), ct := I (i + 1), bk := P.nx, rt := P.rt }) ∧ ∀ ρ, I ds.length ρ → P.nx ρ) :
    S K (tFor wi g tb) ρ P := fun B F H σ D e k =>
  h B F H σ e _ fun J F1 H1 ds ρ1 a1 e1 c1 s ⟨I, i0, turn, fin⟩ => by
    refine ⟨fun i m σ' H' => m = ds.length - i ∧ i ≤ ds.length ∧ ∃ F' ρ', Same F1 F' ∧ EnvOk K B F' H' σ' ρ' ∧ I i ρ', ⟨ds.length, by omega, Nat.zero_le _, F1, ρ1, Same.refl F1, e1, i0⟩, ?_⟩
    rintro i m σ2 H2 ⟨rfl, hi, F2, ρ2, a2, e2, i2⟩
    by_cases hlt : i < ds.length
    · refine .inr ⟨s.go i H2 (a2.trans e2.fh) hlt, fun σ' H' => ∃ F' ρ', Same F1 F' ∧ EnvOk K B F' H' σ' ρ' ∧ I (i + 1) ρ', fun σ' H' ⟨F', ρ', q1, q2, q3⟩ => ⟨ds.length - (i + 1), by omega, rfl, hlt, F', ρ', q1, q2, q3⟩, fun x H3 y => ?_⟩
      have hd := List.getElem?_eq_getElem hlt
      obtain ⟨F3, a3, e3, r3, _, _⟩ := s.turn e2 a2 hd y
      have e3' := e1.rebase e3 (a2.trans a3)
      refine turn i _ ρ2 hd i2 { B with F0 := F1 } F3 H3 σ2 e3' x r3 _ fun σ4 F4 H4 ρ4 a4 e4 s4 => ?_
      refine s4 { B with F0 := F1 } F4 H4 σ4 _ e4 ⟨fun σ5 F5 H5 ρ5 e5 q5 => ?_, fun v σ5 F5 H5 t ρ5 e5 x5 q5 => ?_, fun σ5 F5 H5 ρ5 e5 q5 => ?_, fun σ5 F5 H5 ρ5 e5 q5 => ?_⟩
      · obtain ⟨z1, z2⟩ := e1.unbase e5
        exact ⟨F5, ρ5, z2, z1, q5⟩
      · exact k.rt v σ5 F5 H5 t ρ5 (e1.unbase e5).1 x5 q5
      · exact k.nx σ5 F5 H5 ρ5 (e1.unbase e5).1 q5
      · obtain ⟨z1, z2⟩ := e1.unbase e5
        exact ⟨F5, ρ5, z2, z1, q5⟩
    · have z : i = ds.length := by omega
      subst z
      exact .inl ⟨s.stop _ H2 (a2.trans e2.fh) (Nat.le_refl _), k.nx σ2 F2 H2 ρ2 e2 (fin ρ2 i2)⟩
theorem s_while (I : Nat → Env → Prop) (i0 : ∃ m, I m ρ) (turn : ∀ m ρ, I m ρ → T K tt ρ fun b ρ1 => if b = true then S K tb ρ1 { nx := fun ρ' => ∃ m', m' < m ∧ I m' ρ', ct := fun ρ' => ∃ m', m' < m ∧ I m' ρ', bk := P.nx, rt := P.rt } else P.nx ρ1) :
    S K (tWhile tt tb) ρ P := fun B F H σ D e k => by
  obtain ⟨m0, i0⟩ := i0
  refine ⟨fun m σ' H' => ∃ F' ρ', EnvOk K B F' H' σ' ρ' ∧ I m ρ', ⟨m0, F, ρ, e, i0⟩, ?_⟩
  rintro m σ2 H2 ⟨F2, ρ2, e2, i2⟩
  refine turn m ρ2 i2 B F2 H2 σ2 e2 _ fun b F3 H3 ρ3 a3 e3 c3 q3 => ?_
  cases b with
  | true =>
    rw [if_pos rfl] at q3 ⊢
    refine ⟨fun σ' H' => ∃ m', m' < m ∧ ∃ F' ρ', EnvOk K B F' H' σ' ρ' ∧ I m' ρ', fun σ' H' q => q, ?_⟩
    exact q3 B F3 H3 σ2 _ e3 ⟨fun σ5 F5 H5 ρ5 e5 ⟨m', z1, z2⟩ => ⟨m', z1, F5, ρ5, e5, z2⟩, fun v σ5 F5 H5 t ρ5 e5 x5 q5 => k.rt v σ5 F5 H5 t ρ5 e5 x5 q5,
      fun σ5 F5 H5 ρ5 e5 q5 => k.nx σ5 F5 H5 ρ5 e5 q5, fun σ5 F5 H5 ρ5 e5 ⟨m', z1, z2⟩ => ⟨m', z1, F5, ρ5, e5, z2⟩⟩
  | false =>
    rw [if_neg Bool.false_ne_true] at q3 ⊢
    exact k.nx σ2 F3 H3 ρ3 e3 q3

/-! ### comprehensions -/
def wipeE (ρ : Env) : List Nat → Env
  | [] => ρ
  | v :: vs => (wipeE ρ vs).set v .any
theorem wipeE_len : ∀ vs : List Nat, (wipeE ρ vs).length = ρ.length
  | [] => rfl
  | v :: vs => by unfold wipeE; rw [List.length_set, wipeE_len vs]
theorem wipeE_in : ∀ {vs : List Nat}, i ∈ vs → i < ρ.length → (wipeE ρ vs)[i]? = some .any
  | v :: vs, h, hl => by
    unfold wipeE
    rw [set_st, wipeE_len]
    by_cases z : v = i
    · rw [if_pos z, if_pos hl]
    · rw [if_neg z]
      rcases List.mem_cons.mp h with q | q
      · exact absurd q.symm z
      · exact wipeE_in q hl
theorem wipeE_out : ∀ {vs : List Nat}, i ∉ vs → (wipeE ρ vs)[i]? = ρ[i]?
  | [], _ => rfl
  | v :: vs, h => by
    unfold wipeE
    rw [set_st, if_neg (fun z => h (by rw [z]; exact List.mem_cons_self)), wipeE_out (fun q => h (List.mem_cons_of_mem _ q))]
theorem wipe_in : ∀ {vs : List Nat}, i ∈ vs → i < σ.length → (wipe σ vs)[i]? = some none
  | v :: vs, h, hl => by
    unfold wipe
    by_cases z : v = i
    · subst z
      rw [List.getElem?_set_self (by rw [wipe_length]; exact hl)]
    · rw [List.getElem?_set_ne z]
      rcases List.mem_cons.mp h with q | q
      · exact absurd q.symm z
      · exact wipe_in q hl
theorem wipe_out' : ∀ {vs : List Nat}, i ∉ vs → (wipe σ vs)[i]? = σ[i]?
  | [], _ => rfl
  | v :: vs, h => by
    unfold wipe
    rw [List.getElem?_set_ne (fun z => h (by rw [z]; exact List.mem_cons_self)), wipe_out' (fun q => h (List.mem_cons_of_mem _ q))]
theorem own_wipe {vs : List Nat} {l : Addr} : OwnAt (wipe σ vs) (wipeE ρ vs) i l ↔ i ∉ vs ∧ OwnAt σ ρ i l := by
  constructor
  · rintro ⟨h1, t, h2, h3⟩
    by_cases z : i ∈ vs
    · have hl : i < ρ.length := by
        rcases Nat.lt_or_ge i ρ.length with q | q
        · exact q
        · rw [List.getElem?_eq_none (by rw [wipeE_len]; exact q)] at h2; cases h2
      rw [wipeE_in z hl] at h2
      cases h2
      cases h3
    · rw [wipe_out' z] at h1
      rw [wipeE_out z] at h2
      exact ⟨z, h1, t, h2, h3⟩
  · rintro ⟨z, h1, t, h2, h3⟩
    exact ⟨by rw [wipe_out' z]; exact h1, t, by rw [wipeE_out z]; exact h2, h3⟩
theorem EnvOk.wiped {vs : List Nat} (e : EnvOk K B F H σ ρ) : EnvOk K B F H (wipe σ vs) (wipeE ρ vs) where
  len := by rw [wipe_length, wipeE_len]; exact e.len
  fh := e.fh
  f0 := e.f0
  ff := e.ff
  h0 := e.h0
  sl := fun i s t h1 h2 => by
    by_cases z : i ∈ vs
    · have hl : i < ρ.length := by
        rcases Nat.lt_or_ge i ρ.length with q | q
        · exact q
        · rw [List.getElem?_eq_none (by rw [wipeE_len]; exact q)] at h2; cases h2
      rw [wipeE_in z hl] at h2
      cases h2
      trivial
    · rw [wipe_out' z] at h1
      rw [wipeE_out z] at h2
      exact e.sl i s t h1 h2
  di := fun i j l h1 h2 => e.di i j l (own_wipe.mp h1).2 (own_wipe.mp h2).2
  ow := fun i l h => e.ow i l (own_wipe.mp h).2
theorem EnvOk.unwiped {vs : List Nat} (e : EnvOk K B F H (wipe σ vs) ρ) (h : ∀ v ∈ vs, ρ[v]? = some .any) : EnvOk K B F H σ ρ := by
  have own : ∀ i l, OwnAt σ ρ i l → OwnAt (wipe σ vs) ρ i l := fun i l ⟨h1, t, h2, h3⟩ => by
    by_cases z : i ∈ vs
    · rw [h i z] at h2
      cases h2
      cases h3
    · exact ⟨by rw [wipe_out' z]; exact h1, t, h2, h3⟩
  refine ⟨by rw [← e.len, wipe_length], e.fh, e.f0, e.ff, e.h0, fun i s t h1 h2 => ?_, fun i j l h1 h2 => e.di i j l (own i l h1) (own j l h2), fun i l q => e.ow i l (own i l q)⟩
  by_cases z : i ∈ vs
  · rw [h i z] at h2
    cases h2
    trivial
  · exact e.sl i s t (by rw [wipe_out' z]; exact h1) h2
/-- the target of a comprehension -/
def GC (K : PySem.W.Frag) (vs : List Nat) (g : TG) (d : D) (ρ : Env) (P : Env → Prop) : Prop := ∀ (B : Bs) (F H : Hp) (σ : L2.St), EnvOk K B F H σ ρ → ∀ v, Rep K F d v → ∀ Q : L2.St → Hp → Prop,
  (∀ σ' ρ', wipe σ' vs = wipe σ vs → EnvOk K B F H σ' ρ' → (∀ i l, i ∉ vs → OwnAt σ ρ i l → OwnAt σ' ρ' i l) → P ρ' → Q σ' H) → g v σ H Q
def GCs (K : PySem.W.Frag) (vs : List Nat) (g : TGs) (ds : List D) (ρ : Env) (P : Env → Prop) : Prop := ∀ (B : Bs) (F H : Hp) (σ : L2.St), EnvOk K B F H σ ρ → ∀ xs, Reps K F ds xs → ∀ Q : L2.St → Hp → Prop,
  (∀ σ' ρ', wipe σ' vs = wipe σ vs → EnvOk K B F H σ' ρ' → (∀ i l, i ∉ vs → OwnAt σ ρ i l → OwnAt σ' ρ' i l) → P ρ' → Q σ' H) → g xs σ H Q
theorem wipe_set {vs : List Nat} {s : Option V} (h : i ∈ vs) : wipe (σ.set i s) vs = wipe σ vs := by
  apply List.ext_getElem?
  intro k
  by_cases z : k ∈ vs
  · by_cases hl : k < σ.length
    · rw [wipe_in z (by rw [List.length_set]; exact hl), wipe_in z hl]
    · rw [List.getElem?_eq_none (by rw [wipe_length, List.length_set]; omega), List.getElem?_eq_none (by rw [wipe_length]; omega)]
  · rw [wipe_out' z, wipe_out' z, List.getElem?_set_ne (fun q => z (by rw [← q]; exact h))]
variable {vs : List Nat} {PG : Env → Prop}
theorem gc_name (hi : i ∈ vs) (q : PG (ρ.set i (.p d))) : GC K vs (gName i) d ρ PG := fun B F H σ e v x Q k =>
  k _ _ (wipe_set hi) (e.setP (t := .p d) rfl ⟨v, rfl, x⟩) (fun j l hj ⟨h1, t, h2, h3⟩ => by
    have z : i ≠ j := fun z => hj (by rw [← z]; exact hi)
    exact ⟨by rw [List.getElem?_set_ne z]; exact h1, t, by rw [List.getElem?_set_ne z]; exact h2, h3⟩) q
theorem gcs_nil (q : PG ρ) : GCs K vs gNil [] ρ PG := fun B F H σ e v x Q k => ⟨x, k σ ρ rfl e (fun _ _ _ h => h) q⟩
theorem gcs_cons {gs : TGs} {ds : List D} (h : GC K vs g d ρ fun ρ1 => GCs K vs gs ds ρ1 PG) : GCs K vs (gCons g gs) (d :: ds) ρ PG := fun B F H σ e xs ⟨v, r, e1, e2, e3⟩ Q k =>
  ⟨v, r, e1, h B F H σ e v e2 _ fun σ1 ρ1 w1 x1 o1 y1 => y1 B F H σ1 x1 r e3 Q fun σ' ρ' w2 x2 o2 y2 => k σ' ρ' (w2.trans w1) x2 (fun i l hi h => o2 i l hi (o1 i l hi h)) y2⟩
theorem gc_tup {gs : TGs} {ds : List D} {n : Nat} (hn : ds.length = n) (h : GCs K vs gs ds ρ PG) : GC K vs (gTup K n gs) (.tup ds) ρ PG := fun B F H σ e v ⟨a, xs, e1, e2, e3⟩ Q k =>
  ⟨a, xs, e1, sqt_mono e.fh e2, by rw [e3.1.length]; exact hn, h B F H σ e xs e3.1 Q k⟩
/-- the base of a comprehension's turn: what stands now is to stay, but for what the slots own -/
def turnB (B : Bs) (F H : Hp) (σ : L2.St) (ρ : Env) : Bs := ⟨F, H, fun a => ∃ i, OwnAt σ ρ i a, B.O⟩
theorem EnvOk.toTurn (e : EnvOk K B F H σ ρ) : EnvOk K (turnB B F H σ ρ) F H σ ρ :=
  ⟨e.len, e.fh, Same.refl F, fun a o h => .inl h, fun a o h _ => h, e.sl, e.di, fun i l h => .inl ⟨i, h⟩⟩
theorem EnvOk.ofTurn (e : EnvOk K B F H σ ρ) (e1 : EnvOk K (turnB B F H σ ρ) F1 H1 σ1 ρ1) : EnvOk K B F1 H1 σ1 ρ1 where
  len := e1.len
  fh := e1.fh
  f0 := e.f0.trans e1.f0
  ff := fun a o h => by
    rcases e1.ff a o h with q | q | ⟨i, q⟩
    · exact e.ff a o q
    · exact .inr (e.bnew q).symm
    · exact .inr (e.ow i a q).symm
  h0 := fun a o h m => by
    have q := e.h0 a o h m
    refine e1.h0 a o q fun ⟨i, z⟩ => ?_
    rcases e.ow i a z with z | z
    · exact m z
    · rw [z] at h; cases h
  sl := e1.sl
  di := e1.di
  ow := fun i l h => by
    rcases e1.ow i l h with ⟨j, q⟩ | q
    · exact e.ow j l q
    · exact e.bnew q
/-- a hidden object is changed -/
theorem EnvOk.hid {p : Addr} {o : HO} (e : EnvOk K B F H σ ρ) (hf : F p = none) (hn : ∀ i, ¬ OwnAt σ ρ i p) (hb : B.M p ∨ B.H0 p = none) : EnvOk K B F (upd H p o) σ ρ where
  len := e.len
  fh := fun a u h => by
    have z : a ≠ p := fun z => by rw [z, hf] at h; cases h
    rw [upd_ne z]
    exact e.fh a u h
  f0 := e.f0
  ff := e.ff
  h0 := fun a u h m => by
    have z : a ≠ p := fun z => by
      subst z
      rcases hb with q | q
      · exact m q
      · rw [q] at h; cases h
    rw [upd_ne z]
    exact e.h0 a u h m
  sl := fun i s t h1 h2 => (e.sl i s t h1 h2).growH fun l u q1 q2 q3 => by
    have z : l ≠ p := fun z => hn i ⟨by rw [h1, q1, z], t, h2, q2⟩
    rw [upd_ne z]
    exact q3
  di := e.di
  ow := e.ow
variable {PE : R → Env → Prop}
theorem e_lc (h : IE K wi ρ fun ds ρ1 => (∀ v ∈ vs, ∃ t, ρ1[v]? = some t ∧ t.owns = false) ∧ ∃ I : Nat → List D → Env → Prop, I 0 [] (wipeE ρ1 vs) ∧
      (∀ (i : Nat) d acc ρ, ds[i]? = some d → I i acc ρ → GC K vs g d ρ fun ρ2 => T K tt ρ2 fun b ρ3 => if b = true then E K te ρ3 fun t ρ4 => ∃ d', t.fz = .p d' ∧ acc.length < sizeLine ∧ I (i + 1) (acc ++ [d']) (wipeE ρ4 vs) else I (i + 1) acc (wipeE ρ3 vs)) ∧
      ∀ acc ρ, I ds.length acc ρ → PE (.o (.lst acc)) ρ) : E K (tLc wi g tt te vs) ρ PE := fun B F H σ e Q k =>
  h B F H σ e _ fun J F1 H1 ds ρ1 a1 e1 c1 s ⟨nov, I, i0, turn, fin⟩ => by
    intro Dd hD
    -- the state between two turns
    let Sx : Nat → Hp → Prop := fun i H' => ∃ F' ρ' acc xs, Same F1 F' ∧ EnvOk K B F' H' (wipe σ vs) ρ' ∧ (∀ v ∈ vs, ρ'[v]? = some .any) ∧ (∀ j l, OwnAt (wipe σ vs) (wipeE ρ1 vs) j l → OwnAt (wipe σ vs) ρ' j l) ∧
      H' Dd = some (HO.lst xs) ∧ F' Dd = none ∧ (∀ j, ¬ OwnAt (wipe σ vs) ρ' j Dd) ∧ Reps K F' acc xs ∧ acc.length ≤ sizeLine ∧ I i acc ρ'
    have hb : B.M Dd ∨ B.H0 Dd = none := e1.bnew hD
    have hlen : ∀ v ∈ vs, v < ρ1.length := fun v hv => by
      obtain ⟨t, q, _⟩ := nov v hv
      rcases Nat.lt_or_ge v ρ1.length with z | z
      · exact z
      · rw [List.getElem?_eq_none z] at q; cases q
    have hl : ρ1.length = σ.length := e1.len.symm
    -- a turn's end: the slots of the block forgotten
    have back : ∀ {F2 H2 : Hp} {ρ2 : Env} (e2 : EnvOk K B F2 H2 (wipe σ vs) ρ2) (o2 : ∀ j l, OwnAt (wipe σ vs) (wipeE ρ1 vs) j l → OwnAt (wipe σ vs) ρ2 j l) {σ3 : L2.St} {ρ3 : Env} {F3 H3 : Hp} (w3 : wipe σ3 vs = wipe (wipe σ vs) vs)
        (e3 : EnvOk K B F3 H3 σ3 ρ3) (o3 : ∀ j l, j ∉ vs → OwnAt (wipe σ vs) ρ2 j l → OwnAt σ3 ρ3 j l),
        EnvOk K B F3 H3 (wipe σ vs) (wipeE ρ3 vs) ∧ (∀ v ∈ vs, (wipeE ρ3 vs)[v]? = some .any) ∧ (∀ j l, OwnAt (wipe σ vs) (wipeE ρ1 vs) j l → OwnAt (wipe σ vs) (wipeE ρ3 vs) j l) := by
      intro F2 H2 ρ2 e2 o2 σ3 ρ3 F3 H3 w3 e3 o3
      have ww : wipe (wipe σ vs) vs = wipe σ vs := by
        apply List.ext_getElem?
        intro k
        by_cases z : k ∈ vs
        · by_cases hk : k < σ.length
          · rw [wipe_in z (by rw [wipe_length]; exact hk), wipe_in z hk]
          · rw [List.getElem?_eq_none (by rw [wipe_length, wipe_length]; omega), List.getElem?_eq_none (by rw [wipe_length]; omega)]
        · rw [wipe_out' z]
      rw [ww] at w3
      have l3 : ρ3.length = σ.length := by
        rw [← e3.len, ← wipe_length σ3 vs, w3, wipe_length]
      have q := e3.wiped (vs := vs)
      rw [w3] at q
      refine ⟨q, fun v hv => wipeE_in hv (by rw [l3, ← hl]; exact hlen v hv), fun j l g => ?_⟩
      have g2 := own_wipe.mp g
      have g3 := own_wipe.mpr ⟨g2.1, o3 j l g2.1 (o2 j l g)⟩
      rw [w3] at g3
      exact g3
    refine ⟨fun i m H' => m = ds.length - i ∧ i ≤ ds.length ∧ Sx i H', ⟨ds.length, by omega, Nat.zero_le _, F1, wipeE ρ1 vs, [], [], Same.refl F1, (e1.new hD).wiped, fun v hv => wipeE_in hv (hlen v hv), fun _ _ q => q, upd_same, e1.fnone hD, fun j q => e1.noown hD j (own_wipe.mp q).2, .nil, Nat.zero_le _, i0⟩, ?_⟩
    rintro i m H2 ⟨rfl, hi, F2, ρ2, acc, xs, a2, e2, w2, o2, d2, f2, n2, r2, b2, i2⟩
    by_cases hlt : i < ds.length
    · refine .inr ⟨s.go i H2 (a2.trans e2.fh) hlt, Sx (i + 1), fun H' q => ⟨ds.length - (i + 1), by omega, rfl, hlt, q⟩, fun x H3 y => ?_⟩
      have hd := List.getElem?_eq_getElem hlt
      obtain ⟨F3, a3, e3, r3, g3, n3⟩ := s.turn e2 a2 hd y
      have d3 : H3 Dd = some (.lst xs) := g3 _ _ d2
      have f3 : F3 Dd = none := by
        cases q : F3 Dd with
        | none => rfl
        | some o =>
          rcases n3 _ _ q with z | z
          · rw [f2] at z; cases z
          · rw [d2] at z; cases z
      -- what holds of the list while the turn goes on
      have keepD : ∀ {F4 H4 : Hp} {σ4 : L2.St} {ρ4 : Env}, EnvOk K (turnB B F3 H3 (wipe σ vs) ρ2) F4 H4 σ4 ρ4 → H4 Dd = some (.lst xs) ∧ F4 Dd = none ∧ ∀ j, ¬ OwnAt σ4 ρ4 j Dd := fun e4 => by
        have h4 := e4.h0 Dd _ d3 (fun ⟨j, q⟩ => n2 j q)
        refine ⟨h4, ?_, fun j q => ?_⟩
        · rename_i F4 H4 σ4 ρ4
          cases q : F4 Dd with
          | none => rfl
          | some o =>
            rcases e4.ff _ _ q with z | z | ⟨j, z⟩
            · rw [show (turnB B F3 H3 (wipe σ vs) ρ2).F0 Dd = F3 Dd from rfl, f3] at z; cases z
            · rw [show (turnB B F3 H3 (wipe σ vs) ρ2).H0 Dd = H3 Dd from rfl, d3] at z; cases z
            · exact absurd z (n2 j)
        · rcases e4.ow j _ q with ⟨j', z⟩ | z
          · exact n2 j' z
          · rw [show (turnB B F3 H3 (wipe σ vs) ρ2).H0 Dd = H3 Dd from rfl, d3] at z; cases z
      have ww : wipe (wipe σ vs) vs = wipe σ vs := by
        apply List.ext_getElem?
        intro k
        by_cases z : k ∈ vs
        · by_cases hk : k < σ.length
          · rw [wipe_in z (by rw [wipe_length]; exact hk), wipe_in z hk]
          · rw [List.getElem?_eq_none (by rw [wipe_length, wipe_length]; omega), List.getElem?_eq_none (by rw [wipe_length]; omega)]
        · rw [wipe_out' z]
      refine turn i _ acc ρ2 hd i2 _ F3 H3 _ e3.toTurn x r3 _ fun σ4 ρ4 w4 e4 o4 t4 => ?_
      refine ⟨w4.trans ww, t4 _ F3 H3 σ4 e4 _ fun b F5 H5 ρ5 a5 e5 c5 q5 => ?_⟩
      cases b with
      | true =>
        rw [if_pos rfl] at q5 ⊢
        refine E.frozen (P := fun t ρ4 => ∃ d', t = .p d' ∧ acc.length < sizeLine ∧ I (i + 1) (acc ++ [d']) (wipeE ρ4 vs)) q5 e5 fun v F6 H6 t ρ6 a6 e6 c6 p6 x6 ⟨d', z1, z2, z3⟩ => ?_
        subst z1
        obtain ⟨k1, k2, k3⟩ := keepD e6
        have r6 : Reps K F6 acc xs := Reps.mono (a3.trans (a5.trans a6)) acc r2
        have e7 := e3.ofTurn e6
        obtain ⟨g1, g2, g4⟩ := back e2 o2 w4 e7 (fun j l hj q => c6 j l (c5 j l (o4 j l hj q)))
        have n7 : ∀ j, ¬ OwnAt (wipe σ vs) (wipeE ρ6 vs) j Dd := fun j q => by
          have q' : OwnAt (wipe σ4 vs) (wipeE ρ6 vs) j Dd := by rw [w4, ww]; exact q
          exact k3 j (own_wipe.mp q').2
        refine ⟨xs, k1, by rw [r6.length]; exact z2, F6, _, acc ++ [d'], xs ++ [v], ((a2.trans a3).trans a5).trans a6, g1.hid k2 n7 hb, g2, g4, upd_same, k2, n7, r6.append (.one x6), by rw [List.length_append, List.length_singleton]; exact z2, z3⟩
      | false =>
        rw [if_neg Bool.false_ne_true] at q5 ⊢
        obtain ⟨k1, k2, k3⟩ := keepD e5
        have r6 : Reps K F5 acc xs := Reps.mono (a3.trans a5) acc r2
        have e7 := e3.ofTurn e5
        obtain ⟨g1, g2, g4⟩ := back e2 o2 w4 e7 (fun j l hj q => c5 j l (o4 j l hj q))
        have n7 : ∀ j, ¬ OwnAt (wipe σ vs) (wipeE ρ5 vs) j Dd := fun j q => by
          have q' : OwnAt (wipe σ4 vs) (wipeE ρ5 vs) j Dd := by rw [w4, ww]; exact q
          exact k3 j (own_wipe.mp q').2
        exact ⟨F5, _, acc, xs, (a2.trans a3).trans a5, g1, g2, g4, k1, k2, n7, r6, b2, q5⟩
    · have z : i = ds.length := by omega
      subst z
      have e3 := e2.unwiped w2
      have no : ∀ j, ¬ OwnAt σ ρ2 j Dd := fun j ⟨h1, t, h2, h3⟩ => by
        by_cases z : j ∈ vs
        · rw [w2 j z] at h2
          cases h2
          cases h3
        · exact n2 j ⟨by rw [wipe_out' z]; exact h1, t, h2, h3⟩
      refine .inl ⟨s.stop _ H2 (a2.trans e2.fh) (Nat.le_refl _), k _ F2 H2 (.o (.lst acc)) ρ2 (a1.trans a2) e3 (fun j l q => ?_) ⟨Dd, _, rfl, d2, ⟨xs, rfl, r2, b2⟩, f2, no, hb⟩ (fin acc ρ2 i2)⟩
      have q1 := c1 j l q
      have hj : j ∉ vs := fun hv => by
        obtain ⟨t, z1, z2⟩ := nov j hv
        obtain ⟨_, t', z3, z4⟩ := q1
        rw [z1] at z3
        cases z3
        rw [z2] at z4
        cases z4
      have q2 := o2 j l (own_wipe.mpr ⟨hj, q1⟩)
      obtain ⟨h1, t, h2, h3⟩ := q2
      exact ⟨by rw [wipe_out' hj] at h1; exact h1, t, h2, h3⟩
end
end VL
/-! VL4: promises of defs over data, their calls, their bodies -/
namespace VL
open PySem PySem.Spec PyProof.Rows L2
def R.noal : R → Prop
  | .al _ => False
  | _ => True
def ResNew (K : PySem.W.Frag) (H F' H' : Hp) (v : V) : R → Prop
  | .p d => Rep K F' d v
  | .o d => ∃ l o, v = .ref l ∧ H' l = some o ∧ OHold K F' d o ∧ F' l = none ∧ H l = none
  | .al _ => False
/-- a def of pure data: s says of the arguments' data what the results may be -/
def Sp0 (K : PySem.W.Frag) (s : List D → (R → Prop) → Prop) : Sp := fun vs H Q _ => ∃ F ds Rs, Same F H ∧ Reps K F ds vs ∧ s ds Rs ∧
  ∀ t, Rs t → ∀ v F' H', Same F F' → (∀ a o, F' a = some o → F a = some o ∨ H a = none) → Same H H' → Same F' H' → ResNew K H F' H' v t → Q v H'
/-- a def whose first argument is an object that it may change -/
def Sp1 (K : PySem.W.Frag) (s : List D → (R → D → Prop) → Prop) : Sp := fun vs H Q _ => ∃ F l us d o ds Rs, vs = .ref l :: us ∧ Same F H ∧ H l = some o ∧ OHold K F d o ∧ F l = none ∧ Reps K F ds us ∧ s (d :: ds) Rs ∧
  ∀ t d', Rs t d' → ∀ v F' H' o', Same F F' → (∀ a o, F' a = some o → F a = some o ∨ H a = none) → (∀ a o, H a = some o → a ≠ l → H' a = some o) → Same F' H' → H' l = some o' → OHold K F' d' o' → F' l = none → ResNew K H F' H' v t → Q v H'
section
variable {K : PySem.W.Frag} {B : Bs} {F F' H H' : Hp} {σ : L2.St} {ρ ρ' : Env} {i j : Nat} {d : D} {v : V} {ta : TA} {P : R → Env → Prop} {Ex : XK}
/-- what stands around stays, and the frozen part grows by new things alone -/
theorem EnvOk.grow (e : EnvOk K B F H σ ρ) (a : Same F F') (f : ∀ b o, F' b = some o → F b = some o ∨ H b = none) (h : Same H H') (fh : Same F' H') : EnvOk K B F' H' σ ρ where
  len := e.len
  fh := fh
  f0 := e.f0.trans a
  ff := fun b o q => by
    rcases f b o q with z | z
    · exact e.ff b o z
    · exact .inr (e.bnew z).symm
  h0 := fun b o q m => h b o (e.h0 b o q m)
  sl := fun i s t h1 h2 => SlotOk.growH (H := H) ((e.sl i s t h1 h2).growF a fun l q1 q2 => by
    obtain ⟨u, z1, z2⟩ := e.ownH (i := i) (l := l) ⟨by rw [h1, q1], t, h2, q2⟩
    cases z : F' l with
    | none => rfl
    | some o =>
      rcases f l o z with w | w
      · rw [z2] at w; cases w
      · rw [z1] at w; cases w) fun l o _ _ q => h l o q
  di := e.di
  ow := e.ow
theorem resNew_ok (e : EnvOk K B F H σ ρ) {t : R} (h : ResNew K H F' H' v t) : ResOk K B F' H' σ ρ v t := by
  cases t with
  | p d => exact h
  | al i => exact h.elim
  | o d =>
    obtain ⟨l, o, h1, h2, h3, h4, h5⟩ := h
    exact ⟨l, o, h1, h2, h3, h4, e.noown h5, e.bnew h5⟩
theorem e_callD {s : List D → (R → Prop) → Prop} {dvs : List V} {dds : List D} (hd : ∀ F, Reps K F dds dvs) (h : A K ta ρ fun ts ρ1 => ∃ ds Rs, ts = ds.map R.p ∧ s (ds ++ dds) Rs ∧ ∀ t, Rs t → t.noal → P t ρ1) : E K (tCall (Sp0 K s) dvs Ex ta) ρ P := fun B F H σ e Q k =>
  h B F H σ e _ fun vs F1 H1 ts ρ1 a1 e1 c1 x1 ⟨ds, Rs, y, z, q⟩ => by
    subst y
    refine ⟨F1, ds ++ dds, Rs, e1.fh, x1.reps.append (hd F1), z, fun t ht v F' H' g1 g2 g3 g4 g5 => ?_⟩
    have hn : t.noal := by cases t <;> first | trivial | exact g5
    exact k v F' H' t ρ1 (a1.trans g1) (e1.grow g1 g2 g3 g4) c1 (resNew_ok e1 g5) (q t ht hn)
theorem e_call {s : List D → (R → Prop) → Prop} (h : A K ta ρ fun ts ρ1 => ∃ ds Rs, ts = ds.map R.p ∧ s ds Rs ∧ ∀ t, Rs t → t.noal → P t ρ1) : E K (tCall (Sp0 K s) [] Ex ta) ρ P :=
  e_callD (dds := []) (fun _ => rfl) fun B F H σ e Q k => h B F H σ e Q fun vs F' H' ts ρ' a b c x ⟨ds, Rs, y, z, w⟩ => k vs F' H' ts ρ' a b c x ⟨ds, Rs, y, by rw [List.append_nil]; exact z, w⟩
theorem e_call1 {s : List D → (R → D → Prop) → Prop} (h : A K ta ρ fun ts ρ1 => ∃ i t ds Rs, ts = .al i :: ds.map R.p ∧ ρ1[i]? = some t ∧ t.owns = true ∧ s (t.cont :: ds) Rs ∧ ∀ r d', Rs r d' → r.noal → P r (ρ1.set i (t.upd d'))) :
    E K (tCall (Sp1 K s) [] Ex ta) ρ P := fun B F H σ e Q k =>
  h B F H σ e _ fun vs F1 H1 ts ρ1 a1 e1 c1 x1 ⟨i, t, ds, Rs, y, z1, z2, z3, q⟩ => by
    subst y
    match vs, x1 with
    | v :: us, ⟨_, ⟨l, w1, w2⟩, w3⟩ =>
      subst w1
      rw [List.append_nil]
      obtain ⟨t', o, u1, u2, u3, u4⟩ := e1.own w2
      rw [z1] at u1
      cases u1
      refine ⟨F1, l, us, t.cont, o, ds, Rs, rfl, e1.fh, u2, u3, u4, RessOk.reps w3, z3, fun r d' hr v F' H' o' g1 g2 g3 g4 g5 g6 g7 g8 => ?_⟩
      have hn : r.noal := by cases r <;> first | trivial | exact g8
      -- all but l stands as it stood
      have ew : EnvOk K B F1 (upd H1 l o') σ ρ1 → True := fun _ => trivial
      have hm : B.M l ∨ B.H0 l = none := e1.ow i l w2
      have e2 : EnvOk K B F' H' σ (ρ1.set i (t.upd d')) := by
        have hi : i < ρ1.length := by
          rcases Nat.lt_or_ge i ρ1.length with q | q
          · exact q
          · rw [List.getElem?_eq_none q] at z1; cases z1
        refine ⟨by rw [List.length_set]; exact e1.len, g4, e1.f0.trans g1, fun a u h => ?_, fun a u h m => ?_, fun j s' t' h1 h2 => ?_, fun j k l' h1 h2 => ?_, fun j l' h => ?_⟩
        · rcases g2 a u h with q | q
          · exact e1.ff a u q
          · exact .inr (e1.bnew q).symm
        · have q : a ≠ l := fun q => by
            subst q
            rcases hm with q | q
            · exact m q
            · rw [q] at h; cases h
          exact g3 a u (e1.h0 a u h m) q
        · by_cases zz : i = j
          · subst zz
            rw [List.getElem?_set_self hi] at h2
            cases h2
            have hsl := e1.sl i s' t h1 z1
            rw [w2.1] at h1
            cases h1
            cases t with
            | any => cases z2
            | p d => cases z2
            | o d => exact ⟨l, o', rfl, g5, g6, g7⟩
            | b kk d =>
              obtain ⟨l2, o2, q1, q2, _⟩ := hsl
              cases q1
              exact ⟨l, o', rfl, q2, g5, g6, g7⟩
          · rw [List.getElem?_set_ne zz] at h2
            refine SlotOk.growH (H := H1) ((e1.sl j s' t' h1 h2).growF g1 fun l2 q1 q2 => ?_) fun l2 u q1 q2 q3 => ?_
            · obtain ⟨u, y1, y2⟩ := e1.ownH (i := j) (l := l2) ⟨by rw [h1, q1], t', h2, q2⟩
              cases w : F' l2 with
              | none => rfl
              | some oo =>
                rcases g2 l2 oo w with w' | w'
                · rw [y2] at w'; cases w'
                · rw [y1] at w'; cases w'
            · refine g3 l2 u q3 fun q => ?_
              subst q
              exact zz (e1.di i j l2 w2 ⟨by rw [h1, q1], t', h2, q2⟩)
        · exact e1.di j k l' ((OwnAt.set_iff z1 z2 (owns_upd z2)).mp h1) ((OwnAt.set_iff z1 z2 (owns_upd z2)).mp h2)
        · exact e1.ow j l' ((OwnAt.set_iff z1 z2 (owns_upd z2)).mp h)
      have kp : Keep σ ρ1 (ρ1.set i (t.upd d')) := keep_set z1 z2
      refine k v F' H' r _ (a1.trans g1) e2 (c1.trans kp) ?_ (q r d' hr hn)
      cases r with
      | p d => exact g8
      | al i => exact g8.elim
      | o d =>
        obtain ⟨l2, o2, q1, q2, q3, q4, q5⟩ := g8
        exact ⟨l2, o2, q1, q2, q3, q4, fun j h => e1.noown q5 j ((OwnAt.set_iff z1 z2 (owns_upd z2)).mp h), e1.bnew q5⟩
end

/-! ### bodies -/
section
variable {K : PySem.W.Frag} {ts : TS} {N : List Str}
theorem start_get {vs : List V} {i : Nat} {s : Option V} (h : (start N vs)[i]? = some s) : (∃ v, vs[i]? = some v ∧ s = some v) ∨ (vs.length ≤ i ∧ s = none) := by
  unfold L2.start at h
  by_cases z : i < vs.length
  · rw [List.getElem?_append_left (by rw [List.length_map]; exact z), List.getElem?_map, List.getElem?_eq_getElem z] at h
    exact .inl ⟨_, List.getElem?_eq_getElem z, (Option.some.inj h).symm⟩
  · rw [List.getElem?_append_right (by rw [List.length_map]; omega), List.length_map] at h
    have q : s ∈ List.replicate (N.length - vs.length) (none : Option V) := List.mem_of_getElem? h
    exact .inr ⟨by omega, (List.mem_replicate.mp q).2⟩
theorem env_get {as : List SV} {n i : Nat} {t : SV} (h : (as ++ List.replicate n SV.any)[i]? = some t) : as[i]? = some t ∨ (as.length ≤ i ∧ t = .any) := by
  by_cases z : i < as.length
  · rw [List.getElem?_append_left z] at h
    exact .inl h
  · rw [List.getElem?_append_right (by omega)] at h
    have q := List.mem_of_getElem? h
    exact .inr ⟨by omega, (List.mem_replicate.mp q).2⟩
theorem start_len {vs : List V} (h : vs.length ≤ N.length) : (start N vs).length = N.length := by
  unfold L2.start
  rw [List.length_append, List.length_map, List.length_replicate]
  omega
/-- the environment in which a body of pure arguments starts -/
def env0 (N : List Str) (ds : List D) : Env := ds.map SV.p ++ List.replicate (N.length - ds.length) SV.any
def env1 (N : List Str) (d : D) (ds : List D) : Env := (.b 0 d :: ds.map SV.p) ++ List.replicate (N.length - (ds.length + 1)) SV.any
theorem fn0 {s : List D → (R → Prop) → Prop} {vs : List V} {H : Hp} {Q : VK} {Ex : XK} (hN : vs.length ≤ N.length) (h : Sp0 K s vs H Q Ex)
    (body : ∀ ds Rs, s ds Rs → S K ts (env0 N ds) { nx := fun _ => Rs (.p .non), rt := fun t _ => t.noal ∧ Rs t }) : ts { nx := fun _ H' => Q .non H', rt := Q } (start N vs) H := by
  obtain ⟨F, ds, Rs, hF, hr, hs, k⟩ := h
  have hlen := hr.length
  have sl : ∀ (i : Nat) (x : Option V) (t : SV), (start N vs)[i]? = some x → (env0 N ds)[i]? = some t → t = .any ∨ ∃ d v, t = .p d ∧ x = some v ∧ Rep K F d v := fun i x t h1 h2 => by
    rcases env_get h2 with q | ⟨q1, q2⟩
    · rw [List.getElem?_map] at q
      cases w : ds[i]? with
      | none => rw [w] at q; cases q
      | some d =>
        rw [w] at q
        cases q
        obtain ⟨v, w1, w2⟩ := hr.get w
        rcases start_get h1 with ⟨v', z1, z2⟩ | ⟨z1, z2⟩
        · rw [w1] at z1
          cases z1
          exact .inr ⟨d, v, rfl, z2, w2⟩
        · rw [List.getElem?_eq_none z1] at w1; cases w1
    · exact .inl q2
  have noown : ∀ i l, ¬ OwnAt (start N vs) (env0 N ds) i l := fun i l ⟨h1, t, h2, h3⟩ => by
    rcases sl i _ t h1 h2 with q | ⟨d, v, q, _⟩
    · subst q; cases h3
    · subst q; cases h3
  have e : EnvOk K ⟨F, H, fun _ => False, []⟩ F H (start N vs) (env0 N ds) :=
    ⟨by rw [start_len hN]; unfold env0; rw [List.length_append, List.length_map, List.length_replicate]; omega, hF, Same.refl F, fun a o h => .inl h, fun a o h _ => h, fun i x t h1 h2 => by
      rcases sl i x t h1 h2 with q | ⟨d, v, q, q2, q3⟩
      · subst q; trivial
      · subst q; exact ⟨v, q2, q3⟩, fun i j l h _ => (noown i l h).elim, fun i l h => (noown i l h).elim⟩
  refine body ds Rs hs _ F H _ _ e ⟨fun σ F' H' ρ e' q => ?_, fun v σ F' H' t ρ e' x ⟨q1, q2⟩ => ?_, fun _ _ _ _ _ q => q.elim, fun _ _ _ _ _ q => q.elim⟩
  · refine k _ q .non F' H' e'.f0 (fun a o h => ?_) (fun a o h => e'.h0 a o h fun z => z) e'.fh rfl
    rcases e'.ff a o h with z | z | z
    · exact .inl z
    · exact .inr z
    · exact z.elim
  · refine k t q2 v F' H' e'.f0 (fun a o h => ?_) (fun a o h => e'.h0 a o h fun z => z) e'.fh ?_
    · rcases e'.ff a o h with z | z | z
      · exact .inl z
      · exact .inr z
      · exact z.elim
    · cases t with
      | p d => exact x
      | al i => exact q1.elim
      | o d =>
        obtain ⟨l, o, x1, x2, x3, x4, x5, x6⟩ := x
        refine ⟨l, o, x1, x2, x3, x4, ?_⟩
        rcases x6 with z | z
        · exact z.elim
        · exact z
theorem fn1 {s : List D → (R → D → Prop) → Prop} {vs : List V} {H : Hp} {Q : VK} {Ex : XK} (hN : vs.length ≤ N.length) (h : Sp1 K s vs H Q Ex)
    (body : ∀ d ds Rs, s (d :: ds) Rs → S K ts (env1 N d ds) { nx := fun ρ => ∃ d', ρ[0]? = some (.b 0 d') ∧ Rs (.p .non) d', rt := fun t ρ => t.noal ∧ ∃ d', ρ[0]? = some (.b 0 d') ∧ Rs t d' }) :
    ts { nx := fun _ H' => Q .non H', rt := Q } (start N vs) H := by
  obtain ⟨F, l, us, d, o, ds, Rs, rfl, hF, hl, ho, hf, hr, hs, k⟩ := h
  have hlen := hr.length
  have sl : ∀ (i : Nat) (x : Option V) (t : SV), (start N (.ref l :: us))[i]? = some x → (env1 N d ds)[i]? = some t → t = .any ∨ (∃ d v, t = .p d ∧ x = some v ∧ Rep K F d v) ∨ (i = 0 ∧ t = .b 0 d ∧ x = some (.ref l)) := fun i x t h1 h2 => by
    rcases env_get h2 with q | ⟨q1, q2⟩
    · cases i with
      | zero =>
        cases q
        rcases start_get h1 with ⟨v', z1, z2⟩ | ⟨z1, z2⟩
        · cases z1
          exact .inr (.inr ⟨rfl, rfl, z2⟩)
        · simp at z1
      | succ i =>
        rw [List.getElem?_cons_succ, List.getElem?_map] at q
        cases w : ds[i]? with
        | none => rw [w] at q; cases q
        | some d =>
          rw [w] at q
          cases q
          obtain ⟨v, w1, w2⟩ := hr.get w
          rcases start_get h1 with ⟨v', z1, z2⟩ | ⟨z1, z2⟩
          · rw [List.getElem?_cons_succ, w1] at z1
            cases z1
            exact .inr (.inl ⟨d, v, rfl, z2, w2⟩)
          · have := (List.getElem?_eq_some_iff.mp w1).1
            rw [List.length_cons] at z1
            omega
    · exact .inl q2
  have own : ∀ i l', OwnAt (start N (.ref l :: us)) (env1 N d ds) i l' → i = 0 ∧ l' = l := fun i l' ⟨h1, t, h2, h3⟩ => by
    rcases sl i _ t h1 h2 with q | ⟨d, v, q, _⟩ | ⟨q1, q2, q3⟩
    · subst q; cases h3
    · subst q; cases h3
    · cases q3
      exact ⟨q1, rfl⟩
  have e : EnvOk K ⟨F, H, fun a => a = l, [l]⟩ F H (start N (.ref l :: us)) (env1 N d ds) :=
    ⟨by rw [start_len hN]; unfold env1; rw [List.length_append, List.length_cons, List.length_map, List.length_replicate]; rw [List.length_cons] at hN; omega, hF, Same.refl F, fun a o h => .inl h, fun a o h _ => h, fun i x t h1 h2 => by
      rcases sl i x t h1 h2 with q | ⟨d, v, q, q2, q3⟩ | ⟨q1, q2, q3⟩
      · subst q; trivial
      · subst q; exact ⟨v, q2, q3⟩
      · subst q2; exact ⟨l, o, q3, rfl, hl, ho, hf⟩, fun i j l' h h' => (own i l' h).1.trans (own j l' h').1.symm, fun i l' h => .inl (own i l' h).2⟩
  have fin : ∀ {t : R} {v : V} {σ : L2.St} {F' H' : Hp} {ρ : Env} {d' : D}, EnvOk K ⟨F, H, fun a => a = l, [l]⟩ F' H' σ ρ → ρ[0]? = some (.b 0 d') → Rs t d' → ResNew K H F' H' v t → Q v H' := by
    intro t v σ F' H' ρ d' e' q1 q2 x
    obtain ⟨s', z1, l', o', z2, z3, z4, z5, z6⟩ := e'.slot q1
    cases z3
    refine k t d' q2 v F' H' o' e'.f0 (fun a u h => ?_) (fun a u h n => e'.h0 a u h n) e'.fh z4 z5 z6 x
    rcases e'.ff a u h with z | z | z
    · exact .inl z
    · exact .inr z
    · rw [show a = l from z, z6] at h; cases h
  refine body d ds Rs hs _ F H _ _ e ⟨fun σ F' H' ρ e' ⟨d', q1, q2⟩ => fin e' q1 q2 (show ResNew K H F' H' V.non (.p .non) from rfl), fun v σ F' H' t ρ e' x ⟨q0, d', q1, q2⟩ => fin e' q1 q2 ?_, fun _ _ _ _ _ q => q.elim, fun _ _ _ _ _ q => q.elim⟩
  cases t with
  | p d => exact x
  | al i => exact q0.elim
  | o d2 =>
    obtain ⟨l2, o2, x1, x2, x3, x4, x5, x6⟩ := x
    refine ⟨l2, o2, x1, x2, x3, x4, ?_⟩
    rcases x6 with z | z
    · -- the borrowed object is the first slot's
      obtain ⟨s', z1, l', o', z2, z3, z4, z5, z6⟩ := e'.slot q1
      cases z3
      exact absurd ⟨by rw [z1, z2, show l2 = l from z], _, q1, rfl⟩ (x5 0)
    · exact z
end
end VL
/-! VL5: operators, built-in calls, methods over data -/
namespace VL
open PySem PySem.Spec PyProof.Rows L2

/-! ### data as the library's own, for == and in -/
mutual
def D.py : D → PyData
  | .non => .none
  | .bl b => .bool b
  | .int i => .int i
  | .str s => .str s
  | .tup l => .tuple (D.pys l)
  | .lst l => .list (D.pys l)
  | .dic _ _ => .none
  | .ins _ _ _ => .none
  | .scr _ => .none
def D.pys : List D → List PyData
  | [] => []
  | d :: ds => D.py d :: D.pys ds
end
mutual
def D.pure : D → Bool
  | .tup l => D.pures l
  | .lst l => D.pures l
  | .dic _ _ => false
  | .ins _ _ _ => false
  | .scr _ => false
  | _ => true
def D.pures : List D → Bool
  | [] => true
  | d :: ds => D.pure d && D.pures ds
end
/-- what == takes: no dict, no instance; texts of signs; not nested too deep -/
def D.ok (d : D) : Bool := d.pure && SeqAt.shaped d.py
def D.isNon : D → Bool
  | .non => true
  | _ => false
def D.eqb (d e : D) : Bool := PyData.eqv d.py e.py
section
variable {K : PySem.W.Frag} {F H : Hp}
mutual
theorem Rep.dp : ∀ (d : D) {v : V}, d.pure = true → Rep K F d v → Same F H → Dp K H v d.py
  | .non, v, _, h, _ => by rw [show v = V.non from h]; unfold D.py; exact .non
  | .bl b, v, _, h, _ => by rw [show v = V.bl b from h]; unfold D.py; exact .bl b
  | .int i, v, _, h, _ => by rw [show v = V.int i from h]; unfold D.py; exact .int i
  | .str s, v, _, h, _ => by rw [show v = V.str s from h]; unfold D.py; exact .str s
  | .tup l, v, p, h, e => by
    obtain ⟨a, xs, h1, h2, h3⟩ := h
    rw [h1]
    unfold D.py
    unfold D.pure at p
    exact .tup (sqt_mono e h2) (Reps.dp l p h3.1 e)
  | .lst l, v, p, h, e => by
    obtain ⟨a, xs, h1, h2, h3⟩ := h
    rw [h1]
    unfold D.py
    unfold D.pure at p
    exact .lst (SqL.of (e _ _ h2)) (Reps.dp l p h3.1 e)
  | .dic _ _, _, p, _, _ => by unfold D.pure at p; cases p
  | .ins _ _ _, _, p, _, _ => by unfold D.pure at p; cases p
  | .scr _, _, p, _, _ => by unfold D.pure at p; cases p
theorem Reps.dp : ∀ (ds : List D) {xs : List V}, D.pures ds = true → Reps K F ds xs → Same F H → DpAll K H xs (D.pys ds)
  | [], xs, _, h, _ => by rw [show xs = [] from h]; unfold D.pys; exact .nil
  | d :: ds, xs, p, h, e => by
    obtain ⟨x, r, h1, h2, h3⟩ := h
    unfold D.pures at p
    rw [Bool.and_eq_true] at p
    rw [h1]
    unfold D.pys
    exact .cons (Rep.dp d p.1 h2 e) (Reps.dp ds p.2 h3 e)
end
end

/-! ### unions of the library's rules -/
def rOr (r r' : R2) : R2 := fun x y H Q => r x y H Q ∨ r' x y H Q
def rStrAdd : R2 := fun x y H Q => ∃ i j, x = .str i ∧ y = .str j ∧ i.length + j.length ≤ sizeLine ∧ Q (.str (i ++ j)) H
def rAddU (K : PySem.W.Frag) : R2 := rOr (rI0 fun i j => .int (i + j)) (rOr rStrAdd (rOr rCat (rCatA K)))
def rMulU : R2 := rOr (rI CMul fun i j => .int (i * j)) rRep
def rEqU (K : PySem.W.Frag) : R2 := rOr rEq (rEqD K)
def rNeU (K : PySem.W.Frag) : R2 := rOr rNe (rNeD K)
def rSign (neg : Bool) : R2 := fun x y H Q => ∃ (c : Nat) (z : Str), x = .str ⟨#[c]⟩ ∧ y = .str z ∧ Q (.bl (if neg then !decide (c ∈ z.cps.toList) else decide (c ∈ z.cps.toList))) H
def rInDU (K : PySem.W.Frag) (neg : Bool) : R2 := fun x y H Q => ∃ d ds, Dp K H x d ∧ Dp K H y (.list ds) ∧ SeqAt.shaped d = true ∧ SeqAt.shaped (.list ds) = true ∧ Q (.bl (if neg then !ds.any fun z => PyData.eqv z d else ds.any fun z => PyData.eqv z d)) H
def rInU (K : PySem.W.Frag) (neg : Bool) : R2 := rOr (rIn K neg) (rOr (rSign neg) (rInDU K neg))
section
variable {X : Cx}
theorem op_addU : OpR X (binaryOp .Add) (rAddU X.K) := op_add.or (op_add_str.or (op_cat.or op_catA))
theorem op_mulU : OpR X (binaryOp .Mult) rMulU := op_mul.or op_rep
theorem op_eqU (hu : X.A.units + 64 < cLine) : OpR X (compareOp .Eq) (rEqU X.K) := op_eq.or (op_eqD hu)
theorem op_neU (hu : X.A.units + 64 < cLine) : OpR X (compareOp .NotEq) (rNeU X.K) := op_ne.or (op_neD hu)
theorem op_inU (hu : X.A.units + 65 < cLine) : OpR X (compareOp .In) (rInU X.K false) := op_in_seq.or (op_in_sign.or (op_inD hu))
theorem op_notInU (hu : X.A.units + 65 < cLine) : OpR X (compareOp .NotIn) (rInU X.K true) := op_notIn_seq.or (op_notIn_sign.or (op_notInD hu))
theorem hu65 {k : Nat} {A : Around} (r : Room k A) : A.units + 65 < cLine := by
  have := r.un
  have := r.units
  omega
end

/-! ### operators on data -/
section
variable {K : PySem.W.Frag} {ρ ρ' : Env} {i j : Nat} {d e : D} {P : R → Env → Prop} {r r' : R2}
theorem o_or1 {t1 t2 : R} (h : O2 K r t1 t2 ρ P) : O2 K (rOr r r') t1 t2 ρ P := fun B F H σ e v1 v2 x1 p1 x2 p2 Q k => .inl (h B F H σ e v1 v2 x1 p1 x2 p2 Q k)
theorem o_or2 {t1 t2 : R} (h : O2 K r' t1 t2 ρ P) : O2 K (rOr r r') t1 t2 ρ P := fun B F H σ e v1 v2 x1 p1 x2 p2 Q k => .inr (h B F H σ e v1 v2 x1 p1 x2 p2 Q k)
/-- an operation on two data whose answer is a flat value -/
theorem o_flat {t1 t2 : D} {z : D} {zv : V} (hz : ∀ F, Rep K F z zv) (h : ∀ F H v1 v2, Same F H → Rep K F t1 v1 → Rep K F t2 v2 → ∀ Q : VK, Q zv H → r v1 v2 H Q) (q : P (.p z) ρ) : O2 K r (.p t1) (.p t2) ρ P := fun B F H σ e v1 v2 x1 p1 x2 p2 Q k =>
  h F H v1 v2 e.fh x1 x2 Q (k zv F H (.p z) ρ (Same.refl F) e Keep.refl (hz F) q)
theorem o_i {f : Int → Int → Int} {a b : Int} (q : P (.p (.int (f a b))) ρ) : O2 K (rI0 fun i j => .int (f i j)) (.p (.int a)) (.p (.int b)) ρ P :=
  o_flat (z := .int (f a b)) (fun _ => rfl) (fun F H v1 v2 _ h1 h2 Q k => ⟨a, b, h1, h2, k⟩) q
theorem o_iC {C : Int → Int → Prop} {f : Int → Int → Int} {a b : Int} (hc : C a b) (q : P (.p (.int (f a b))) ρ) : O2 K (rI C fun i j => .int (f i j)) (.p (.int a)) (.p (.int b)) ρ P :=
  o_flat (z := .int (f a b)) (fun _ => rfl) (fun F H v1 v2 _ h1 h2 Q k => ⟨a, b, h1, h2, hc, k⟩) q
theorem o_ib {f : Int → Int → Bool} {a b : Int} (q : P (.p (.bl (f a b))) ρ) : O2 K (rI0 fun i j => .bl (f i j)) (.p (.int a)) (.p (.int b)) ρ P :=
  o_flat (z := .bl (f a b)) (fun _ => rfl) (fun F H v1 v2 _ h1 h2 Q k => ⟨a, b, h1, h2, k⟩) q
theorem o_addI {a b : Int} (q : P (.p (.int (a + b))) ρ) : O2 K (rAddU K) (.p (.int a)) (.p (.int b)) ρ P := o_or1 (o_i (f := fun i j => i + j) q)
theorem o_mulI {a b : Int} (hc : CMul a b) (q : P (.p (.int (a * b))) ρ) : O2 K rMulU (.p (.int a)) (.p (.int b)) ρ P := o_or1 (o_iC (f := fun i j => i * j) hc q)
theorem o_addS {a b : Str} (hl : a.length + b.length ≤ sizeLine) (q : P (.p (.str (a ++ b))) ρ) : O2 K (rAddU K) (.p (.str a)) (.p (.str b)) ρ P :=
  o_or2 (o_or1 (o_flat (z := .str (a ++ b)) (fun _ => rfl) (fun F H v1 v2 _ h1 h2 Q k => ⟨a, b, h1, h2, hl, k⟩) q))
theorem o_un {f : Int → Int} {a : Int} (q : P (.p (.int (f a))) ρ) : O1 K (rU fun i => .int (f i)) (.p (.int a)) ρ P := fun B F H σ e v x1 p1 Q k =>
  ⟨a, x1, k _ F H (.p (.int (f a))) ρ (Same.refl F) e Keep.refl rfl q⟩
/-- a list as it may be read: data, or what a slot owns -/
def RdL (ρ : Env) (t : R) (ds : List D) : Prop := match t with
  | .p d => d = .lst ds
  | .o _ => False
  | .al i => ∃ s, ρ[i]? = some s ∧ s.owns = true ∧ s.cont = .lst ds
theorem RdL.get {t : R} {ds : List D} {B : Bs} {F H : Hp} {σ : L2.St} {v : V} (h : RdL ρ t ds) (e : EnvOk K B F H σ ρ) (x : ResOk K B F H σ ρ v t) : ∃ a xs, v = .ref a ∧ H a = some (.lst xs) ∧ Reps K F ds xs ∧ ds.length ≤ sizeLine := by
  cases t with
  | p d =>
    rw [show d = .lst ds from h] at x
    obtain ⟨a, xs, h1, h2, h3⟩ := x
    exact ⟨a, xs, h1, e.fh _ _ h2, h3⟩
  | o d => exact h.elim
  | al i =>
    obtain ⟨s, h1, h2, h3⟩ := h
    obtain ⟨l, x1, x2⟩ := x
    obtain ⟨t', o, y1, y2, y3, y4⟩ := e.own x2
    rw [h1] at y1
    cases y1
    rw [h3] at y3
    obtain ⟨xs, z1, z2⟩ := y3
    exact ⟨l, xs, x1, by rw [y2, z1], z2⟩
theorem rdl_p {ds : List D} : RdL ρ (.p (.lst ds)) ds := rfl
theorem rdl_o {ds : List D} (h : ρ[i]? = some (.o (.lst ds))) : RdL ρ (.al i) ds := ⟨_, h, rfl, rfl⟩
theorem rdl_b {ds : List D} {k : Nat} (h : ρ[i]? = some (.b k (.lst ds))) : RdL ρ (.al i) ds := ⟨_, h, rfl, rfl⟩
/-- a new list, a new tuple as an answer -/
theorem newL {B : Bs} {F H : Hp} {σ : L2.St} {Q : VK} {ds : List D} {xs : List V} (e : EnvOk K B F H σ ρ) (r : Reps K F ds xs) (b : ds.length ≤ sizeLine) (q : P (.o (.lst ds)) ρ)
    (k : ∀ v F' H' t ρ', Same F F' → EnvOk K B F' H' σ ρ' → Keep σ ρ ρ' → ResOk K B F' H' σ ρ' v t → P t ρ' → Q v H') : ∀ p, H p = none → Q (.ref p) (upd H p (.lst xs)) := fun p hp =>
  k _ F _ (.o (.lst ds)) ρ (Same.refl F) (e.new hp) Keep.refl ⟨p, _, rfl, upd_same, ⟨xs, rfl, r, b⟩, e.fnone hp, e.noown hp, e.bnew hp⟩ q
theorem newT {B : Bs} {F H : Hp} {σ : L2.St} {Q : VK} {ds : List D} {xs : List V} (e : EnvOk K B F H σ ρ) (r : Reps K F ds xs) (b : ds.length ≤ sizeLine) (q : P (.p (.tup ds)) ρ)
    (k : ∀ v F' H' t ρ', Same F F' → EnvOk K B F' H' σ ρ' → Keep σ ρ ρ' → ResOk K B F' H' σ ρ' v t → P t ρ' → Q v H') : ∀ p, H p = none → Q (.ref p) (upd H p (.tup xs)) := fun p hp => by
  have hs : Same F (upd F p (.tup xs)) := same_new (e.fnone hp)
  exact k _ _ _ (.p (.tup ds)) ρ hs (e.alloc hp) Keep.refl ⟨p, xs, rfl, SqT.of upd_same, Reps.mono hs ds r, b⟩ q
theorem o_addL {t1 t2 : R} {ds es : List D} (h1 : RdL ρ t1 ds) (h2 : RdL ρ t2 es) (hl : ds.length + es.length ≤ sizeLine) (q : P (.o (.lst (ds ++ es))) ρ) : O2 K (rAddU K) t1 t2 ρ P :=
  o_or2 (o_or2 (o_or1 fun B F H σ e v1 v2 x1 p1 x2 p2 Q k => by
    obtain ⟨a, xs, y1, y2, y3, _⟩ := h1.get e x1
    obtain ⟨b, ys, z1, z2, z3, _⟩ := h2.get e x2
    exact ⟨a, b, xs, ys, y1, z1, y2, z2, by rw [y3.length, z3.length]; exact hl, newL e (y3.append z3) (by rw [List.length_append]; exact hl) q k⟩))
theorem o_addT {ds es : List D} (hl : ds.length + es.length ≤ sizeLine) (q : P (.p (.tup (ds ++ es))) ρ) : O2 K (rAddU K) (.p (.tup ds)) (.p (.tup es)) ρ P :=
  o_or2 (o_or2 (o_or2 fun B F H σ e v1 v2 ⟨a, xs, y1, y2, y3, yb⟩ p1 ⟨b, ys, z1, z2, z3, zb⟩ p2 Q k => by
    refine ⟨a, b, xs, ys, y1, z1, sqt_mono e.fh y2, sqt_mono e.fh z2, by rw [y3.length, z3.length]; exact hl, fun h => ?_, fun _ h => ?_, fun _ _ => newT e (y3.append z3) (by rw [List.length_append]; exact hl) q k⟩
    · have hd : ds = [] := List.eq_nil_of_length_eq_zero (by rw [← y3.length, h]; rfl)
      subst hd
      exact k _ F H (.p (.tup ([] ++ es))) ρ (Same.refl F) e Keep.refl ⟨b, ys, rfl, z2, z3, zb⟩ q
    · have hd : es = [] := List.eq_nil_of_length_eq_zero (by rw [← z3.length, h]; rfl)
      subst hd
      rw [List.append_nil] at q
      exact k _ F H (.p (.tup ds)) ρ (Same.refl F) e Keep.refl ⟨a, xs, rfl, y2, y3, yb⟩ q))
theorem o_repL {t1 : R} {ds : List D} {n : Int} (h1 : RdL ρ t1 ds) (hn : -(2 ^ 63) ≤ n ∧ n < 2 ^ 63) (hl : ds.length * n.toNat ≤ sizeLine) (q : P (.o (.lst (List.replicate n.toNat ds).flatten)) ρ) : O2 K rMulU t1 (.p (.int n)) ρ P :=
  o_or2 fun B F H σ e v1 v2 x1 p1 x2 p2 Q k => by
    obtain ⟨a, xs, y1, y2, y3, _⟩ := h1.get e x1
    exact ⟨a, n, xs, y1, x2, y2, hn.1, hn.2, by rw [y3.length]; exact hl, newL e (y3.rep _) (by rw [List.length_flatten, List.map_replicate, List.sum_replicate_nat, Nat.mul_comm]; exact hl) q k⟩
/-! ### == and != -/
theorem o_eqI {a b : Int} (q : P (.p (.bl (decide (a = b)))) ρ) : O2 K (rEqU K) (.p (.int a)) (.p (.int b)) ρ P :=
  o_or1 (o_flat (z := .bl (decide (a = b))) (fun _ => rfl) (fun F H v1 v2 _ h1 h2 Q k => by
    rw [show v1 = V.int a from h1, show v2 = V.int b from h2]
    exact ⟨rfl, by simpa using k⟩) q)
theorem o_eqS {a b : Str} (q : P (.p (.bl (decide (a = b)))) ρ) : O2 K (rEqU K) (.p (.str a)) (.p (.str b)) ρ P :=
  o_or1 (o_flat (z := .bl (decide (a = b))) (fun _ => rfl) (fun F H v1 v2 _ h1 h2 Q k => by
    rw [show v1 = V.str a from h1, show v2 = V.str b from h2]
    exact ⟨rfl, by simpa using k⟩) q)
theorem o_eqB {a b : Bool} (q : P (.p (.bl (decide (a = b)))) ρ) : O2 K (rEqU K) (.p (.bl a)) (.p (.bl b)) ρ P :=
  o_or1 (o_flat (z := .bl (decide (a = b))) (fun _ => rfl) (fun F H v1 v2 _ h1 h2 Q k => by
    rw [show v1 = V.bl a from h1, show v2 = V.bl b from h2]
    exact ⟨rfl, by simpa using k⟩) q)
theorem ok_parts {d : D} (h : d.ok = true) : d.pure = true ∧ SeqAt.shaped d.py = true := by
  unfold D.ok at h
  rw [Bool.and_eq_true] at h
  exact h
theorem o_eqD (hd : d.ok = true) (he : e.ok = true) (q : P (.p (.bl (D.eqb d e))) ρ) : O2 K (rEqU K) (.p d) (.p e) ρ P :=
  o_or2 (o_flat (z := .bl (D.eqb d e)) (fun _ => rfl) (fun F H v1 v2 hs h1 h2 Q k => ⟨d.py, e.py, Rep.dp d (ok_parts hd).1 h1 hs, Rep.dp e (ok_parts he).1 h2 hs, (ok_parts hd).2, (ok_parts he).2, k⟩) q)
theorem o_neI {a b : Int} (q : P (.p (.bl (!decide (a = b)))) ρ) : O2 K (rNeU K) (.p (.int a)) (.p (.int b)) ρ P :=
  o_or1 (o_flat (z := .bl (!decide (a = b))) (fun _ => rfl) (fun F H v1 v2 _ h1 h2 Q k => by
    rw [show v1 = V.int a from h1, show v2 = V.int b from h2]
    exact ⟨rfl, by simpa using k⟩) q)
theorem o_neS {a b : Str} (q : P (.p (.bl (!decide (a = b)))) ρ) : O2 K (rNeU K) (.p (.str a)) (.p (.str b)) ρ P :=
  o_or1 (o_flat (z := .bl (!decide (a = b))) (fun _ => rfl) (fun F H v1 v2 _ h1 h2 Q k => by
    rw [show v1 = V.str a from h1, show v2 = V.str b from h2]
    exact ⟨rfl, by simpa using k⟩) q)
theorem o_neB {a b : Bool} (q : P (.p (.bl (!decide (a = b)))) ρ) : O2 K (rNeU K) (.p (.bl a)) (.p (.bl b)) ρ P :=
  o_or1 (o_flat (z := .bl (!decide (a = b))) (fun _ => rfl) (fun F H v1 v2 _ h1 h2 Q k => by
    rw [show v1 = V.bl a from h1, show v2 = V.bl b from h2]
    exact ⟨rfl, by simpa using k⟩) q)
theorem o_neD (hd : d.ok = true) (he : e.ok = true) (q : P (.p (.bl (!D.eqb d e))) ρ) : O2 K (rNeU K) (.p d) (.p e) ρ P :=
  o_or2 (o_flat (z := .bl (!D.eqb d e)) (fun _ => rfl) (fun F H v1 v2 hs h1 h2 Q k => ⟨d.py, e.py, Rep.dp d (ok_parts hd).1 h1 hs, Rep.dp e (ok_parts he).1 h2 hs, (ok_parts hd).2, (ok_parts he).2, k⟩) q)
theorem o_isN (q : P (.p (.bl d.isNon)) ρ) : O2 K (fun x y H Q => y = .non ∧ Q (.bl (decide (x = .non))) H) (.p d) (.p .non) ρ P :=
  o_flat (z := .bl d.isNon) (fun _ => rfl) (fun F H v1 v2 _ h1 h2 Q k => by
    refine ⟨h2, ?_⟩
    cases d with
    | non => rw [show v1 = V.non from h1]; exact k
    | bl b => rw [show v1 = V.bl b from h1]; exact k
    | int b => rw [show v1 = V.int b from h1]; exact k
    | str b => rw [show v1 = V.str b from h1]; exact k
    | tup l => obtain ⟨a, _, h, _⟩ := h1; rw [h]; exact k
    | lst l => obtain ⟨a, _, h, _⟩ := h1; rw [h]; exact k
    | dic _ l => obtain ⟨a, _, h, _⟩ := h1; rw [h]; exact k
    | ins _ _ l => obtain ⟨a, _, _, h, _⟩ := h1; rw [h]; exact k
    | scr ns => obtain ⟨a, h, _⟩ := h1; rw [h]; exact k) q
theorem o_notN (q : P (.p (.bl (!d.isNon))) ρ) : O2 K (fun x y H Q => y = .non ∧ Q (.bl (!decide (x = .non))) H) (.p d) (.p .non) ρ P :=
  o_flat (z := .bl (!d.isNon)) (fun _ => rfl) (fun F H v1 v2 _ h1 h2 Q k => by
    refine ⟨h2, ?_⟩
    cases d with
    | non => rw [show v1 = V.non from h1]; exact k
    | bl b => rw [show v1 = V.bl b from h1]; exact k
    | int b => rw [show v1 = V.int b from h1]; exact k
    | str b => rw [show v1 = V.str b from h1]; exact k
    | tup l => obtain ⟨a, _, h, _⟩ := h1; rw [h]; exact k
    | lst l => obtain ⟨a, _, h, _⟩ := h1; rw [h]; exact k
    | dic _ l => obtain ⟨a, _, h, _⟩ := h1; rw [h]; exact k
    | ins _ _ l => obtain ⟨a, _, _, h, _⟩ := h1; rw [h]; exact k
    | scr ns => obtain ⟨a, h, _⟩ := h1; rw [h]; exact k) q
theorem o_ltS {a b : Str} (q : P (.p (.bl (decide (a.cps.toList < b.cps.toList)))) ρ) : O2 K (fun x y H Q => ∃ i j, x = .str i ∧ y = .str j ∧ Q (.bl (decide (i.cps.toList < j.cps.toList))) H) (.p (.str a)) (.p (.str b)) ρ P :=
  o_flat (z := .bl (decide (a.cps.toList < b.cps.toList))) (fun _ => rfl) (fun F H v1 v2 _ h1 h2 Q k => ⟨a, b, h1, h2, k⟩) q
/-! ### in -/
theorem o_inSign {c : Nat} {z : Str} {neg : Bool} (q : P (.p (.bl (if neg then !decide (c ∈ z.cps.toList) else decide (c ∈ z.cps.toList)))) ρ) : O2 K (rInU K neg) (.p (.str ⟨#[c]⟩)) (.p (.str z)) ρ P :=
  o_or2 (o_or1 (o_flat (z := .bl _) (fun _ => rfl) (fun F H v1 v2 _ h1 h2 Q k => ⟨c, z, h1, h2, k⟩) q))
theorem o_inL {ds : List D} {neg : Bool} (hd : d.ok = true) (he : (D.lst ds).ok = true) (q : P (.p (.bl (if neg then !ds.any (fun z => D.eqb z d) else ds.any (fun z => D.eqb z d)))) ρ) : O2 K (rInU K neg) (.p d) (.p (.lst ds)) ρ P :=
  o_or2 (o_or2 (o_flat (z := .bl _) (fun _ => rfl) (fun F H v1 v2 hs h1 h2 Q k => by
    have g2 := Rep.dp (.lst ds) (ok_parts he).1 h2 hs
    have s2 := (ok_parts he).2
    unfold D.py at g2 s2
    refine ⟨d.py, D.pys ds, Rep.dp d (ok_parts hd).1 h1 hs, g2, (ok_parts hd).2, s2, ?_⟩
    have ea : ∀ l : List D, (D.pys l).any (fun z => PyData.eqv z d.py) = l.any (fun z => D.eqb z d) := by
      intro l
      induction l with
      | nil => unfold D.pys; rfl
      | cons x r ih => unfold D.pys; rw [List.any_cons, List.any_cons, ih]; rfl
    rw [ea]
    exact k) q))
/-! ### items -/
theorem atI_reps {F : Hp} {ds : List D} {xs : List V} {n : Int} (r : Reps K F ds xs) (h : atI ds n = some d) : ∃ x, atI xs n = some x ∧ Rep K F d x := by
  unfold atI at h ⊢
  rw [r.length]
  cases q : ixN ds.length n with
  | none => rw [q] at h; cases h
  | some j =>
    rw [q] at h
    exact r.get h
theorem o_ixL {t : R} {ds : List D} {n : Int} (h : RdL ρ t ds) (ha : atI ds n = some d) (q : P (.p d) ρ) : O2 K (rIx K) t (.p (.int n)) ρ P := fun B F H σ e v1 v2 x1 p1 x2 p2 Q k => by
  obtain ⟨a, xs, y1, y2, y3, _⟩ := h.get e x1
  obtain ⟨x, z1, z2⟩ := atI_reps y3 ha
  exact .inl ⟨a, xs, n, x, y1, x2, SqL.of y2, z1, k x F H (.p d) ρ (Same.refl F) e Keep.refl z2 q⟩
theorem o_ixT {ds : List D} {n : Int} (ha : atI ds n = some d) (q : P (.p d) ρ) : O2 K (rIx K) (.p (.tup ds)) (.p (.int n)) ρ P := fun B F H σ e v1 v2 ⟨a, xs, y1, y2, y3, _⟩ p1 x2 p2 Q k => by
  obtain ⟨x, z1, z2⟩ := atI_reps y3 ha
  exact .inr (.inl ⟨a, xs, n, x, y1, x2, sqt_mono e.fh y2, z1, k x F H (.p d) ρ (Same.refl F) e Keep.refl z2 q⟩)
theorem o_ixS {s : Str} {n : Int} {c : Nat} (hl : s.length ≤ sizeLine) (ha : atI s.cps.toList n = some c) (q : P (.p (.str ⟨#[c]⟩)) ρ) : O2 K (rIx K) (.p (.str s)) (.p (.int n)) ρ P := fun B F H σ e v1 v2 x1 p1 x2 p2 Q k =>
  .inr (.inr ⟨s, n, c, x1, x2, hl, ha, k _ F H (.p (.str ⟨#[c]⟩)) ρ (Same.refl F) e Keep.refl rfl q⟩)
theorem o_ixC {ns : List Int} {n m : Int} (ha : atI ns n = some m) (q : P (.p (.int m)) ρ) : O2 K (rIx K) (.p (.scr ns)) (.p (.int n)) ρ P := fun B F H σ e v1 v2 ⟨a, y1, y2⟩ p1 x2 p2 Q k => by
  refine .inl ⟨a, _, n, .int m, y1, x2, e.fh.seq y2, ?_, k _ F H (.p (.int m)) ρ (Same.refl F) e Keep.refl rfl q⟩
  unfold atI at ha ⊢
  rw [List.length_map]
  cases w : ixN ns.length n with
  | none => rw [w] at ha; cases ha
  | some j =>
    rw [w] at ha
    show (ns.map V.int)[j]? = some (V.int m)
    rw [List.getElem?_map, show ns[j]? = some m from ha]
    rfl
/-! ### slices -/
def TOJ (K : PySem.W.Frag) (to : TO) (ρ : Env) (P : Option Int → Env → Prop) : Prop := ∀ (B : Bs) (F H : Hp) (σ : L2.St), EnvOk K B F H σ ρ → ∀ Q : Option Int → Hp → Prop,
  (∀ o F' H' ρ', Same F F' → EnvOk K B F' H' σ ρ' → Keep σ ρ ρ' → P o ρ' → Q o H') → to σ H Q
variable {PO : Option Int → Env → Prop} {te : TE}
theorem to_none (q : PO none ρ) : TOJ K tNoPart ρ PO := fun B F H σ e Q k => k none F H ρ (Same.refl F) e Keep.refl q
theorem to_some (h : E K te ρ fun t ρ1 => ∃ n, t = .p (.int n) ∧ PO (some n) ρ1) : TOJ K (tPart te) ρ PO := fun B F H σ e Q k =>
  h B F H σ e _ fun v F1 H1 t ρ1 a1 e1 c1 x1 ⟨n, y, q⟩ => by
    subst y
    exact ⟨n, x1, k (some n) F1 H1 ρ1 a1 e1 c1 q⟩
def OS (K : PySem.W.Frag) (r : V → Option Int → Option Int → Hp → VK → Prop) (t : R) (lo hi : Option Int) (ρ : Env) (P : R → Env → Prop) : Prop := ∀ (B : Bs) (F H : Hp) (σ : L2.St), EnvOk K B F H σ ρ → ∀ v, ResOk K B F H σ ρ v t → t.pend → ∀ Q : VK,
  (∀ v F' H' t ρ', Same F F' → EnvOk K B F' H' σ ρ' → Keep σ ρ ρ' → ResOk K B F' H' σ ρ' v t → P t ρ' → Q v H') → r v lo hi H Q
theorem e_sl {r : V → Option Int → Option Int → Hp → VK → Prop} {tl th : TO} (h : E K te ρ fun t ρ1 => TOJ K tl ρ1 fun lo ρ2 => TOJ K th ρ2 fun hi ρ3 => OS K r t.fz lo hi ρ3 P) : E K (tSl r te tl th) ρ P := fun B F H σ e Q k =>
  E.frozen (P := fun t ρ1 => TOJ K tl ρ1 fun lo ρ2 => TOJ K th ρ2 fun hi ρ3 => OS K r t lo hi ρ3 P) h e fun v F1 H1 t ρ1 a1 e1 c1 p1 x1 y1 =>
    y1 B F1 H1 σ e1 _ fun lo F2 H2 ρ2 a2 e2 c2 y2 => y2 B F2 H2 σ e2 _ fun hi F3 H3 ρ3 a3 e3 c3 y3 =>
      y3 B F3 H3 σ e3 v (x1.stay p1 (a2.trans a3) (c2.trans c3)) p1 Q fun v F' H' t ρ' a b c => k v F' H' t ρ' (((a1.trans a2).trans a3).trans a) b (((c1.trans c2).trans c3).trans c)
def rSlU (K : PySem.W.Frag) : V → Option Int → Option Int → Hp → VK → Prop := fun x lo hi H Q => rSlL K x lo hi H Q ∨ (fun x lo hi H Q => rSlA K x lo hi H Q ∨ rSlS x lo hi H Q) x lo hi H Q
theorem sl_U {X : Cx} : SlR X (rSlU X.K) := sl_list.or (sl_tupA.or sl_str)
def cutD {α : Type} (xs : List α) (lo hi : Option Int) : List α := (xs.drop (HT.sIx xs.length 0 lo)).take (HT.sIx xs.length xs.length hi - HT.sIx xs.length 0 lo)
theorem cutD_len {α : Type} (xs : List α) (lo hi : Option Int) : (cutD xs lo hi).length ≤ xs.length := by
  unfold cutD
  rw [List.length_take, List.length_drop]
  omega
theorem cut_reps {F : Hp} {ds : List D} {xs : List V} (r : Reps K F ds xs) (lo hi : Option Int) : Reps K F (cutD ds lo hi) (cutV xs lo hi) := by
  unfold cutD cutV
  rw [r.length]
  exact (r.drop _).take _
theorem os_L {t : R} {ds : List D} {lo hi : Option Int} (h : RdL ρ t ds) (q : P (.o (.lst (cutD ds lo hi))) ρ) : OS K (rSlU K) t lo hi ρ P := fun B F H σ e v x p Q k => by
  obtain ⟨a, xs, y1, y2, y3, yb⟩ := h.get e x
  exact .inl ⟨a, xs, y1, SqL.of y2, newL e (cut_reps y3 lo hi) (Nat.le_trans (cutD_len _ _ _) yb) q k⟩
theorem os_T {ds : List D} {lo hi : Option Int} (q : P (.p (.tup (cutD ds lo hi))) ρ) : OS K (rSlU K) (.p (.tup ds)) lo hi ρ P := fun B F H σ e v ⟨a, xs, y1, y2, y3, yb⟩ p Q k => by
  refine .inr (.inl ⟨a, xs, y1, sqt_mono e.fh y2, fun ⟨h1, h2⟩ => ?_, fun _ => newT e (cut_reps y3 lo hi) (Nat.le_trans (cutD_len _ _ _) yb) q k⟩)
  have hc : cutD ds lo hi = ds := by
    unfold cutD
    rw [← y3.length, h1, h2, List.drop_zero, Nat.sub_zero, y3.length, List.take_length]
  exact k _ F H (.p (.tup (cutD ds lo hi))) ρ (Same.refl F) e Keep.refl ⟨a, xs, rfl, y2, by rw [hc]; exact y3, by rw [hc]; exact yb⟩ q
theorem os_S {s : Str} {lo hi : Option Int} (hl : s.length ≤ sizeLine) (q : P (.p (.str (cutS s lo hi))) ρ) : OS K (rSlU K) (.p (.str s)) lo hi ρ P := fun B F H σ e v x p Q k =>
  .inr (.inr ⟨s, x, hl, k _ F H (.p (.str (cutS s lo hi))) ρ (Same.refl F) e Keep.refl rfl q⟩)
/-! ### built-in calls -/
variable {q : List V → Hp → VK → Prop}
theorem oa_flat {ts : List D} {z : D} {zv : V} (hz : ∀ F, Rep K F z zv) (h : ∀ F H vs, Same F H → Reps K F ts vs → ∀ Q : VK, Q zv H → q vs H Q) (w : P (.p z) ρ) : OA K q (ts.map R.p) ρ P := fun B F H σ e vs x Q k =>
  h F H vs e.fh x.reps Q (k zv F H (.p z) ρ (Same.refl F) e Keep.refl (hz F) w)
theorem oa_one {B : Bs} {F H : Hp} {σ : L2.St} {vs : List V} {t : R} (x : RessOk K B F H σ ρ vs [t]) : ∃ v, vs = [v] ∧ ResOk K B F H σ ρ v t := by
  match vs, x with
  | [v], ⟨_, y, _⟩ => exact ⟨v, rfl, y⟩
def rLenU (K : PySem.W.Frag) : List V → Hp → VK → Prop := fun xs H Q => (∃ x n, xs = [x] ∧ LenV K x H n ∧ Q (.int n) H) ∨ (∃ a kvs, xs = [V.ref a] ∧ H a = some (.dK kvs) ∧ Q (.int kvs.length) H)
theorem call_lenU {X : Cx} : CallR X (.builtin "len") (rLenU X.K) := call_len.or call_lenD
theorem oa_lenL {t : R} {ds : List D} (h : RdL ρ t ds) (w : P (.p (.int (ds.length : Int))) ρ) : OA K (rLenU K) [t] ρ P := fun B F H σ e vs x Q k => by
  obtain ⟨v, rfl, y⟩ := oa_one x
  obtain ⟨a, xs, y1, y2, y3, yb⟩ := h.get e y
  refine .inl ⟨v, ds.length, rfl, ?_, k _ F H (.p (.int (ds.length : Int))) ρ (Same.refl F) e Keep.refl rfl w⟩
  rw [y1]
  exact .inl ⟨xs, SqL.of y2, y3.length.symm⟩
theorem oa_lenC {ns : List Int} (w : P (.p (.int (ns.length : Int))) ρ) : OA K (rLenU K) [.p (.scr ns)] ρ P := fun B F H σ e vs x Q k => by
  obtain ⟨v, rfl, a, y1, y2⟩ := oa_one x
  refine .inl ⟨v, ns.length, rfl, ?_, k _ F H (.p (.int (ns.length : Int))) ρ (Same.refl F) e Keep.refl rfl w⟩
  rw [y1]
  exact .inl ⟨_, e.fh.seq y2, (List.length_map ..).symm⟩
theorem oa_lenT {ds : List D} (w : P (.p (.int (ds.length : Int))) ρ) : OA K (rLenU K) [.p (.tup ds)] ρ P := fun B F H σ e vs x Q k => by
  obtain ⟨v, rfl, a, xs, y1, y2, y3, yb⟩ := oa_one x
  refine .inl ⟨v, ds.length, rfl, ?_, k _ F H (.p (.int (ds.length : Int))) ρ (Same.refl F) e Keep.refl rfl w⟩
  rw [y1]
  exact .inr ⟨xs, sqt_mono e.fh y2, y3.length.symm⟩
theorem oa_lenS {s : Str} (hl : s.length ≤ sizeLine) (w : P (.p (.int (s.length : Int))) ρ) : OA K (rLenU K) [.p (.str s)] ρ P := fun B F H σ e vs x Q k => by
  obtain ⟨v, rfl, y⟩ := oa_one x
  refine .inl ⟨v, s.length, rfl, ?_, k _ F H (.p (.int (s.length : Int))) ρ (Same.refl F) e Keep.refl rfl w⟩
  rw [show v = V.str s from y]
  exact ⟨hl, rfl⟩
theorem oa_abs {n : Int} (w : P (.p (.int (if n < 0 then -n else n))) ρ) : OA K (fun xs H Q => ∃ i, xs = [.int i] ∧ Q (.int (if i < 0 then -i else i)) H) [.p (.int n)] ρ P :=
  oa_flat (ts := [.int n]) (z := .int (if n < 0 then -n else n)) (fun _ => rfl) (fun F H vs _ ⟨x, r, h1, h2, h3⟩ Q k => ⟨n, by rw [h1, show r = [] from h3, show x = V.int n from h2], k⟩) w
theorem oa_int {n : Int} (w : P (.p (.int n)) ρ) : OA K (fun xs H Q => (∃ i, xs = [.int i] ∧ Q (.int i) H) ∨ ∃ k, xs = [.bl k] ∧ Q (.int (if k then 1 else 0)) H) [.p (.int n)] ρ P :=
  oa_flat (ts := [.int n]) (z := .int n) (fun _ => rfl) (fun F H vs _ ⟨x, r, h1, h2, h3⟩ Q k => .inl ⟨n, by rw [h1, show r = [] from h3, show x = V.int n from h2], k⟩) w
theorem oa_intB {b : Bool} (w : P (.p (.int (if b then 1 else 0))) ρ) : OA K (fun xs H Q => (∃ i, xs = [.int i] ∧ Q (.int i) H) ∨ ∃ k, xs = [.bl k] ∧ Q (.int (if k then 1 else 0)) H) [.p (.bl b)] ρ P :=
  oa_flat (ts := [.bl b]) (z := .int (if b then 1 else 0)) (fun _ => rfl) (fun F H vs _ ⟨x, r, h1, h2, h3⟩ Q k => .inr ⟨b, by rw [h1, show r = [] from h3, show x = V.bl b from h2], k⟩) w
theorem oa_strI {n : Int} (hn : n.natAbs.log2 < 1920) (w : P (.p (.str (toString n))) ρ) : OA K (fun xs H Q => ∃ i, xs = [.int i] ∧ i.natAbs.log2 < 1920 ∧ Q (.str (toString i)) H) [.p (.int n)] ρ P :=
  oa_flat (ts := [.int n]) (z := .str (toString n)) (fun _ => rfl) (fun F H vs _ ⟨x, r, h1, h2, h3⟩ Q k => ⟨n, by rw [h1, show r = [] from h3, show x = V.int n from h2], hn, k⟩) w
theorem oa_max2 {a b : Int} (w : P (.p (.int (if b > a then b else a))) ρ) : OA K (fun xs H Q => ∃ i j, xs = [.int i, .int j] ∧ Q (.int (if j > i then j else i)) H) [.p (.int a), .p (.int b)] ρ P :=
  oa_flat (ts := [.int a, .int b]) (z := .int (if b > a then b else a)) (fun _ => rfl) (fun F H vs _ ⟨x, r, h1, h2, y, r2, h3, h4, h5⟩ Q k => ⟨a, b, by rw [h1, h3, show r2 = [] from h5, show x = V.int a from h2, show y = V.int b from h4], k⟩) w
theorem oa_min2 {a b : Int} (w : P (.p (.int (if b < a then b else a))) ρ) : OA K (fun xs H Q => ∃ i j, xs = [.int i, .int j] ∧ Q (.int (if j < i then j else i)) H) [.p (.int a), .p (.int b)] ρ P :=
  oa_flat (ts := [.int a, .int b]) (z := .int (if b < a then b else a)) (fun _ => rfl) (fun F H vs _ ⟨x, r, h1, h2, y, r2, h3, h4, h5⟩ Q k => ⟨a, b, by rw [h1, h3, show r2 = [] from h5, show x = V.int a from h2, show y = V.int b from h4], k⟩) w
theorem oa_sum {ns : List Int} {t : R} (h : RdL ρ t (ns.map D.int)) (w : P (.p (.int ns.sum)) ρ) : OA K (rSum K) [t] ρ P := fun B F H σ e vs x Q k => by
  obtain ⟨v, rfl, y⟩ := oa_one x
  obtain ⟨a, xs, y1, y2, y3, yb⟩ := h.get e y
  have z := y3.of_ints
  subst z y1
  exact ⟨a, ns, rfl, SqL.of y2, k _ F H (.p (.int ns.sum)) ρ (Same.refl F) e Keep.refl rfl w⟩
theorem oa_max {ns : List Int} {t : R} (h : RdL ρ t (ns.map D.int)) (h0 : 0 < ns.length) (w : ∀ m, m ∈ ns → (∀ y, y ∈ ns → y ≤ m) → P (.p (.int m)) ρ) : OA K (rMax K) [t] ρ P := fun B F H σ e vs x Q k => by
  obtain ⟨v, rfl, y⟩ := oa_one x
  obtain ⟨a, xs, y1, y2, y3, yb⟩ := h.get e y
  have z := y3.of_ints
  subst z y1
  exact ⟨a, ns, rfl, SqL.of y2, h0, fun m h1 h2 => k _ F H (.p (.int m)) ρ (Same.refl F) e Keep.refl rfl (w m h1 h2)⟩
theorem oa_any {bs : List Bool} {t : R} (h : RdL ρ t (bs.map D.bl)) (w : P (.p (.bl (bs.any id))) ρ) : OA K (rAny K) [t] ρ P := fun B F H σ e vs x Q k => by
  obtain ⟨v, rfl, y⟩ := oa_one x
  obtain ⟨a, xs, y1, y2, y3, yb⟩ := h.get e y
  have z := y3.of_bls
  subst z y1
  exact ⟨a, bs, rfl, SqL.of y2, k _ F H (.p (.bl (bs.any id))) ρ (Same.refl F) e Keep.refl rfl w⟩
theorem oa_all {bs : List Bool} {t : R} (h : RdL ρ t (bs.map D.bl)) (w : P (.p (.bl (bs.all id))) ρ) : OA K (rAll K) [t] ρ P := fun B F H σ e vs x Q k => by
  obtain ⟨v, rfl, y⟩ := oa_one x
  obtain ⟨a, xs, y1, y2, y3, yb⟩ := h.get e y
  have z := y3.of_bls
  subst z y1
  exact ⟨a, bs, rfl, SqL.of y2, k _ F H (.p (.bl (bs.all id))) ρ (Same.refl F) e Keep.refl rfl w⟩
def rListU (K : PySem.W.Frag) : List V → Hp → VK → Prop := fun xs H Q => ∃ p ys, xs = [.ref p] ∧ (SqL K H p ys ∨ SqT K H p ys) ∧ ∀ l, H l = none → Q (.ref l) (upd H l (.lst ys))
def rTupU (K : PySem.W.Frag) : List V → Hp → VK → Prop := fun xs H Q => ∃ p ys, xs = [.ref p] ∧ ((SqL K H p ys ∧ ∀ l, H l = none → Q (.ref l) (upd H l (.tup ys))) ∨ (SqT K H p ys ∧ Q (.ref p) H))
theorem call_listU {X : Cx} : CallR X (.type "list") (rListU X.K) := call_list_of
theorem call_tupU {X : Cx} : CallR X (.type "tuple") (rTupU X.K) := call_tuple_of
theorem PE.k {X : Cx} {e : Expr} {t t' : TE} (h : L2.PE X e t) (q : t = t') : L2.PE X e t' := q ▸ h
theorem PI.k {X : Cx} {g e : Expr} {t t' : TI} (h : L2.PI X g e t) (q : t = t') : L2.PI X g e t' := q ▸ h
theorem PG.k {X : Cx} {e : Expr} {t t' : TG} (h : L2.PG X e t) (q : t = t') : L2.PG X e t' := q ▸ h
theorem oa_listL {ds : List D} {t : R} (h : RdL ρ t ds) (w : P (.o (.lst ds)) ρ) : OA K (rListU K) [t] ρ P := fun B F H σ e vs x Q k => by
  obtain ⟨v, rfl, y⟩ := oa_one x
  obtain ⟨a, xs, y1, y2, y3, yb⟩ := h.get e y
  subst y1
  exact ⟨a, xs, rfl, .inl (SqL.of y2), newL e y3 yb w k⟩
theorem oa_listT {ds : List D} (w : P (.o (.lst ds)) ρ) : OA K (rListU K) [.p (.tup ds)] ρ P := fun B F H σ e vs x Q k => by
  obtain ⟨v, rfl, a, xs, y1, y2, y3, yb⟩ := oa_one x
  subst y1
  exact ⟨a, xs, rfl, .inr (sqt_mono e.fh y2), newL e y3 yb w k⟩
theorem oa_tupL {ds : List D} {t : R} (h : RdL ρ t ds) (w : P (.p (.tup ds)) ρ) : OA K (rTupU K) [t] ρ P := fun B F H σ e vs x Q k => by
  obtain ⟨v, rfl, y⟩ := oa_one x
  obtain ⟨a, xs, y1, y2, y3, yb⟩ := h.get e y
  subst y1
  exact ⟨a, xs, rfl, .inl ⟨SqL.of y2, newT e y3 yb w k⟩⟩
theorem oa_tupT {ds : List D} (w : P (.p (.tup ds)) ρ) : OA K (rTupU K) [.p (.tup ds)] ρ P := fun B F H σ e vs x Q k => by
  obtain ⟨v, rfl, a, xs, y1, y2, y3, yb⟩ := oa_one x
  subst y1
  exact ⟨a, xs, rfl, .inr ⟨sqt_mono e.fh y2, k _ F H (.p (.tup ds)) ρ (Same.refl F) e Keep.refl ⟨a, xs, rfl, y2, y3, yb⟩ w⟩⟩
/-! ### isinstance -/
def D.ty : D → Option String
  | .non => some "NoneType"
  | .bl _ => some "bool"
  | .int _ => some "int"
  | .str _ => some "str"
  | .tup _ => some "tuple"
  | .lst _ => some "list"
  | .dic _ _ => some "dict"
  | .ins _ _ _ => none
  | .scr _ => none
theorem Rep.tyx {F H : Hp} {n : String} (hs : Same F H) : ∀ {d : D} {v : V}, d.ty = some n → Rep K F d v → TyX K H v (.type n)
  | .non, v, h, r => by cases h; rw [show v = V.non from r]; exact .base .non
  | .bl b, v, h, r => by cases h; rw [show v = V.bl b from r]; exact .base (.bl b)
  | .int b, v, h, r => by cases h; rw [show v = V.int b from r]; exact .base (.int b)
  | .str b, v, h, r => by cases h; rw [show v = V.str b from r]; exact .base (.str b)
  | .tup l, v, h, ⟨a, xs, r1, r2, _⟩ => by
    cases h
    rw [r1]
    rcases sqt_mono hs r2 with (q | ⟨o, q⟩) | ⟨o, its, m, q1, q2, _⟩
    · exact .base (.tup q)
    · exact .fTuple q
    · exact .kTuple q1 q2
  | .lst l, v, h, ⟨a, xs, r1, r2, _⟩ => by cases h; rw [r1]; exact .base (.lst (hs _ _ r2))
  | .dic _ l, v, h, ⟨a, xs, r1, r2, _⟩ => by cases h; rw [r1]; exact .base (.dK (hs _ _ r2))
  | .ins _ _ _, v, h, _ => by cases h
  | .scr _, v, h, _ => by cases h
theorem oa_isi {n c : String} {b : Bool} (h : ρ[i]? = some (.p d)) (hd : d.ty = some n) (hk : kitB n c = some b) (w : P (.p (.bl b)) ρ) :
    E K (tCB (rIsi K) (tCons (tVar i) (tCons (tC (.ty c)) tNil))) ρ P := fun B F H σ e Q k => by
  obtain ⟨s, h1, v, hv, hr⟩ := e.slot h
  exact ⟨v, by rw [h1, hv], v, .ty c, .type n, .type c, b, rfl, .ty c, Rep.tyx e.fh hd hr, kit_ty hk, k _ F H (.p (.bl b)) ρ (Same.refl F) e Keep.refl rfl w⟩
theorem oa_isiO {c : String} {b : Bool} {s : SV} {n : String} (h : ρ[i]? = some s) (ho : s.owns = true) (hd : s.cont.ty = some n) (hk : kitB n c = some b) (w : P (.p (.bl b)) ρ) :
    E K (tCB (rIsi K) (tCons (tVar i) (tCons (tC (.ty c)) tNil))) ρ P := fun B F H σ e Q k => by
  obtain ⟨l, g⟩ := e.ownOf h ho
  obtain ⟨t', o, y1, y2, y3, y4⟩ := e.own g
  rw [h] at y1
  cases y1
  have z : Rep K H s.cont (.ref l) := OHold.rep (y3.mono e.fh) y2
  exact ⟨.ref l, g.1, .ref l, .ty c, .type n, .type c, b, rfl, .ty c, Rep.tyx (Same.refl H) hd z, kit_ty hk, k _ F H (.p (.bl b)) ρ (Same.refl F) e Keep.refl rfl w⟩
end
end VL
/-! VL6: methods of built-in types, stores, truth, += -/
namespace VL
open PySem PySem.Spec PyProof.Rows L2
def OM (K : PySem.W.Frag) (r : V → List V → Hp → VK → Prop) (t : R) (ts : List R) (ρ : Env) (P : R → Env → Prop) : Prop := ∀ (B : Bs) (F H : Hp) (σ : L2.St), EnvOk K B F H σ ρ → ∀ v vs, ResOk K B F H σ ρ v t → t.pend → RessOk K B F H σ ρ vs ts → ∀ Q : VK,
  (∀ v F' H' t ρ', Same F F' → EnvOk K B F' H' σ ρ' → Keep σ ρ ρ' → ResOk K B F' H' σ ρ' v t → P t ρ' → Q v H') → r v vs H Q
/-- the receiver's built-in type -/
def TyD (ρ : Env) (T : String) (t : R) : Prop := (T = "list" ∧ ∃ ds, RdL ρ t ds) ∨ (T = "str" ∧ ∃ s, t = .p (.str s)) ∨ (T = "dict" ∧ ∃ ks ds, t = .p (.dic ks ds) ∨ ∃ i s, t = .al i ∧ ρ[i]? = some s ∧ s.owns = true ∧ s.cont = .dic ks ds)
section
variable {K : PySem.W.Frag} {ρ ρ' : Env} {i j : Nat} {d e : D} {P : R → Env → Prop} {te to tb : TE} {ta : TA} {s : SV}
theorem TyD.ok {B : Bs} {F H : Hp} {σ : L2.St} {T : String} {v : V} {t : R} (h : TyD ρ T t) (e : EnvOk K B F H σ ρ) (x : ResOk K B F H σ ρ v t) : tyV K T v H := by
  rcases h with ⟨rfl, ds, h⟩ | ⟨rfl, s, h⟩ | ⟨rfl, ks, ds, h⟩
  · obtain ⟨a, xs, y1, y2, y3, _⟩ := h.get e x
    rw [y1]
    exact .inl ⟨rfl, xs, SqL.of y2⟩
  · subst h
    rw [show v = V.str s from x]
    exact rfl
  · rcases h with h | ⟨i, s, h, h1, h2, h3⟩
    · subst h
      obtain ⟨a, kvs, y1, y2, _⟩ := x
      rw [y1]
      exact .inr (.inr (.inl ⟨rfl, .inl ⟨kvs, e.fh _ _ y2⟩⟩))
    · subst h
      obtain ⟨l, x1, x2⟩ := x
      obtain ⟨t', o, y1, y2, y3, y4⟩ := e.own x2
      rw [h1] at y1
      cases y1
      rw [h3] at y3
      obtain ⟨kvs, z1, _⟩ := y3
      rw [x1]
      exact .inr (.inr (.inl ⟨rfl, .inl ⟨kvs, by rw [y2, z1]⟩⟩))
theorem e_bm {T : String} {r : V → List V → Hp → VK → Prop} (h : E K to ρ fun t ρ1 => TyD ρ1 T t.fz ∧ A K ta ρ1 fun ts ρ2 => OM K r t.fz ts ρ2 P) : E K (tBM K T r to ta) ρ P := fun B F H σ e Q k =>
  E.frozen (P := fun t ρ1 => TyD ρ1 T t ∧ A K ta ρ1 fun ts ρ2 => OM K r t ts ρ2 P) h e fun v F1 H1 t ρ1 a1 e1 c1 p1 x1 ⟨y0, y1⟩ =>
    ⟨y0.ok e1 x1, y1 B F1 H1 σ e1 _ fun vs F2 H2 ts ρ2 a2 e2 c2 x2 y2 =>
      y2 B F2 H2 σ e2 v vs (x1.stay p1 a2 c2) p1 x2 Q fun v F' H' t ρ' a b c => k v F' H' t ρ' ((a1.trans a2).trans a) b ((c1.trans c2).trans c)⟩
theorem e_bm0 {T : String} {r : V → List V → Hp → VK → Prop} (h : E K to ρ fun t ρ1 => TyD ρ1 T t.fz ∧ OM K r t.fz [] ρ1 P) : E K (tBM0 K T r to) ρ P := fun B F H σ e Q k =>
  E.frozen (P := fun t ρ1 => TyD ρ1 T t ∧ OM K r t [] ρ1 P) h e fun v F1 H1 t ρ1 a1 e1 c1 p1 x1 ⟨y0, y1⟩ =>
    ⟨y0.ok e1 x1, y1 B F1 H1 σ e1 v [] x1 p1 trivial Q fun v F' H' t ρ' a b c => k v F' H' t ρ' (a1.trans a) b (c1.trans c)⟩
/-- the list of a slot is rewritten -/
theorem wr_lst {B : Bs} {F H : Hp} {σ : L2.St} {v : V} {ds es : List D} (e : EnvOk K B F H σ ρ) (x : ResOk K B F H σ ρ v (.al i)) (h1 : ρ[i]? = some s) (h2 : s.owns = true) (h3 : s.cont = .lst ds) :
    ∃ l xs, v = .ref l ∧ H l = some (.lst xs) ∧ Reps K F ds xs ∧ (es.length ≤ sizeLine → ∀ ys, Reps K F es ys → EnvOk K B F (upd H l (.lst ys)) σ (ρ.set i (s.upd (.lst es)))) ∧ ds.length ≤ sizeLine := by
  obtain ⟨l, x1, x2⟩ := x
  obtain ⟨t', o, y1, y2, y3, y4⟩ := e.own x2
  rw [h1] at y1
  cases y1
  rw [h3] at y3
  obtain ⟨xs, z1, z2⟩ := y3
  exact ⟨l, xs, x1, by rw [y2, z1], z2.1, fun hz ys r => e.write x2 h1 ⟨ys, rfl, r, hz⟩, z2.2⟩
theorem om_append {ds : List D} (h1 : ρ[i]? = some s) (h2 : s.owns = true) (h3 : s.cont = .lst ds) (hl : ds.length < sizeLine) (q : P (.p .non) (ρ.set i (s.upd (.lst (ds ++ [d]))))) : OM K rAppend (.al i) [.p d] ρ P := fun B F H σ e v vs x p y Q k => by
  obtain ⟨w, rfl, y1⟩ := oa_one y
  obtain ⟨l, xs, z1, z2, z3, z4, zb⟩ := wr_lst (es := ds ++ [d]) e x h1 h2 h3
  exact ⟨l, xs, w, z1, rfl, z2, by rw [z3.length]; exact hl, k .non F _ (.p .non) _ (Same.refl F) (z4 (by rw [List.length_append, List.length_singleton]; exact hl) _ (z3.append (.one y1))) (keep_set h1 h2) rfl q⟩
theorem om_reverse {ds : List D} (h1 : ρ[i]? = some s) (h2 : s.owns = true) (h3 : s.cont = .lst ds) (q : P (.p .non) (ρ.set i (s.upd (.lst ds.reverse)))) : OM K rReverse (.al i) [] ρ P := fun B F H σ e v vs x p y Q k => by
  match vs, y with
  | [], _ =>
    obtain ⟨l, xs, z1, z2, z3, z4, zb⟩ := wr_lst (es := ds.reverse) e x h1 h2 h3
    exact ⟨l, xs, z1, rfl, z2, k .non F _ (.p .non) _ (Same.refl F) (z4 (by rw [List.length_reverse]; exact zb) _ z3.reverse) (keep_set h1 h2) rfl q⟩
theorem om_pop {ds : List D} (h1 : ρ[i]? = some s) (h2 : s.owns = true) (h3 : s.cont = .lst ds) (ha : ds[ds.length - 1]? = some d) (q : P (.p d) (ρ.set i (s.upd (.lst ds.dropLast)))) : OM K rPop (.al i) [] ρ P := fun B F H σ e v vs x p y Q k => by
  match vs, y with
  | [], _ =>
    obtain ⟨l, xs, z1, z2, z3, z4, zb⟩ := wr_lst (es := ds.dropLast) e x h1 h2 h3
    obtain ⟨w, w1, w2⟩ := z3.get ha
    exact ⟨l, xs, w, z1, rfl, z2, by rw [z3.length]; exact w1, k w F _ (.p d) _ (Same.refl F) (z4 (by rw [List.length_dropLast]; omega) _ z3.dropLast) (keep_set h1 h2) w2 q⟩
theorem om_extend {ds es : List D} {t : R} (h1 : ρ[i]? = some s) (h2 : s.owns = true) (h3 : s.cont = .lst ds) (h4 : RdL ρ t es) (hl : ds.length + es.length ≤ sizeLine) (q : P (.p .non) (ρ.set i (s.upd (.lst (ds ++ es))))) : OM K rExtend (.al i) [t] ρ P := fun B F H σ e v vs x p y Q k => by
  obtain ⟨w, rfl, y1⟩ := oa_one y
  obtain ⟨l, xs, z1, z2, z3, z4, zb⟩ := wr_lst (es := ds ++ es) e x h1 h2 h3
  obtain ⟨b, zs, w1, w2, w3, _⟩ := h4.get e y1
  exact ⟨l, b, xs, zs, z1, by rw [w1], z2, w2, by rw [z3.length, w3.length]; exact hl, k .non F _ (.p .non) _ (Same.refl F) (z4 (by rw [List.length_append]; exact hl) _ (z3.append w3)) (keep_set h1 h2) rfl q⟩
def rInsert : V → List V → Hp → VK → Prop := fun x vs H Q => ∃ (l : Addr) (xs : List V) (i : Int) (y : V), x = .ref l ∧ vs = [.int i, y] ∧ H l = some (.lst xs) ∧ xs.length < sizeLine ∧ 0 ≤ i ∧ i < 2 ^ 63 ∧
    Q .non (upd H l (.lst (xs.take i.toNat ++ [y] ++ xs.drop i.toNat)))
theorem om_insert {ds : List D} {n : Int} (h1 : ρ[i]? = some s) (h2 : s.owns = true) (h3 : s.cont = .lst ds) (hl : ds.length < sizeLine) (hn : 0 ≤ n ∧ n < 2 ^ 63) (q : P (.p .non) (ρ.set i (s.upd (.lst (ds.take n.toNat ++ [d] ++ ds.drop n.toNat))))) :
    OM K rInsert (.al i) [.p (.int n), .p d] ρ P := fun B F H σ e v vs x p y Q k => by
  match vs, y with
  | [w1, w2], ⟨_, y1, _, y2, _⟩ =>
    obtain ⟨l, xs, z1, z2, z3, z4, zb⟩ := wr_lst (es := ds.take n.toNat ++ [d] ++ ds.drop n.toNat) e x h1 h2 h3
    exact ⟨l, xs, n, w2, z1, by rw [show w1 = V.int n from y1], z2, by rw [z3.length]; exact hl, hn.1, hn.2, k .non F _ (.p .non) _ (Same.refl F) (z4 (by rw [List.length_append, List.length_append, List.length_take, List.length_drop, List.length_singleton]; omega) _ (((z3.take _).append (.one y2)).append (z3.drop _))) (keep_set h1 h2) rfl q⟩

/-! ### o[i] = e of a list -/
theorem ixN_set {n : Nat} {k : Int} {j : Nat} (h : ixN n k = some j) : j < n := by
  unfold ixN at h
  split at h
  · split at h
    · cases h; omega
    · cases h
  · split at h
    · cases h; omega
    · cases h
theorem s_setL {Q : Po} (h : E K te ρ fun t ρ1 => ∃ d, t.fz = .p d ∧ E K to ρ1 fun t1 ρ2 => ∃ i s ds, t1 = .al i ∧ E K tb ρ2 fun t2 ρ3 => ∃ k j, t2 = .p (.int k) ∧ ρ3[i]? = some s ∧ s.owns = true ∧ s.cont = .lst ds ∧ ixN ds.length k = some j ∧ Q.nx (ρ3.set i (s.upd (.lst (ds.set j d))))) :
    S K (tAsg te (gSub to tb rSetL)) ρ Q := fun B F H σ D e k =>
  E.frozen (P := fun t ρ1 => ∃ d, t = .p d ∧ E K to ρ1 fun t1 ρ2 => ∃ i s ds, t1 = .al i ∧ E K tb ρ2 fun t2 ρ3 => ∃ k j, t2 = .p (.int k) ∧ ρ3[i]? = some s ∧ s.owns = true ∧ s.cont = .lst ds ∧ ixN ds.length k = some j ∧ Q.nx (ρ3.set i (s.upd (.lst (ds.set j d))))) h e
    fun v F1 H1 t ρ1 a1 e1 c1 p1 x1 ⟨d, y1, y2⟩ => y2 B F1 H1 σ e1 _ fun v2 F2 H2 t2 ρ2 a2 e2 c2 x2 ⟨i, s, ds, z1, z2⟩ => z2 B F2 H2 σ e2 _ fun v3 F3 H3 t3 ρ3 a3 e3 c3 x3 ⟨n, j, w1, w2, w3, w4, w5, w6⟩ => by
      subst y1 z1 w1
      have x2' : ResOk K B F3 H3 σ ρ3 v2 (.al i) := ResOk.stay (F' := F3) (H' := H3) x2 trivial a3 c3
      obtain ⟨l, xs, g1, g2, g3, g4, gb⟩ := wr_lst (es := ds.set j d) e3 x2' w2 w3 w4
      exact ⟨l, xs, n, j, g1, x3, g2, by rw [g3.length]; exact w5, k.nx σ F3 _ _ (g4 (by rw [List.length_set]; exact gb) _ (g3.set j (Rep.mono (a2.trans a3) d x1))) w6⟩
/-! ### truth -/
def TrD (ρ : Env) : R → Bool → Prop
  | .p .non, k => k = false
  | .p (.bl b), k => k = b
  | .p (.int n), k => k = (n != 0)
  | .p (.str s), k => s.length ≤ sizeLine ∧ k = ((s.length : Int) != 0)
  | .p (.lst ds), k => k = !ds.isEmpty
  | .p (.tup ds), k => k = !ds.isEmpty
  | .p (.dic _ ds), k => k = !ds.isEmpty
  | .al i, k => ∃ s ds, ρ[i]? = some s ∧ s.owns = true ∧ s.cont = .lst ds ∧ k = !ds.isEmpty
  | _, _ => False
theorem isEmpty_len {α β : Type} {l : List α} {m : List β} (h : l.length = m.length) : l.isEmpty = m.isEmpty := by
  cases l <;> cases m <;> first | rfl | (simp at h)
theorem TrD.ok {B : Bs} {F H : Hp} {σ : L2.St} {v : V} {t : R} {k : Bool} (h : TrD ρ t k) (e : EnvOk K B F H σ ρ) (x : ResOk K B F H σ ρ v t) : TruV K v H k := by
  cases t with
  | o d => exact h.elim
  | al i =>
    obtain ⟨s, ds, h1, h2, h3, h4⟩ := h
    obtain ⟨a, xs, y1, y2, y3, _⟩ := RdL.get (ds := ds) (t := .al i) ⟨s, h1, h2, h3⟩ e x
    rw [y1, h4]
    exact .inl ⟨xs, SqL.of y2, by rw [isEmpty_len y3.length]⟩
  | p d =>
    cases d with
    | non => rw [show v = V.non from x]; exact h
    | bl b => rw [show v = V.bl b from x]; exact h
    | int b => rw [show v = V.int b from x]; exact h
    | str b => rw [show v = V.str b from x]; exact h
    | tup l =>
      obtain ⟨a, xs, y1, y2, y3, _⟩ := x
      rw [y1, show k = !l.isEmpty from h]
      exact .inr (.inl ⟨xs, sqt_mono e.fh y2, by rw [isEmpty_len y3.length]⟩)
    | lst l =>
      obtain ⟨a, xs, y1, y2, y3, _⟩ := x
      rw [y1, show k = !l.isEmpty from h]
      exact .inl ⟨xs, SqL.of (e.fh _ _ y2), by rw [isEmpty_len y3.length]⟩
    | dic ks l =>
      obtain ⟨a, kvs, y1, y2, y3, y4⟩ := x
      rw [y1, show k = !l.isEmpty from h]
      exact .inr (.inr ⟨kvs, e.fh _ _ y2, by rw [isEmpty_len (l := l) (m := kvs) (by rw [← y4.length, List.length_map])]⟩)
    | ins _ _ _ => exact h.elim
    | scr _ => exact h.elim
theorem t_tru {PT : Bool → Env → Prop} (h : E K te ρ fun t ρ1 => ∃ k, TrD ρ1 t.fz k ∧ PT k ρ1) : T K (fun σ H Q => te σ H fun x H' => ∃ k, TruV K x H' k ∧ Q k H') ρ PT := fun B F H σ e Q k =>
  E.frozen (P := fun t ρ1 => ∃ k, TrD ρ1 t k ∧ PT k ρ1) h e fun v F1 H1 t ρ1 a1 e1 c1 p1 x1 ⟨b, y1, y2⟩ => ⟨b, y1.ok e1 x1, k b F1 H1 ρ1 a1 e1 c1 y2⟩
/-! ### x += e of ints -/
theorem s_aug {f : Int → Int → Int} {a : Int} {Q : Po} (h : ρ[i]? = some (.p (.int a))) (h2 : E K te ρ fun t ρ1 => ∃ b, t = .p (.int b) ∧ Q.nx (ρ1.set i (.p (.int (f a b))))) : S K (tAug i te (ipI f)) ρ Q := fun B F H σ D e k => by
  obtain ⟨s, h1, v, hv, hr⟩ := e.slot h
  refine ⟨v, by rw [h1, hv], h2 B F H σ e _ fun v2 F2 H2 t2 ρ2 a2 e2 c2 x2 ⟨b, y, z⟩ => ?_⟩
  subst y
  exact ⟨a, b, hr, x2, k.nx _ F2 H2 _ (e2.setP (t := .p (.int (f a b))) rfl ⟨_, rfl, rfl⟩) z⟩
/-- a, b = e1, e2: no tuple is made -/
theorem s_par {Q : Po} (h : A K ta ρ fun ts ρ1 => ∃ d1 d2, ts = [.p d1, .p d2] ∧ Q.nx ((ρ1.set i (.p d1)).set j (.p d2))) : S K (tPar i j ta) ρ Q := fun B F H σ D e k =>
  h B F H σ e _ fun vs F1 H1 ts ρ1 a1 e1 c1 x1 ⟨d1, d2, y, z⟩ => by
    subst y
    match vs, x1 with
    | [v1, v2], ⟨_, q1, _, q2, _⟩ => exact ⟨v1, v2, rfl, k.nx _ F1 H1 _ ((e1.setP (t := .p d1) rfl ⟨_, rfl, q1⟩).setP (t := .p d2) rfl ⟨_, rfl, q2⟩) z⟩
end
/-! ### a list, a tuple or a text is walked -/
def iSeq (K : PySem.W.Frag) (tl : TE) : TI := fun σ H R => tl σ H fun x H1 => (∃ a, x = .ref a ∧ (∃ xs, SqL K H1 a xs) ∧ R (Itl K a) H1) ∨ (∃ a, x = .ref a ∧ (∃ xs, SqT K H1 a xs) ∧ R (Itt K a) H1) ∨ ∃ s, x = .str s ∧ R (Its s) H1
theorem pi_seq {X : Cx} {tg l : Expr} {tl : TE} (hl : PE X l tl) : PI X tg l (iSeq X.K tl) := ⟨fun pins s σ H R I h => by
  refine thn (hl.run pins s σ H _ I h) fun v s1 ⟨x, H1, I1, r1, q1⟩ => ?_
  -- the way is the same as that of pi_list, pi_tup, pi_str: which one, the value tells
  rcases q1 with ⟨a, e, ⟨xs, hq⟩, q⟩ | ⟨a, e, ⟨xs, hq⟩, q⟩ | ⟨z, e, q⟩
  · subst e
    cases r1
    obtain ⟨its, _, p, _⟩ := I1.list hq
    exact wpAny_pyIter_list p.isList ⟨s1.heap.objs.size, [s1.heap.objs.size], _, _, H1, rfl, I1.kept (t' := s1.toks) fun b o e => Heap.get?_push_of_some _ e, turn_list a _, ⟨_, Heap.get?_push_size _ rfl, rfl, rfl⟩,
      fun b hb => by rw [List.mem_singleton.mp hb]; exact I1.fpOk (Nat.le_refl _) (I1.hok.fresh (Nat.le_refl _)), q⟩
  · subst e
    cases r1
    obtain ⟨its, _, p, _⟩ := I1.tuple hq
    exact wpAny_pyIter_tuple (show s1.heap.IsTuple a its.toArray from p) ⟨s1.heap.objs.size, [s1.heap.objs.size], _, _, H1, rfl, I1.kept (t' := s1.toks) fun b o e => Heap.get?_push_of_some _ e, turn_tuple a _, ⟨_, Heap.get?_push_size _ rfl, rfl, rfl⟩,
      fun b hb => by rw [List.mem_singleton.mp hb]; exact I1.fpOk (Nat.le_refl _) (I1.hok.fresh (Nat.le_refl _)), q⟩
  · subst e
    obtain ⟨t, rfl⟩ := r1
    cases ha : z.cps.all (· < 128)
    · exact wpAny_pyIter_wide ha (pi_one (tk := s1.toks) I1 _ (turn_str _ z t "str_iterator" (.inr rfl)) ⟨_, Heap.get?_push_size _ rfl, rfl, rfl⟩ q)
    · exact wpAny_pyIter_ascii ha (pi_one (tk := s1.toks) I1 _ (turn_str _ z t "str_ascii_iterator" (.inl rfl)) ⟨_, Heap.get?_push_size _ rfl, rfl, rfl⟩ q)⟩
section
variable {K : PySem.W.Frag} {ρ : Env} {tl : TE} {P : List D → Env → Prop}
/-- the data that a walk goes through -/
def ItD : R → List D → Prop
  | .p (.lst ds), es => es = ds
  | .p (.tup ds), es => es = ds
  | .p (.str s), es => es = strD s
  | _, _ => False
theorem i_seq (h : E K tl ρ fun t ρ1 => ∃ ds, ItD t.fz ds ∧ P ds ρ1) : IE K (iSeq K tl) ρ P := fun B F H σ e R k =>
  E.frozen (P := fun t ρ1 => ∃ ds, ItD t ds ∧ P ds ρ1) h e fun v F1 H1 t ρ1 a1 e1 c1 p1 x1 ⟨ds, y, q⟩ => by
    cases t with
    | o d => exact y.elim
    | al i => exact y.elim
    | p d =>
      cases d with
      | lst l =>
        have z : ds = l := y
        subst z
        obtain ⟨a, xs, z1, z2, z3, _⟩ := x1
        exact .inl ⟨a, z1, ⟨xs, SqL.of (e1.fh _ _ z2)⟩, k _ F1 H1 ds ρ1 a1 e1 c1 (src_list z2 z3) q⟩
      | tup l =>
        have z : ds = l := y
        subst z
        obtain ⟨a, xs, z1, z2, z3, _⟩ := x1
        exact .inr (.inl ⟨a, z1, ⟨xs, sqt_mono e1.fh z2⟩, k _ F1 H1 ds ρ1 a1 e1 c1 (src_tup z2 z3) q⟩)
      | str s =>
        have z : ds = strD s := y
        subst z
        exact .inr (.inr ⟨s, x1, k _ F1 H1 _ ρ1 a1 e1 c1 src_str q⟩)
      | _ => exact y.elim
end
end VL
/-! VL7: forms that a step can fill by rfl -/
namespace VL
open PySem PySem.Spec PyProof.Rows L2
/-- the length of what stands outermost -/
def D.top : D → Nat
  | .tup l => l.length
  | .lst l => l.length
  | _ => 0
theorem EnvOk.top {K : PySem.W.Frag} {B : Bs} {F H : Hp} {σ : L2.St} {ρ : Env} {i : Nat} {t : SV} (e : EnvOk K B F H σ ρ) (h : ρ[i]? = some t) : t.cont.top ≤ sizeLine := by
  obtain ⟨s, h1, h2⟩ := e.slot h
  have hr : ∀ d v, Rep K F d v → d.top ≤ sizeLine := fun d v q => by
    cases d with
    | tup l => obtain ⟨_, _, _, _, _, z⟩ := q; exact z
    | lst l => obtain ⟨_, _, _, _, _, z⟩ := q; exact z
    | _ => exact Nat.zero_le _
  have ho : ∀ d o, OHold K F d o → d.top ≤ sizeLine := fun d o q => by
    cases d with
    | lst l => obtain ⟨_, _, _, z⟩ := q; exact z
    | tup l => exact q.elim
    | _ => exact Nat.zero_le _
  cases t with
  | any => exact Nat.zero_le _
  | p d => obtain ⟨v, _, q⟩ := h2; exact hr d v q
  | o d => obtain ⟨l, o, _, _, q, _⟩ := h2; exact ho d o q
  | b k d => obtain ⟨l, o, _, _, _, q, _⟩ := h2; exact ho d o q
theorem s_top {K : PySem.W.Frag} {ρ : Env} {ts : TS} {P : Po} (i : Nat) {t : SV} (h : ρ[i]? = some t) (q : t.cont.top ≤ sizeLine → S K ts ρ P) : S K ts ρ P := fun B F H σ D e k => q (e.top h) B F H σ D e k
theorem e_top {K : PySem.W.Frag} {ρ : Env} {te : TE} {P : R → Env → Prop} (i : Nat) {t : SV} (h : ρ[i]? = some t) (q : t.cont.top ≤ sizeLine → E K te ρ P) : E K te ρ P := fun B F H σ e Q k => q (e.top h) B F H σ e Q k
def unP : List R → Option (List D)
  | [] => some []
  | .p d :: ts => match unP ts with
    | some ds => some (d :: ds)
    | none => none
  | _ :: _ => none
theorem unP_eq : ∀ {ts : List R} {ds : List D}, unP ts = some ds → ts = ds.map R.p
  | [], _, h => by cases h; rfl
  | .p d :: ts, ds, h => by
    unfold unP at h
    cases q : unP ts with
    | none => rw [q] at h; cases h
    | some es =>
      rw [q] at h
      cases h
      rw [unP_eq q]
      rfl
  | .o _ :: _, _, h => by cases h
  | .al _ :: _, _, h => by cases h
section
variable {K : PySem.W.Frag} {ρ ρ' : Env} {i j : Nat} {d e : D} {P : R → Env → Prop} {te to tb : TE} {ta : TA} {Ex : XK}
def TupP (ts : List R) (ρ : Env) (P : R → Env → Prop) : Prop := ∃ ds, unP ts = some ds ∧ ds.length ≤ sizeLine ∧ P (.p (.tup ds)) ρ
def LstP (ts : List R) (ρ : Env) (P : R → Env → Prop) : Prop := ∃ ds, unP ts = some ds ∧ ds.length ≤ sizeLine ∧ P (.o (.lst ds)) ρ
theorem x_tup (h : A K ta ρ fun ts ρ1 => TupP ts ρ1 P) : E K (tTup ta) ρ P := e_tup fun B F H σ e Q k => h B F H σ e Q fun vs F' H' ts ρ' a b c x ⟨ds, y, z, w⟩ => k vs F' H' ts ρ' a b c x ⟨ds, unP_eq y, z, w⟩
theorem x_lst (h : A K ta ρ fun ts ρ1 => LstP ts ρ1 P) : E K (tLst ta) ρ P := e_lst fun B F H σ e Q k => h B F H σ e Q fun vs F' H' ts ρ' a b c x ⟨ds, y, z, w⟩ => k vs F' H' ts ρ' a b c x ⟨ds, unP_eq y, z, w⟩
theorem tupP {ts : List R} {ds : List D} (h : unP ts = some ds) (hl : ds.length ≤ sizeLine) (q : P (.p (.tup ds)) ρ) : TupP ts ρ P := ⟨ds, h, hl, q⟩
theorem lstP {ts : List R} {ds : List D} (h : unP ts = some ds) (hl : ds.length ≤ sizeLine) (q : P (.o (.lst ds)) ρ) : LstP ts ρ P := ⟨ds, h, hl, q⟩
/-- a call: what is asked of the arguments' data, and the way on -/
def CallP (s : List D → (R → Prop) → Prop) (ts : List R) (ρ : Env) (P : R → Env → Prop) : Prop := ∃ ds Rs, unP ts = some ds ∧ s ds Rs ∧ ∀ t, Rs t → t.noal → P t ρ
def Call1P (s : List D → (R → D → Prop) → Prop) (ts : List R) (ρ : Env) (P : R → Env → Prop) : Prop := ∃ i t us ds Rs, ts = .al i :: us ∧ unP us = some ds ∧ ρ[i]? = some t ∧ t.owns = true ∧ s (t.cont :: ds) Rs ∧ ∀ r d', Rs r d' → r.noal → P r (ρ.set i (t.upd d'))
theorem x_call {s : List D → (R → Prop) → Prop} (h : A K ta ρ fun ts ρ1 => CallP s ts ρ1 P) : E K (tCall (Sp0 K s) [] Ex ta) ρ P := e_call fun B F H σ e Q k => h B F H σ e Q fun vs F' H' ts ρ' a b c x ⟨ds, Rs, y, z, w⟩ => k vs F' H' ts ρ' a b c x ⟨ds, Rs, unP_eq y, z, w⟩
theorem x_call1 {s : List D → (R → D → Prop) → Prop} (h : A K ta ρ fun ts ρ1 => Call1P s ts ρ1 P) : E K (tCall (Sp1 K s) [] Ex ta) ρ P := e_call1 fun B F H σ e Q k => h B F H σ e Q fun vs F' H' ts ρ' a b c x ⟨i, t, us, ds, Rs, y0, y, z1, z2, z, w⟩ => k vs F' H' ts ρ' a b c x ⟨i, t, ds, Rs, by rw [y0, unP_eq y], z1, z2, z, w⟩
theorem callP {s : List D → (R → Prop) → Prop} {ts : List R} {ds : List D} {Rs : R → Prop} (h : unP ts = some ds) (hs : s ds Rs) (q : ∀ t, Rs t → t.noal → P t ρ) : CallP s ts ρ P := ⟨ds, Rs, h, hs, q⟩
theorem call1P {s : List D → (R → D → Prop) → Prop} {us : List R} {ds : List D} {t : SV} {Rs : R → D → Prop} (h : unP us = some ds) (h1 : ρ[i]? = some t) (h2 : t.owns = true) (hs : s (t.cont :: ds) Rs) (q : ∀ r d', Rs r d' → r.noal → P r (ρ.set i (t.upd d'))) : Call1P s (.al i :: us) ρ P :=
  ⟨i, t, us, ds, Rs, rfl, h, h1, h2, hs, q⟩
/-- tests: both ways -/
theorem ite_b {b : Bool} {A B : Prop} (h1 : b = true → A) (h2 : b = false → B) : if b = true then A else B := by
  cases b with
  | true => rw [if_pos rfl]; exact h1 rfl
  | false => rw [if_neg Bool.false_ne_true]; exact h2 rfl
theorem ite_d {p : Prop} [Decidable p] {A B : Prop} (h1 : p → A) (h2 : ¬ p → B) : if decide p = true then A else B := ite_b (fun h => h1 (of_decide_eq_true h)) (fun h => h2 (of_decide_eq_false h))
theorem ite_n {p : Prop} [Decidable p] {A B : Prop} (h1 : ¬ p → A) (h2 : p → B) : if (!decide p) = true then A else B := ite_b (fun h => h1 (by simpa using h)) (fun h => h2 (by simpa using h))
theorem ite_t {A B : Prop} (h : A) : if true = true then A else B := by rw [if_pos rfl]; exact h
theorem ite_f {A B : Prop} (h : B) : if false = true then A else B := by rw [if_neg Bool.false_ne_true]; exact h
theorem bl_ex {Q : Bool → Prop} {b : Bool} (q : Q b) : ∃ c, (R.p (.bl b)) = .p (.bl c) ∧ Q c := ⟨b, rfl, q⟩
theorem atI_pos {α : Type} {xs : List α} {n : Int} (h : 0 ≤ n) : atI xs n = xs[n.toNat]? := by
  unfold atI ixN
  rw [if_pos h]
  by_cases q : n < xs.length
  · rw [if_pos q]
    rfl
  · rw [if_neg q, List.getElem?_eq_none (by omega)]
    rfl
theorem atI_at {α : Type} {xs : List α} {n : Nat} {x : α} (h : xs[n]? = some x) : atI xs (n : Int) = some x := by
  rw [atI_pos (by omega), Int.toNat_natCast]
  exact h
/-- o[i] = e -/
def SetI (i : Nat) (d : D) (t2 : R) (ρ3 : Env) (Q : Env → Prop) : Prop := ∃ k j s ds, t2 = .p (.int k) ∧ ρ3[i]? = some s ∧ s.owns = true ∧ s.cont = .lst ds ∧ ixN ds.length k = some j ∧ Q (ρ3.set i (s.upd (.lst (ds.set j d))))
def SetP (K : PySem.W.Frag) (tb : TE) (d : D) (t1 : R) (ρ : Env) (Q : Env → Prop) : Prop := ∃ i, t1 = .al i ∧ E K tb ρ fun t2 ρ3 => SetI i d t2 ρ3 Q
theorem x_setL {Q : Po} (h : E K te ρ fun t ρ1 => ∃ d, t.fz = .p d ∧ E K to ρ1 fun t1 ρ2 => SetP K tb d t1 ρ2 Q.nx) : S K (tAsg te (gSub to tb rSetL)) ρ Q := fun B F H σ D e k =>
  E.frozen (P := fun t ρ1 => ∃ d, t = .p d ∧ E K to ρ1 fun t1 ρ2 => SetP K tb d t1 ρ2 Q.nx) h e
    fun v F1 H1 t ρ1 a1 e1 c1 p1 x1 ⟨d, y1, y2⟩ => y2 B F1 H1 σ e1 _ fun v2 F2 H2 t2 ρ2 a2 e2 c2 x2 ⟨i, z1, z2⟩ => z2 B F2 H2 σ e2 _ fun v3 F3 H3 t3 ρ3 a3 e3 c3 x3 ⟨n, j, s, ds, w1, w2, w3, w4, w5, w6⟩ => by
      subst y1 z1 w1
      have x2' : ResOk K B F3 H3 σ ρ3 v2 (.al i) := ResOk.stay (F' := F3) (H' := H3) x2 trivial a3 c3
      obtain ⟨l, xs, g1, g2, g3, g4, gb⟩ := wr_lst (es := ds.set j d) e3 x2' w2 w3 w4
      exact ⟨l, xs, n, j, g1, x3, g2, by rw [g3.length]; exact w5, k.nx σ F3 _ _ (g4 (by rw [List.length_set]; exact gb) _ (g3.set j (Rep.mono (a2.trans a3) d x1))) w6⟩
theorem setP {Q : Env → Prop} (h : E K tb ρ fun t2 ρ3 => SetI i d t2 ρ3 Q) : SetP K tb d (.al i) ρ Q := ⟨i, rfl, h⟩
theorem setI {Q : Env → Prop} {k : Int} {j : Nat} {s : SV} {ds : List D} (h1 : ρ[i]? = some s) (h2 : s.owns = true) (h3 : s.cont = .lst ds) (h4 : ixN ds.length k = some j) (q : Q (ρ.set i (s.upd (.lst (ds.set j d))))) : SetI i d (.p (.int k)) ρ Q := ⟨k, j, s, ds, rfl, h1, h2, h3, h4, q⟩
/-- a comprehension whose element and test are functions of the item -/
def novs (ρ : Env) (vs : List Nat) : Bool := vs.all fun v => match ρ[v]? with | some t => !t.owns | none => false
theorem novs_ok {vs : List Nat} (h : novs ρ vs = true) : ∀ v ∈ vs, ∃ t, ρ[v]? = some t ∧ t.owns = false := fun v hv => by
  have q := List.all_eq_true.mp h v hv
  cases w : ρ[v]? with
  | none => rw [w] at q; cases q
  | some t => rw [w] at q; exact ⟨t, rfl, by simpa using q⟩
variable {wi : TI} {g : TG} {tt : TT}
theorem x_lcf {vs : List Nat} (h : IE K wi ρ fun ds ρ1 => novs ρ1 vs = true ∧ ds.length ≤ sizeLine ∧ ∃ (p : D → Bool) (f : D → D), (∀ d ∈ ds, GC K vs g d (wipeE ρ1 vs) fun ρ2 => T K tt ρ2 fun b ρ3 => b = p d ∧
      if b = true then E K te ρ3 fun t ρ4 => t.fz = .p (f d) ∧ wipeE ρ4 vs = wipeE ρ1 vs else wipeE ρ3 vs = wipeE ρ1 vs) ∧ P (.o (.lst ((ds.filter p).map f))) (wipeE ρ1 vs)) : E K (tLc wi g tt te vs) ρ P := e_lc fun B F H σ e Q k =>
  h B F H σ e Q fun J F' H' ds ρ1 a b c x ⟨y1, y2, p, f, y3, y4⟩ => k J F' H' ds ρ1 a b c x ⟨novs_ok y1, fun i acc ρ' => acc = ((ds.take i).filter p).map f ∧ ρ' = wipeE ρ1 vs, ⟨by simp, rfl⟩, fun i d acc ρ' hd ⟨z1, z2⟩ => by
    subst z1 z2
    have hm := y3 d (List.mem_of_getElem? hd)
    have hl : (((ds.take i).filter p).map f).length < sizeLine := by
      rw [List.length_map]
      have := List.length_filter_le p (ds.take i)
      have hi := (List.getElem?_eq_some_iff.mp hd).1
      have : (ds.take i).length ≤ i := by rw [List.length_take]; omega
      omega
    have ht : ds.take (i + 1) = ds.take i ++ [d] := by rw [List.take_add_one, hd]; rfl
    refine fun B F H σ e v r Q k => hm B F H σ e v r Q fun σ' ρ2 w1 w2 w3 w4 => k σ' ρ2 w1 w2 w3 (w4.mono fun b ρ3 ⟨z1, z2⟩ => ?_)
    subst z1
    cases hp : p d with
    | true =>
      rw [hp, if_pos rfl] at z2
      rw [if_pos rfl]
      refine z2.mono fun t ρ4 ⟨q1, q2⟩ => ⟨f d, q1, hl, ?_, q2⟩
      rw [ht, List.filter_append, List.map_append, List.filter_cons_of_pos hp]
      rfl
    | false =>
      rw [hp, if_neg Bool.false_ne_true] at z2
      rw [if_neg Bool.false_ne_true]
      refine ⟨?_, z2⟩
      rw [ht, List.filter_append, List.map_append, List.filter_cons_of_neg (by rw [hp]; exact Bool.false_ne_true)]
      simp, fun acc ρ' ⟨z1, z2⟩ => by
    subst z1 z2
    rw [List.take_length]
    exact y4⟩
theorem x_lcm {vs : List Nat} (h : IE K wi ρ fun ds ρ1 => novs ρ1 vs = true ∧ ds.length ≤ sizeLine ∧ ∃ f : D → D, (∀ d ∈ ds, GC K vs g d (wipeE ρ1 vs) fun ρ2 => E K te ρ2 fun t ρ4 => t.fz = .p (f d) ∧ wipeE ρ4 vs = wipeE ρ1 vs) ∧
      P (.o (.lst (ds.map f))) (wipeE ρ1 vs)) : E K (tLc wi g tYes te vs) ρ P := x_lcf fun B F H σ e Q k =>
  h B F H σ e Q fun J F' H' ds ρ1 a b c x ⟨y1, y2, f, y3, y4⟩ => k J F' H' ds ρ1 a b c x ⟨y1, y2, fun _ => true, f, fun d hd B F H σ e v r Q k => y3 d hd B F H σ e v r Q fun σ' ρ2 w1 w2 w3 w4 => k σ' ρ2 w1 w2 w3 (t_yes ⟨rfl, by rw [if_pos rfl]; exact w4⟩),
    by rw [List.filter_eq_self.mpr (fun _ _ => rfl)]; exact y4⟩
theorem rngD_mem {lo : Int} {n : Nat} {d : D} (h : d ∈ rngD lo n) : ∃ k : Nat, k < n ∧ d = .int (lo + (k : Nat)) := by
  unfold rngD at h
  obtain ⟨k, h1, h2⟩ := List.mem_map.mp h
  exact ⟨k, List.mem_range.mp h1, h2.symm⟩
theorem bls_const {α : Type} {l : List α} : (l.map fun _ => D.bl true) = (List.replicate l.length true).map D.bl := by
  induction l with
  | nil => rfl
  | cons x r ih => rw [List.map_cons, ih]; rfl
theorem all_rep {n : Nat} : (List.replicate n true).all id = true := by
  rw [List.all_eq_true]
  intro x hx
  exact (List.mem_replicate.mp hx).2
theorem Sp0.len {s : List D → (R → Prop) → Prop} {n : Nat} (h : ∀ ds Rs, s ds Rs → ds.length = n) : ∀ vs H Q Ex, Sp0 K s vs H Q Ex → vs.length = n := fun vs H Q Ex ⟨F, ds, Rs, _, hr, hs, _⟩ => by rw [hr.length, h ds Rs hs]
theorem Sp1.len {s : List D → (R → D → Prop) → Prop} {n : Nat} (h : ∀ ds Rs, s ds Rs → ds.length = n) : ∀ vs H Q Ex, Sp1 K s vs H Q Ex → vs.length = n := fun vs H Q Ex ⟨F, l, us, d, o, ds, Rs, h1, _, _, _, _, hr, hs, _⟩ => by
  have := h _ _ hs
  rw [h1, List.length_cons, hr.length]
  exact this
end
end VL
/-! VL8: isinstance of built-in types, nesting, the state of draws -/
namespace VL
open PySem PySem.Spec PyProof.Rows L2
theorem kit_NoneType_bool : kitB "NoneType" "bool" = some false := by decide +kernel
theorem kit_NoneType_int : kitB "NoneType" "int" = some false := by decide +kernel
theorem kit_NoneType_str : kitB "NoneType" "str" = some false := by decide +kernel
theorem kit_NoneType_tuple : kitB "NoneType" "tuple" = some false := by decide +kernel
theorem kit_NoneType_list : kitB "NoneType" "list" = some false := by decide +kernel
theorem kit_NoneType_dict : kitB "NoneType" "dict" = some false := by decide +kernel
theorem kit_bool_bool : kitB "bool" "bool" = some true := by decide +kernel
theorem kit_bool_int : kitB "bool" "int" = some true := by decide +kernel
theorem kit_bool_str : kitB "bool" "str" = some false := by decide +kernel
theorem kit_bool_tuple : kitB "bool" "tuple" = some false := by decide +kernel
theorem kit_bool_list : kitB "bool" "list" = some false := by decide +kernel
theorem kit_bool_dict : kitB "bool" "dict" = some false := by decide +kernel
theorem kit_int_bool : kitB "int" "bool" = some false := by decide +kernel
theorem kit_int_int : kitB "int" "int" = some true := by decide +kernel
theorem kit_int_str : kitB "int" "str" = some false := by decide +kernel
theorem kit_int_tuple : kitB "int" "tuple" = some false := by decide +kernel
theorem kit_int_list : kitB "int" "list" = some false := by decide +kernel
theorem kit_int_dict : kitB "int" "dict" = some false := by decide +kernel
theorem kit_str_bool : kitB "str" "bool" = some false := by decide +kernel
theorem kit_str_int : kitB "str" "int" = some false := by decide +kernel
theorem kit_str_str : kitB "str" "str" = some true := by decide +kernel
theorem kit_str_tuple : kitB "str" "tuple" = some false := by decide +kernel
theorem kit_str_list : kitB "str" "list" = some false := by decide +kernel
theorem kit_str_dict : kitB "str" "dict" = some false := by decide +kernel
theorem kit_tuple_bool : kitB "tuple" "bool" = some false := by decide +kernel
theorem kit_tuple_int : kitB "tuple" "int" = some false := by decide +kernel
theorem kit_tuple_str : kitB "tuple" "str" = some false := by decide +kernel
theorem kit_tuple_tuple : kitB "tuple" "tuple" = some true := by decide +kernel
theorem kit_tuple_list : kitB "tuple" "list" = some false := by decide +kernel
theorem kit_tuple_dict : kitB "tuple" "dict" = some false := by decide +kernel
theorem kit_list_bool : kitB "list" "bool" = some false := by decide +kernel
theorem kit_list_int : kitB "list" "int" = some false := by decide +kernel
theorem kit_list_str : kitB "list" "str" = some false := by decide +kernel
theorem kit_list_tuple : kitB "list" "tuple" = some false := by decide +kernel
theorem kit_list_list : kitB "list" "list" = some true := by decide +kernel
theorem kit_list_dict : kitB "list" "dict" = some false := by decide +kernel
theorem kit_dict_bool : kitB "dict" "bool" = some false := by decide +kernel
theorem kit_dict_int : kitB "dict" "int" = some false := by decide +kernel
theorem kit_dict_str : kitB "dict" "str" = some false := by decide +kernel
theorem kit_dict_tuple : kitB "dict" "tuple" = some false := by decide +kernel
theorem kit_dict_list : kitB "dict" "list" = some false := by decide +kernel
theorem kit_dict_dict : kitB "dict" "dict" = some true := by decide +kernel
/-! ### how deep data is nested -/
mutual
def D.dep : D → Nat
  | .tup l => D.deps l + 1
  | .lst l => D.deps l + 1
  | _ => 0
def D.deps : List D → Nat
  | [] => 0
  | d :: ds => max (D.dep d) (D.deps ds)
end
theorem dep_mem : ∀ {l : List D} {d : D}, d ∈ l → d.dep ≤ D.deps l
  | x :: r, d, h => by
    unfold D.deps
    rcases List.mem_cons.mp h with q | q
    · subst q; exact Nat.le_max_left _ _
    · exact Nat.le_trans (dep_mem q) (Nat.le_max_right _ _)
theorem pure_mem : ∀ {l : List D} {d : D}, D.pures l = true → d ∈ l → d.pure = true
  | x :: r, d, p, h => by
    unfold D.pures at p
    rw [Bool.and_eq_true] at p
    rcases List.mem_cons.mp h with q | q
    · subst q; exact p.1
    · exact pure_mem p.2 q
theorem fn_none {P : Program} {w : World} {K : PySem.W.Frag} {mg : Str → Option Value} {base : Heap} {CX : CXT} {k : Nat} {f : Addr} {fd : FuncData} {ps : List Str} {sp : Sp} (h : ∀ vs H Q Ex, ¬ sp vs H Q Ex) : FnOk P w K mg base CX k f fd ps sp :=
  ⟨fun vs H Q Ex q => (h vs H Q Ex q).elim, fun A outer s H args us vs Q Ex _ _ _ _ q => (h vs H Q Ex q).elim⟩
theorem Sp0.none {K : PySem.W.Frag} {s : List D → (R → Prop) → Prop} (h : ∀ ds Rs, ¬ s ds Rs) : ∀ vs H Q Ex, ¬ Sp0 K s vs H Q Ex := fun vs H Q Ex ⟨F, ds, Rs, _, _, q, _⟩ => h ds Rs q
theorem Sp1.none {K : PySem.W.Frag} {s : List D → (R → D → Prop) → Prop} (h : ∀ ds Rs, ¬ s ds Rs) : ∀ vs H Q Ex, ¬ Sp1 K s vs H Q Ex := fun vs H Q Ex ⟨F, l, us, d, o, ds, Rs, _, _, _, _, _, _, q, _⟩ => h _ Rs q
/-! ### the row of draws -/
structure LS where
  row : List Int
  pl : Int
  seed : Int
def LS.d (s : LS) : D := .lst [.lst (s.row.map D.int), .int s.pl, .int s.seed]
/-- n draws more are possible -/
structure LS.Ok (s : LS) (n : Nat) : Prop where
  row : ∀ x ∈ s.row, 0 ≤ x ∧ x < 840
  p0 : 0 ≤ s.pl
  p1 : s.pl + n ≤ 2 ^ 60
theorem LS.Ok.mono {s : LS} {m n : Nat} (h : s.Ok n) (l : m ≤ n) : s.Ok m := ⟨h.row, h.p0, by have := h.p1; omega⟩
def sStart : List D → (R → Prop) → Prop := fun ds Rs => ∃ (ns : List Int), ds = [.scr ns] ∧ ns.length ≤ 63 ∧ Rs = fun t => ∃ s, t = .o (LS.d s) ∧ s.Ok (2 ^ 60)
def sTake : List D → (R → D → Prop) → Prop := fun ds Rs => ∃ (s : LS) (n : Nat) (m : Int), ds = [s.d, .int m] ∧ s.Ok (n + 1) ∧ 0 < m ∧ Rs = fun t d' => ∃ r s', t = .p (.int r) ∧ 0 ≤ r ∧ r < m ∧ d' = LS.d s' ∧ s'.Ok n
/-- the same data on both sides, nested less than n deep -/
def sSame (n : Nat) : List D → (R → Prop) → Prop := fun ds Rs => ∃ d : D, ds = [d, d] ∧ d.pure = true ∧ d.dep < n ∧ (∀ l, d = .lst l ∨ d = .tup l → True) ∧ Rs = fun t => t = .p (.bl true)
end VL
/-! VL9: instances: fields, methods, making; raw readings beside the value level -/
namespace VL
open PySem PySem.Spec PyProof.Rows L2
def insGet : List Str → List D → Str → Option D
  | n :: ns, d :: ds, f => if f = n then some d else insGet ns ds f
  | _, _, _ => none
section
variable {K : PySem.W.Frag} {ρ ρ' : Env} {i j : Nat} {d e : D} {P : R → Env → Prop} {te to tb tself : TE} {ta : TA} {Ex : XK} {C : Addr} {f m : Str}
theorem insGet_some {F : Hp} : ∀ {fs : List (Str × V)} {ns : List Str} {ds : List D}, fs.map (·.1) = ns → Reps K F ds (fs.map (·.2)) → insGet ns ds f = some d → ∃ v, fs.lookup f = some v ∧ Rep K F d v
  | [], ns, ds, h1, h2, h3 => by
    rw [← h1] at h3
    cases ds <;> cases h3
  | p :: fs, ns, ds, h1, h2, h3 => by
    rw [← h1] at h3
    cases ds with
    | nil => cases h3
    | cons d0 ds =>
      obtain ⟨x, r, e1, e2, e3⟩ := h2
      rw [List.map_cons] at e1
      cases e1
      rw [List.map_cons] at h3
      unfold insGet at h3
      rw [List.lookup_cons]
      by_cases q : f = p.1
      · rw [if_pos q] at h3
        cases h3
        rw [beq_iff_eq.mpr q]
        exact ⟨_, rfl, e2⟩
      · rw [if_neg q] at h3
        rw [beq_eq_false_iff_ne.mpr q]
        exact insGet_some rfl e3 h3
theorem insGet_none {F : Hp} : ∀ {fs : List (Str × V)} {ns : List Str} {ds : List D}, fs.map (·.1) = ns → Reps K F ds (fs.map (·.2)) → insGet ns ds f = none → fs.lookup f = none
  | [], ns, ds, h1, h2, h3 => rfl
  | p :: fs, ns, ds, h1, h2, h3 => by
    rw [← h1] at h3
    cases ds with
    | nil =>
      have := h2.length
      simp at this
    | cons d0 ds =>
      obtain ⟨x, r, e1, e2, e3⟩ := h2
      rw [List.map_cons] at e1
      cases e1
      rw [List.map_cons] at h3
      unfold insGet at h3
      rw [List.lookup_cons]
      by_cases q : f = p.1
      · rw [if_pos q] at h3
        cases h3
      · rw [if_neg q] at h3
        rw [beq_eq_false_iff_ne.mpr q]
        exact insGet_none rfl e3 h3
/-- an instance as it may be read -/
def RdI (ρ : Env) (t : R) (C : Addr) (ns : List Str) (ds : List D) : Prop := match t with
  | .p d => d = .ins C ns ds
  | .o _ => False
  | .al i => ∃ s, ρ[i]? = some s ∧ s.owns = true ∧ s.cont = .ins C ns ds
theorem RdI.get {t : R} {ns : List Str} {ds : List D} {B : Bs} {F H : Hp} {σ : L2.St} {v : V} (h : RdI ρ t C ns ds) (e : EnvOk K B F H σ ρ) (x : ResOk K B F H σ ρ v t) : ∃ a dx fs, v = .ref a ∧ H a = some (.ins C dx fs) ∧ fs.map (·.1) = ns ∧ Reps K F ds (fs.map (·.2)) := by
  cases t with
  | p d =>
    rw [show d = .ins C ns ds from h] at x
    obtain ⟨a, dx, fs, h1, h2, h3, h4⟩ := x
    exact ⟨a, dx, fs, h1, e.fh _ _ h2, h3, h4⟩
  | o d => exact h.elim
  | al i =>
    obtain ⟨s, h1, h2, h3⟩ := h
    obtain ⟨l, x1, x2⟩ := x
    obtain ⟨t', o, y1, y2, y3, y4⟩ := e.own x2
    rw [h1] at y1
    cases y1
    rw [h3] at y3
    obtain ⟨dx, fs, z1, z2, z3⟩ := y3
    exact ⟨l, dx, fs, x1, by rw [y2, z1], z2, z3⟩
def FldP (K : PySem.W.Frag) (f : Str) (t : R) (ρ : Env) (P : R → Env → Prop) : Prop := ∃ C ns ds d, RdI ρ t C ns ds ∧ Cls K C ∧ NoAttr K C f ∧ insGet ns ds f = some d ∧ P (.p d) ρ
theorem e_fld (h : E K to ρ fun t ρ1 => FldP K f t.fz ρ1 P) : E K (tFld K to f) ρ P := fun B F H σ e Q k =>
  E.frozen (P := fun t ρ1 => FldP K f t ρ1 P) h e fun v F1 H1 t ρ1 a1 e1 c1 p1 x1 ⟨C, ns, ds, d, y0, y1, y2, y3, y4⟩ => by
    obtain ⟨a, dx, fs, z1, z2, z3, z4⟩ := y0.get e1 x1
    obtain ⟨w, w1, w2⟩ := insGet_some z3 z4 y3
    exact ⟨a, C, dx, fs, w, z1, z2, y1, y2, w1, k w F1 H1 (.p d) ρ1 a1 e1 c1 w2 y4⟩
theorem fldP {ns : List Str} {ds : List D} (y1 : Cls K C) (y2 : NoAttr K C f) (y3 : insGet ns ds f = some d) (y4 : P (.p d) ρ) : FldP K f (.p (.ins C ns ds)) ρ P := ⟨C, ns, ds, d, rfl, y1, y2, y3, y4⟩
/-- o.m(..) of a method of pure data -/
def MethP (C : Addr) (m : Str) (s : List D → (R → Prop) → Prop) (K : PySem.W.Frag) (ta : TA) (t : R) (ρ : Env) (P : R → Env → Prop) : Prop := ∃ ns ds, t = .p (.ins C ns ds) ∧ insGet ns ds m = none ∧ A K ta ρ fun ts ρ1 => CallP (fun es => s (.ins C ns ds :: es)) ts ρ1 P
theorem x_meth {s : List D → (R → Prop) → Prop} (h : E K to ρ fun t ρ1 => MethP C m s K ta t.fz ρ1 P) : E K (tMeth C m (Sp0 K s) [] Ex to ta) ρ P := fun B F H σ e Q k =>
  E.frozen (P := fun t ρ1 => MethP C m s K ta t ρ1 P) h e fun v F1 H1 t ρ1 a1 e1 c1 p1 x1 ⟨ns, ds, y0, y1, y2⟩ => by
    subst y0
    have x1' : Rep K F1 (.ins C ns ds) v := x1
    obtain ⟨a, dx, fs, z1, z2, z3, z4⟩ := x1
    refine ⟨a, dx, fs, z1, e1.fh _ _ z2, insGet_none z3 z4 y1, y2 B F1 H1 σ e1 _ fun vs F2 H2 ts ρ2 a2 e2 c2 x2 ⟨es, Rs, w1, w2, w3⟩ => ?_⟩
    have hr : Reps K F2 es vs := RessOk.reps (by rw [← unP_eq w1]; exact x2)
    refine ⟨F2, .ins C ns ds :: es, Rs, e2.fh, by rw [List.append_nil]; exact .cons (Rep.mono a2 _ x1') hr, w2, fun t ht v F' H' g1 g2 g3 g4 g5 => ?_⟩
    have hn : t.noal := by cases t <;> first | trivial | exact g5
    exact k v F' H' t ρ2 ((a1.trans a2).trans g1) (e2.grow g1 g2 g3 g4) (c1.trans c2) (resNew_ok e2 g5) (w3 t ht hn)
theorem methP {s : List D → (R → Prop) → Prop} {ns : List Str} {ds : List D} (h1 : insGet ns ds m = none) (h2 : A K ta ρ fun ts ρ1 => CallP (fun es => s (.ins C ns ds :: es)) ts ρ1 P) : MethP C m s K ta (.p (.ins C ns ds)) ρ P := ⟨ns, ds, rfl, h1, h2⟩
/-- C(..) -/
def MakeP (C : Addr) (s : List D → (R → D → Prop) → Prop) (ts : List R) (ρ : Env) (P : R → Env → Prop) : Prop := ∃ ds Rs, unP ts = some ds ∧ s (.ins C [] [] :: ds) Rs ∧ ∀ r d', Rs r d' → r = .p .non ∧ P (.o d') ρ
theorem x_make {s : List D → (R → D → Prop) → Prop} (h : A K ta ρ fun ts ρ1 => MakeP C s ts ρ1 P) : E K (tMake C (Sp1 K s) [] Ex ta) ρ P := fun B F H σ e Q k =>
  h B F H σ e _ fun vs F1 H1 ts ρ1 a1 e1 c1 x1 ⟨ds, Rs, y1, y2, y3⟩ => by
    intro x dx hx hdx hne
    have hr : Reps K F1 ds vs := RessOk.reps (by rw [← unP_eq y1]; exact x1)
    have e2 : EnvOk K B F1 (upd H1 dx (.own x)) σ ρ1 := e1.new hdx
    have hx2 : (upd H1 dx (HO.own x)) x = none := by rw [upd_ne (Ne.symm hne)]; exact hx
    have e3 : EnvOk K B F1 (upd (upd H1 dx (.own x)) x (.ins C dx [])) σ ρ1 := e2.new hx2
    refine ⟨F1, x, vs, .ins C [] [], .ins C dx [], ds, Rs, by rw [List.append_nil], e3.fh, upd_same, ⟨dx, [], rfl, rfl, rfl⟩, e1.fnone hx, hr, y2, fun r d' hr' v F' H' o' g1 g2 g3 g4 g5 g6 g7 g8 => ?_⟩
    obtain ⟨q1, q2⟩ := y3 r d' hr'
    subst q1
    refine ⟨g8, ?_⟩
    have sm : Same H1 H' := fun a o h => by
      have n1 : a ≠ x := ne_of_none h hx
      refine g3 a o ?_ n1
      rw [upd_ne n1, upd_ne (ne_of_none h hdx)]
      exact h
    have e4 : EnvOk K B F' H' σ ρ1 := e1.grow g1 (fun a o h => by
      rcases g2 a o h with z | z
      · exact .inl z
      · refine .inr ?_
        cases w : H1 a with
        | none => rfl
        | some u =>
          have n1 : a ≠ x := ne_of_none w hx
          rw [upd_ne n1, upd_ne (ne_of_none w hdx), w] at z
          cases z) sm g4
    exact k _ F' H' (.o d') ρ1 (a1.trans g1) e4 c1 ⟨x, o', rfl, g5, g6, g7, e1.noown hx, e1.bnew hx⟩ q2
theorem makeP {s : List D → (R → D → Prop) → Prop} {ts : List R} {ds : List D} {Rs : R → D → Prop} (h : unP ts = some ds) (hs : s (.ins C [] [] :: ds) Rs) (q : ∀ r d', Rs r d' → r = .p .non ∧ P (.o d') ρ) : MakeP C s ts ρ P := ⟨ds, Rs, h, hs, q⟩

/-! ### raw readings -/
/-- slots that own nothing -/
def Slots (K : PySem.W.Frag) (F : Hp) : L2.St → Env → Prop
  | [], [] => True
  | s :: σ, t :: ρ => (t = .any ∨ ∃ d v, t = .p d ∧ s = some v ∧ Rep K F d v) ∧ Slots K F σ ρ
  | _, _ => False
theorem Slots.get {F : Hp} : ∀ {σ : L2.St} {ρ : Env} {i : Nat} {s : Option V} {t : SV}, Slots K F σ ρ → σ[i]? = some s → ρ[i]? = some t → t = .any ∨ ∃ d v, t = .p d ∧ s = some v ∧ Rep K F d v
  | [], [], _, _, _, _, h, _ => by simp at h
  | s :: σ, t :: ρ, 0, _, _, h, h1, h2 => by
    cases h1
    cases h2
    exact h.1
  | s :: σ, t :: ρ, i + 1, _, _, h, h1, h2 => Slots.get h.2 (by simpa using h1) (by simpa using h2)
  | [], _ :: _, _, _, _, h, _, _ => h.elim
  | _ :: _, [], _, _, _, h, _, _ => h.elim
theorem Slots.len {F : Hp} : ∀ {σ : L2.St} {ρ : Env}, Slots K F σ ρ → σ.length = ρ.length
  | [], [], _ => rfl
  | s :: σ, t :: ρ, h => by rw [List.length_cons, List.length_cons, Slots.len h.2]
  | [], _ :: _, h => h.elim
  | _ :: _, [], h => h.elim
theorem Slots.env {F H : Hp} {σ : L2.St} (h : Slots K F σ ρ) (hF : Same F H) : EnvOk K ⟨F, H, fun _ => False, []⟩ F H σ ρ := by
  have no : ∀ i l, ¬ OwnAt σ ρ i l := fun i l ⟨h1, t, h2, h3⟩ => by
    rcases h.get h1 h2 with q | ⟨d, v, q, _⟩
    · subst q; cases h3
    · subst q; cases h3
  exact ⟨h.len, hF, Same.refl F, fun a o h => .inl h, fun a o h _ => h, fun i s t h1 h2 => by
    rcases h.get h1 h2 with q | ⟨d, v, q, q2, q3⟩
    · subst q; trivial
    · subst q; exact ⟨v, q2, q3⟩, fun i j l h _ => (no i l h).elim, fun i l h => (no i l h).elim⟩
/-- what is known behind a raw step: the heap has grown, the frozen part by new things alone -/
structure Gro (F H F' H' : Hp) : Prop where
  f : Same F F'
  h : Same H H'
  fh : Same F' H'
  nw : ∀ a o, F' a = some o → F a = some o ∨ H a = none
theorem Gro.refl {F H : Hp} (h : Same F H) : Gro F H F H := ⟨Same.refl F, Same.refl H, h, fun _ _ h => .inl h⟩
theorem E.raw {F H : Hp} {σ : L2.St} (h : E K te ρ P) (hs : Slots K F σ ρ) (hF : Same F H) {Q : VK} (k : ∀ v F' H' t ρ', Gro F H F' H' → t.pend → ResOk K ⟨F, H, fun _ => False, []⟩ F' H' σ ρ' v t → (∃ t0 : R, t = t0.fz ∧ P t0 ρ') → Q v H') : te σ H Q :=
  E.frozen (P := fun t ρ' => ∃ t0 : R, t = t0.fz ∧ P t0 ρ') (h.mono fun t ρ' q => ⟨t, rfl, q⟩) (hs.env hF) fun v F' H' t ρ' a1 e1 c1 p1 x1 y1 =>
    k v F' H' t ρ' ⟨a1, fun a o h => e1.h0 a o h (fun z => z), e1.fh, fun a o h => by
      rcases e1.ff a o h with q | q | q
      · exact .inl q
      · exact .inr q
      · exact q.elim⟩ p1 x1 y1
theorem T.raw {F H : Hp} {σ : L2.St} {tt : TT} {PT : Bool → Env → Prop} (h : T K tt ρ PT) (hs : Slots K F σ ρ) (hF : Same F H) {Q : Bool → Hp → Prop} (k : ∀ b F' H' ρ', Gro F H F' H' → PT b ρ' → Q b H') : tt σ H Q :=
  h _ F H σ (hs.env hF) Q fun b F' H' ρ' a1 e1 c1 y1 => k b F' H' ρ' ⟨a1, fun a o h => e1.h0 a o h (fun z => z), e1.fh, fun a o h => by
      rcases e1.ff a o h with q | q | q
      · exact .inl q
      · exact .inr q
      · exact q.elim⟩ y1
theorem Slots.mono {F F' : Hp} (a : Same F F') : ∀ {σ : L2.St} {ρ : Env}, Slots K F σ ρ → Slots K F' σ ρ
  | [], [], _ => trivial
  | s :: σ, t :: ρ, ⟨h, r⟩ => ⟨h.imp id fun ⟨d, v, h1, h2, h3⟩ => ⟨d, v, h1, h2, Rep.mono a d h3⟩, Slots.mono a r⟩
  | [], _ :: _, h => h.elim
  | _ :: _, [], h => h.elim
end
end VL
/-! VL10: in over texts; comprehensions with two for -/
namespace VL
open PySem PySem.Spec PyProof.Rows L2
section
variable {K : PySem.W.Frag} {B : Bs} {F F' F1 H H' H1 : Hp} {σ : L2.St} {ρ ρ' ρ1 : Env} {i j : Nat} {d e : D} {P : R → Env → Prop} {te to tb : TE} {ta : TA}
theorem inV_strs {x : Str} : ∀ {ss : List Str}, inV (.str x) (ss.map V.str) = decide (x ∈ ss)
  | [] => rfl
  | s :: r => by
    have ih := inV_strs (x := x) (ss := r)
    unfold inV at ih ⊢
    rw [List.map_cons, List.any_cons, ih]
    show (s == x || decide (x ∈ r)) = decide (x ∈ s :: r)
    by_cases q : s = x
    · subst q
      simp
    · rw [beq_eq_false_iff_ne.mpr q]
      simp [Ne.symm q]
theorem flat_strs {ss : List Str} : (ss.map V.str).all flatV = true := by
  rw [List.all_eq_true]
  intro x hx
  obtain ⟨s, _, rfl⟩ := List.mem_map.mp hx
  rfl
theorem o_inSL {t : R} {x : Str} {ss : List Str} {neg : Bool} (h : RdL ρ t (ss.map D.str)) (q : P (.p (.bl (if neg then !decide (x ∈ ss) else decide (x ∈ ss)))) ρ) : O2 K (rInU K neg) (.p (.str x)) t ρ P := fun B F H σ e v1 v2 x1 p1 x2 p2 Q k => by
  obtain ⟨a, xs, y1, y2, y3, _⟩ := h.get e x2
  have z := y3.of_strs
  subst z
  refine .inl ⟨a, _, y1, .inl (SqL.of y2), by rw [show v1 = V.str x from x1]; rfl, flat_strs, ?_⟩
  rw [show v1 = V.str x from x1, inV_strs]
  exact k _ F H (.p (.bl _)) ρ (Same.refl F) e Keep.refl rfl q
theorem o_inST {x : Str} {ss : List Str} {neg : Bool} (q : P (.p (.bl (if neg then !decide (x ∈ ss) else decide (x ∈ ss)))) ρ) : O2 K (rInU K neg) (.p (.str x)) (.p (.tup (ss.map D.str))) ρ P := fun B F H σ e v1 v2 x1 p1 ⟨a, xs, y1, y2, y3, _⟩ p2 Q k => by
  have z := y3.of_strs
  subst z
  refine .inl ⟨a, _, y1, .inr (sqt_mono e.fh y2), by rw [show v1 = V.str x from x1]; rfl, flat_strs, ?_⟩
  rw [show v1 = V.str x from x1, inV_strs]
  exact k _ F H (.p (.bl _)) ρ (Same.refl F) e Keep.refl rfl q

/-! ### [e for a in xs for b in ys], nothing owned around -/
def pureE (ρ : Env) : Bool := ρ.all fun t => !t.owns
theorem pureE_ok (h : pureE ρ = true) : ∀ i l, ¬ OwnAt σ ρ i l := fun i l ⟨_, t, h2, h3⟩ => by
  have q := List.all_eq_true.mp h t (List.mem_of_getElem? h2)
  rw [h3] at q
  cases q
theorem pureE_wipe : ∀ {vs : List Nat}, pureE ρ = true → pureE (wipeE ρ vs) = true
  | [], h => h
  | v :: vs, h => by
    unfold wipeE
    have ih := pureE_wipe (vs := vs) h
    unfold pureE at ih ⊢
    rw [List.all_eq_true] at ih ⊢
    intro t ht
    rcases List.mem_or_eq_of_mem_set ht with q | q
    · exact ih t q
    · subst q; rfl
theorem wipe_wipe {vs : List Nat} : wipe (wipe σ vs) vs = wipe σ vs := by
  apply List.ext_getElem?
  intro k
  by_cases z : k ∈ vs
  · by_cases hk : k < σ.length
    · rw [wipe_in z (by rw [wipe_length]; exact hk), wipe_in z hk]
    · rw [List.getElem?_eq_none (by rw [wipe_length, wipe_length]; omega), List.getElem?_eq_none (by rw [wipe_length]; omega)]
  · rw [wipe_out' z]
theorem Gro.trans {F H F1 H1 F2 H2 : Hp} (a : Gro F H F1 H1) (b : Gro F1 H1 F2 H2) : Gro F H F2 H2 :=
  ⟨a.f.trans b.f, a.h.trans b.h, b.fh, fun c o h => by
    rcases b.nw c o h with q | q
    · exact a.nw c o q
    · exact .inr (a.h.free q)⟩
/-- a base in which nothing may change -/
def stB (F H : Hp) : Bs := ⟨F, H, fun _ => False, []⟩
theorem EnvOk.st (e : EnvOk K B F H σ ρ) (n : pureE ρ = true) : EnvOk K (stB F H) F H σ ρ where
  len := e.len
  fh := e.fh
  f0 := Same.refl F
  ff := fun a o h => .inl h
  h0 := fun a o h _ => h
  sl := fun i s t h1 h2 => by
    have q := e.sl i s t h1 h2
    have z := List.all_eq_true.mp n t (List.mem_of_getElem? h2)
    cases t with
    | any => trivial
    | p d => exact q
    | o d => cases z
    | b k d => cases z
  di := fun i j l h _ => (pureE_ok n i l h).elim
  ow := fun i l h => (pureE_ok n i l h).elim
theorem EnvOk.gro (e : EnvOk K (stB F H) F1 H1 σ ρ) : Gro F H F1 H1 :=
  ⟨e.f0, fun a o h => e.h0 a o h (fun z => z), e.fh, fun a o h => by
    rcases e.ff a o h with q | q | q
    · exact .inl q
    · exact .inr q
    · exact q.elim⟩
theorem EnvOk.ofSt (e : EnvOk K B F H σ ρ) (g : Gro F H F1 H1) {σ1 : L2.St} (e1 : EnvOk K (stB F H) F1 H1 σ1 ρ1) (n : pureE ρ1 = true) : EnvOk K B F1 H1 σ1 ρ1 where
  len := e1.len
  fh := e1.fh
  f0 := e.f0.trans g.f
  ff := fun a o h => by
    rcases g.nw a o h with q | q
    · exact e.ff a o q
    · exact .inr (e.bnew q).symm
  h0 := fun a o h m => g.h a o (e.h0 a o h m)
  sl := fun i s t h1 h2 => by
    have q := e1.sl i s t h1 h2
    have z := List.all_eq_true.mp n t (List.mem_of_getElem? h2)
    cases t with
    | any => trivial
    | p d => exact q
    | o d => cases z
    | b k d => cases z
  di := fun i j l h _ => (pureE_ok n i l h).elim
  ow := fun i l h => (pureE_ok n i l h).elim
variable {wi wi1 : TI} {g g1 : TG} {tt tt1 : TT} {vs vs1 : List Nat}
/-- the hidden list while the rest grows -/
theorem Gro.hid {p : Addr} {o : HO} (a : Gro F H F1 H1) (h : H p = some o) (f : F p = none) : H1 p = some o ∧ F1 p = none := ⟨a.h p o h, by
  cases q : F1 p with
  | none => rfl
  | some u =>
    rcases a.nw p u q with z | z
    · rw [f] at z; cases z
    · rw [h] at z; cases z⟩
/-- the list is rewritten; the environment does not see it -/
theorem EnvOk.putH {p : Addr} {o : HO} (e : EnvOk K B F H σ ρ) (f : F p = none) (n : pureE ρ = true) (hb : B.M p ∨ B.H0 p = none) : EnvOk K B F (upd H p o) σ ρ := e.hid f (fun i => pureE_ok n i p) hb
theorem e_lc2 (h : IE K wi ρ fun ds ρ1 => pureE ρ1 = true ∧ ∃ (es : D → List D) (f : D → D → D), (ds.flatMap fun d => (es d).map (f d)).length ≤ sizeLine ∧ (∀ d ∈ ds, GC K vs g d (wipeE ρ1 vs) fun ρ2 => T K tt ρ2 fun b ρ3 => b = true ∧ pureE ρ3 = true ∧
      IE K wi1 ρ3 fun ds1 ρ4 => ds1 = es d ∧ pureE ρ4 = true ∧ wipeE (wipeE ρ4 vs1) vs = wipeE ρ1 vs ∧ ∀ e ∈ es d, GC K vs1 g1 e (wipeE ρ4 vs1) fun ρ5 => T K tt1 ρ5 fun b ρ6 => b = true ∧ E K te ρ6 fun t ρ7 => t.fz = .p (f d e) ∧ pureE ρ7 = true ∧ wipeE ρ7 vs1 = wipeE ρ4 vs1) ∧
      P (.o (.lst (ds.flatMap fun d => (es d).map (f d)))) (wipeE ρ1 vs)) (hvs : ∀ v ∈ vs1, v ∈ vs) : E K (tLc2 wi g tt wi1 g1 tt1 te vs vs1) ρ P := fun B F H σ e Q k =>
  h B F H σ e _ fun J F1 H1 ds ρ1 a1 e1 c1 s ⟨no1, es, f, hz, turn, fin⟩ => by
    intro Dd hD
    have hb : B.M Dd ∨ B.H0 Dd = none := e1.bnew hD
    have now := pureE_wipe (vs := vs) no1
    -- between two turns of the outer loop
    let Sx : List D → Hp → Prop := fun acc H' => ∃ F' xs, Same F1 F' ∧ EnvOk K B F' H' (wipe σ vs) (wipeE ρ1 vs) ∧ H' Dd = some (HO.lst xs) ∧ F' Dd = none ∧ Reps K F' acc xs
    let ac : Nat → List D := fun i => (ds.take i).flatMap fun d => (es d).map (f d)
    refine ⟨fun i m H' => m = ds.length - i ∧ i ≤ ds.length ∧ Sx (ac i) H', ⟨ds.length, by omega, Nat.zero_le _, F1, [], Same.refl F1, (e1.new hD).wiped, upd_same, e1.fnone hD, by show Reps K F1 ((ds.take 0).flatMap _) []; rw [List.take_zero]; exact .nil⟩, ?_⟩
    rintro i m H2 ⟨rfl, hi, F2, xs, a2, e2, d2, f2, r2⟩
    by_cases hlt : i < ds.length
    · have hd := List.getElem?_eq_getElem hlt
      have hac : ac (i + 1) = ac i ++ (es ds[i]).map (f ds[i]) := by
        show (ds.take (i + 1)).flatMap _ = _
        rw [List.take_add_one, hd, List.flatMap_append]
        show _ ++ List.flatMap _ [ds[i]] = _
        rw [List.flatMap_singleton]
      have hle : (ac (i + 1)).length ≤ sizeLine := by
        refine Nat.le_trans ?_ hz
        show ((ds.take (i + 1)).flatMap _).length ≤ _
        rw [← List.take_append_drop (i + 1) ds, List.flatMap_append, List.length_append, List.take_append_drop]
        exact Nat.le_add_right _ _
      refine .inr ⟨s.go i H2 (a2.trans e2.fh) hlt, Sx (ac (i + 1)), fun H' q => ⟨ds.length - (i + 1), by omega, rfl, hlt, q⟩, fun x H3 y => ?_⟩
      obtain ⟨F3, a3, e3, r3, g3, n3⟩ := s.turn e2 a2 hd y
      have d3 : H3 Dd = some (.lst xs) := g3 _ _ d2
      have f3 : F3 Dd = none := by
        cases q : F3 Dd with
        | none => rfl
        | some o =>
          rcases n3 _ _ q with z | z
          · rw [f2] at z; cases z
          · rw [d2] at z; cases z
      refine turn _ (List.mem_of_getElem? hd) _ F3 H3 _ (e3.st now) x r3 _ fun σ4 ρ4 w4 e4 o4 t4 => ?_
      refine ⟨w4.trans wipe_wipe, t4 _ F3 H3 σ4 e4 _ fun b F5 H5 ρ5 a5 e5 c5 ⟨hb5, no5, i5⟩ => ?_⟩
      subst hb5
      rw [if_pos rfl]
      refine i5 _ F5 H5 σ4 e5 _ fun J1 F6 H6 ds1 ρ6 a6 e6 c6 s6 ⟨y1, no6, y2, inner⟩ => ?_
      subst y1
      have gr6 : Gro F3 H3 F6 H6 := e6.gro
      obtain ⟨d6, f6⟩ := gr6.hid d3 f3
      have e6B : EnvOk K B F6 H6 σ4 ρ6 := e3.ofSt gr6 e6 no6
      have now1 := pureE_wipe (vs := vs1) no6
      let ac1 : Nat → List D := fun j => ac i ++ ((es ds[i]).take j).map (f ds[i])
      let Sy : Nat → Hp → Prop := fun j H' => ∃ F' xs, Same F6 F' ∧ EnvOk K B F' H' (wipe σ4 vs1) (wipeE ρ6 vs1) ∧ H' Dd = some (HO.lst xs) ∧ F' Dd = none ∧ Reps K F' (ac1 j) xs
      refine ⟨fun j k H' => k = (es ds[i]).length - j ∧ j ≤ (es ds[i]).length ∧ Sy j H', ⟨(es ds[i]).length, by omega, Nat.zero_le _, F6, xs, Same.refl F6, e6B.wiped, d6, f6, by show Reps K F6 (ac i ++ ((es ds[i]).take 0).map _) xs; rw [List.take_zero, List.map_nil, List.append_nil]; exact Reps.mono (a3.trans gr6.f) _ r2⟩, ?_⟩
      rintro j k H7 ⟨rfl, hj, F7, ys, a7, e7, d7, f7, r7⟩
      by_cases hlt1 : j < (es ds[i]).length
      · have hd1 := List.getElem?_eq_getElem hlt1
        have hac1 : ac1 (j + 1) = ac1 j ++ [f ds[i] (es ds[i])[j]] := by
          show ac i ++ ((es ds[i]).take (j + 1)).map _ = (ac i ++ ((es ds[i]).take j).map _) ++ _
          rw [List.take_add_one, hd1, List.map_append, List.append_assoc]
          rfl
        have hlen1 : (ac1 j).length < sizeLine := by
          have h1 : (ac1 (j + 1)).length ≤ (ac (i + 1)).length := by
            rw [hac]
            show (ac i ++ ((es ds[i]).take (j + 1)).map _).length ≤ _
            rw [List.length_append, List.length_append, List.length_map, List.length_map, List.length_take]
            omega
          rw [hac1, List.length_append, List.length_singleton] at h1
          omega
        refine .inr ⟨s6.go j H7 (a7.trans e7.fh) hlt1, Sy (j + 1), fun H' q => ⟨(es ds[i]).length - (j + 1), by omega, rfl, hlt1, q⟩, fun x1 H8 y1 => ?_⟩
        obtain ⟨F8, a8, e8, r8, g8, n8⟩ := s6.turn e7 a7 hd1 y1
        have d8 : H8 Dd = some (.lst ys) := g8 _ _ d7
        have f8 : F8 Dd = none := by
          cases q : F8 Dd with
          | none => rfl
          | some o =>
            rcases n8 _ _ q with z | z
            · rw [f7] at z; cases z
            · rw [d7] at z; cases z
        refine inner _ (List.mem_of_getElem? hd1) _ F8 H8 _ (e8.st now1) x1 r8 _ fun σ9 ρ9 w9 e9 o9 t9 => ?_
        refine ⟨w9.trans wipe_wipe, t9 _ F8 H8 σ9 e9 _ fun b F10 H10 ρ10 a10 e10 c10 ⟨hb10, i10⟩ => ?_⟩
        subst hb10
        rw [if_pos rfl]
        refine E.frozen (P := fun t ρ7 => t = .p (f ds[i] (es ds[i])[j]) ∧ pureE ρ7 = true ∧ wipeE ρ7 vs1 = wipeE ρ6 vs1) i10 e10 fun v F11 H11 t ρ11 a11 e11 c11 p11 x11 ⟨q1, q2, q3⟩ => ?_
        subst q1
        have gr11 : Gro F8 H8 F11 H11 := e11.gro
        obtain ⟨d11, f11⟩ := gr11.hid d8 f8
        have e11B : EnvOk K B F11 H11 σ9 ρ11 := e8.ofSt gr11 e11 q2
        have e12 := e11B.wiped (vs := vs1)
        rw [w9, wipe_wipe, q3] at e12
        have r11 : Reps K F11 (ac1 j) ys := Reps.mono (a8.trans gr11.f) _ r7
        refine ⟨ys, d11, by rw [r11.length]; exact hlen1, F11, ys ++ [v], (a7.trans a8).trans gr11.f, e12.putH f11 now1 hb, upd_same, f11, ?_⟩
        rw [hac1]
        exact r11.append (.one x11)
      · have z : j = (es ds[i]).length := by omega
        subst z
        have hfull : ac1 (es ds[i]).length = ac (i + 1) := by
          rw [hac]
          show ac i ++ ((es ds[i]).take _).map _ = _
          rw [List.take_length]
        rw [hfull] at r7
        have e8 := e7.wiped (vs := vs)
        have w8 : wipe (wipe σ4 vs1) vs = wipe σ vs := by
          rw [← wipe_wipe (σ := σ), ← w4]
          apply List.ext_getElem?
          intro q
          by_cases z : q ∈ vs
          · by_cases hk : q < σ4.length
            · rw [wipe_in z (by rw [wipe_length]; exact hk), wipe_in z hk]
            · rw [List.getElem?_eq_none (by rw [wipe_length, wipe_length]; omega), List.getElem?_eq_none (by rw [wipe_length]; omega)]
          · rw [wipe_out' z, wipe_out' z, wipe_out' (fun m => z (hvs q m))]
        rw [w8, y2] at e8
        exact .inl ⟨s6.stop _ H7 (a7.trans e7.fh) (Nat.le_refl _), F7, ys, ((a2.trans a3).trans gr6.f).trans a7, e8, d7, f7, r7⟩
    · have z : i = ds.length := by omega
      subst z
      have hfull : ac ds.length = ds.flatMap fun d => (es d).map (f d) := by
        show (ds.take ds.length).flatMap _ = _
        rw [List.take_length]
      rw [hfull] at r2
      have hl : ∀ v ∈ vs, v < ρ1.length ∨ ρ1.length ≤ v := fun v _ => Nat.lt_or_ge _ _
      have e3 : EnvOk K B F2 H2 σ (wipeE ρ1 vs) := by
        refine ⟨by rw [← e2.len, wipe_length], e2.fh, e2.f0, e2.ff, e2.h0, fun i s t h1 h2 => ?_, fun i j l h _ => (pureE_ok now i l h).elim, fun i l h => (pureE_ok now i l h).elim⟩
        by_cases z : i ∈ vs
        · have hi : i < ρ1.length := by
            rcases Nat.lt_or_ge i ρ1.length with q | q
            · exact q
            · rw [List.getElem?_eq_none (by rw [wipeE_len]; exact q)] at h2; cases h2
          rw [wipeE_in z hi] at h2
          cases h2
          trivial
        · exact e2.sl i s t (by rw [wipe_out' z]; exact h1) h2
      exact .inl ⟨s.stop _ H2 (a2.trans e2.fh) (Nat.le_refl _), k _ F2 H2 (.o (.lst _)) _ (a1.trans a2) e3 (fun j l q => (pureE_ok no1 j l (c1 j l q)).elim) ⟨Dd, _, rfl, d2, ⟨xs, rfl, r2, hz⟩, f2, fun j => pureE_ok now j Dd, hb⟩ fin⟩
end
end VL
/-! VL11: a slot's object goes to another slot; == of nested texts; an object under construction with a dict of its own -/
namespace VL
open PySem PySem.Spec PyProof.Rows L2
section
variable {K : PySem.W.Frag} {ρ ρ' : Env} {i j : Nat} {d e : D} {P : Po}
theorem s_mv (h : ρ[j]? = some (.o d)) (q : P.nx ((ρ.set j .any).set i (.o d))) : S K (tAsg (tVar j) (gName i)) ρ P := fun B F H σ D e k => by
  obtain ⟨s, h1, l, o, rfl, h2, h3, h4⟩ := e.slot h
  have own : OwnAt σ ρ j l := ⟨h1, _, h, rfl⟩
  refine ⟨.ref l, h1, k.nx _ F H _ (e.forget.setO h2 h3 h4 (fun m ⟨q1, u, q2, q3⟩ => ?_) (e.ow j l own)) q⟩
  rw [set_st] at q2
  by_cases z : j = m
  · rw [if_pos z] at q2
    by_cases hl : m < ρ.length
    · rw [if_pos hl] at q2
      cases q2
      cases q3
    · rw [if_neg hl] at q2
      cases q2
  · rw [if_neg z] at q2
    exact z (e.di j m l own ⟨q1, u, q2, q3⟩)
end
/-! ### == -/
mutual
/-- texts in tuples -/
def D.tx : D → Bool
  | .str s => PyData.strOk s
  | .tup l => D.txs l
  | _ => false
def D.txs : List D → Bool
  | [] => true
  | d :: ds => D.tx d && D.txs ds
end
mutual
theorem tx_eqb : ∀ (d e : D), d.tx = true → e.tx = true → (PyData.eqv d.py e.py = true ↔ d = e)
  | .str s, .str t, _, _ => by
    unfold D.py PyData.eqv
    rw [beq_iff_eq]
    exact ⟨fun h => by rw [h], fun h => by cases h; rfl⟩
  | .tup l, .tup m, h, g => by
    unfold D.tx at h g
    unfold D.py PyData.eqv
    rw [txs_eqb l m h g]
    exact ⟨fun h => by rw [h], fun h => by cases h; rfl⟩
  | .str s, .tup m, _, _ => by
    unfold D.py PyData.eqv
    exact ⟨fun h => (by cases h), fun h => (by cases h)⟩
  | .tup l, .str t, _, _ => by
    unfold D.py PyData.eqv
    exact ⟨fun h => (by cases h), fun h => (by cases h)⟩
  | .str _, .non, _, g => by unfold D.tx at g; cases g
  | .str _, .bl _, _, g => by unfold D.tx at g; cases g
  | .str _, .int _, _, g => by unfold D.tx at g; cases g
  | .str _, .lst _, _, g => by unfold D.tx at g; cases g
  | .str _, .dic _ _, _, g => by unfold D.tx at g; cases g
  | .str _, .ins _ _ _, _, g => by unfold D.tx at g; cases g
  | .str _, .scr _, _, g => by unfold D.tx at g; cases g
  | .tup _, .non, _, g => by unfold D.tx at g; cases g
  | .tup _, .bl _, _, g => by unfold D.tx at g; cases g
  | .tup _, .int _, _, g => by unfold D.tx at g; cases g
  | .tup _, .lst _, _, g => by unfold D.tx at g; cases g
  | .tup _, .dic _ _, _, g => by unfold D.tx at g; cases g
  | .tup _, .ins _ _ _, _, g => by unfold D.tx at g; cases g
  | .tup _, .scr _, _, g => by unfold D.tx at g; cases g
  | .non, _, h, _ => by unfold D.tx at h; cases h
  | .bl _, _, h, _ => by unfold D.tx at h; cases h
  | .int _, _, h, _ => by unfold D.tx at h; cases h
  | .lst _, _, h, _ => by unfold D.tx at h; cases h
  | .dic _ _, _, h, _ => by unfold D.tx at h; cases h
  | .ins _ _ _, _, h, _ => by unfold D.tx at h; cases h
  | .scr _, _, h, _ => by unfold D.tx at h; cases h
theorem txs_eqb : ∀ (l m : List D), D.txs l = true → D.txs m = true → (PyData.eqvAll (D.pys l) (D.pys m) = true ↔ l = m)
  | [], [], _, _ => by unfold D.pys PyData.eqvAll; exact ⟨fun _ => rfl, fun _ => rfl⟩
  | d :: ds, e :: es, h, g => by
    unfold D.txs at h g
    rw [Bool.and_eq_true] at h g
    unfold D.pys PyData.eqvAll
    rw [Bool.and_eq_true, tx_eqb d e h.1 g.1, txs_eqb ds es h.2 g.2]
    exact ⟨fun ⟨a, b⟩ => by rw [a, b], fun z => by cases z; exact ⟨rfl, rfl⟩⟩
  | [], _ :: _, _, _ => by unfold D.pys PyData.eqvAll; exact ⟨fun h => (by cases h), fun h => (by cases h)⟩
  | _ :: _, [], _, _ => by unfold D.pys PyData.eqvAll; exact ⟨fun h => (by cases h), fun h => (by cases h)⟩
end
mutual
theorem tx_pure : ∀ d : D, d.tx = true → d.pure = true
  | .str s, _ => by unfold D.pure; rfl
  | .tup l, h => by unfold D.tx at h; unfold D.pure; exact txs_pure l h
  | .non, h => by unfold D.tx at h; cases h
  | .bl _, h => by unfold D.tx at h; cases h
  | .int _, h => by unfold D.tx at h; cases h
  | .lst _, h => by unfold D.tx at h; cases h
  | .dic _ _, h => by unfold D.tx at h; cases h
  | .ins _ _ _, h => by unfold D.tx at h; cases h
  | .scr _, h => by unfold D.tx at h; cases h
theorem txs_pure : ∀ l : List D, D.txs l = true → D.pures l = true
  | [], _ => by unfold D.pures; rfl
  | d :: ds, h => by
    unfold D.txs at h
    rw [Bool.and_eq_true] at h
    unfold D.pures
    rw [tx_pure d h.1, txs_pure ds h.2]
    rfl
end
mutual
theorem tx_lay : ∀ d : D, d.tx = true → d.py.canLay0 = true ∧ d.py.depth = d.dep
  | .str s, h => by
    unfold D.tx at h
    unfold D.py PyData.canLay0 PyData.depth D.dep
    exact ⟨h, rfl⟩
  | .tup l, h => by
    unfold D.tx at h
    unfold D.py PyData.canLay0 PyData.depth D.dep
    obtain ⟨h1, h2⟩ := txs_lay l h
    exact ⟨h1, by rw [h2]⟩
  | .non, h => by unfold D.tx at h; cases h
  | .bl _, h => by unfold D.tx at h; cases h
  | .int _, h => by unfold D.tx at h; cases h
  | .lst _, h => by unfold D.tx at h; cases h
  | .dic _ _, h => by unfold D.tx at h; cases h
  | .ins _ _ _, h => by unfold D.tx at h; cases h
  | .scr _, h => by unfold D.tx at h; cases h
theorem txs_lay : ∀ l : List D, D.txs l = true → PyData.canLayAll0 (D.pys l) = true ∧ PyData.depthAll (D.pys l) = D.deps l
  | [], _ => by unfold D.pys PyData.canLayAll0 PyData.depthAll D.deps; exact ⟨rfl, rfl⟩
  | d :: ds, h => by
    unfold D.txs at h
    rw [Bool.and_eq_true] at h
    obtain ⟨h1, h2⟩ := tx_lay d h.1
    obtain ⟨h3, h4⟩ := txs_lay ds h.2
    unfold D.pys PyData.canLayAll0 PyData.depthAll D.deps
    exact ⟨by rw [h1, h3]; rfl, by rw [h2, h4]⟩
end
theorem txs_all : ∀ {l : List D}, (∀ d ∈ l, d.tx = true) → D.txs l = true
  | [], _ => by unfold D.txs; rfl
  | d :: ds, h => by
    unfold D.txs
    rw [h d List.mem_cons_self, txs_all fun e he => h e (List.mem_cons_of_mem _ he)]
    rfl
theorem txs_mem : ∀ {l : List D} {d : D}, D.txs l = true → d ∈ l → d.tx = true
  | x :: r, d, p, h => by
    unfold D.txs at p
    rw [Bool.and_eq_true] at p
    rcases List.mem_cons.mp h with q | q
    · subst q; exact p.1
    · exact txs_mem p.2 q
theorem deps_le {n : Nat} : ∀ {l : List D}, (∀ d ∈ l, d.dep ≤ n) → D.deps l ≤ n
  | [], _ => by unfold D.deps; exact Nat.zero_le _
  | d :: ds, h => by
    unfold D.deps
    exact Nat.max_le.mpr ⟨h d List.mem_cons_self, deps_le fun e he => h e (List.mem_cons_of_mem _ he)⟩
theorem tx_ok {d : D} (h : d.tx = true) (g : d.dep ≤ 64) : d.ok = true := by
  obtain ⟨h1, h2⟩ := tx_lay d h
  unfold D.ok SeqAt.shaped
  rw [tx_pure d h, h1, h2, decide_eq_true g]
  rfl
theorem txs_ok {l : List D} (h : D.txs l = true) (g : D.deps l < 64) : (D.lst l).ok = true := by
  obtain ⟨h1, h2⟩ := txs_lay l h
  unfold D.ok SeqAt.shaped D.pure D.py PyData.canLay0 PyData.depth
  rw [txs_pure l h, h1, h2, decide_eq_true (show D.deps l + 1 ≤ 64 from g)]
  rfl
/-- in, of texts in tuples -/
theorem tx_any {l : List D} {d : D} (h : D.txs l = true) (g : d.tx = true) : (l.any fun z => D.eqb z d) = true ↔ d ∈ l := by
  rw [List.any_eq_true]
  constructor
  · rintro ⟨z, h1, h2⟩
    rw [← (tx_eqb z d (txs_mem h h1) g).mp h2]
    exact h1
  · intro q
    exact ⟨d, q, (tx_eqb d d g g).mpr rfl⟩
end VL
/-! VL12: dicts read; an object under construction, with a dict of its own -/
namespace VL
open PySem PySem.Spec PyProof.Rows L2
section
variable {K : PySem.W.Frag} {B : Bs} {F F' F1 H H' H1 : Hp} {σ : L2.St} {ρ ρ' : Env} {i j : Nat} {d e : D} {P : R → Env → Prop} {te tv td ty : TE} {tt : TT} {l p C dx : Addr} {o : HO}
def inKeys (ks : List Key) (x : Key) : Bool := ks.any fun k => decide (k = x)
theorem inKeys_iff {ks : List Key} {x : Key} : inKeys ks x = true ↔ x ∈ ks := by
  unfold inKeys
  rw [List.any_eq_true]
  exact ⟨fun ⟨y, h1, h2⟩ => by rw [← of_decide_eq_true h2]; exact h1, fun h => ⟨x, h, decide_eq_true rfl⟩⟩
theorem inKeys_no {ks : List Key} {x : Key} (h : x ∉ ks) : inKeys ks x = false := by
  cases q : inKeys ks x with
  | false => rfl
  | true => exact absurd (inKeys_iff.mp q) h
theorem valV_isSome {x : Key} : ∀ {kvs : List (Key × V)}, (valV kvs x).isSome = inKeys (kvs.map (·.1)) x
  | [] => rfl
  | q :: r => by
    unfold inKeys
    rw [List.map_cons, List.any_cons]
    by_cases z : q.1 = x
    · rw [valV_pos z, decide_eq_true z]
      rfl
    · rw [valV_neg z, valV_isSome (kvs := r), decide_eq_false z]
      rfl
theorem e_din (h : E K ty ρ fun t1 ρ1 => ∃ s, t1 = .p (.str s) ∧ E K td ρ1 fun t2 ρ2 => ∃ ks es, t2.fz = .p (.dic ks es) ∧ P (.p (.bl (inKeys ks (Sum.inr s)))) ρ2) : E K (tDIn ty td) ρ P := fun B F H σ e Q k =>
  h B F H σ e _ fun v1 F1 H1 t1 ρ1 a1 e1 c1 x1 ⟨s, y1, y2⟩ => by
    subst y1
    refine E.frozen (P := fun t2 ρ2 => ∃ ks es, t2 = .p (.dic ks es) ∧ P (.p (.bl (inKeys ks (Sum.inr s)))) ρ2) y2 e1 fun v2 F2 H2 t2 ρ2 a2 e2 c2 p2 x2 ⟨ks, es, y3, q⟩ => ?_
    subst y3
    obtain ⟨a, kvs, z1, z2, z3, z4⟩ := x2
    refine ⟨a, valV kvs (Sum.inr s), z1, ?_, k _ F2 H2 (.p (.bl _)) ρ2 (a1.trans a2) e2 (c1.trans c2) ?_ q⟩
    · rw [show v1 = V.str s from x1]
      exact DGet.k (k := Sum.inr s) (e2.fh _ _ z2)
    · show V.bl _ = V.bl _
      rw [valV_isSome, z3]
theorem oa_lenD {ks : List Key} {es : List D} (w : P (.p (.int (ks.length : Int))) ρ) : OA K (rLenU K) [.p (.dic ks es)] ρ P := fun B F H σ e vs x Q k => by
  obtain ⟨v, rfl, a, kvs, z1, z2, z3, z4⟩ := oa_one x
  refine .inr ⟨a, kvs, by rw [z1], e.fh _ _ z2, k _ F H (.p (.int _)) ρ (Same.refl F) e Keep.refl ?_ w⟩
  show V.int _ = V.int _
  rw [← z3, List.length_map]
/-- a if c else b, as a test -/
def tIfT (c t u : TT) : TT := fun σ H Q => c σ H fun b H1 => if b = true then t σ H1 Q else u σ H1 Q
theorem pt_ifExp {X : Cx} {c a b : Expr} {pos : Pos} {tc ta tb : TT} (hc : PT X c tc) (ha : PT X a ta) (hb : PT X b tb) : PT X (.IfExp c a b pos) (tIfT tc ta tb) := by
  refine ⟨fun pins s σ H Q I h => ?_⟩
  refine isTrue_IfExp (thn (hc.run pins s σ H _ I h) fun d s1 ⟨H1, I1, q1⟩ => ?_)
  cases d with
  | true => exact ha.run pins s1 σ H1 Q I1 q1
  | false => exact hb.run pins s1 σ H1 Q I1 q1
theorem t_ifT {tc ta tb : TT} {PT : Bool → Env → Prop} (h : T K tc ρ fun b ρ1 => if b = true then T K ta ρ1 PT else T K tb ρ1 PT) : T K (tIfT tc ta tb) ρ PT := fun B F H σ e Q k =>
  h B F H σ e _ fun b F1 H1 ρ1 a1 e1 c1 q => by
    cases b with
    | true =>
      rw [if_pos rfl] at q ⊢
      exact q B F1 H1 σ e1 Q fun b F' H' ρ' a c d p => k b F' H' ρ' (a1.trans a) c (c1.trans d) p
    | false =>
      rw [if_neg Bool.false_ne_true] at q ⊢
      exact q B F1 H1 σ e1 Q fun b F' H' ρ' a c d p => k b F' H' ρ' (a1.trans a) c (c1.trans d) p
theorem flat_rep (h : d.flat = true) {v : V} (x : Rep K F d v) : Rep K F' d v := by
  cases d <;> first | exact x | cases h
/-! ### slots that own nothing -/
theorem EnvOk.know {v : V} (e : EnvOk K B F H σ ρ) (n : pureE ρ = true) (h : σ[i]? = some (some v)) (r : Rep K F d v) : EnvOk K B F H σ (ρ.set i (.p d)) := by
  have n2 : pureE (ρ.set i (.p d)) = true := by
    unfold pureE at n ⊢
    rw [List.all_eq_true] at n ⊢
    intro t ht
    rcases List.mem_or_eq_of_mem_set ht with q | q
    · exact n t q
    · subst q; rfl
  refine ⟨by rw [List.length_set]; exact e.len, e.fh, e.f0, e.ff, e.h0, fun j s t h1 h2 => ?_, fun j k l h _ => (pureE_ok n2 j l h).elim, fun j l h => (pureE_ok n2 j l h).elim⟩
  rw [set_st] at h2
  by_cases z : i = j
  · rw [if_pos z] at h2
    by_cases hl : j < ρ.length
    · rw [if_pos hl] at h2
      cases h2
      rw [← z, h] at h1
      cases h1
      exact ⟨v, rfl, r⟩
    · rw [if_neg hl] at h2
      cases h2
  · rw [if_neg z] at h2
    exact e.sl j s t h1 h2
theorem EnvOk.regain (e : EnvOk K B F H σ ρ) (n : pureE ρ = true) (h : σ[i]? = some (some (.ref l))) (hO : B.O[j]? = some l) (hl : H l = some o) (ho : OHold K F d o) (hf : F l = none) (hb : B.M l ∨ B.H0 l = none) : EnvOk K B F H σ (ρ.set i (.b j d)) := by
  have own : ∀ m a, OwnAt σ (ρ.set i (.b j d)) m a → m = i ∧ a = l := fun m a ⟨q1, t, q2, q3⟩ => by
    rw [set_st] at q2
    by_cases z : i = m
    · subst z
      rw [h] at q1
      cases q1
      exact ⟨rfl, rfl⟩
    · rw [if_neg z] at q2
      exact (pureE_ok n m a ⟨q1, t, q2, q3⟩).elim
  refine ⟨by rw [List.length_set]; exact e.len, e.fh, e.f0, e.ff, e.h0, fun m s t h1 h2 => ?_, fun m k a h1 h2 => (own m a h1).1.trans (own k a h2).1.symm, fun m a q => by rw [(own m a q).2]; exact hb⟩
  rw [set_st] at h2
  by_cases z : i = m
  · rw [if_pos z] at h2
    by_cases hm : m < ρ.length
    · rw [if_pos hm] at h2
      cases h2
      rw [← z, h] at h1
      cases h1
      exact ⟨l, o, rfl, hO, hl, ho, hf⟩
    · rw [if_neg hm] at h2
      cases h2
  · rw [if_neg z] at h2
    exact e.sl m s t h1 h2
/-- o.f = e while o is hidden -/
theorem z_fld {f : Str} {fs : List (Str × V)} {D' : Ends} (e : EnvOk K B F H σ ρ) (n : pureE ρ = true) (hs : σ[0]? = some (some (.ref l))) (hl : H l = some (.ins C dx fs)) (hf : F l = none) (hb : B.M l ∨ B.H0 l = none)
    (hv : E K tv ρ fun t ρ' => t.fz = .p d ∧ ρ' = ρ) (c : Cls K C) (na : NoAttr K C f) (hn : fs.length < 1000)
    (k : ∀ F' H' v, EnvOk K B F' H' σ ρ → Same F F' → F' l = none → Rep K F' d v → H' l = some (.ins C dx (putF f v fs)) → D'.nx σ H') : sFld K (tVar 0) tv f D' σ H :=
  E.frozen (P := fun t ρ' => t = .p d ∧ ρ' = ρ) hv (e.st n) fun v F1 H1 t ρ1 a1 e1 c1 p1 x1 ⟨y1, y2⟩ => by
    subst y1 y2
    obtain ⟨h1, h2⟩ := e1.gro.hid hl hf
    have e2 := e.ofSt e1.gro e1 n
    exact ⟨.ref l, hs, l, C, dx, fs, rfl, h1, c, na, hn, k F1 _ v (e2.hid h2 (fun i => pureE_ok n i l) hb) a1 h2 x1 upd_same⟩
/-- o.f = {} while o is hidden -/
theorem z_new {f : Str} {fs : List (Str × V)} {D' : Ends} (e : EnvOk K B F H σ ρ) (n : pureE ρ = true) (hs : σ[0]? = some (some (.ref l))) (hl : H l = some (.ins C dx fs)) (hf : F l = none) (hb : B.M l ∨ B.H0 l = none)
    (c : Cls K C) (na : NoAttr K C f) (hn : fs.length < 1000)
    (k : ∀ H' p, EnvOk K B F H' σ ρ → H p = none → l ≠ p → H' p = some (.dK []) → F p = none → (B.M p ∨ B.H0 p = none) → H' l = some (.ins C dx (putF f (.ref p) fs)) → D'.nx σ H') : sFld K (tVar 0) tDNewK f D' σ H := fun p hp => by
  have np : l ≠ p := ne_of_none hl hp
  have e1 : EnvOk K B F (upd H p (.dK [])) σ ρ := e.new hp
  refine ⟨.ref l, hs, l, C, dx, fs, rfl, by rw [upd_ne np]; exact hl, c, na, hn, k _ p (e1.hid hf (fun i => pureE_ok n i l) hb) hp np ?_ (e.fnone hp) (e.bnew hp) upd_same⟩
  rw [upd_ne np.symm, upd_same]
/-- an object under construction, its dict beside it -/
structure Hd (K : PySem.W.Frag) (B : Bs) (F H : Hp) (σ : L2.St) (ρ : Env) (l p C dx : Addr) (fs : List (Str × V)) (kvs : List (Key × V)) (d : D) : Prop where
  e : EnvOk K B F H σ ρ
  n : pureE ρ = true
  s0 : σ[0]? = some (some (.ref l))
  hl : H l = some (.ins C dx fs)
  hp : H p = some (.dK kvs)
  fl : F l = none
  fp : F p = none
  lp : l ≠ p
  bl : B.M l ∨ B.H0 l = none
  bp : B.M p ∨ B.H0 p = none
  rd : ∀ F', Same F F' → F' l = some (.ins C dx fs) → F' p = some (.dK kvs) → Rep K F' d (.ref l)
section
variable {fs : List (Str × V)} {kvs : List (Key × V)}
theorem Hd.fz (h : Hd K B F H σ ρ l p C dx fs kvs d) : ∃ F', Same F F' ∧ EnvOk K (stB F' H) F' H σ (ρ.set 0 (.p d)) := by
  have no := fun q (i : Nat) => pureE_ok (σ := σ) h.n i q
  have e1 := h.e.freeze h.hp h.fp h.bp (no p)
  have f1 : (upd F p (HO.dK kvs)) l = none := by rw [upd_ne h.lp]; exact h.fl
  have e2 := e1.freeze h.hl f1 h.bl (no l)
  have s2 : Same F (upd (upd F p (HO.dK kvs)) l (.ins C dx fs)) := (same_new h.fp).trans (same_new f1)
  exact ⟨_, s2, (e2.st h.n).know h.n h.s0 (h.rd _ s2 upd_same (by rw [upd_ne h.lp.symm, upd_same]))⟩
theorem z_T {PT : Bool → Prop} {Q : Bool → Hp → Prop} (h : Hd K B F H σ ρ l p C dx fs kvs d) (x : T K tt (ρ.set 0 (.p d)) fun b _ => PT b) (k : ∀ b H1, Hd K B F H1 σ ρ l p C dx fs kvs d → PT b → Q b H1) : tt σ H Q := by
  obtain ⟨F', s, e'⟩ := h.fz
  refine x _ F' H σ e' Q fun b F1 H1 ρ1 a1 e1 c1 q => ?_
  have g := e1.gro
  exact k b H1 ⟨h.e.grow (Same.refl F) (fun _ _ z => .inl z) g.h (h.e.fh.trans g.h), h.n, h.s0, g.h _ _ h.hl, g.h _ _ h.hp, h.fl, h.fp, h.lp, h.bl, h.bp, h.rd⟩ q
theorem z_E {PD : D → Prop} {Q : VK} (h : Hd K B F H σ ρ l p C dx fs kvs d) (x : E K te (ρ.set 0 (.p d)) fun t _ => ∃ d', t = .p d' ∧ d'.flat = true ∧ PD d') (k : ∀ v d' H1, Hd K B F H1 σ ρ l p C dx fs kvs d → (∀ F, Rep K F d' v) → PD d' → Q v H1) : te σ H Q := by
  obtain ⟨F', s, e'⟩ := h.fz
  refine x _ F' H σ e' Q fun v F1 H1 t ρ1 a1 e1 c1 x1 ⟨d', y1, y2, y3⟩ => ?_
  subst y1
  have g := e1.gro
  exact k v d' H1 ⟨h.e.grow (Same.refl F) (fun _ _ z => .inl z) g.h (h.e.fh.trans g.h), h.n, h.s0, g.h _ _ h.hl, g.h _ _ h.hp, h.fl, h.fp, h.lp, h.bl, h.bp, h.rd⟩ (fun F => flat_rep y2 x1) y3
theorem z_asg {rest : TS} {D' : Ends} (h : te σ H fun x H1 => rest D' (σ.set i (some x)) H1) : tSeq (tAsg te (gName i)) rest D' σ H := h
theorem z_if {ts rest : TS} {D' : Ends} (h : tt σ H fun b H1 => if b = true then ts { D' with nx := rest D' } σ H1 else rest D' σ H1) : tSeq (tIfS tt ts tNext) rest D' σ H := h
theorem Hd.grow (h : Hd K B F H σ ρ l p C dx fs kvs d) (e1 : EnvOk K B F1 H1 σ ρ) (a : Same F F1) (g : ∀ b o, H b = some o → H1 b = some o) (n : ∀ b o, F1 b = some o → F b = some o ∨ H b = none) : Hd K B F1 H1 σ ρ l p C dx fs kvs d := by
  have fr : ∀ {q : Addr} {o : HO}, H q = some o → F q = none → F1 q = none := fun {q o} h1 h2 => by
    cases z : F1 q with
    | none => rfl
    | some u =>
      rcases n q u z with w | w
      · rw [h2] at w; cases w
      · rw [h1] at w; cases w
  exact ⟨e1, h.n, h.s0, g _ _ h.hl, g _ _ h.hp, fr h.hl h.fl, fr h.hp h.fp, h.lp, h.bl, h.bp, fun F' s => h.rd F' (a.trans s)⟩
theorem Hd.get (h : Hd K B F H σ ρ l p C dx fs kvs d) (q : ρ[i]? = some (.p e)) : ∃ v, σ[i]? = some (some v) ∧ Rep K F e v := by
  obtain ⟨s, h1, v, rfl, h2⟩ := h.e.slot q
  exact ⟨v, h1, h2⟩
/-- a slot is set -/
theorem Hd.set {v : V} (h : Hd K B F H σ ρ l p C dx fs kvs d) (hi : i ≠ 0) (r : Rep K F e v) : Hd K B F H (σ.set i (some v)) (ρ.set i (.p e)) l p C dx fs kvs d := by
  refine ⟨h.e.setP rfl ⟨v, rfl, r⟩, ?_, by rw [List.getElem?_set_ne hi]; exact h.s0, h.hl, h.hp, h.fl, h.fp, h.lp, h.bl, h.bp, h.rd⟩
  have n := h.n
  unfold pureE at n ⊢
  rw [List.all_eq_true] at n ⊢
  intro t ht
  rcases List.mem_or_eq_of_mem_set ht with q | q
  · exact n t q
  · subst q; rfl
/-- the dict is rewritten -/
theorem Hd.put {kvs' : List (Key × V)} {d' : D} (h : Hd K B F H σ ρ l p C dx fs kvs d) (r : ∀ F', Same F F' → F' l = some (.ins C dx fs) → F' p = some (.dK kvs') → Rep K F' d' (.ref l)) : Hd K B F (upd H p (.dK kvs')) σ ρ l p C dx fs kvs' d' :=
  ⟨h.e.hid h.fp (fun i => pureE_ok h.n i p) h.bp, h.n, h.s0, by rw [upd_ne h.lp]; exact h.hl, upd_same, h.fl, h.fp, h.lp, h.bl, h.bp, r⟩
/-- done: the dict is frozen, the object goes back to its slot -/
theorem Hd.done (h : Hd K B F H σ ρ l p C dx fs kvs d) (hO : B.O[j]? = some l) (ho : ∀ F', Same F F' → F' p = some (.dK kvs) → OHold K F' d (.ins C dx fs)) : ∃ F', EnvOk K B F' H σ (ρ.set 0 (.b j d)) := by
  have e1 := h.e.freeze h.hp h.fp h.bp (fun i => pureE_ok h.n i p)
  have f1 : (upd F p (HO.dK kvs)) l = none := by rw [upd_ne h.lp]; exact h.fl
  exact ⟨_, e1.regain h.n h.s0 hO h.hl (ho _ (same_new h.fp) upd_same) f1 h.bl⟩
end
end
end VL
/-! VL13: results frozen as they are stored; lists taken apart; list(range(..)); statements cut -/
namespace VL
open PySem PySem.Spec PyProof.Rows L2
section
variable {K : PySem.W.Frag} {ρ ρ' : Env} {i j : Nat} {d e : D} {P : R → Env → Prop} {PG : Env → Prop} {Q : Po} {ts tu : TS} {gs : TGs} {te : TE} {ds : List D}
theorem g_nameF (q : PG (ρ.set i (.p d))) : G K (gName i) (.o d) ρ PG := fun B F H σ e v x Q k => by
  obtain ⟨F', s, e', x'⟩ := e.freezeRes (t := .o d) x
  exact k _ F' H _ s (e'.setP (t := .p d) rfl ⟨v, rfl, x'⟩) q
theorem s_cut (I : Env → Prop) (h1 : S K ts ρ { Q with nx := I }) (h2 : ∀ ρ1, I ρ1 → S K tu ρ1 Q) : S K (tSeq ts tu) ρ Q := s_seq (h1.mono (fun ρ1 q => h2 ρ1 q) (fun _ _ q => q) (fun _ q => q) (fun _ q => q))
theorem g_unlO {n : Nat} (hn : ds.length = n) (h : Gs K gs ds ρ PG) : G K (gUnl K n gs) (.o (.lst ds)) ρ PG := fun B F H σ e v ⟨l, o, x1, x2, ⟨xs, x3, x4, x5⟩, x6⟩ Q k =>
  ⟨l, xs, x1, SqL.of (by rw [x2, x3]), by rw [x4.length]; exact hn, h B F H σ e xs x4 Q k⟩
theorem reps_rng {F : Hp} : ∀ l : List Nat, Reps K F (l.map fun i => D.int (0 + (i : Nat))) (l.map fun i => V.int (0 + (i : Nat)))
  | [] => .nil
  | x :: r => .cons rfl (reps_rng r)
theorem e_listRg {P : R → Env → Prop} (h : E K te ρ fun t ρ1 => ∃ n : Nat, t = .p (.int n) ∧ n < 1000 ∧ P (.o (.lst (rngD 0 n))) ρ1) : E K (tLstRg (tRg1 te)) ρ P := fun B F H σ e Q k =>
  h B F H σ e _ fun v F1 H1 t ρ1 a1 e1 c1 x1 ⟨n, y1, y2, y3⟩ => by
    subst y1
    refine ⟨n, x1, RgOk.of_le (Int.le_refl _) (by omega) (by omega) (by omega), ?_⟩
    have hr : Reps K F1 (rngD 0 n) (rgV 0 n) := by
      unfold rngD rgV
      rw [show ((n : Int) - 0).toNat = n by omega]
      exact reps_rng _
    exact newL e1 hr (by rw [rngD_len]; show n ≤ 16777216; omega) y3 fun v F' H' t ρ' a b c x y => k v F' H' t ρ' (a1.trans a) b (c1.trans c) x y
theorem cutD_take {α : Type} {xs : List α} {k : Nat} : cutD xs none (some (k : Int)) = xs.take k := by
  show ((xs.drop 0).take (HT.sIx xs.length xs.length (some (k : Int)) - 0)) = xs.take k
  rw [HT.sIx_nat, List.drop_zero, Nat.sub_zero]
  rcases Nat.le_total k xs.length with h | h
  · rw [Nat.min_eq_left h]
  · rw [Nat.min_eq_right h, List.take_length, List.take_of_length_le h]
end
end VL
namespace K57
open PySem PySem.Spec PyProof.Rows L2 VL
def sSMALL : Str := "abcdefghijklmnopqrstuvwxyz"
def sCAPITAL : Str := "ABCDEFGHIJKLMNOPQRSTUVWXYZ"
def sDIGITS : Str := "0123456789"
def lRESERVED : List Str := ["all", "some", "not", "and", "or", "implies", "iff", "true", "false"]
def topS (i : Nat) : Stmt := PySem.Challenge.pw_kingsandcourts_k57_closed_terms_counted.main.body.getD i (.Pass ⟨0, 0, 0, 0⟩)
abbrev s_law_start : Stmt := topS 24
theorem sc_law_start : FnScope ["script", "row", "seed", "k", "cell", "j", "mixed"] ["script"] (defScope s_law_start) := ⟨rfl, rfl, rfl, by decide +kernel, rfl, by decide +kernel, by decide +kernel⟩
abbrev s_law_take : Stmt := topS 25
theorem sc_law_take : FnScope ["state", "many", "at", "mixed"] ["state", "many"] (defScope s_law_take) := ⟨rfl, rfl, rfl, by decide +kernel, rfl, by decide +kernel, by decide +kernel⟩
abbrev s_law_same : Stmt := topS 26
theorem sc_law_same : FnScope ["one", "two", "key", "k"] ["one", "two"] (defScope s_law_same) := ⟨rfl, rfl, rfl, by decide +kernel, rfl, by decide +kernel, by decide +kernel⟩
abbrev s_has_name_signs : Stmt := topS 12
theorem sc_has_name_signs : FnScope ["name", "sign"] ["name"] (defScope s_has_name_signs) := ⟨rfl, rfl, rfl, by decide +kernel, rfl, by decide +kernel, by decide +kernel⟩
abbrev s_is_small_name : Stmt := topS 13
theorem sc_is_small_name : FnScope ["name"] ["name"] (defScope s_is_small_name) := ⟨rfl, rfl, rfl, by decide +kernel, rfl, by decide +kernel, by decide +kernel⟩
abbrev s_is_capital_name : Stmt := topS 14
theorem sc_is_capital_name : FnScope ["name"] ["name"] (defScope s_is_capital_name) := ⟨rfl, rfl, rfl, by decide +kernel, rfl, by decide +kernel, by decide +kernel⟩
abbrev s_fresh_name : Stmt := topS 15
theorem sc_fresh_name : FnScope ["stem", "taken", "number"] ["stem", "taken"] (defScope s_fresh_name) := ⟨rfl, rfl, rfl, by decide +kernel, rfl, by decide +kernel, by decide +kernel⟩
abbrev s_named_signature : Stmt := topS 17
theorem sc_named_signature : FnScope ["signature", "taken", "name", "arity"] ["signature"] (defScope s_named_signature) := ⟨rfl, rfl, rfl, by decide +kernel, rfl, by decide +kernel, by decide +kernel⟩
abbrev s_rows_of : Stmt := topS 18
theorem sc_rows_of : FnScope ["choices", "length", "rows", "_", "row", "choice"] ["choices", "length"] (defScope s_rows_of) := ⟨rfl, rfl, rfl, by decide +kernel, rfl, by decide +kernel, by decide +kernel⟩
abbrev s_closed_terms : Stmt := topS 19
theorem sc_closed_terms : FnScope ["signature", "depth", "terms", "_", "deeper", "name", "arity", "made", "row", "term"] ["signature", "depth"] (defScope s_closed_terms) := ⟨rfl, rfl, rfl, by decide +kernel, rfl, by decide +kernel, by decide +kernel⟩
abbrev s_Signature___init__ : Stmt := inClass (topS 22) 0
theorem sc_Signature___init__ : FnScope ["self", "functions", "relations", "name", "arity", "small"] ["self", "functions", "relations"] (defScope s_Signature___init__) := ⟨rfl, rfl, rfl, by decide +kernel, rfl, by decide +kernel, by decide +kernel⟩
abbrev s_Signature_constants : Stmt := inClass (topS 22) 3
theorem sc_Signature_constants : FnScope ["self", "name", "arity"] ["self"] (defScope s_Signature_constants) := ⟨rfl, rfl, rfl, by decide +kernel, rfl, by decide +kernel, by decide +kernel⟩
abbrev s_Signature_extended : Stmt := inClass (topS 22) 4
theorem sc_Signature_extended : FnScope ["self", "functions"] ["self", "functions"] (defScope s_Signature_extended) := ⟨rfl, rfl, rfl, by decide +kernel, rfl, by decide +kernel, by decide +kernel⟩
abbrev s_law_drawn : Stmt := topS 27
theorem sc_law_drawn : FnScope ["state", "style", "small", "great", "constants", "kind", "towers", "functions", "mixed", "pair", "relations", "sign", "name", "k"] ["state"] (defScope s_law_drawn) := ⟨rfl, rfl, rfl, by decide +kernel, rfl, by decide +kernel, by decide +kernel⟩
abbrev s_law_count : Stmt := topS 28
theorem sc_law_count : FnScope ["functions", "many", "found", "name", "arity", "rows", "k"] ["functions", "many"] (defScope s_law_count) := ⟨rfl, rfl, rfl, by decide +kernel, rfl, by decide +kernel, by decide +kernel⟩
abbrev s_law_counts : Stmt := topS 29
theorem sc_law_counts : FnScope ["functions", "most", "counts", "depth", "more", "name", "arity"] ["functions", "most"] (defScope s_law_counts) := ⟨rfl, rfl, rfl, by decide +kernel, rfl, by decide +kernel, by decide +kernel⟩
abbrev s_law_deep : Stmt := topS 30
theorem sc_law_deep : FnScope ["term", "part"] ["term"] (defScope s_law_deep) := ⟨rfl, rfl, rfl, by decide +kernel, rfl, by decide +kernel, by decide +kernel⟩
abbrev s_law_rows : Stmt := topS 31
theorem sc_law_rows : FnScope ["terms", "length", "rows", "k", "longer", "row", "term"] ["terms", "length"] (defScope s_law_rows) := ⟨rfl, rfl, rfl, by decide +kernel, rfl, by decide +kernel, by decide +kernel⟩
abbrev s_law_listed : Stmt := topS 32
theorem sc_law_listed : FnScope ["functions", "depth", "terms", "level", "deeper", "name", "arity", "row", "term"] ["functions", "depth"] (defScope s_law_listed) := ⟨rfl, rfl, rfl, by decide +kernel, rfl, by decide +kernel, by decide +kernel⟩
abbrev s_law_asked : Stmt := topS 33
theorem sc_law_asked : FnScope ["signature", "functions", "counts", "depth", "told", "due", "term"] ["signature", "functions", "counts", "depth"] (defScope s_law_asked) := ⟨rfl, rfl, rfl, by decide +kernel, rfl, by decide +kernel, by decide +kernel⟩
abbrev s_law_typed : Stmt := topS 34
theorem sc_law_typed : FnScope ["a", "b", "signature", "first", "tower", "due", "k"] [] (defScope s_law_typed) := ⟨rfl, rfl, rfl, by decide +kernel, rfl, by decide +kernel, by decide +kernel⟩
abbrev s_law : Stmt := topS 35
theorem sc_law : FnScope ["script", "state", "functions", "relations", "signature", "counts", "named", "more", "taken", "most", "depth", "k", "name", "arity"] ["script"] (defScope s_law) := ⟨rfl, rfl, rfl, by decide +kernel, rfl, by decide +kernel, by decide +kernel⟩
structure Txt (K : PySem.W.Frag) (mg : Str → Option Value) where
  a_law_start : Addr
  d_law_start : FuncData
  F_law_start : Fun K "_law_start" "_law_start" s_law_start a_law_start d_law_start
  b_law_start : Binds K d_law_start ["script"] []
  g_law_start : mg "_law_start" = some (.ref a_law_start)
  a_law_take : Addr
  d_law_take : FuncData
  F_law_take : Fun K "_law_take" "_law_take" s_law_take a_law_take d_law_take
  b_law_take : Binds K d_law_take ["state", "many"] []
  g_law_take : mg "_law_take" = some (.ref a_law_take)
  a_law_same : Addr
  d_law_same : FuncData
  F_law_same : Fun K "_law_same" "_law_same" s_law_same a_law_same d_law_same
  b_law_same : Binds K d_law_same ["one", "two"] []
  g_law_same : mg "_law_same" = some (.ref a_law_same)
  a_has_name_signs : Addr
  d_has_name_signs : FuncData
  F_has_name_signs : Fun K "has_name_signs" "has_name_signs" s_has_name_signs a_has_name_signs d_has_name_signs
  b_has_name_signs : Binds K d_has_name_signs ["name"] []
  g_has_name_signs : mg "has_name_signs" = some (.ref a_has_name_signs)
  a_is_small_name : Addr
  d_is_small_name : FuncData
  F_is_small_name : Fun K "is_small_name" "is_small_name" s_is_small_name a_is_small_name d_is_small_name
  b_is_small_name : Binds K d_is_small_name ["name"] []
  g_is_small_name : mg "is_small_name" = some (.ref a_is_small_name)
  a_is_capital_name : Addr
  d_is_capital_name : FuncData
  F_is_capital_name : Fun K "is_capital_name" "is_capital_name" s_is_capital_name a_is_capital_name d_is_capital_name
  b_is_capital_name : Binds K d_is_capital_name ["name"] []
  g_is_capital_name : mg "is_capital_name" = some (.ref a_is_capital_name)
  a_fresh_name : Addr
  d_fresh_name : FuncData
  F_fresh_name : Fun K "fresh_name" "fresh_name" s_fresh_name a_fresh_name d_fresh_name
  b_fresh_name : Binds K d_fresh_name ["stem", "taken"] []
  g_fresh_name : mg "fresh_name" = some (.ref a_fresh_name)
  a_named_signature : Addr
  d_named_signature : FuncData
  F_named_signature : Fun K "named_signature" "named_signature" s_named_signature a_named_signature d_named_signature
  b_named_signature : Binds K d_named_signature ["signature"] []
  g_named_signature : mg "named_signature" = some (.ref a_named_signature)
  a_rows_of : Addr
  d_rows_of : FuncData
  F_rows_of : Fun K "rows_of" "rows_of" s_rows_of a_rows_of d_rows_of
  b_rows_of : Binds K d_rows_of ["choices", "length"] []
  g_rows_of : mg "rows_of" = some (.ref a_rows_of)
  a_closed_terms : Addr
  d_closed_terms : FuncData
  F_closed_terms : Fun K "closed_terms" "closed_terms" s_closed_terms a_closed_terms d_closed_terms
  b_closed_terms : Binds K d_closed_terms ["signature", "depth"] []
  g_closed_terms : mg "closed_terms" = some (.ref a_closed_terms)
  a_Signature___init__ : Addr
  d_Signature___init__ : FuncData
  F_Signature___init__ : Fun K "__init__" "Signature.__init__" s_Signature___init__ a_Signature___init__ d_Signature___init__
  b_Signature___init__ : Binds K d_Signature___init__ ["self", "functions", "relations"] []
  a_Signature_constants : Addr
  d_Signature_constants : FuncData
  F_Signature_constants : Fun K "constants" "Signature.constants" s_Signature_constants a_Signature_constants d_Signature_constants
  b_Signature_constants : Binds K d_Signature_constants ["self"] []
  a_Signature_extended : Addr
  d_Signature_extended : FuncData
  F_Signature_extended : Fun K "extended" "Signature.extended" s_Signature_extended a_Signature_extended d_Signature_extended
  b_Signature_extended : Binds K d_Signature_extended ["self", "functions"] []
  a_law_drawn : Addr
  d_law_drawn : FuncData
  F_law_drawn : Fun K "_law_drawn" "_law_drawn" s_law_drawn a_law_drawn d_law_drawn
  b_law_drawn : Binds K d_law_drawn ["state"] []
  g_law_drawn : mg "_law_drawn" = some (.ref a_law_drawn)
  a_law_count : Addr
  d_law_count : FuncData
  F_law_count : Fun K "_law_count" "_law_count" s_law_count a_law_count d_law_count
  b_law_count : Binds K d_law_count ["functions", "many"] []
  g_law_count : mg "_law_count" = some (.ref a_law_count)
  a_law_counts : Addr
  d_law_counts : FuncData
  F_law_counts : Fun K "_law_counts" "_law_counts" s_law_counts a_law_counts d_law_counts
  b_law_counts : Binds K d_law_counts ["functions", "most"] []
  g_law_counts : mg "_law_counts" = some (.ref a_law_counts)
  a_law_deep : Addr
  d_law_deep : FuncData
  F_law_deep : Fun K "_law_deep" "_law_deep" s_law_deep a_law_deep d_law_deep
  b_law_deep : Binds K d_law_deep ["term"] []
  g_law_deep : mg "_law_deep" = some (.ref a_law_deep)
  a_law_rows : Addr
  d_law_rows : FuncData
  F_law_rows : Fun K "_law_rows" "_law_rows" s_law_rows a_law_rows d_law_rows
  b_law_rows : Binds K d_law_rows ["terms", "length"] []
  g_law_rows : mg "_law_rows" = some (.ref a_law_rows)
  a_law_listed : Addr
  d_law_listed : FuncData
  F_law_listed : Fun K "_law_listed" "_law_listed" s_law_listed a_law_listed d_law_listed
  b_law_listed : Binds K d_law_listed ["functions", "depth"] []
  g_law_listed : mg "_law_listed" = some (.ref a_law_listed)
  a_law_asked : Addr
  d_law_asked : FuncData
  F_law_asked : Fun K "_law_asked" "_law_asked" s_law_asked a_law_asked d_law_asked
  b_law_asked : Binds K d_law_asked ["signature", "functions", "counts", "depth"] []
  g_law_asked : mg "_law_asked" = some (.ref a_law_asked)
  a_law_typed : Addr
  d_law_typed : FuncData
  F_law_typed : Fun K "_law_typed" "_law_typed" s_law_typed a_law_typed d_law_typed
  b_law_typed : Binds K d_law_typed [] []
  g_law_typed : mg "_law_typed" = some (.ref a_law_typed)
  a_law : Addr
  d_law : FuncData
  F_law : Fun K "law" "law" s_law a_law d_law
  b_law : Binds K d_law ["script"] []
  g_law : mg "law" = some (.ref a_law)
  z_abs : mg "abs" = none
  z_all : mg "all" = none
  z_any : mg "any" = none
  z_bool : mg "bool" = none
  z_dict : mg "dict" = none
  z_int : mg "int" = none
  z_isinstance : mg "isinstance" = none
  z_len : mg "len" = none
  z_list : mg "list" = none
  z_max : mg "max" = none
  z_range : mg "range" = none
  z_str : mg "str" = none
  z_tuple : mg "tuple" = none
  a_Signature : Addr
  g_Signature : mg "Signature" = some (.ref a_Signature)
  cl_Signature : Cls K a_Signature
  M_Signature : Mk K a_Signature a_Signature___init__
  m_Signature_constants : Meth K a_Signature "constants" a_Signature_constants
  m_Signature_extended : Meth K a_Signature "extended" a_Signature_extended
  n_functions : NoAttr K a_Signature "functions"
  n_relations : NoAttr K a_Signature "relations"
  n_table : NoAttr K a_Signature "table"
  u_SMALL : Value
  c_SMALL : mg "SMALL" = some u_SMALL
  r_SMALL : RelV (.str sSMALL) u_SMALL
  u_CAPITAL : Value
  c_CAPITAL : mg "CAPITAL" = some u_CAPITAL
  r_CAPITAL : RelV (.str sCAPITAL) u_CAPITAL
  u_DIGITS : Value
  c_DIGITS : mg "DIGITS" = some u_DIGITS
  r_DIGITS : RelV (.str sDIGITS) u_DIGITS
  u_LONGEST : Value
  c_LONGEST : mg "LONGEST" = some u_LONGEST
  r_LONGEST : RelV (.int 12) u_LONGEST
  u_MOST_ARGUMENTS : Value
  c_MOST_ARGUMENTS : mg "MOST_ARGUMENTS" = some u_MOST_ARGUMENTS
  r_MOST_ARGUMENTS : RelV (.int 3) u_MOST_ARGUMENTS
  a_RESERVED : Addr
  c_RESERVED : mg "RESERVED" = some (.ref a_RESERVED)
  q_RESERVED : ∀ H : Hp, SqT K H a_RESERVED (lRESERVED.map V.str)
section
variable {K : PySem.W.Frag} {mg : Str → Option Value} {X : Cx} {pos : Pos}
theorem cK_SMALL (T : Txt X.K X.mg) (hg : Gl X "SMALL" := by rfl) : PE X (.Name "SMALL" pos) (tC (.str sSMALL)) := pe_glob hg T.c_SMALL T.r_SMALL
theorem cK_CAPITAL (T : Txt X.K X.mg) (hg : Gl X "CAPITAL" := by rfl) : PE X (.Name "CAPITAL" pos) (tC (.str sCAPITAL)) := pe_glob hg T.c_CAPITAL T.r_CAPITAL
theorem cK_DIGITS (T : Txt X.K X.mg) (hg : Gl X "DIGITS" := by rfl) : PE X (.Name "DIGITS" pos) (tC (.str sDIGITS)) := pe_glob hg T.c_DIGITS T.r_DIGITS
theorem cK_LONGEST (T : Txt X.K X.mg) (hg : Gl X "LONGEST" := by rfl) : PE X (.Name "LONGEST" pos) (tC (.int 12)) := pe_glob hg T.c_LONGEST T.r_LONGEST
theorem cK_MOST_ARGUMENTS (T : Txt X.K X.mg) (hg : Gl X "MOST_ARGUMENTS" := by rfl) : PE X (.Name "MOST_ARGUMENTS" pos) (tC (.int 3)) := pe_glob hg T.c_MOST_ARGUMENTS T.r_MOST_ARGUMENTS
theorem cK_RESERVED (T : Txt X.K X.mg) (hg : Gl X "RESERVED" := by rfl) : PE X (.Name "RESERVED" pos) (tC (.ref T.a_RESERVED)) := pe_glob hg T.c_RESERVED rfl
end
end K57
namespace K57
open PySem PySem.Spec PyProof.Rows L2 VL
local macro_rules | `(tactic| walk_at "v1") => `(tactic| first
  | (with_reducible refine' s_seq ?_) | (with_reducible refine' s_next ?_) | (with_reducible refine' s_ret ?_) | (with_reducible refine' s_if ?_) | (with_reducible refine' x_setL ?_) | (with_reducible refine' s_asg ?_) | (with_reducible refine' s_drop ?_) | (with_reducible refine' s_retN ?_) | (with_reducible refine' i_rng1 ?_) | (with_reducible refine' i_rng2 ?_)
  | (with_reducible refine' g_name ?_) | (with_reducible refine' g_nameO ?_)
  | ((with_reducible refine' e_var ?h ?q); (case h => exact rfl)) | (with_reducible refine' e_int ?_) | (with_reducible refine' e_str ?_) | (with_reducible refine' e_bl ?_) | (with_reducible refine' e_non ?_)
  | ((with_reducible refine' e_al ?h ?g ?q); (case h => exact rfl); (case g => exact rfl))
  | ((with_reducible refine' oa_isi ?h ?hd ?hk ?q); (case h => exact rfl); (case hd => exact rfl); (case hk => first | exact kit_NoneType_bool | exact kit_NoneType_int | exact kit_NoneType_str | exact kit_NoneType_tuple | exact kit_NoneType_list | exact kit_NoneType_dict | exact kit_bool_bool | exact kit_bool_int | exact kit_bool_str | exact kit_bool_tuple | exact kit_bool_list | exact kit_bool_dict | exact kit_int_bool | exact kit_int_int | exact kit_int_str | exact kit_int_tuple | exact kit_int_list | exact kit_int_dict | exact kit_str_bool | exact kit_str_int | exact kit_str_str | exact kit_str_tuple | exact kit_str_list | exact kit_str_dict | exact kit_tuple_bool | exact kit_tuple_int | exact kit_tuple_str | exact kit_tuple_tuple | exact kit_tuple_list | exact kit_tuple_dict | exact kit_list_bool | exact kit_list_int | exact kit_list_str | exact kit_list_tuple | exact kit_list_list | exact kit_list_dict | exact kit_dict_bool | exact kit_dict_int | exact kit_dict_str | exact kit_dict_tuple | exact kit_dict_list | exact kit_dict_dict))
  | (with_reducible refine' e_bm ?_) | (with_reducible refine' e_bm0 ?_) | (refine ⟨.inl ⟨rfl, _, rdl_o rfl⟩, ?_⟩) | (refine ⟨.inl ⟨rfl, _, rdl_b rfl⟩, ?_⟩) | (refine ⟨.inr (.inl ⟨rfl, _, rfl⟩), ?_⟩)
  | ((refine om_append rfl rfl rfl ?l ?q); (case l => first | assumption | (show _ < 16777216; first | omega | (simp only [List.length_map, List.length_append, List.length_cons, List.length_nil]; omega))))
  | (with_reducible refine' e_op ?_) | (with_reducible refine' e_cb ?_) | (with_reducible refine' e_un ?_) | (with_reducible refine' x_tup ?_) | (with_reducible refine' x_lst ?_) | (with_reducible refine' x_call ?_) | (with_reducible refine' x_call1 ?_)
  | (with_reducible refine' a_cons ?_) | (with_reducible refine' a_nil ?_) | ((with_reducible refine' tupP ?h ?g ?q); (case h => exact rfl); (case g => exact Nat.le_of_ble_eq_true rfl)) | ((with_reducible refine' lstP ?h ?g ?q); (case h => exact rfl); (case g => exact Nat.le_of_ble_eq_true rfl))
  | (with_reducible refine' e_andV ?_) | (with_reducible refine' e_orV ?_) | (with_reducible refine' e_notV ?_) | (with_reducible refine' e_if ?_) | (with_reducible refine' e_chain ?_) | (with_reducible refine' t_ifT ?_) | (with_reducible refine' i_seq ?_) | (with_reducible refine' t_yes ?_)
  | (with_reducible refine' t_test ?_) | (with_reducible refine' t_B ?_) | (with_reducible refine' t_and ?_) | (with_reducible refine' t_or ?_) | (with_reducible refine' t_not ?_)
  | (refine o_addI ?_) | ((refine o_mulI ?c ?_); (case c => first | exact .inr ⟨by decide, by decide⟩ | exact .inl ⟨by decide, by decide⟩ | exact .inl ⟨by omega, by omega⟩ | exact .inr ⟨by omega, by omega⟩)) | (refine o_i ?_) | (refine o_ib ?_) | ((refine o_iC ?c ?_); (case c => first | (show (0 : Int) < _; first | decide | assumption | omega) | exact ⟨by decide, by decide⟩ | exact ⟨by decide, by decide, by decide⟩)) | (refine o_eqI ?_) | (refine o_eqS ?_) | (refine o_eqB ?_) | (refine o_isN ?_) | (refine o_notN ?_) | (refine o_neI ?_) | (refine o_neS ?_) | (refine o_neB ?_) | (refine o_un ?_)
  | (refine o_inSign ?_) | (refine o_inSL rdl_p ?_) | (refine o_inST ?_) | (refine oa_int ?_) | (refine oa_abs ?_) | (refine oa_lenC ?_) | (refine oa_lenT ?_) | (refine oa_lenL rdl_p ?_) | (refine oa_lenL (rdl_o rfl) ?_) | (refine oa_lenL (rdl_b rfl) ?_)
  | (refine o_ixL (rdl_b rfl) rfl ?_) | (refine o_ixL (rdl_o rfl) rfl ?_) | (refine o_ixL rdl_p rfl ?_) | (refine o_ixT rfl ?_)
  | (with_reducible refine' setP ?_) | (refine setI rfl rfl rfl rfl ?_) | (refine ite_t ?_) | (refine ite_f ?_) | (refine bl_ex ?_) | (refine ⟨_, rfl, ?_⟩))

def nameSigns (s : Str) : Bool := decide (1 ≤ s.length) && decide (s.length ≤ 12) && s.cps.toList.all fun c => decide (c ∈ sSMALL.cps.toList) || decide (c ∈ sCAPITAL.cps.toList) || decide (c ∈ sDIGITS.cps.toList)
def okSmall (s : Str) : Bool := nameSigns s && (match s.cps.toList with | c :: _ => decide (c ∈ sSMALL.cps.toList) | [] => false) && !decide (s ∈ lRESERVED)
def okCap (s : Str) : Bool := nameSigns s && (match s.cps.toList with | c :: _ => decide (c ∈ sCAPITAL.cps.toList) | [] => false)
theorem nameSigns_len {s : Str} (h : nameSigns s = true) : s.length ≤ 12 := by
  unfold nameSigns at h
  rw [Bool.and_eq_true, Bool.and_eq_true] at h
  exact of_decide_eq_true h.1.2
def sName (ok : Str → Bool) : List D → (R → Prop) → Prop := fun ds Rs => ∃ s : Str, ds = [.str s] ∧ ok s = true ∧ Rs = fun t => t = .p (.bl true)
def sFresh : List D → (R → Prop) → Prop := fun ds Rs => ∃ ss : List Str, ds = [.str "c", .lst (ss.map D.str)] ∧ ("c1" : Str) ∉ ss ∧ Rs = fun t => t = .p (.str "c1")
def rowsD (cs : List D) : Nat → List (List D)
  | 0 => [[]]
  | n + 1 => (rowsD cs n).flatMap fun r => cs.map fun c => r ++ [c]
theorem rowsD_len {cs : List D} : ∀ {n : Nat} (r : List D), r ∈ rowsD cs n → r.length = n
  | 0, r, h => by rw [List.mem_singleton.mp h]; rfl
  | n + 1, r, h => by
    obtain ⟨q, h1, h2⟩ := List.mem_flatMap.mp h
    obtain ⟨c, h3, rfl⟩ := List.mem_map.mp h2
    rw [List.length_append, rowsD_len q h1]
    rfl
def _root_.VL.D.items : D → List D
  | .tup l => l
  | _ => []
def sRows : List D → (R → Prop) → Prop := fun ds Rs => ∃ (cs : List D) (n : Nat), ds = [.lst cs, .int n] ∧ n < 100 ∧ (∀ k ≤ n, (rowsD cs k).length ≤ 1000) ∧ Rs = fun t => t = .o (.lst ((rowsD cs n).map D.tup))
section
variable {P : Program} {w : World} {K : PySem.W.Frag} {mg : Str → Option Value} {base : Heap}
theorem ok_signs (T : Txt K mg) : FnOk P w K mg base CX0 1 T.a_has_name_signs T.d_has_name_signs ["name"] (Sp0 K (sName nameSigns)) := by
  have hlen : ∀ ds Rs, sName nameSigns ds Rs → ds.length = 1 := by rintro ds Rs ⟨s, rfl, _⟩; rfl
  refine T.F_has_name_signs.ok sc_has_name_signs (Sp0.len hlen) (fun cdv A outer s H vs Q E hr h => ?_)
  have hl : vs.length = 1 := Sp0.len hlen _ _ _ _ h
  refine ⟨_, (pss_cons (ps_if (pt_not (pt_chain op_le op_le pe_int (pe_callB (r := rLenU K) call_lenU (by rfl) T.z_len PySem.boot_len (pa_cons (pv 0) pa_nil)) (cK_LONGEST T)))
        (pss_one (ps_ret pe_bl))
        pss_nil)
      (pss_cons (ps_for PassesOwn.never (by rfl) (PI.k (t' := iSeq K _) (pi_seq (pv 0)) rfl) (pg_name (i := 1) sc_has_name_signs.nd rfl (.inl rfl))
        (pss_one (ps_if (PW.pt (pw_and (pt_cmpR (r := rInU K true) (op_notInU (hu65 hr)) (pv 1) (cK_SMALL T) (by rfl)) (pw_and (pt_cmpR (r := rInU K true) (op_notInU (hu65 hr)) (pv 1) (cK_CAPITAL T) (by rfl)) (pw_and1 (pt_cmpR (r := rInU K true) (op_notInU (hu65 hr)) (pv 1) (cK_DIGITS T) (by rfl))))))
          (pss_one (ps_ret pe_bl))
          pss_nil)))
      (pss_one (ps_ret pe_bl)))), fn0 (by rw [hl]; decide) h ?_⟩
  rintro ds Rs ⟨s, rfl, hs, rfl⟩
  show S K _ [.p (.str s), .any] _
  unfold nameSigns at hs
  rw [Bool.and_eq_true, Bool.and_eq_true] at hs
  have h1 : 1 ≤ s.length := of_decide_eq_true hs.1.1
  have h2 : s.length ≤ 12 := of_decide_eq_true hs.1.2
  have h3 := List.all_eq_true.mp hs.2
  have hz : s.length ≤ sizeLine := Nat.le_trans h2 (by decide)
  have hc1 : decide ((1 : Int) ≤ (s.length : Int)) = true := decide_eq_true (by omega)
  have hc2 : decide ((s.length : Int) ≤ 12) = true := decide_eq_true (by omega)
  repeat walk_at "v1"
  refine oa_lenS hz ?_
  repeat walk_at "v1"
  rw [hc1]
  refine ite_t ?_
  repeat walk_at "v1"
  rw [hc2]
  refine ite_f ?_
  repeat walk_at "v1"
  refine s_for ?_
  repeat walk_at "v1"
  refine ⟨fun i ρ => ∃ x, ρ = [.p (.str s), x], ⟨_, rfl⟩, ?_, ?_⟩
  · rintro i d ρ hd ⟨x, rfl⟩
    obtain ⟨c, hc, rfl⟩ := List.mem_map.mp (List.mem_of_getElem? hd)
    have hcc := h3 c hc
    refine g_name ?_
    show S K _ [.p (.str s), .p (.str ⟨#[c]⟩)] _
    repeat walk_at "v1"
    refine ite_b (fun q1 => ?_) (fun _ => ?_)
    · repeat walk_at "v1"
      refine ite_b (fun q2 => ?_) (fun _ => ?_)
      · repeat walk_at "v1"
        refine ite_b (fun q3 => ?_) (fun _ => ?_)
        · rw [if_pos rfl] at q1 q2 q3
          simp at q1 q2 q3
          simp [q1, q2, q3] at hcc
        · repeat walk_at "v1"
          exact ⟨_, rfl⟩
      · repeat walk_at "v1"
        exact ⟨_, rfl⟩
    · repeat walk_at "v1"
      exact ⟨_, rfl⟩
  · rintro ρ ⟨x, rfl⟩
    repeat walk_at "v1"
    exact ⟨trivial, rfl⟩
theorem ok_small (T : Txt K mg) : FnOk P w K mg base CX0 2 T.a_is_small_name T.d_is_small_name ["name"] (Sp0 K (sName okSmall)) := by
  have G_has_name_signs := ok_signs (P := P) (w := w) (base := base) T
  have hlen : ∀ ds Rs, sName okSmall ds Rs → ds.length = 1 := by rintro ds Rs ⟨s, rfl, _⟩; rfl
  refine T.F_is_small_name.ok sc_is_small_name (Sp0.len hlen) (fun cdv A outer s H vs Q E hr h => ?_)
  have hl : vs.length = 1 := Sp0.len hlen _ _ _ _ h
  refine ⟨_, (pss_one (ps_ret (pe_and (pe_call G_has_name_signs (hr.mono (by omega)) (by rfl) T.g_has_name_signs T.F_has_name_signs.kp T.b_has_name_signs .nil pass0 (pa_cons (pv 0) pa_nil)) (pe_and (pe_cmpR (r := rInU K false) (op_inU (hu65 hr)) (pe_ix (r := rIx K) ix_seq (pv 0) pe_int (fun _ _ => rfl)) (cK_SMALL T) (by rfl)) (pe_one (pe_cmpR (r := rInU K true) (op_notInU (hu65 hr)) (pv 0) (cK_RESERVED T) (by rfl))))))), fn0 (by rw [hl]; decide) h ?_⟩
  rintro ds Rs ⟨s, rfl, hs, rfl⟩
  show S K _ [.p (.str s)] _
  unfold okSmall at hs
  rw [Bool.and_eq_true, Bool.and_eq_true] at hs
  obtain ⟨⟨h1, h2⟩, h3⟩ := hs
  have hz : s.length ≤ sizeLine := Nat.le_trans (nameSigns_len h1) (by decide)
  repeat walk_at "v1"
  refine callP rfl ⟨s, rfl, h1, rfl⟩ fun t ht _ => ?_
  subst ht
  repeat walk_at "v1"
  cases hh : s.cps.toList with
  | nil => rw [hh] at h2; cases h2
  | cons c r =>
    rw [hh] at h2
    refine o_ixS hz (c := c) (by rw [hh, atI_pos (Int.le_refl _)]; rfl) ?_
    repeat walk_at "v1"
    refine ite_b (fun _ => ?_) (fun q => absurd (h2.symm.trans q) (by decide))
    repeat walk_at "v1"
    refine e_ct (d := .tup (lRESERVED.map D.str)) (fun F => ⟨_, _, rfl, T.q_RESERVED F, Reps.strs _, Nat.le_of_ble_eq_true rfl⟩) ?_
    repeat walk_at "v1"
    exact ⟨trivial, by rw [if_pos rfl, h3]⟩
theorem ok_cap (T : Txt K mg) : FnOk P w K mg base CX0 2 T.a_is_capital_name T.d_is_capital_name ["name"] (Sp0 K (sName okCap)) := by
  have G_has_name_signs := ok_signs (P := P) (w := w) (base := base) T
  have hlen : ∀ ds Rs, sName okCap ds Rs → ds.length = 1 := by rintro ds Rs ⟨s, rfl, _⟩; rfl
  refine T.F_is_capital_name.ok sc_is_capital_name (Sp0.len hlen) (fun cdv A outer s H vs Q E hr h => ?_)
  have hl : vs.length = 1 := Sp0.len hlen _ _ _ _ h
  refine ⟨_, (pss_one (ps_ret (pe_and (pe_call G_has_name_signs (hr.mono (by omega)) (by rfl) T.g_has_name_signs T.F_has_name_signs.kp T.b_has_name_signs .nil pass0 (pa_cons (pv 0) pa_nil)) (pe_one (pe_cmpR (r := rInU K false) (op_inU (hu65 hr)) (pe_ix (r := rIx K) ix_seq (pv 0) pe_int (fun _ _ => rfl)) (cK_CAPITAL T) (by rfl)))))), fn0 (by rw [hl]; decide) h ?_⟩
  rintro ds Rs ⟨s, rfl, hs, rfl⟩
  show S K _ [.p (.str s)] _
  unfold okCap at hs
  rw [Bool.and_eq_true] at hs
  obtain ⟨h1, h2⟩ := hs
  have hz : s.length ≤ sizeLine := Nat.le_trans (nameSigns_len h1) (by decide)
  repeat walk_at "v1"
  refine callP rfl ⟨s, rfl, h1, rfl⟩ fun t ht _ => ?_
  subst ht
  repeat walk_at "v1"
  cases hh : s.cps.toList with
  | nil => rw [hh] at h2; cases h2
  | cons c r =>
    rw [hh] at h2
    refine o_ixS hz (c := c) (by rw [hh, atI_pos (Int.le_refl _)]; rfl) ?_
    repeat walk_at "v1"
    exact ⟨trivial, congrArg (fun b => R.p (D.bl b)) h2⟩
theorem ok_fresh (T : Txt K mg) : FnOk P w K mg base CX0 1 T.a_fresh_name T.d_fresh_name ["stem", "taken"] (Sp0 K sFresh) := by
  have hlen : ∀ ds Rs, sFresh ds Rs → ds.length = 2 := by rintro ds Rs ⟨s, rfl, _⟩; rfl
  refine T.F_fresh_name.ok sc_fresh_name (Sp0.len hlen) (fun cdv A outer s H vs Q E hr h => ?_)
  have hl : vs.length = 2 := Sp0.len hlen _ _ _ _ h
  refine ⟨_, (pss_cons (ps_set (i := 2) sc_fresh_name.nd rfl (.inl rfl) pe_int)
      (pss_cons (ps_while PassesOwn.never (pt_cmpR (r := rInU K false) (op_inU (hu65 hr)) (pe_op (r := rAddU K) op_addU (pv 0) (pe_callTy call_str_int (by rfl) T.z_str (by decide +kernel) (pa_cons (pv 2) pa_nil))) (pv 1) (by rfl))
        (pss_one (ps_aug (i := 2) sc_fresh_name.nd rfl (.inl rfl) pe_int ip_add)))
      (pss_one (ps_ret (pe_op (r := rAddU K) op_addU (pv 0) (pe_callTy call_str_int (by rfl) T.z_str (by decide +kernel) (pa_cons (pv 2) pa_nil))))))), fn0 (by rw [hl]; decide) h ?_⟩
  rintro ds Rs ⟨ss, rfl, hs, rfl⟩
  show S K _ [.p (.str "c"), .p (.lst (ss.map D.str)), .any] _
  repeat walk_at "v1"
  have hc : (Str.ofString "c" ++ Str.ofString (toString (1 : Int)) : Str) = "c1" := by decide +kernel
  show S K _ [.p (.str "c"), .p (.lst (ss.map D.str)), .p (.int 1)] _
  refine s_while (fun _ ρ => ρ = [.p (.str "c"), .p (.lst (ss.map D.str)), .p (.int 1)]) ⟨0, rfl⟩ ?_
  rintro m ρ rfl
  repeat walk_at "v1"
  refine oa_strI (by decide) ?_
  refine o_addS (by decide +kernel) ?_
  repeat walk_at "v1"
  rw [hc]
  refine ite_b (fun q => absurd (of_decide_eq_true (show decide (_ ∈ ss) = true from q)) hs) (fun _ => ?_)
  repeat walk_at "v1"
  refine oa_strI (by decide) ?_
  refine o_addS (by decide +kernel) ?_
  rw [hc]
  exact ⟨trivial, rfl⟩
theorem ok_rows (T : Txt K mg) : FnOk P w K mg base CX0 1 T.a_rows_of T.d_rows_of ["choices", "length"] (Sp0 K sRows) := by
  have hlen : ∀ ds Rs, sRows ds Rs → ds.length = 2 := by rintro ds Rs ⟨s, n, rfl, _⟩; rfl
  refine T.F_rows_of.ok sc_rows_of (Sp0.len hlen) (fun cdv A outer s H vs Q E hr h => ?_)
  have hl : vs.length = 2 := Sp0.len hlen _ _ _ _ h
  refine ⟨_, (pss_cons (ps_set (i := 2) sc_rows_of.nd rfl (.inl rfl) (pe_lst (pa_cons (pe_tup pa_nil) pa_nil)))
      (pss_cons (ps_for PassesOwn.never (by rfl) (pi_range1 (by rfl) T.z_range (pa_cons (pv 1) pa_nil)) (pg_name (i := 3) sc_rows_of.nd rfl (.inl rfl))
        (pss_one (ps_setLc2 (i := 2) (own := [("row", 4), ("choice", 5)]) (by rfl) sc_rows_of.nd rfl rfl (sw_true rfl rfl rfl (by decide +kernel)) (PI.k (t' := iSeq K _) (pi_seq (pv 2)) rfl) (blkOk_by (own := [("row", 4), ("choice", 5)]) (N := ["choices", "length", "rows", "_", "row", "choice"]) (sc := defScope s_rows_of) (by decide +kernel)) (vs1 := [5]) (by decide) (fun _ _ _ _ _ => (pg_name (i := 4) sc_rows_of.nd rfl (.inl rfl))) (fun _ _ _ _ _ => pts_nil) (fun _ _ _ _ _ => (PI.k (t' := iSeq K _) (pi_seq (pv 0)) rfl)) (fun _ _ _ _ _ => (pg_name (i := 5) sc_rows_of.nd rfl (.inl rfl))) (fun _ _ _ _ _ => pts_nil) (fun _ _ _ _ _ => (pe_op (r := rAddU K) op_addU (pv 4) (pe_tup (pa_cons (pv 5) pa_nil)))))))
      (pss_one (ps_ret (pv 2))))), fn0 (by rw [hl]; decide) h ?_⟩
  rintro ds Rs ⟨cs, n, rfl, hn, hk, rfl⟩
  show S K _ [.p (.lst cs), .p (.int n), .any, .any, .any, .any] _
  repeat walk_at "v1"
  show S K _ [.p (.lst cs), .p (.int n), .o (.lst ((rowsD cs 0).map D.tup)), .any, .any, .any] _
  refine s_for ?_
  repeat walk_at "v1"
  refine ⟨by omega, by omega, fun i ρ => ∃ x4 x5 x6, x4.owns = false ∧ x5.owns = false ∧ x6.owns = false ∧ ρ = [.p (.lst cs), .p (.int n), .o (.lst ((rowsD cs i).map D.tup)), x4, x5, x6], ⟨_, _, _, rfl, rfl, rfl, rfl⟩, ?_, ?_⟩
  · rintro i d ρ hd ⟨x4, x5, x6, n4, n5, n6, rfl⟩
    obtain ⟨hi, rfl⟩ := rngD_get hd
    have hi : i < n := by omega
    refine g_name ?_
    show S K _ [.p (.lst cs), .p (.int n), .o (.lst ((rowsD cs i).map D.tup)), .p (.int (0 + (i : Int))), x5, x6] _
    refine s_fz (i := 2) rfl ?_
    show S K _ [.p (.lst cs), .p (.int n), .p (.lst ((rowsD cs i).map D.tup)), .p (.int (0 + (i : Int))), x5, x6] _
    have hlen : ((rowsD cs (i + 1)).map D.tup).length ≤ 1000 := by rw [List.length_map]; exact hk (i + 1) hi
    have heq : (((rowsD cs i).map D.tup).flatMap fun d => cs.map fun e => D.tup (d.items ++ [e])) = (rowsD cs (i + 1)).map D.tup := by
      rw [List.flatMap_map]
      show _ = ((rowsD cs i).flatMap fun r => cs.map fun c => r ++ [c]).map D.tup
      rw [List.map_flatMap]
      congr 1
      funext r
      rw [List.map_map]
      rfl
    repeat walk_at "v1"
    refine e_lc2 ?_ (by decide)
    repeat walk_at "v1"
    refine ⟨by simp only [pureE, List.all_cons, List.all_nil, n5, n6]; rfl, fun _ => cs, fun d e => .tup (d.items ++ [e]), by rw [heq]; exact Nat.le_trans hlen (by decide), ?_, ?_⟩
    · intro d hd
      obtain ⟨r, hr, rfl⟩ := List.mem_map.mp hd
      refine gc_name (by decide) ?_
      repeat walk_at "v1"
      refine ⟨rfl, rfl, ?_⟩
      repeat walk_at "v1"
      refine ⟨rfl, rfl, rfl, ?_⟩
      intro e he
      refine gc_name (by decide) ?_
      repeat walk_at "v1"
      refine ⟨rfl, ?_⟩
      repeat walk_at "v1"
      refine o_addT (by rw [rowsD_len r hr]; show i + 1 ≤ 16777216; omega) ?_
      exact ⟨rfl, rfl, rfl⟩
    · rw [heq]
      repeat walk_at "v1"
      exact ⟨_, _, _, rfl, rfl, rfl, rfl⟩
  · rintro ρ ⟨x4, x5, x6, n4, n5, n6, rfl⟩
    rw [rngD_len]
    refine s_retO rfl ⟨trivial, rfl⟩
end
section
variable {P : Program} {w : World} {K : PySem.W.Frag} {mg : Str → Option Value} {base : Heap}
theorem ok_take (T : Txt K mg) : FnOk P w K mg base CX0 1 T.a_law_take T.d_law_take ["state", "many"] (Sp1 K sTake) := by
  have hlen : ∀ ds Rs, sTake ds Rs → ds.length = 2 := by rintro ds Rs ⟨s, n, m, rfl, _⟩; rfl
  refine T.F_law_take.ok sc_law_take (Sp1.len hlen) (fun cdv A outer s H vs Q E hr h => ?_)
  have hl : vs.length = 2 := Sp1.len hlen _ _ _ _ h
  refine ⟨_, (pss_cons (ps_set (i := 2) sc_law_take.nd rfl (.inl rfl) (pe_ix (r := rIx K) ix_seq (pv 0) pe_int (fun _ _ => rfl)))
      (pss_cons (ps_asg (pe_op (r := rAddU K) op_addU (pv 2) pe_int) (pg_sub (pv 0) pe_int set_list))
      (pss_cons (ps_if (pt_cmpR op_lt (pv 2) (pe_callB (r := rLenU K) call_lenU (by rfl) T.z_len PySem.boot_len (pa_cons (pe_ix (r := rIx K) ix_seq (pv 0) pe_int (fun _ _ => rfl)) pa_nil)) (nomark _))
        (pss_one (ps_ret (pe_op op_mod (pe_callTy call_int1 (by rfl) T.z_int (by decide +kernel) (pa_cons (pe_ix (r := rIx K) ix_seq (pe_ix (r := rIx K) ix_seq (pv 0) pe_int (fun _ _ => rfl)) (pv 2) (fun _ _ => rfl)) pa_nil)) (pv 1))))
        pss_nil)
      (pss_cons (ps_set (i := 3) sc_law_take.nd rfl (.inl rfl) (pe_op op_mod (pe_callTy call_int1 (by rfl) T.z_int (by decide +kernel) (pa_cons (pe_op op_mulU (pe_op (r := rAddU K) op_addU (pe_ix (r := rIx K) ix_seq (pv 0) pe_int (fun _ _ => rfl)) (pe_op op_mulU (pv 2) pe_int)) pe_int) pa_nil)) pe_int))
      (pss_cons (ps_set (i := 3) sc_law_take.nd rfl (.inl rfl) (pe_op op_mod (pe_callTy call_int1 (by rfl) T.z_int (by decide +kernel) (pa_cons (pe_op (r := rAddU K) op_addU (pe_op op_mulU (pv 3) pe_int) (pe_op op_mulU (pv 2) (pv 2))) pa_nil)) pe_int))
      (pss_one (ps_ret (pe_op op_mod (pe_op op_fdiv (pv 3) pe_int) (pv 1))))))))), fn1 (by rw [hl]; decide) h ?_⟩
  rintro d ds Rs ⟨s, n, m, he, hok, hm, rfl⟩
  cases he
  obtain ⟨row, pl, seed⟩ := s
  dsimp only [cxOf, L2.Cx.nox, L2.Cx.wish]
  show S K _ [.b 0 (.lst [.lst (row.map D.int), .int pl, .int seed]), .p (.int m), .any, .any] _
  repeat walk_at "v1"
  have hb : pl + (n + 1) ≤ 2 ^ 60 := hok.p1
  have h0 : 0 ≤ pl := hok.p0
  have ok' : LS.Ok ⟨row, pl + 1, seed⟩ n := ⟨hok.row, by show 0 ≤ pl + 1; omega, by show pl + 1 + n ≤ 2 ^ 60; omega⟩
  refine ite_d (fun hlt => ?_) (fun hlt => ?_)
  · show S K _ [.b 0 (LS.d ⟨row, pl + 1, seed⟩), .p (.int m), .p (.int pl), .any] _
    rw [List.length_map] at hlt
    have hp : pl.toNat < row.length := by omega
    have hr0 := hok.row row[pl.toNat] (List.getElem_mem _)
    repeat walk_at "v1"
    refine o_ixL rdl_p (d := .int row[pl.toNat]) ?_ ?_
    · rw [atI_pos h0, List.getElem?_map, List.getElem?_eq_getElem hp]
      rfl
    repeat walk_at "v1"
    exact ⟨trivial, _, rfl, _, _, rfl, Int.emod_nonneg _ (by omega), Int.emod_lt_of_pos _ hm, rfl, ok'⟩
  · show S K _ [.b 0 (LS.d ⟨row, pl + 1, seed⟩), .p (.int m), .p (.int pl), .any] _
    repeat walk_at "v1"
    exact ⟨trivial, _, rfl, _, _, rfl, Int.emod_nonneg _ (by omega), Int.emod_lt_of_pos _ hm, rfl, ok'⟩
theorem ok_same (T : Txt K mg) : ∀ n, FnOk P w K mg base CX0 n T.a_law_same T.d_law_same ["one", "two"] (Sp0 K (sSame n))
  | 0 => fn_none (Sp0.none (by rintro ds Rs ⟨d, _, _, h, _⟩; omega))
  | n + 1 => by
    have G_law_same := ok_same T n
    have hlen : ∀ ds Rs, sSame (n + 1) ds Rs → ds.length = 2 := by rintro ds Rs ⟨s, rfl, _⟩; rfl
    refine T.F_law_same.ok sc_law_same (Sp0.len hlen) (fun cdv A outer s H vs Q E hr h => ?_)
    have hl : vs.length = 2 := Sp0.len hlen _ _ _ _ h
    refine ⟨_, (pss_cons (ps_if (PW.pt (pw_or (pt_cmpR op_isN (pv 0) pe_non (nomark _)) (pw_or1 (pt_cmpR op_isN (pv 1) pe_non (nomark _)))))
        (pss_one (ps_ret (pe_and (pe_cmpR op_isN (pv 0) pe_non (nomark _)) (pe_one (pe_cmpR op_isN (pv 1) pe_non (nomark _))))))
        pss_nil)
      (pss_cons (ps_if (PW.pt (pw_or (pt_val (pe_callB (r := rIsi K) call_isi (by rfl) T.z_isinstance (by decide +kernel) (pa_cons (pv 0) (pa_cons (pe_bltn (v := .ty "bool") (by rfl) T.z_bool (by decide +kernel) rfl) pa_nil)))) (pw_or1 (pt_val (pe_callB (r := rIsi K) call_isi (by rfl) T.z_isinstance (by decide +kernel) (pa_cons (pv 1) (pa_cons (pe_bltn (v := .ty "bool") (by rfl) T.z_bool (by decide +kernel) rfl) pa_nil)))))))
        (pss_one (ps_ret (pe_and (pe_callB (r := rIsi K) call_isi (by rfl) T.z_isinstance (by decide +kernel) (pa_cons (pv 0) (pa_cons (pe_bltn (v := .ty "bool") (by rfl) T.z_bool (by decide +kernel) rfl) pa_nil))) (pe_and (pe_callB (r := rIsi K) call_isi (by rfl) T.z_isinstance (by decide +kernel) (pa_cons (pv 1) (pa_cons (pe_bltn (v := .ty "bool") (by rfl) T.z_bool (by decide +kernel) rfl) pa_nil))) (pe_one (pe_cmpR (r := rEqU K) (op_eqU hr.units) (pv 0) (pv 1) (nomark _)))))))
        pss_nil)
      (pss_cons (ps_if (PW.pt (pw_or (pt_val (pe_callB (r := rIsi K) call_isi (by rfl) T.z_isinstance (by decide +kernel) (pa_cons (pv 0) (pa_cons (pe_bltn (v := .ty "int") (by rfl) T.z_int (by decide +kernel) rfl) pa_nil)))) (pw_or1 (pt_val (pe_callB (r := rIsi K) call_isi (by rfl) T.z_isinstance (by decide +kernel) (pa_cons (pv 1) (pa_cons (pe_bltn (v := .ty "int") (by rfl) T.z_int (by decide +kernel) rfl) pa_nil)))))))
        (pss_one (ps_ret (pe_and (pe_callB (r := rIsi K) call_isi (by rfl) T.z_isinstance (by decide +kernel) (pa_cons (pv 0) (pa_cons (pe_bltn (v := .ty "int") (by rfl) T.z_int (by decide +kernel) rfl) pa_nil))) (pe_and (pe_callB (r := rIsi K) call_isi (by rfl) T.z_isinstance (by decide +kernel) (pa_cons (pv 1) (pa_cons (pe_bltn (v := .ty "int") (by rfl) T.z_int (by decide +kernel) rfl) pa_nil))) (pe_one (pe_cmpR (r := rEqU K) (op_eqU hr.units) (pv 0) (pv 1) (nomark _)))))))
        pss_nil)
      (pss_cons (ps_if (PW.pt (pw_or (pt_val (pe_callB (r := rIsi K) call_isi (by rfl) T.z_isinstance (by decide +kernel) (pa_cons (pv 0) (pa_cons (pe_bltn (v := .ty "str") (by rfl) T.z_str (by decide +kernel) rfl) pa_nil)))) (pw_or1 (pt_val (pe_callB (r := rIsi K) call_isi (by rfl) T.z_isinstance (by decide +kernel) (pa_cons (pv 1) (pa_cons (pe_bltn (v := .ty "str") (by rfl) T.z_str (by decide +kernel) rfl) pa_nil)))))))
        (pss_one (ps_ret (pe_and (pe_callB (r := rIsi K) call_isi (by rfl) T.z_isinstance (by decide +kernel) (pa_cons (pv 0) (pa_cons (pe_bltn (v := .ty "str") (by rfl) T.z_str (by decide +kernel) rfl) pa_nil))) (pe_and (pe_callB (r := rIsi K) call_isi (by rfl) T.z_isinstance (by decide +kernel) (pa_cons (pv 1) (pa_cons (pe_bltn (v := .ty "str") (by rfl) T.z_str (by decide +kernel) rfl) pa_nil))) (pe_one (pe_cmpR (r := rEqU K) (op_eqU hr.units) (pv 0) (pv 1) (nomark _)))))))
        pss_nil)
      (pss_cons (ps_if (PW.pt (pw_or (pt_cmpR (r := rNeU K) (op_neU hr.units) (pe_callB (r := rIsi K) call_isi (by rfl) T.z_isinstance (by decide +kernel) (pa_cons (pv 0) (pa_cons (pe_bltn (v := .ty "tuple") (by rfl) T.z_tuple (by decide +kernel) rfl) pa_nil))) (pe_callB (r := rIsi K) call_isi (by rfl) T.z_isinstance (by decide +kernel) (pa_cons (pv 1) (pa_cons (pe_bltn (v := .ty "tuple") (by rfl) T.z_tuple (by decide +kernel) rfl) pa_nil))) (nomark _)) (pw_or1 (pt_cmpR (r := rNeU K) (op_neU hr.units) (pe_callB (r := rIsi K) call_isi (by rfl) T.z_isinstance (by decide +kernel) (pa_cons (pv 0) (pa_cons (pe_bltn (v := .ty "list") (by rfl) T.z_list (by decide +kernel) rfl) pa_nil))) (pe_callB (r := rIsi K) call_isi (by rfl) T.z_isinstance (by decide +kernel) (pa_cons (pv 1) (pa_cons (pe_bltn (v := .ty "list") (by rfl) T.z_list (by decide +kernel) rfl) pa_nil))) (nomark _)))))
        (pss_one (ps_ret pe_bl))
        pss_nil)
      (pss_cons (ps_if (PW.pt (pw_or (pt_val (pe_callB (r := rIsi K) call_isi (by rfl) T.z_isinstance (by decide +kernel) (pa_cons (pv 0) (pa_cons (pe_bltn (v := .ty "dict") (by rfl) T.z_dict (by decide +kernel) rfl) pa_nil)))) (pw_or1 (pt_val (pe_callB (r := rIsi K) call_isi (by rfl) T.z_isinstance (by decide +kernel) (pa_cons (pv 1) (pa_cons (pe_bltn (v := .ty "dict") (by rfl) T.z_dict (by decide +kernel) rfl) pa_nil)))))))
        (pss_cons ps_never
        (pss_one ps_never))
        pss_nil)
      (pss_cons (ps_if (pt_cmpR (r := rNeU K) (op_neU hr.units) (pe_callB (r := rLenU K) call_lenU (by rfl) T.z_len PySem.boot_len (pa_cons (pv 0) pa_nil)) (pe_callB (r := rLenU K) call_lenU (by rfl) T.z_len PySem.boot_len (pa_cons (pv 1) pa_nil)) (nomark _))
        (pss_one (ps_ret pe_bl))
        pss_nil)
      (pss_one (ps_ret (pe_callB (r := rAll K) (cr_all rfl) (by rfl) T.z_all (by decide +kernel) (pa_cons (pe_lc (own := [("k", 3)]) (by rfl) sc_law_same.nd (pi_range1 (by rfl) T.z_range (pa_cons (pe_callB (r := rLenU K) call_lenU (by rfl) T.z_len PySem.boot_len (pa_cons (pv 0) pa_nil)) pa_nil)) (blkOk_by (own := [("k", 3)]) (N := ["one", "two", "key", "k"]) (sc := defScope s_law_same) (by decide +kernel)) (fun _ _ _ _ _ => (pg_name (i := 3) sc_law_same.nd rfl (.inl rfl))) (fun _ _ _ _ _ => pts_nil) (fun _ _ _ _ _ => (pe_call G_law_same (hr.mono (by omega)) (by rfl) T.g_law_same T.F_law_same.kp T.b_law_same .nil pass0 (pa_cons (pe_ix (r := rIx K) ix_seq (pv 0) (pv 3) (fun _ _ => rfl)) (pa_cons (pe_ix (r := rIx K) ix_seq (pv 1) (pv 3) (fun _ _ => rfl)) pa_nil))))) pa_nil))))))))))), fn0 (by rw [hl]; decide) h ?_⟩
    rintro ds Rs ⟨d, rfl, hp, hd, _, rfl⟩
    dsimp only [cxOf, L2.Cx.nox, L2.Cx.wish]
    show S K _ [.p d, .p d, .any, .any] _
    cases d with
    | non =>
      repeat walk_at "v1"
      exact ⟨trivial, rfl⟩
    | bl b =>
      repeat walk_at "v1"
      exact ⟨trivial, by simp⟩
    | int b =>
      repeat walk_at "v1"
      exact ⟨trivial, by simp⟩
    | str b =>
      repeat walk_at "v1"
      exact ⟨trivial, by simp⟩
    | tup l =>
      refine s_top 0 rfl fun hz => ?_
      have hz : l.length ≤ 16777216 := hz
      unfold D.pure at hp
      unfold D.dep at hd
      repeat walk_at "v1"
      refine ite_n (fun hne => absurd rfl hne) (fun _ => ?_)
      repeat walk_at "v1"
      refine x_lcm ?_
      repeat walk_at "v1"
      refine ⟨by omega, by omega, rfl, by rw [rngD_len]; show _ ≤ 16777216; omega, fun _ => .bl true, fun d hd' => ?_, ?_⟩
      · obtain ⟨k, hk, rfl⟩ := rngD_mem hd'
        have hk : k < l.length := by omega
        have hx := List.getElem?_eq_getElem hk
        have ha : atI l (0 + (k : Int)) = some l[k] := by rw [Int.zero_add]; exact atI_at hx
        have hm : l[k] ∈ l := List.getElem_mem _
        have hdep := dep_mem hm
        refine gc_name (by decide) ?_
        repeat walk_at "v1"
        refine o_ixT ha ?_
        repeat walk_at "v1"
        refine o_ixT ha ?_
        repeat walk_at "v1"
        refine callP rfl ⟨l[k], rfl, pure_mem hp hm, by omega, fun _ _ => trivial, rfl⟩ fun t ht _ => ?_
        subst ht
        exact ⟨rfl, rfl⟩
      · repeat walk_at "v1"
        refine oa_all (bs := List.replicate _ true) (congrArg D.lst (bls_const (l := rngD 0 _))) ?_
        rw [all_rep]
        exact ⟨trivial, rfl⟩
    | lst l =>
      refine s_top 0 rfl fun hz => ?_
      have hz : l.length ≤ 16777216 := hz
      unfold D.pure at hp
      unfold D.dep at hd
      repeat walk_at "v1"
      refine ite_n (fun hne => absurd rfl hne) (fun _ => ?_)
      repeat walk_at "v1"
      refine x_lcm ?_
      repeat walk_at "v1"
      refine ⟨by omega, by omega, rfl, by rw [rngD_len]; show _ ≤ 16777216; omega, fun _ => .bl true, fun d hd' => ?_, ?_⟩
      · obtain ⟨k, hk, rfl⟩ := rngD_mem hd'
        have hk : k < l.length := by omega
        have hx := List.getElem?_eq_getElem hk
        have ha : atI l (0 + (k : Int)) = some l[k] := by rw [Int.zero_add]; exact atI_at hx
        have hm : l[k] ∈ l := List.getElem_mem _
        have hdep := dep_mem hm
        refine gc_name (by decide) ?_
        repeat walk_at "v1"
        refine o_ixL rdl_p ha ?_
        repeat walk_at "v1"
        refine o_ixL rdl_p ha ?_
        repeat walk_at "v1"
        refine callP rfl ⟨l[k], rfl, pure_mem hp hm, by omega, fun _ _ => trivial, rfl⟩ fun t ht _ => ?_
        subst ht
        exact ⟨rfl, rfl⟩
      · repeat walk_at "v1"
        refine oa_all (bs := List.replicate _ true) (congrArg D.lst (bls_const (l := rngD 0 _))) ?_
        rw [all_rep]
        exact ⟨trivial, rfl⟩
    | _ => unfold D.pure at hp; cases hp
end
section
variable {P : Program} {w : World} {K : PySem.W.Frag} {mg : Str → Option Value} {base : Heap}
theorem ok_start (T : Txt K mg) : FnOk P w K mg base CX0 1 T.a_law_start T.d_law_start ["script"] (Sp0 K sStart) := by
  have hlen : ∀ ds Rs, sStart ds Rs → ds.length = 1 := by rintro ds Rs ⟨s, rfl, _⟩; rfl
  refine T.F_law_start.ok sc_law_start (Sp0.len hlen) (fun cdv A outer s H vs Q E hr h => ?_)
  have hl : vs.length = 1 := Sp0.len hlen _ _ _ _ h
  refine ⟨_, (pss_cons (ps_set (i := 1) sc_law_start.nd rfl (.inl rfl) (pe_lst pa_nil))
      (pss_cons (ps_set (i := 2) sc_law_start.nd rfl (.inl rfl) pe_int)
      (pss_cons (ps_for PassesOwn.never (by rfl) (pi_range1 (by rfl) T.z_range (pa_cons (pe_callB (r := rLenU K) call_lenU (by rfl) T.z_len PySem.boot_len (pa_cons (pv 0) pa_nil)) pa_nil)) (pg_name (i := 3) sc_law_start.nd rfl (.inl rfl))
        (pss_cons (ps_set (i := 4) sc_law_start.nd rfl (.inl rfl) (pe_callB call_abs (by rfl) T.z_abs (by decide +kernel) (pa_cons (pe_ix (r := rIx K) ix_seq (pv 0) (pv 3) (fun _ _ => rfl)) pa_nil)))
        (pss_cons (ps_set (i := 2) sc_law_start.nd rfl (.inl rfl) (pe_op op_mod (pe_callTy call_int1 (by rfl) T.z_int (by decide +kernel) (pa_cons (pe_op (r := rAddU K) op_addU (pe_op (r := rAddU K) op_addU (pe_op op_mulU (pv 2) pe_int) (pv 4)) (pv 3)) pa_nil)) pe_int))
        (pss_one (ps_if (pt_cmpR op_ge (pv 4) (pe_op op_pow pe_int pe_int) (nomark _))
          (pss_cons (ps_set (i := 4) sc_law_start.nd rfl (.inl rfl) (pe_op op_sub (pv 4) (pe_op op_pow pe_int pe_int)))
          (pss_one (ps_for PassesOwn.never (by rfl) (pi_range1 (by rfl) T.z_range (pa_cons pe_int pa_nil)) (pg_name (i := 5) sc_law_start.nd rfl (.inl rfl))
            (pss_one (ps_if (pt_cmpR op_gt (pv 4) pe_int (nomark _))
              (pss_cons (ps_expr (PE.k (t' := tBM K _ _ _ _) (pe_bm PySem.F.plainAttrs_list PySem.F.slot_list_append PySem.F.type_list_append mt_append (pv 1) (pa_cons (pe_op op_mod (pe_callTy call_int1 (by rfl) T.z_int (by decide +kernel) (pa_cons (pv 4) pa_nil)) pe_int) pa_nil)) rfl))
              (pss_one (ps_set (i := 4) sc_law_start.nd rfl (.inl rfl) (pe_op op_fdiv (pv 4) pe_int))))
              pss_nil)))))
          (pss_cons (ps_set (i := 6) sc_law_start.nd rfl (.inl rfl) (pe_op op_mod (pe_callTy call_int1 (by rfl) T.z_int (by decide +kernel) (pa_cons (pe_op (r := rAddU K) op_addU (pe_op op_mulU (pe_op (r := rAddU K) op_addU (pv 4) pe_int) pe_int) (pe_op op_mulU (pv 3) pe_int)) pa_nil)) pe_int))
          (pss_cons (ps_set (i := 6) sc_law_start.nd rfl (.inl rfl) (pe_op op_mod (pe_callTy call_int1 (by rfl) T.z_int (by decide +kernel) (pa_cons (pe_op (r := rAddU K) op_addU (pe_op op_mulU (pv 6) pe_int) pe_int) pa_nil)) pe_int))
          (pss_one (ps_expr (PE.k (t' := tBM K _ _ _ _) (pe_bm PySem.F.plainAttrs_list PySem.F.slot_list_append PySem.F.type_list_append mt_append (pv 1) (pa_cons (pe_op op_mod (pe_op op_fdiv (pv 6) pe_int) pe_int) pa_nil)) rfl))))))))))
      (pss_one (ps_ret (pe_lst (pa_cons (pv 1) (pa_cons pe_int (pa_cons (pv 2) pa_nil))))))))), fn0 (by rw [hl]; decide) h ?_⟩
  rintro ds Rs ⟨ns, rfl, hn, rfl⟩
  show S K _ [.p (.scr ns), .any, .any, .any, .any, .any, .any] _
  repeat walk_at "v1"
  show S K (tFor _ _ _) [.p (.scr ns), .o (.lst []), .p (.int 17), .any, .any, .any, .any] _
  refine s_for ?_
  repeat walk_at "v1"
  refine ⟨by omega, by omega, fun i ρ => ∃ row seed x3 x4 x5 x6, ρ = [.p (.scr ns), .o (.lst (row.map D.int)), .p (.int seed), x3, x4, x5, x6] ∧ (∀ x ∈ row, 0 ≤ x ∧ x < 840) ∧ row.length ≤ 60 * i, ⟨[], 17, _, _, _, _, rfl, by simp, by simp⟩, ?_, ?_⟩
  · rintro i d ρ hd ⟨row, seed, x3, x4, x5, x6, rfl, hrow, hlen2⟩
    obtain ⟨hi, rfl⟩ := rngD_get hd
    have hi : i < ns.length := by omega
    refine g_name ?_
    show S K _ [.p (.scr ns), .o (.lst (row.map D.int)), .p (.int seed), .p (.int (0 + (i : Int))), x4, x5, x6] _
    repeat walk_at "v1"
    have hx : atI ns (0 + (i : Int)) = some ns[i] := by rw [Int.zero_add]; exact atI_at (List.getElem?_eq_getElem hi)
    refine o_ixC hx ?_
    repeat walk_at "v1"
    have hc : 0 ≤ (if ns[i] < 0 then -ns[i] else ns[i]) := by split <;> omega
    generalize (if ns[i] < 0 then -ns[i] else ns[i]) = c at hc
    refine ite_d (fun hge => ?_) (fun hge => ?_)
    · have hc2 : 0 ≤ c - 10 ^ Int.toNat 18 := by have : (10 : Int) ^ Int.toNat 18 ≤ c := hge; omega
      repeat walk_at "v1"
      generalize c - 10 ^ Int.toNat 18 = c2 at hc2
      refine s_for ?_
      repeat walk_at "v1"
      refine ⟨by decide, by decide, fun j ρ => ∃ row c seed x3 x5 x6, ρ = [.p (.scr ns), .o (.lst (row.map D.int)), .p (.int seed), x3, .p (.int c), x5, x6] ∧ (∀ x ∈ row, 0 ≤ x ∧ x < 840) ∧ row.length ≤ 60 * i + j ∧ 0 ≤ c, ⟨row, c2, _, _, _, _, rfl, hrow, by omega, hc2⟩, ?_, ?_⟩
      · rintro j d ρ hd ⟨row, c, seed, x3, x5, x6, rfl, hrow, hlen3, hc⟩
        obtain ⟨hj, rfl⟩ := rngD_get hd
        have hj : j < 60 := hj
        refine g_name ?_
        show S K _ [.p (.scr ns), .o (.lst (row.map D.int)), .p (.int seed), x3, .p (.int c), .p (.int (0 + (j : Int))), x6] _
        repeat walk_at "v1"
        refine ite_d (fun hp => ?_) (fun hp => ?_)
        · repeat walk_at "v1"
          refine ⟨row ++ [c % 840], c / 840, seed, x3, .p (.int (0 + (j : Int))), x6, ?_, ?_, ?_, ?_⟩
          · rw [List.map_append]; rfl
          · intro x hx
            rcases List.mem_append.mp hx with q | q
            · exact hrow x q
            · rw [List.mem_singleton.mp q]; omega
          · rw [List.length_append, List.length_singleton]; omega
          · omega
        · repeat walk_at "v1"
          exact ⟨row, c, seed, x3, _, _, rfl, hrow, by omega, hc⟩
      · rintro ρ ⟨row, c, seed, x3, x5, x6, rfl, hrow, hlen3, hc⟩
        rw [rngD_len] at hlen3
        repeat walk_at "v1"
        exact ⟨row, seed, x3, _, _, _, rfl, hrow, by have : row.length ≤ 60 * i + 60 := hlen3; omega⟩
    · repeat walk_at "v1"
      rw [← List.map_singleton, ← List.map_append]
      refine ⟨_, _, _, _, _, _, rfl, ?_, ?_⟩
      · intro x hx
        rcases List.mem_append.mp hx with q | q
        · exact hrow x q
        · rw [List.mem_singleton.mp q]; omega
      · rw [List.length_append, List.length_singleton]; omega
  · rintro ρ ⟨row, seed, x3, x4, x5, x6, rfl, hrow, hlen2⟩
    show S K _ _ _
    refine s_fz (i := 1) rfl ?_
    repeat walk_at "v1"
    exact ⟨trivial, ⟨row, 0, seed⟩, rfl, hrow, Int.le_refl _, by show (0 : Int) + ((2 ^ 60 : Nat) : Int) ≤ 2 ^ 60; decide⟩
end

end K57
namespace K57
open PySem PySem.Spec PyProof.Rows L2 VL
local macro_rules | `(tactic| walk_at "v1") => `(tactic| first
  | (with_reducible refine' s_seq ?_) | (with_reducible refine' s_next ?_) | (with_reducible refine' s_ret ?_) | (with_reducible refine' s_if ?_) | (with_reducible refine' x_setL ?_) | (with_reducible refine' s_asg ?_) | (with_reducible refine' s_drop ?_) | (with_reducible refine' s_retN ?_) | (with_reducible refine' i_rng1 ?_) | (with_reducible refine' i_rng2 ?_)
  | (with_reducible refine' g_name ?_) | (with_reducible refine' g_nameO ?_)
  | ((with_reducible refine' e_var ?h ?q); (case h => exact rfl)) | (with_reducible refine' e_int ?_) | (with_reducible refine' e_str ?_) | (with_reducible refine' e_bl ?_) | (with_reducible refine' e_non ?_)
  | ((with_reducible refine' e_al ?h ?g ?q); (case h => exact rfl); (case g => exact rfl))
  | ((with_reducible refine' oa_isi ?h ?hd ?hk ?q); (case h => exact rfl); (case hd => exact rfl); (case hk => first | exact kit_NoneType_bool | exact kit_NoneType_int | exact kit_NoneType_str | exact kit_NoneType_tuple | exact kit_NoneType_list | exact kit_NoneType_dict | exact kit_bool_bool | exact kit_bool_int | exact kit_bool_str | exact kit_bool_tuple | exact kit_bool_list | exact kit_bool_dict | exact kit_int_bool | exact kit_int_int | exact kit_int_str | exact kit_int_tuple | exact kit_int_list | exact kit_int_dict | exact kit_str_bool | exact kit_str_int | exact kit_str_str | exact kit_str_tuple | exact kit_str_list | exact kit_str_dict | exact kit_tuple_bool | exact kit_tuple_int | exact kit_tuple_str | exact kit_tuple_tuple | exact kit_tuple_list | exact kit_tuple_dict | exact kit_list_bool | exact kit_list_int | exact kit_list_str | exact kit_list_tuple | exact kit_list_list | exact kit_list_dict | exact kit_dict_bool | exact kit_dict_int | exact kit_dict_str | exact kit_dict_tuple | exact kit_dict_list | exact kit_dict_dict))
  | (with_reducible refine' e_bm ?_) | (with_reducible refine' e_bm0 ?_) | (refine ⟨.inl ⟨rfl, _, rdl_o rfl⟩, ?_⟩) | (refine ⟨.inl ⟨rfl, _, rdl_b rfl⟩, ?_⟩) | (refine ⟨.inr (.inl ⟨rfl, _, rfl⟩), ?_⟩)
  | ((refine om_append rfl rfl rfl ?l ?q); (case l => first | assumption | (show _ < 16777216; first | omega | (simp only [List.length_map, List.length_append, List.length_cons, List.length_nil]; omega))))
  | (with_reducible refine' e_op ?_) | (with_reducible refine' e_cb ?_) | (with_reducible refine' e_un ?_) | (with_reducible refine' x_tup ?_) | (with_reducible refine' x_lst ?_) | (with_reducible refine' x_call ?_) | (with_reducible refine' x_call1 ?_)
  | (with_reducible refine' a_cons ?_) | (with_reducible refine' a_nil ?_) | ((with_reducible refine' tupP ?h ?g ?q); (case h => exact rfl); (case g => exact Nat.le_of_ble_eq_true rfl)) | ((with_reducible refine' lstP ?h ?g ?q); (case h => exact rfl); (case g => exact Nat.le_of_ble_eq_true rfl))
  | (with_reducible refine' e_andV ?_) | (with_reducible refine' e_orV ?_) | (with_reducible refine' e_notV ?_) | (with_reducible refine' e_if ?_) | (with_reducible refine' e_chain ?_) | (with_reducible refine' t_ifT ?_) | (with_reducible refine' i_seq ?_) | (with_reducible refine' t_yes ?_)
  | (with_reducible refine' t_test ?_) | (with_reducible refine' t_B ?_) | (with_reducible refine' t_and ?_) | (with_reducible refine' t_or ?_) | (with_reducible refine' t_not ?_)
  | (refine o_addI ?_) | ((refine o_mulI ?c ?_); (case c => first | exact .inr ⟨by decide, by decide⟩ | exact .inl ⟨by decide, by decide⟩ | exact .inl ⟨by omega, by omega⟩ | exact .inr ⟨by omega, by omega⟩)) | (refine o_i ?_) | (refine o_ib ?_) | ((refine o_iC ?c ?_); (case c => first | (show (0 : Int) < _; first | decide | assumption | omega) | exact ⟨by decide, by decide⟩ | exact ⟨by decide, by decide, by decide⟩)) | (refine o_eqI ?_) | (refine o_eqS ?_) | (refine o_eqB ?_) | (refine o_isN ?_) | (refine o_notN ?_) | (refine o_neI ?_) | (refine o_neS ?_) | (refine o_neB ?_) | (refine o_un ?_)
  | (refine o_inSign ?_) | (refine o_inSL rdl_p ?_) | (refine o_inST ?_) | (refine oa_int ?_) | (refine oa_abs ?_) | (refine oa_lenC ?_) | (refine oa_lenT ?_) | (refine oa_lenL rdl_p ?_) | (refine oa_lenL (rdl_o rfl) ?_) | (refine oa_lenL (rdl_b rfl) ?_)
  | (refine o_ixL (rdl_b rfl) rfl ?_) | (refine o_ixL (rdl_o rfl) rfl ?_) | (refine o_ixL rdl_p rfl ?_) | (refine o_ixT rfl ?_)
  | (with_reducible refine' setP ?_) | (refine setI rfl rfl rfl rfl ?_) | (refine ite_t ?_) | (refine ite_f ?_) | (refine bl_ex ?_) | (refine ⟨_, rfl, ?_⟩))

abbrev Fs := List (Str × Nat)
def pr (p : Str × Nat) : D := .tup [.str p.1, .int p.2]
def prs (fs : Fs) : List D := fs.map pr
def keysOf (fs : Fs) : List Key := fs.map fun p => Sum.inr p.1
def arsOf (fs : Fs) : List D := fs.map fun p => .int p.2
def sigN : List Str := ["functions", "relations", "table"]
def sigP (C : Addr) (fs rs ts : Fs) : D := .ins C sigN [.tup (prs fs), .tup (prs rs), .dic (keysOf ts) (arsOf ts)]
def sigD (C : Addr) (fs rs : Fs) : D := sigP C fs rs (fs ++ rs)
def kvsOf (fs : Fs) : List (Key × V) := fs.map fun p => (Sum.inr p.1, V.int p.2)
structure SgOk (fs rs : Fs) : Prop where
  f : ∀ p ∈ fs, okSmall p.1 = true ∧ p.2 ≤ 3
  r : ∀ p ∈ rs, okCap p.1 = true ∧ p.2 ≤ 3
  n : ((fs ++ rs).map (·.1)).Nodup
  l : (fs ++ rs).length ≤ 100
def sInit (C : Addr) : List D → (R → D → Prop) → Prop := fun ds Rs => ∃ (x y : D) (fs rs : Fs), ds = [.ins C [] [], x, y] ∧ (x = .lst (prs fs) ∨ x = .tup (prs fs)) ∧ (y = .lst (prs rs) ∨ y = .tup (prs rs)) ∧ SgOk fs rs ∧ Rs = fun t d' => t = .p .non ∧ d' = sigD C fs rs
theorem keys_val {fs : Fs} : (kvsOf fs).map (·.1) = keysOf fs := by
  unfold kvsOf keysOf
  rw [List.map_map]
  rfl
theorem vals_val {K : PySem.W.Frag} {F : Hp} : ∀ {fs : Fs}, Reps K F (arsOf fs) ((kvsOf fs).map (·.2))
  | [] => .nil
  | p :: r => .cons rfl (vals_val (fs := r))
theorem n1 : ¬ (("functions" : Str) = "relations") := by decide +kernel
theorem n2 : ¬ (("functions" : Str) = "table") := by decide +kernel
theorem n3 : ¬ (("relations" : Str) = "table") := by decide +kernel
def flds (a b c : V) : List (Str × V) := [("functions", a), ("relations", b), ("table", c)]
theorem put3 (a b c : V) : putF "table" c (putF "relations" b (putF "functions" a [])) = flds a b c := by
  simp only [putF, if_neg n1, if_neg n2, if_neg n3]
  rfl
theorem lk1 {a b c : V} : (flds a b c).lookup ("functions" : Str) = some a := by
  unfold flds
  rw [List.lookup_cons, beq_iff_eq.mpr rfl]
theorem lk2 {a b c : V} : (flds a b c).lookup ("relations" : Str) = some b := by
  unfold flds
  rw [List.lookup_cons, beq_eq_false_iff_ne.mpr (Ne.symm n1), List.lookup_cons, beq_iff_eq.mpr rfl]
theorem lk3 {a b c : V} : (flds a b c).lookup ("table" : Str) = some c := by
  unfold flds
  rw [List.lookup_cons, beq_eq_false_iff_ne.mpr (Ne.symm n2), List.lookup_cons, beq_eq_false_iff_ne.mpr (Ne.symm n3), List.lookup_cons, beq_iff_eq.mpr rfl]
theorem rdSig {K : PySem.W.Frag} {F : Hp} {C dx l p : Addr} {fs rs ts : Fs} {vF vR : V} (rF : Rep K F (.tup (prs fs)) vF) (rR : Rep K F (.tup (prs rs)) vR) : ∀ F', Same F F' → F' l = some (.ins C dx (flds vF vR (.ref p))) → F' p = some (.dK (kvsOf ts)) → Rep K F' (sigP C fs rs ts) (.ref l) := fun F' s h1 h2 =>
  ⟨l, dx, _, rfl, h1, rfl, .cons (Rep.mono s _ rF) (.cons (Rep.mono s _ rR) (.one ⟨p, _, rfl, h2, keys_val, vals_val⟩))⟩
theorem hoSig {K : PySem.W.Frag} {F : Hp} {C dx p : Addr} {fs rs ts : Fs} {vF vR : V} (rF : Rep K F (.tup (prs fs)) vF) (rR : Rep K F (.tup (prs rs)) vR) : ∀ F', Same F F' → F' p = some (.dK (kvsOf ts)) → OHold K F' (sigP C fs rs ts) (.ins C dx (flds vF vR (.ref p))) := fun F' s h2 =>
  ⟨dx, _, rfl, rfl, .cons (Rep.mono s _ rF) (.cons (Rep.mono s _ rR) (.one ⟨p, _, rfl, h2, keys_val, vals_val⟩))⟩
theorem prs_app {fs rs : Fs} : prs fs ++ prs rs = prs (fs ++ rs) := by
  unfold prs
  rw [List.map_append]
theorem key_new {ts : Fs} {i : Nat} {q : Str × Nat} (n : (ts.map (·.1)).Nodup) (h : ts[i]? = some q) : (Sum.inr q.1 : Key) ∉ keysOf (ts.take i) := by
  intro z
  obtain ⟨r, h1, h2⟩ := List.mem_map.mp z
  have h2 : r.1 = q.1 := Sum.inr.inj h2
  obtain ⟨j, hj, h3⟩ := List.getElem_of_mem h1
  rw [List.length_take] at hj
  rw [List.getElem_take] at h3
  have hi := (List.getElem?_eq_some_iff.mp h)
  obtain ⟨hi1, hi2⟩ := hi
  have w := List.pairwise_iff_getElem.mp n j i (by rw [List.length_map]; omega) (by rw [List.length_map]; omega) (by omega)
  rw [List.getElem_map, List.getElem_map, h3, hi2] at w
  exact w h2
theorem kvs_put {ts : Fs} {i : Nat} {q : Str × Nat} (n : (ts.map (·.1)).Nodup) (h : ts[i]? = some q) : putK (kvsOf (ts.take i)) (Sum.inr q.1) (.int q.2) = kvsOf (ts.take (i + 1)) := by
  have z : valV (kvsOf (ts.take i)) (Sum.inr q.1 : Key) = none := by
    have w := valV_isSome (x := (Sum.inr q.1 : Key)) (kvs := kvsOf (ts.take i))
    rw [keys_val, inKeys_no (key_new n h)] at w
    cases y : valV (kvsOf (ts.take i)) (Sum.inr q.1 : Key) with
    | none => rfl
    | some v => rw [y] at w; cases w
  rw [putK_new _ z, List.take_add_one, h]
  unfold kvsOf
  rw [List.map_append]
  rfl
section
variable {P : Program} {w : World} {K : PySem.W.Frag} {mg : Str → Option Value} {base : Heap}
theorem ok_init (T : Txt K mg) : FnOk P w K mg base CX0 3 T.a_Signature___init__ T.d_Signature___init__ ["self", "functions", "relations"] (Sp1 K (sInit T.a_Signature)) := by
  have G_is_small_name := ok_small (P := P) (w := w) (base := base) T
  have G_is_capital_name := ok_cap (P := P) (w := w) (base := base) T
  have hlen : ∀ ds Rs, sInit T.a_Signature ds Rs → ds.length = 3 := by rintro ds Rs ⟨x, y, fs, rs, rfl, _⟩; rfl
  refine T.F_Signature___init__.ok sc_Signature___init__ (Sp1.len hlen) (fun cdv A outer s H vs Q E hr h => ?_)
  have hl : vs.length = 3 := Sp1.len hlen _ _ _ _ h
  refine ⟨_, (pss_cons (ps_fld (pv 0) (pe_callTy (r := rTupU K) call_tupU (by rfl) T.z_tuple (by decide +kernel) (pa_cons (pe_lc (own := [("name", 3), ("arity", 4)]) (by rfl) sc_Signature___init__.nd (PI.k (t' := iSeq K _) (pi_seq (pv 1)) rfl) (blkOk_by (own := [("name", 3), ("arity", 4)]) (N := ["self", "functions", "relations", "name", "arity", "small"]) (sc := defScope s_Signature___init__) (by decide +kernel)) (fun _ _ _ _ _ => (PG.k (t' := gTup K 2 _) (pg_tup (n := 2) (by rfl) (pgs_cons (pg_name (i := 3) sc_Signature___init__.nd rfl (.inl rfl)) (pgs_cons (pg_name (i := 4) sc_Signature___init__.nd rfl (.inl rfl)) pgs_nil))) rfl)) (fun _ _ _ _ _ => pts_nil) (fun _ _ _ _ _ => (pe_tup (pa_cons (pv 3) (pa_cons (pv 4) pa_nil))))) pa_nil)) rfl)
      (pss_cons (ps_fld (pv 0) (pe_callTy (r := rTupU K) call_tupU (by rfl) T.z_tuple (by decide +kernel) (pa_cons (pe_lc (own := [("name", 3), ("arity", 4)]) (by rfl) sc_Signature___init__.nd (PI.k (t' := iSeq K _) (pi_seq (pv 2)) rfl) (blkOk_by (own := [("name", 3), ("arity", 4)]) (N := ["self", "functions", "relations", "name", "arity", "small"]) (sc := defScope s_Signature___init__) (by decide +kernel)) (fun _ _ _ _ _ => (PG.k (t' := gTup K 2 _) (pg_tup (n := 2) (by rfl) (pgs_cons (pg_name (i := 3) sc_Signature___init__.nd rfl (.inl rfl)) (pgs_cons (pg_name (i := 4) sc_Signature___init__.nd rfl (.inl rfl)) pgs_nil))) rfl)) (fun _ _ _ _ _ => pts_nil) (fun _ _ _ _ _ => (pe_tup (pa_cons (pv 3) (pa_cons (pv 4) pa_nil))))) pa_nil)) rfl)
      (pss_cons (ps_fld (pv 0) pe_dnewK rfl)
      (pss_one (ps_for PassesOwn.never (by rfl) (PI.k (t' := iSeq K _) (pi_seq (pe_op (r := rAddU K) op_addU (PE.k (t' := tFld K _ _) (pe_fld (pv 0) rfl) rfl) (PE.k (t' := tFld K _ _) (pe_fld (pv 0) rfl) rfl))) rfl) (PG.k (t' := gTup K 2 _) (pg_tup (n := 2) (by rfl) (pgs_cons (pg_name (i := 3) sc_Signature___init__.nd rfl (.inl rfl)) (pgs_cons (pg_name (i := 4) sc_Signature___init__.nd rfl (.inl rfl)) pgs_nil))) rfl)
        (pss_cons (ps_set (i := 5) sc_Signature___init__.nd rfl (.inl rfl) (pe_cmpR op_lt (pe_callB (r := rLenU K) call_lenU (by rfl) T.z_len PySem.boot_len (pa_cons (PE.k (t' := tFld K _ _) (pe_fld (pv 0) rfl) rfl) pa_nil)) (pe_callB (r := rLenU K) call_lenU (by rfl) T.z_len PySem.boot_len (pa_cons (PE.k (t' := tFld K _ _) (pe_fld (pv 0) rfl) rfl) pa_nil)) (nomark _)))
        (pss_cons (ps_if (PW.pt (pw_or (pt_cmp (pc_din (hu_of hr) (pv 3) (PE.k (t' := tFld K _ _) (pe_fld (pv 0) rfl) rfl))) (pw_or1 (pt_not (pt_ifExp (pt_val (pv 5)) (pt_val (pe_call G_is_small_name (hr.mono (by omega)) (by rfl) T.g_is_small_name T.F_is_small_name.kp T.b_is_small_name .nil pass0 (pa_cons (pv 3) pa_nil))) (pt_val (pe_call G_is_capital_name (hr.mono (by omega)) (by rfl) T.g_is_capital_name T.F_is_capital_name.kp T.b_is_capital_name .nil pass0 (pa_cons (pv 3) pa_nil))))))))
          (pss_one ps_never)
          pss_nil)
        (pss_cons (ps_if (pt_not (pt_chain op_le op_le pe_int (pv 4) (cK_MOST_ARGUMENTS T)))
          (pss_one ps_never)
          pss_nil)
        (pss_one (ps_dput (hu_of hr) (PE.k (t' := tFld K _ _) (pe_fld (pv 0) rfl) rfl) (pv 3) (pv 4) rfl)))))))))), fn1 (by rw [hl]; decide) h ?_⟩
  rintro d ds Rs ⟨x, y, fs, rs, he, hx, hy, hg, rfl⟩
  cases he
  show S K _ [.b 0 (.ins T.a_Signature [] []), .p x, .p y, .any, .any, .any] _
  intro B F H σ D e k
  obtain ⟨s0, g0, l, o, rfl, gO, gl, ⟨dx, fs0, rfl, gn, gr⟩, gf⟩ := e.slot (i := 0) rfl
  have e0 : EnvOk K B F H σ [.any, .p x, .p y, .any, .any, .any] := e.forget (i := 0)
  have hb := e.ow 0 l ⟨g0, _, rfl, rfl⟩
  have hf0 : fs0 = [] := by simpa using gn
  subst hf0
  have lenf : (prs fs).length ≤ 100 := by unfold prs; rw [List.length_map]; have := hg.l; rw [List.length_append] at this; omega
  have lenr : (prs rs).length ≤ 100 := by unfold prs; rw [List.length_map]; have := hg.l; rw [List.length_append] at this; omega
  have h1 : ∀ (z : VL.D) (zs : Fs) (i : Nat), (z = .lst (prs zs) ∨ z = .tup (prs zs)) → (prs zs).length ≤ 100 → ([.any, .p x, .p y, .any, .any, .any] : VL.Env)[i]? = some (.p z) → VL.E K (tCB (rTupU K) (tCons (tLc (iSeq K (tVar i)) (gTup K 2 (gCons (gName 3) (gCons (gName 4) gNil))) tYes (tTup (tCons (tVar 3) (tCons (tVar 4) tNil))) [3, 4]) tNil)) [.any, .p x, .p y, .any, .any, .any] fun t ρ' => t.fz = .p (.tup (prs zs)) ∧ ρ' = [.any, .p x, .p y, .any, .any, .any] := by
    intro z zs i hz hl hi
    refine e_cb (a_cons (x_lcm (i_seq (e_var hi ⟨prs zs, by rcases hz with rfl | rfl <;> rfl, rfl, Nat.le_trans hl (by decide), fun d => d, fun d hd => ?_, ?_⟩))))
    · obtain ⟨p, hp, rfl⟩ := List.mem_map.mp hd
      refine gc_tup rfl (gcs_cons (gc_name (by decide) (gcs_cons (gc_name (by decide) (gcs_nil ?_)))))
      repeat walk_at "v1"
      exact ⟨rfl, rfl⟩
    · rw [List.map_id']
      refine a_nil (oa_tupL rdl_p ⟨rfl, rfl⟩)
  refine z_fld e0 rfl g0 gl gf hb (h1 x fs 1 hx lenf rfl) T.cl_Signature T.n_functions (by decide) fun F1 H1 vF e1 s1 f1 r1 l1 => ?_
  refine z_fld e1 rfl g0 l1 f1 hb (h1 y rs 2 hy lenr rfl) T.cl_Signature T.n_relations (by show (1 : Nat) < 1000; decide) fun F2 H2 vR e2 s2 f2 r2 l2 => ?_
  refine z_new e2 rfl g0 l2 f2 hb T.cl_Signature T.n_table (by simp only [putF, if_neg n1]; show (2 : Nat) < 1000; decide) fun H3 p e3 hp0 lp hp fp bp l3 => ?_
  rw [put3] at l3
  have rF : Rep K F2 (.tup (prs fs)) vF := Rep.mono s2 _ r1
  have hd3 : Hd K B F2 H3 σ _ l p T.a_Signature dx (flds vF vR (.ref p)) (kvsOf []) (sigP T.a_Signature fs rs []) := ⟨e3, rfl, g0, l3, hp, f2, fp, lp, hb, bp, rdSig rF r2⟩
  have hadd : O2 K (rAddU K) (.p (.tup (prs fs))) (.p (.tup (prs rs))) [.any, .p x, .p y, .any, .any, .any] (fun t ρ' => t = .p (.tup (prs (fs ++ rs))) ∧ ρ' = [.any, .p x, .p y, .any, .any, .any]) :=
    o_addT (Nat.le_trans (Nat.add_le_add lenf lenr) (by decide)) ⟨by rw [prs_app], rfl⟩
  refine ⟨.ref l, g0, l, _, dx, _, vF, rfl, l3, T.cl_Signature, T.n_functions, lk1, .ref l, g0, l, _, dx, _, vR, rfl, l3, T.cl_Signature, T.n_relations, lk2, ?_⟩
  refine hadd (stB F2 H3) F2 H3 σ (hd3.e.st rfl) vF vR rF trivial r2 trivial _ fun v F4 H4 t ρ4 a4 e4 c4 x4 ⟨y1, y2⟩ => ?_
  subst y1 y2
  have gr4 := e4.gro
  have hd4 := hd3.grow (hd3.e.ofSt gr4 e4 rfl) gr4.f gr4.h gr4.nw
  obtain ⟨a, xs, rfl, q1, q2, q3⟩ := x4
  refine .inr (.inl ⟨a, rfl, ⟨xs, sqt_mono e4.fh q1⟩, ?_⟩)
  have sr : Src K (Itt K a) F4 (prs (fs ++ rs)) := src_tup q1 q2
  have hn : (prs (fs ++ rs)).length = (fs ++ rs).length := by unfold prs; rw [List.length_map]
  refine ⟨fun i m σ' H' => m = (fs ++ rs).length - i ∧ i ≤ (fs ++ rs).length ∧ ∃ F' ρ', Same F4 F' ∧ (∃ x3 x4 x5, ρ' = [.any, .p x, .p y, x3, x4, x5]) ∧ Hd K B F' H' σ' ρ' l p T.a_Signature dx (flds vF vR (.ref p)) (kvsOf ((fs ++ rs).take i)) (sigP T.a_Signature fs rs ((fs ++ rs).take i)),
    ⟨_, rfl, Nat.zero_le _, F4, _, Same.refl F4, ⟨_, _, _, rfl⟩, hd4⟩, ?_⟩
  rintro i m σ2 H5 ⟨rfl, hi, F5, ρ5, s5, ⟨x3, x4, x5, rfl⟩, h5⟩
  by_cases hlt : i < (fs ++ rs).length
  · refine .inr ⟨sr.go i H5 (s5.trans h5.e.fh) (by rw [hn]; exact hlt), fun σ' H' => ∃ F' ρ', Same F4 F' ∧ (∃ x3 x4 x5, ρ' = [.any, .p x, .p y, x3, x4, x5]) ∧ Hd K B F' H' σ' ρ' l p T.a_Signature dx (flds vF vR (.ref p)) (kvsOf ((fs ++ rs).take (i + 1))) (sigP T.a_Signature fs rs ((fs ++ rs).take (i + 1))),
      fun σ' H' q => ⟨_, by omega, rfl, hlt, q⟩, fun xx H6 yl => ?_⟩
    have hget : (fs ++ rs)[i]? = some (fs ++ rs)[i] := List.getElem?_eq_getElem hlt
    generalize hq : (fs ++ rs)[i] = q at hget
    have hd : (prs (fs ++ rs))[i]? = some (pr q) := by unfold prs; rw [List.getElem?_map, hget]; rfl
    have hmem : q ∈ fs ++ rs := List.mem_of_getElem? hget
    have hnew := inKeys_no (key_new hg.n hget)
    have hsm : i < fs.length → okSmall q.1 = true := fun z => (hg.f q (by rw [List.getElem?_append_left z] at hget; exact List.mem_of_getElem? hget)).1
    have hcp : ¬ i < fs.length → okCap q.1 = true := fun z => (hg.r q (by rw [List.getElem?_append_right (by omega)] at hget; exact List.mem_of_getElem? hget)).1
    have h3 : q.2 ≤ 3 := by
      rcases List.mem_append.mp hmem with z | z
      · exact (hg.f q z).2
      · exact (hg.r q z).2
    obtain ⟨F6, a6, e6, r6, g6, n6⟩ := sr.turn h5.e s5 hd yl
    have h6 := h5.grow e6 a6 g6 n6
    obtain ⟨b, ys, rfl, w1, ⟨v1, r1', rfl, w2, v2, r2', rfl, w3, w4⟩, w5⟩ := r6
    have w4 : r2' = [] := w4
    subst w4
    refine ⟨b, _, rfl, sqt_mono h6.e.fh w1, rfl, v1, _, rfl, v2, _, rfl, rfl, ?_⟩
    have h7 := (h6.set (i := 3) (by decide) w2).set (i := 4) (by decide) w3
    refine z_asg (z_E (PD := fun d => d = .bl (decide (i < fs.length))) h7 ?_ fun v d' H8 h8 rv hd' => ?_)
    · show VL.E K _ [.p (sigP T.a_Signature fs rs ((fs ++ rs).take i)), .p x, .p y, .p (.str q.1), .p (.int q.2), x5] _
      have hde : decide (((keysOf ((fs ++ rs).take i)).length : Int) < ((prs fs).length : Int)) = decide (i < fs.length) := by
        unfold keysOf prs
        rw [List.length_map, List.length_map, List.length_take, Nat.min_eq_left hi]
        exact decide_eq_decide.mpr Int.ofNat_lt
      repeat walk_at "v1"
      refine e_fld (e_var rfl (fldP T.cl_Signature T.n_table rfl ?_))
      repeat walk_at "v1"
      refine oa_lenD ?_
      repeat walk_at "v1"
      refine e_fld (e_var rfl (fldP T.cl_Signature T.n_functions rfl ?_))
      repeat walk_at "v1"
      exact ⟨rfl, congrArg VL.D.bl hde⟩
    subst hd'
    have h9 := h8.set (i := 5) (by decide) (rv F6)
    refine z_if (z_T (PT := fun b => b = false) h9 ?_ fun b H10 h10 hb => ?_)
    · show VL.T K _ [.p (sigP T.a_Signature fs rs ((fs ++ rs).take i)), .p x, .p y, .p (.str q.1), .p (.int q.2), .p (.bl (decide (i < fs.length)))] _
      repeat walk_at "v1"
      refine e_din (e_var rfl ⟨_, rfl, e_fld (e_var rfl (fldP T.cl_Signature T.n_table rfl ⟨_, _, rfl, ?_⟩))⟩)
      rw [hnew]
      repeat walk_at "v1"
      refine ite_d (fun z => ?_) (fun z => ?_)
      · repeat walk_at "v1"
        refine callP rfl ⟨q.1, rfl, hsm z, rfl⟩ fun t ht _ => ?_
        subst ht
        exact ⟨_, rfl, rfl⟩
      · repeat walk_at "v1"
        refine callP rfl ⟨q.1, rfl, hcp z, rfl⟩ fun t ht _ => ?_
        subst ht
        exact ⟨_, rfl, rfl⟩
    subst hb
    rw [if_neg Bool.false_ne_true]
    refine z_if (z_T (PT := fun b => b = false) h10 ?_ fun b H11 h11 hb => ?_)
    · show VL.T K _ [.p (sigP T.a_Signature fs rs ((fs ++ rs).take i)), .p x, .p y, .p (.str q.1), .p (.int q.2), .p (.bl (decide (i < fs.length)))] _
      repeat walk_at "v1"
      rw [decide_eq_true (show (q.2 : Int) ≤ 3 by omega)]
      rfl
    subst hb
    rw [if_neg Bool.false_ne_true]
    obtain ⟨u4, z1, z2⟩ := h11.get (i := 4) rfl
    obtain ⟨u3, z3, z4⟩ := h11.get (i := 3) rfl
    have z2 : u4 = V.int q.2 := z2
    have z4 : u3 = V.str q.1 := z4
    subst z2 z4
    refine ⟨_, z1, .ref l, h11.s0, l, _, dx, _, _, rfl, h11.hl, T.cl_Signature, T.n_table, lk3, _, z3, p, _, rfl, DPut.k (k := Sum.inr q.1) h11.hp ?_, F6, [.any, .p x, .p y, .p (.str q.1), .p (.int q.2), .p (.bl (decide (i < fs.length)))], s5.trans a6, ⟨_, _, _, rfl⟩, ?_⟩
    · unfold kvsOf
      rw [List.length_map, List.length_take]
      have := hg.l
      show _ < 16777216
      omega
    · rw [kvs_put hg.n hget]
      exact h11.put (rdSig (Rep.mono (gr4.f.trans (s5.trans a6)) _ rF) (Rep.mono (gr4.f.trans (s5.trans a6)) _ r2))
  · have z : i = (fs ++ rs).length := by omega
    subst z
    rw [List.take_length] at h5
    obtain ⟨F9, e9⟩ := h5.done gO (hoSig (Rep.mono (gr4.f.trans s5) _ rF) (Rep.mono (gr4.f.trans s5) _ r2))
    exact .inl ⟨sr.stop _ H5 (s5.trans h5.e.fh) (by rw [hn]; exact Nat.le_refl _), k.nx σ2 F9 H5 _ e9 ⟨_, rfl, rfl, rfl⟩⟩
end
end K57
namespace K57
open PySem PySem.Spec PyProof.Rows L2 VL
local macro_rules | `(tactic| walk_at "v1") => `(tactic| first
  | (with_reducible refine' s_seq ?_) | (with_reducible refine' s_next ?_) | (with_reducible refine' s_ret ?_) | (with_reducible refine' s_if ?_) | (with_reducible refine' x_setL ?_) | (with_reducible refine' s_asg ?_) | (with_reducible refine' s_drop ?_) | (with_reducible refine' s_retN ?_) | (with_reducible refine' i_rng1 ?_) | (with_reducible refine' i_rng2 ?_)
  | (with_reducible refine' g_name ?_) | (with_reducible refine' g_nameO ?_)
  | ((with_reducible refine' e_var ?h ?q); (case h => exact rfl)) | (with_reducible refine' e_int ?_) | (with_reducible refine' e_str ?_) | (with_reducible refine' e_bl ?_) | (with_reducible refine' e_non ?_)
  | ((with_reducible refine' e_al ?h ?g ?q); (case h => exact rfl); (case g => exact rfl))
  | ((with_reducible refine' oa_isi ?h ?hd ?hk ?q); (case h => exact rfl); (case hd => exact rfl); (case hk => first | exact kit_NoneType_bool | exact kit_NoneType_int | exact kit_NoneType_str | exact kit_NoneType_tuple | exact kit_NoneType_list | exact kit_NoneType_dict | exact kit_bool_bool | exact kit_bool_int | exact kit_bool_str | exact kit_bool_tuple | exact kit_bool_list | exact kit_bool_dict | exact kit_int_bool | exact kit_int_int | exact kit_int_str | exact kit_int_tuple | exact kit_int_list | exact kit_int_dict | exact kit_str_bool | exact kit_str_int | exact kit_str_str | exact kit_str_tuple | exact kit_str_list | exact kit_str_dict | exact kit_tuple_bool | exact kit_tuple_int | exact kit_tuple_str | exact kit_tuple_tuple | exact kit_tuple_list | exact kit_tuple_dict | exact kit_list_bool | exact kit_list_int | exact kit_list_str | exact kit_list_tuple | exact kit_list_list | exact kit_list_dict | exact kit_dict_bool | exact kit_dict_int | exact kit_dict_str | exact kit_dict_tuple | exact kit_dict_list | exact kit_dict_dict))
  | (with_reducible refine' e_bm ?_) | (with_reducible refine' e_bm0 ?_) | (refine ⟨.inl ⟨rfl, _, rdl_o rfl⟩, ?_⟩) | (refine ⟨.inl ⟨rfl, _, rdl_b rfl⟩, ?_⟩) | (refine ⟨.inr (.inl ⟨rfl, _, rfl⟩), ?_⟩)
  | ((refine om_append rfl rfl rfl ?l ?q); (case l => first | assumption | (show _ < 16777216; first | omega | (simp only [List.length_map, List.length_append, List.length_cons, List.length_nil]; omega))))
  | (with_reducible refine' e_op ?_) | (with_reducible refine' e_cb ?_) | (with_reducible refine' e_un ?_) | (with_reducible refine' x_tup ?_) | (with_reducible refine' x_lst ?_) | (with_reducible refine' x_call ?_) | (with_reducible refine' x_call1 ?_)
  | (with_reducible refine' a_cons ?_) | (with_reducible refine' a_nil ?_) | ((with_reducible refine' tupP ?h ?g ?q); (case h => exact rfl); (case g => exact Nat.le_of_ble_eq_true rfl)) | ((with_reducible refine' lstP ?h ?g ?q); (case h => exact rfl); (case g => exact Nat.le_of_ble_eq_true rfl))
  | (with_reducible refine' e_andV ?_) | (with_reducible refine' e_orV ?_) | (with_reducible refine' e_notV ?_) | (with_reducible refine' e_if ?_) | (with_reducible refine' e_chain ?_) | (with_reducible refine' t_ifT ?_) | (with_reducible refine' i_seq ?_) | (with_reducible refine' t_yes ?_)
  | (with_reducible refine' t_test ?_) | (with_reducible refine' t_B ?_) | (with_reducible refine' t_and ?_) | (with_reducible refine' t_or ?_) | (with_reducible refine' t_not ?_)
  | (refine o_addI ?_) | ((refine o_mulI ?c ?_); (case c => first | exact .inr ⟨by decide, by decide⟩ | exact .inl ⟨by decide, by decide⟩ | exact .inl ⟨by omega, by omega⟩ | exact .inr ⟨by omega, by omega⟩)) | (refine o_i ?_) | (refine o_ib ?_) | ((refine o_iC ?c ?_); (case c => first | (show (0 : Int) < _; first | decide | assumption | omega) | exact ⟨by decide, by decide⟩ | exact ⟨by decide, by decide, by decide⟩)) | (refine o_eqI ?_) | (refine o_eqS ?_) | (refine o_eqB ?_) | (refine o_isN ?_) | (refine o_notN ?_) | (refine o_neI ?_) | (refine o_neS ?_) | (refine o_neB ?_) | (refine o_un ?_)
  | (refine o_inSign ?_) | (refine o_inSL rdl_p ?_) | (refine o_inST ?_) | (refine oa_int ?_) | (refine oa_abs ?_) | (refine oa_lenC ?_) | (refine oa_lenT ?_) | (refine oa_lenL rdl_p ?_) | (refine oa_lenL (rdl_o rfl) ?_) | (refine oa_lenL (rdl_b rfl) ?_)
  | (refine o_ixL (rdl_b rfl) rfl ?_) | (refine o_ixL (rdl_o rfl) rfl ?_) | (refine o_ixL rdl_p rfl ?_) | (refine o_ixT rfl ?_)
  | (with_reducible refine' setP ?_) | (refine setI rfl rfl rfl rfl ?_) | (refine ite_t ?_) | (refine ite_f ?_) | (refine bl_ex ?_) | (refine ⟨_, rfl, ?_⟩))

def tm (n : Str) (r : List D) : D := .tup (.str n :: r)
def consts (fs : Fs) : List Str := (fs.filter fun p => p.2 == 0).map (·.1)
def newOf (ts : List D) (p : Str × Nat) : List D := if 0 < p.2 then ((rowsD ts p.2).map (tm p.1)).filter (fun t => !ts.any (fun z => D.eqb z t)) else []
def closed (fs : Fs) : Nat → List D
  | 0 => (consts fs).map fun n => tm n []
  | l + 1 => closed fs l ++ fs.flatMap (newOf (closed fs l))
def cnt (m : Nat) (fs : Fs) : Nat := (fs.map fun p => m ^ p.2).sum
theorem rowsD_mem {cs : List D} : ∀ {n : Nat} {r : List D}, r ∈ rowsD cs n → ∀ x ∈ r, x ∈ cs
  | 0, r, h, x, hx => by rw [List.mem_singleton.mp h] at hx; cases hx
  | n + 1, r, h, x, hx => by
    obtain ⟨q, h1, h2⟩ := List.mem_flatMap.mp h
    obtain ⟨c, h3, rfl⟩ := List.mem_map.mp h2
    rcases List.mem_append.mp hx with z | z
    · exact rowsD_mem h1 x z
    · rw [List.mem_singleton.mp z]; exact h3
theorem rowsD_size {cs : List D} : ∀ n : Nat, (rowsD cs n).length = cs.length ^ n
  | 0 => rfl
  | n + 1 => by
    have h : ∀ l : List (List D), (l.flatMap fun r => cs.map fun c => r ++ [c]).length = l.length * cs.length := by
      intro l
      induction l with
      | nil => simp
      | cons x r ih => rw [List.flatMap_cons, List.length_append, ih, List.length_map, List.length_cons, Nat.succ_mul, Nat.add_comm]
    show ((rowsD cs n).flatMap fun r => cs.map fun c => r ++ [c]).length = _
    rw [h, rowsD_size n, Nat.pow_succ]
theorem pow_small {m a b : Nat} (h : a ≤ b) (q : m ^ b ≤ 400) : m ^ a ≤ 400 := by
  rcases Nat.eq_zero_or_pos m with z | z
  · subst z
    rcases Nat.eq_zero_or_pos a with y | y
    · subst y; decide
    · rw [Nat.zero_pow y]; decide
  · exact Nat.le_trans (Nat.pow_le_pow_right z h) q
theorem cnt_mem {m : Nat} : ∀ {fs : Fs} {p : Str × Nat}, p ∈ fs → m ^ p.2 ≤ cnt m fs
  | q :: r, p, h => by
    show _ ≤ ((q :: r).map fun p => m ^ p.2).sum
    rw [List.map_cons, List.sum_cons]
    rcases List.mem_cons.mp h with z | z
    · subst z; exact Nat.le_add_right _ _
    · exact Nat.le_trans (cnt_mem z) (Nat.le_add_left _ _)
theorem newOf_mem {ts : List D} {p : Str × Nat} {t : D} (h : t ∈ newOf ts p) : ∃ r, r ∈ rowsD ts p.2 ∧ t = tm p.1 r := by
  unfold newOf at h
  by_cases z : 0 < p.2
  · rw [if_pos z] at h
    obtain ⟨r, h1, h2⟩ := List.mem_map.mp (List.mem_filter.mp h).1
    exact ⟨r, h1, h2.symm⟩
  · rw [if_neg z] at h
    cases h
theorem newOf_size {ts : List D} {p : Str × Nat} (h : ts.length ^ p.2 ≤ 400) : (newOf ts p).length ≤ 400 := by
  unfold newOf
  split
  · refine Nat.le_trans (List.length_filter_le _ _) ?_
    rw [List.length_map, rowsD_size]
    exact h
  · exact Nat.zero_le _
theorem new_size {ts : List D} : ∀ {fs : Fs}, (∀ p ∈ fs, ts.length ^ p.2 ≤ 400) → (fs.flatMap (newOf ts)).length ≤ 400 * fs.length
  | [], _ => by simp
  | p :: r, h => by
    rw [List.flatMap_cons, List.length_append, List.length_cons]
    have h1 := newOf_size (h p List.mem_cons_self)
    have h2 := new_size fun q hq => h q (List.mem_cons_of_mem _ hq)
    omega
/-- the terms are texts in tuples, nested at most l + 1 deep -/
theorem closed_tx {fs : Fs} (hf : ∀ p ∈ fs, PyData.strOk p.1 = true ∧ p.2 ≤ 3) : ∀ (l : Nat) (t : D), t ∈ closed fs l → t.tx = true ∧ t.dep ≤ l + 1
  | 0, t, h => by
    obtain ⟨n, h1, rfl⟩ := List.mem_map.mp h
    unfold consts at h1
    obtain ⟨p, h2, rfl⟩ := List.mem_map.mp h1
    have q := (hf p (List.mem_filter.mp h2).1).1
    unfold tm
    constructor
    · unfold D.tx
      refine txs_all fun d hd => ?_
      rw [List.mem_singleton.mp hd]
      unfold D.tx
      exact q
    · unfold D.dep
      refine Nat.succ_le_succ (deps_le fun d hd => ?_)
      rw [List.mem_singleton.mp hd]
      unfold D.dep
      exact Nat.le_refl _
  | l + 1, t, h => by
    rcases List.mem_append.mp h with z | z
    · obtain ⟨h1, h2⟩ := closed_tx hf l t z
      exact ⟨h1, by omega⟩
    · obtain ⟨p, hp, h1⟩ := List.mem_flatMap.mp z
      obtain ⟨r, h2, rfl⟩ := newOf_mem h1
      have q := (hf p hp).1
      unfold tm
      constructor
      · unfold D.tx
        refine txs_all fun d hd => ?_
        rcases List.mem_cons.mp hd with y | y
        · rw [y]; unfold D.tx; exact q
        · exact (closed_tx hf l d (rowsD_mem h2 d y)).1
      · unfold D.dep
        refine Nat.succ_le_succ (deps_le fun d hd => ?_)
        rcases List.mem_cons.mp hd with y | y
        · rw [y]; unfold D.dep; exact Nat.zero_le _
        · exact (closed_tx hf l d (rowsD_mem h2 d y)).2
def sConsts (C : Addr) : List D → (R → Prop) → Prop := fun ds Rs => ∃ fs rs ts : Fs, ds = [sigP C fs rs ts] ∧ fs.length ≤ 100 ∧ Rs = fun t => t = .o (.lst ((consts fs).map D.str))
def sExt (C : Addr) : List D → (R → Prop) → Prop := fun ds Rs => ∃ (fs rs gs : Fs) , ds = [sigD C fs rs, .lst (prs gs)] ∧ SgOk (fs ++ gs) rs ∧ Rs = fun t => t = .o (sigD C (fs ++ gs) rs)
def sNamed (C : Addr) : List D → (R → Prop) → Prop := fun ds Rs => ∃ (fs rs : Fs) , ds = [sigD C fs rs] ∧ (consts fs = [] → (("c1" : Str) ∉ (fs ++ rs).map (·.1))) ∧ SgOk fs rs ∧ (consts fs = [] → SgOk (fs ++ [(("c1" : Str), 0)]) rs) ∧ Rs = fun t => if consts fs = [] then t = .o (sigD C (fs ++ [(("c1" : Str), 0)]) rs) else t = .p (sigD C fs rs)
structure ClOk (fs : Fs) (n : Nat) : Prop where
  f : ∀ p ∈ fs, PyData.strOk p.1 = true ∧ p.2 ≤ 3
  m : n ≤ 8
  l : ∀ k, k ≤ n → (closed fs k).length ≤ 400
  c : ∀ k, k < n → cnt (closed fs k).length fs ≤ 400
def sClosed (C : Addr) : List D → (R → Prop) → Prop := fun ds Rs => ∃ (fs rs ts : Fs) (n : Nat), ds = [sigP C fs rs ts, .int n] ∧ fs.length ≤ 100 ∧ ClOk fs n ∧ Rs = fun t => t = .o (.lst (closed fs n))
section
variable {P : Program} {w : World} {K : PySem.W.Frag} {mg : Str → Option Value} {base : Heap}
theorem filter_prs {fs : Fs} {p : D → Bool} {q : Str × Nat → Bool} (h : ∀ x ∈ fs, p (pr x) = q x) : (prs fs).filter p = prs (fs.filter q) := by
  unfold prs
  rw [List.filter_map]
  congr 1
  exact List.filter_congr h
theorem ok_consts (T : Txt K mg) : FnOk P w K mg base CX0 1 T.a_Signature_constants T.d_Signature_constants ["self"] (Sp0 K (sConsts T.a_Signature)) := by
  have hlen : ∀ ds Rs, sConsts T.a_Signature ds Rs → ds.length = 1 := by rintro ds Rs ⟨fs, rs, ts, rfl, _⟩; rfl
  refine T.F_Signature_constants.ok sc_Signature_constants (Sp0.len hlen) (fun cdv A outer s H vs Q E hr h => ?_)
  have hl : vs.length = 1 := Sp0.len hlen _ _ _ _ h
  refine ⟨_, (pss_one (ps_ret (pe_lc (own := [("name", 1), ("arity", 2)]) (by rfl) sc_Signature_constants.nd (PI.k (t' := iSeq K _) (pi_seq (PE.k (t' := tFld K _ _) (pe_fld (pv 0) rfl) rfl)) rfl) (blkOk_by (own := [("name", 1), ("arity", 2)]) (N := ["self", "name", "arity"]) (sc := defScope s_Signature_constants) (by decide +kernel)) (fun _ _ _ _ _ => (PG.k (t' := gTup K 2 _) (pg_tup (n := 2) (by rfl) (pgs_cons (pg_name (i := 1) sc_Signature_constants.nd rfl (.inl rfl)) (pgs_cons (pg_name (i := 2) sc_Signature_constants.nd rfl (.inl rfl)) pgs_nil))) rfl)) (fun _ _ _ _ _ => (pts_one (pt_cmpR (r := rEqU K) (op_eqU hr.units) (pv 2) pe_int (nomark _)))) (fun _ _ _ _ _ => (pv 1))))), fn0 (by rw [hl]; decide) h ?_⟩
  rintro ds Rs ⟨fs, rs, ts, rfl, hn, rfl⟩
  show S K _ [.p (sigP T.a_Signature fs rs ts), .any, .any] _
  have hz : (prs fs).length ≤ sizeLine := by unfold prs; rw [List.length_map]; exact Nat.le_trans hn (by decide)
  repeat walk_at "v1"
  refine x_lcf ?_
  repeat walk_at "v1"
  refine e_fld (e_var rfl (fldP T.cl_Signature T.n_functions rfl ?_))
  refine ⟨prs fs, rfl, rfl, hz, fun d => (match d with | .tup [_, .int a] => decide (a = 0) | _ => false), fun d => (match d with | .tup [x, _] => x | _ => .non), fun d hd => ?_, ?_⟩
  · obtain ⟨p, hp, rfl⟩ := List.mem_map.mp hd
    refine gc_tup rfl (gcs_cons (gc_name (by decide) (gcs_cons (gc_name (by decide) (gcs_nil ?_)))))
    repeat walk_at "v1"
    refine ⟨rfl, ?_⟩
    refine ite_d (fun z => ?_) (fun z => ?_)
    · repeat walk_at "v1"
      exact ⟨rfl, rfl⟩
    · rfl
  · refine ⟨trivial, ?_⟩
    rw [filter_prs (q := fun p => p.2 == 0)]
    · unfold prs consts
      rw [List.map_map, List.map_map]
      rfl
    · intro x hx
      show decide ((x.2 : Int) = 0) = (x.2 == 0)
      rw [Bool.eq_iff_iff, decide_eq_true_iff, beq_iff_eq]
      omega
theorem ok_ext (T : Txt K mg) : FnOk P w K mg base CX0 5 T.a_Signature_extended T.d_Signature_extended ["self", "functions"] (Sp0 K (sExt T.a_Signature)) := by
  have G_Signature___init__ := ok_init (P := P) (w := w) (base := base) T
  have hlen : ∀ ds Rs, sExt T.a_Signature ds Rs → ds.length = 2 := by rintro ds Rs ⟨fs, rs, ts, rfl, _⟩; rfl
  refine T.F_Signature_extended.ok sc_Signature_extended (Sp0.len hlen) (fun cdv A outer s H vs Q E hr h => ?_)
  have hl : vs.length = 2 := Sp0.len hlen _ _ _ _ h
  refine ⟨_, (pss_one (ps_ret (pe_make T.M_Signature G_Signature___init__ (hr.mono (by omega)) (by rfl) T.g_Signature T.b_Signature___init__ .nil pass0 (pa_cons (pe_op (r := rAddU K) op_addU (PE.k (t' := tFld K _ _) (pe_fld (pv 0) rfl) rfl) (pe_callTy (r := rTupU K) call_tupU (by rfl) T.z_tuple (by decide +kernel) (pa_cons (pv 1) pa_nil))) (pa_cons (PE.k (t' := tFld K _ _) (pe_fld (pv 0) rfl) rfl) pa_nil))))), fn0 (by rw [hl]; decide) h ?_⟩
  rintro ds Rs ⟨fs, rs, gs, rfl, hg, rfl⟩
  show S K _ [.p (sigD T.a_Signature fs rs), .p (.lst (prs gs))] _
  have hz : (prs fs).length + (prs gs).length ≤ sizeLine := by
    unfold prs; rw [List.length_map, List.length_map]
    have := hg.l
    rw [List.length_append, List.length_append] at this
    show (_ : Nat) ≤ 16777216
    omega
  repeat walk_at "v1"
  refine x_make ?_
  repeat walk_at "v1"
  refine e_fld (e_var rfl (fldP T.cl_Signature T.n_functions rfl ?_))
  repeat walk_at "v1"
  refine oa_tupL rdl_p ?_
  refine o_addT hz ?_
  repeat walk_at "v1"
  refine e_fld (e_var rfl (fldP T.cl_Signature T.n_relations rfl ?_))
  repeat walk_at "v1"
  rw [prs_app]
  refine makeP rfl ⟨_, _, fs ++ gs, rs, rfl, .inr rfl, .inr rfl, hg, rfl⟩ fun r d' q => ?_
  obtain ⟨q1, q2⟩ := q
  subst q2
  exact ⟨q1, trivial, rfl⟩
theorem ok_named (T : Txt K mg) : FnOk P w K mg base CX0 6 T.a_named_signature T.d_named_signature ["signature"] (Sp0 K (sNamed T.a_Signature)) := by
  have G_Signature_constants := ok_consts (P := P) (w := w) (base := base) T
  have G_Signature_extended := ok_ext (P := P) (w := w) (base := base) T
  have G_fresh_name := ok_fresh (P := P) (w := w) (base := base) T
  have hlen : ∀ ds Rs, sNamed T.a_Signature ds Rs → ds.length = 1 := by rintro ds Rs ⟨fs, rs, rfl, _⟩; rfl
  refine T.F_named_signature.ok sc_named_signature (Sp0.len hlen) (fun cdv A outer s H vs Q E hr h => ?_)
  have hl : vs.length = 1 := Sp0.len hlen _ _ _ _ h
  refine ⟨_, (pss_cons (ps_if (pt_truth (pe_meth0 (pv 0) T.cl_Signature T.m_Signature_constants G_Signature_constants (hr.mono (by omega)) T.b_Signature_constants .nil pass0) (by intro _; rfl))
        (pss_one (ps_ret (pv 0)))
        pss_nil)
      (pss_cons (ps_setLc (i := 1) (own := [("name", 2), ("arity", 3)]) (by rfl) sc_named_signature.nd rfl rfl (sw_true rfl rfl rfl (by decide +kernel)) (PI.k (t' := iSeq K _) (pi_seq (pe_op (r := rAddU K) op_addU (PE.k (t' := tFld K _ _) (pe_fld (pv 0) rfl) rfl) (PE.k (t' := tFld K _ _) (pe_fld (pv 0) rfl) rfl))) rfl) (blkOk_by (own := [("name", 2), ("arity", 3)]) (N := ["signature", "taken", "name", "arity"]) (sc := defScope s_named_signature) (by decide +kernel)) (fun _ _ _ _ _ => (PG.k (t' := gTup K 2 _) (pg_tup (n := 2) (by rfl) (pgs_cons (pg_name (i := 2) sc_named_signature.nd rfl (.inl rfl)) (pgs_cons (pg_name (i := 3) sc_named_signature.nd rfl (.inl rfl)) pgs_nil))) rfl)) (fun _ _ _ _ _ => pts_nil) (fun _ _ _ _ _ => (pv 2)))
      (pss_one (ps_ret (pe_meth (pv 0) T.cl_Signature T.m_Signature_extended G_Signature_extended (hr.mono (by omega)) T.b_Signature_extended .nil pass0 (pa_cons (pe_lst (pa_cons (pe_tup (pa_cons (pe_call G_fresh_name (hr.mono (by omega)) (by rfl) T.g_fresh_name T.F_fresh_name.kp T.b_fresh_name .nil pass0 (pa_cons pe_str (pa_cons (pv 1) pa_nil))) (pa_cons pe_int pa_nil))) pa_nil)) pa_nil)))))), fn0 (by rw [hl]; decide) h ?_⟩
  rintro ds Rs ⟨fs, rs, rfl, hc1, hg, hg1, rfl⟩
  show S K _ [.p (sigD T.a_Signature fs rs), .any, .any, .any] _
  have hl1 := hg.l
  rw [List.length_append] at hl1
  have hz : (prs fs).length + (prs rs).length ≤ sizeLine := by
    unfold prs; rw [List.length_map, List.length_map]; show (_ : Nat) ≤ 16777216; omega
  have hz2 : (prs (fs ++ rs)).length ≤ sizeLine := by rw [← prs_app, List.length_append]; exact hz
  repeat walk_at "v1"
  refine t_tru (x_meth (e_var rfl (methP rfl (a_nil (callP rfl ⟨fs, rs, fs ++ rs, rfl, by omega, rfl⟩ fun t ht _ => ?_)))))
  subst ht
  refine ⟨_, rfl, ?_⟩
  by_cases hc : consts fs = []
  · rw [hc]
    refine ite_f ?_
    repeat walk_at "v1"
    refine x_lcm ?_
    repeat walk_at "v1"
    refine e_fld (e_var rfl (fldP T.cl_Signature T.n_functions rfl ?_))
    refine e_fld (e_var rfl (fldP T.cl_Signature T.n_relations rfl ?_))
    refine o_addT hz ?_
    rw [prs_app]
    refine ⟨prs (fs ++ rs), rfl, rfl, hz2, fun d => (match d with | .tup [x, _] => x | _ => .non), fun d hd => ?_, ?_⟩
    · obtain ⟨p, hp, rfl⟩ := List.mem_map.mp hd
      refine gc_tup rfl (gcs_cons (gc_name (by decide) (gcs_cons (gc_name (by decide) (gcs_nil ?_)))))
      repeat walk_at "v1"
      exact ⟨rfl, rfl⟩
    · have hm : ((prs (fs ++ rs)).map fun d => (match d with | .tup [x, _] => x | _ => D.non)) = ((fs ++ rs).map (·.1)).map D.str := by
        unfold prs
        rw [List.map_map, List.map_map]
        rfl
      rw [hm]
      refine g_nameO ?_
      show S K _ _ _
      refine s_fz (i := 1) rfl ?_
      repeat walk_at "v1"
      refine x_meth (e_var rfl (methP rfl ?_))
      repeat walk_at "v1"
      refine callP rfl ⟨_, rfl, hc1 hc, rfl⟩ fun t ht _ => ?_
      subst ht
      repeat walk_at "v1"
      refine callP rfl ⟨fs, rs, [(("c1" : Str), 0)], rfl, hg1 hc, rfl⟩ fun t ht _ => ?_
      subst ht
      exact ⟨trivial, by show (if ([] : List Str) = [] then _ else _); rw [if_pos rfl]⟩
  · have hk : (!((consts fs).map D.str).isEmpty) = true := by
      cases hq : consts fs with
      | nil => exact absurd hq hc
      | cons x r => rfl
    rw [hk]
    refine ite_t ?_
    repeat walk_at "v1"
    exact ⟨trivial, by show (if consts fs = [] then _ else _); rw [if_neg hc]⟩
theorem ok_closed (T : Txt K mg) : FnOk P w K mg base CX0 2 T.a_closed_terms T.d_closed_terms ["signature", "depth"] (Sp0 K (sClosed T.a_Signature)) := by
  have G_Signature_constants := ok_consts (P := P) (w := w) (base := base) T
  have G_rows_of := ok_rows (P := P) (w := w) (base := base) T
  have hlen : ∀ ds Rs, sClosed T.a_Signature ds Rs → ds.length = 2 := by rintro ds Rs ⟨fs, rs, ts, n, rfl, _⟩; rfl
  refine T.F_closed_terms.ok sc_closed_terms (Sp0.len hlen) (fun cdv A outer s H vs Q E hr h => ?_)
  have hl : vs.length = 2 := Sp0.len hlen _ _ _ _ h
  refine ⟨_, (pss_cons (ps_set (i := 2) sc_closed_terms.nd rfl (.inr rfl) (pe_lc (own := [("name", 5)]) (by rfl) sc_closed_terms.nd (PI.k (t' := iSeq K _) (pi_seq (pe_meth0 (pv 0) T.cl_Signature T.m_Signature_constants G_Signature_constants (hr.mono (by omega)) T.b_Signature_constants .nil pass0)) rfl) (blkOk_by (own := [("name", 5)]) (N := ["signature", "depth", "terms", "_", "deeper", "name", "arity", "made", "row", "term"]) (sc := defScope s_closed_terms) (by decide +kernel)) (fun _ _ _ _ _ => (pg_name (i := 5) sc_closed_terms.nd rfl (.inl rfl))) (fun _ _ _ _ _ => pts_nil) (fun _ _ _ _ _ => (pe_tup (pa_cons (pv 5) pa_nil)))))
      (pss_cons (ps_for PassesOwn.never (by rfl) (pi_range1 (by rfl) T.z_range (pa_cons (pv 1) pa_nil)) (pg_name (i := 3) sc_closed_terms.nd rfl (.inl rfl))
        (pss_cons (ps_set (i := 4) sc_closed_terms.nd rfl (.inl rfl) (pe_callTy (r := rListU K) call_listU (by rfl) T.z_list (by decide +kernel) (pa_cons (pv 2) pa_nil)))
        (pss_cons (ps_for PassesOwn.never (by rfl) (PI.k (t' := iSeq K _) (pi_seq (PE.k (t' := tFld K _ _) (pe_fld (pv 0) rfl) rfl)) rfl) (PG.k (t' := gTup K 2 _) (pg_tup (n := 2) (by rfl) (pgs_cons (pg_name (i := 5) sc_closed_terms.nd rfl (.inr rfl)) (pgs_cons (pg_name (i := 6) sc_closed_terms.nd rfl (.inl rfl)) pgs_nil))) rfl)
          (pss_one (ps_if (pt_cmpR op_gt (pv 6) pe_int (nomark _))
            (pss_cons (ps_setLc (i := 7) (own := [("row", 8)]) (by rfl) sc_closed_terms.nd rfl rfl (sw_true rfl rfl rfl (by decide +kernel)) (PI.k (t' := iSeq K _) (pi_seq (pe_call G_rows_of (hr.mono (by omega)) (by rfl) T.g_rows_of T.F_rows_of.kp T.b_rows_of .nil pass0 (pa_cons (pv 2) (pa_cons (pv 6) pa_nil)))) rfl) (blkOk_by (own := [("row", 8)]) (N := ["signature", "depth", "terms", "_", "deeper", "name", "arity", "made", "row", "term"]) (sc := defScope s_closed_terms) (by decide +kernel)) (fun _ _ _ _ _ => (pg_name (i := 8) sc_closed_terms.nd rfl (.inl rfl))) (fun _ _ _ _ _ => pts_nil) (fun _ _ _ _ _ => (pe_op (r := rAddU K) op_addU (pe_tup (pa_cons (pv 5) pa_nil)) (pv 8))))
            (pss_one (ps_expr (PE.k (t' := tBM K _ _ _ _) (pe_bm PySem.F.plainAttrs_list PySem.F.slot_list_extend PySem.F.type_list_extend mt_extend (pv 4) (pa_cons (pe_lc (own := [("term", 9)]) (by rfl) sc_closed_terms.nd (PI.k (t' := iSeq K _) (pi_seq (pv 7)) rfl) (blkOk_by (own := [("term", 9)]) (N := ["signature", "depth", "terms", "_", "deeper", "name", "arity", "made", "row", "term"]) (sc := defScope s_closed_terms) (by decide +kernel)) (fun _ _ _ _ _ => (pg_name (i := 9) sc_closed_terms.nd rfl (.inl rfl))) (fun _ _ _ _ _ => (pts_one (pt_cmpR (r := rInU K true) (op_notInU (hu65 hr)) (pv 9) (pv 2) (by rfl)))) (fun _ _ _ _ _ => (pv 9))) pa_nil)) rfl))))
            pss_nil)))
        (pss_one (ps_set (i := 2) sc_closed_terms.nd rfl (.inr rfl) (pv 4))))))
      (pss_one (ps_ret (pv 2))))), fn0 (by rw [hl]; decide) h ?_⟩
  rintro ds Rs ⟨fs, rs, ts, n, rfl, hn, ok, rfl⟩
  show S K _ [.p (sigP T.a_Signature fs rs ts), .p (.int n), .any, .any, .any, .any, .any, .any, .any, .any] _
  have hn8 := ok.m
  repeat walk_at "v1"
  refine x_lcm (i_seq (x_meth (e_var rfl (methP rfl (a_nil (callP rfl ⟨fs, rs, ts, rfl, hn, rfl⟩ fun t ht _ => ?_))))))
  subst ht
  refine ⟨_, rfl, rfl, ?_, fun d => .tup [d], fun d hd => ?_, ?_⟩
  · rw [List.length_map]
    unfold consts
    rw [List.length_map]
    exact Nat.le_trans (List.length_filter_le _ _) (Nat.le_trans hn (by decide))
  · refine gc_name (by decide) ?_
    repeat walk_at "v1"
    exact ⟨rfl, rfl⟩
  rw [List.map_map]
  show G K (gName 2) (.o (.lst (closed fs 0))) _ _
  repeat walk_at "v1"
  refine s_for ?_
  repeat walk_at "v1"
  refine ⟨by omega, by omega, fun i ρ => ∃ x3 x5 x6 x7 x8 x9, x5.owns = false ∧ x7.owns = false ∧ x8.owns = false ∧ x9.owns = false ∧ ρ = [.p (sigP T.a_Signature fs rs ts), .p (.int n), .o (.lst (closed fs i)), x3, .any, x5, x6, x7, x8, x9], ⟨_, _, _, _, _, _, rfl, rfl, rfl, rfl, rfl⟩, ?_, ?_⟩
  · rintro i d ρ hd ⟨x3, x5, x6, x7, x8, x9, n5, n7, n8, n9, rfl⟩
    obtain ⟨hi, rfl⟩ := rngD_get hd
    have hi : i < n := by omega
    have hC := closed_tx ok.f i
    have hCl := ok.l i (by omega)
    have hcn := ok.c i hi
    have htx : D.txs (closed fs i) = true := txs_all fun d hd => (hC d hd).1
    have hdp : D.deps (closed fs i) < 64 := Nat.lt_of_le_of_lt (deps_le fun d hd => (hC d hd).2) (by omega)
    have hok := txs_ok htx hdp
    have hsucc : closed fs (i + 1) = closed fs i ++ (fs.take (prs fs).length).flatMap (newOf (closed fs i)) := by
      unfold prs
      rw [List.length_map, List.take_length]
      rfl
    generalize hCe : closed fs i = C at *
    refine g_name ?_
    refine s_fz (i := 2) rfl ?_
    show S K _ [.p (sigP T.a_Signature fs rs ts), .p (.int n), .p (.lst C), .p (.int (0 + (i : Int))), .any, x5, x6, x7, x8, x9] _
    repeat walk_at "v1"
    refine oa_listL rdl_p ?_
    repeat walk_at "v1"
    refine s_for ?_
    refine i_seq (e_fld (e_var rfl (fldP T.cl_Signature T.n_functions rfl ?_)))
    refine ⟨prs fs, rfl, fun j ρ => ∃ x5 x6 x7 x8 x9, x5.owns = false ∧ x7.owns = false ∧ x8.owns = false ∧ x9.owns = false ∧ ρ = [.p (sigP T.a_Signature fs rs ts), .p (.int n), .p (.lst C), .p (.int (0 + (i : Int))), .o (.lst (C ++ (fs.take j).flatMap (newOf C))), x5, x6, x7, x8, x9], ⟨_, _, _, _, _, n5, n7, n8, n9, by rw [List.take_zero, List.flatMap_nil, List.append_nil]; rfl⟩, ?_, ?_⟩
    · rintro j d ρ hd ⟨x5, x6, x7, x8, x9, n5, n7, n8, n9, rfl⟩
      have hd2 : (fs.map pr)[j]? = some d := hd
      rw [List.getElem?_map] at hd2
      cases hp : fs[j]? with
      | none => rw [hp] at hd2; cases hd2
      | some p =>
      rw [hp] at hd2
      cases hd2
      have hpm : p ∈ fs := List.mem_of_getElem? hp
      obtain ⟨hstr, hp3⟩ := ok.f p hpm
      have hpw : C.length ^ p.2 ≤ 400 := Nat.le_trans (cnt_mem hpm) hcn
      have htake : (fs.take (j + 1)).flatMap (newOf C) = (fs.take j).flatMap (newOf C) ++ newOf C p := by
        rw [List.take_add_one, hp, List.flatMap_append]
        show _ ++ List.flatMap _ [p] = _
        rw [List.flatMap_singleton]
      refine g_tup rfl (gs_cons (g_name (gs_cons (g_name (gs_nil ?_)))))
      show S K _ [.p (sigP T.a_Signature fs rs ts), .p (.int n), .p (.lst C), .p (.int (0 + (i : Int))), .o (.lst (C ++ (fs.take j).flatMap (newOf C))), .p (.str p.1), .p (.int p.2), x7, x8, x9] _
      repeat walk_at "v1"
      refine ite_d (fun hz => ?_) (fun hz => ?_)
      · have hz : 0 < p.2 := by omega
        repeat walk_at "v1"
        refine x_lcm (i_seq (x_call (a_cons (e_var rfl (a_cons (e_var rfl (a_nil (callP rfl ⟨C, p.2, rfl, by omega, fun k hk => ?_, rfl⟩ fun t ht _ => ?_))))))))
        · rw [rowsD_size]
          exact Nat.le_trans (pow_small hk hpw) (by decide)
        subst ht
        refine ⟨_, rfl, by simp only [novs, List.all_cons, List.all_nil]; simp [n8], ?_, fun d => .tup (.str p.1 :: d.items), fun d hd => ?_, ?_⟩
        · rw [List.length_map, rowsD_size]
          exact Nat.le_trans hpw (by decide)
        · obtain ⟨r, hr, rfl⟩ := List.mem_map.mp hd
          refine gc_name (by decide) ?_
          repeat walk_at "v1"
          refine o_addT (by rw [rowsD_len r hr]; show 1 + p.2 ≤ 16777216; omega) ?_
          exact ⟨rfl, rfl⟩
        rw [List.map_map]
        show G K (gName 7) (.o (.lst ((rowsD C p.2).map (tm p.1)))) _ _
        refine g_nameO ?_
        show S K _ _ _
        refine s_fz (i := 7) rfl ?_
        show S K _ [.p (sigP T.a_Signature fs rs ts), .p (.int n), .p (.lst C), .p (.int (0 + (i : Int))), .o (.lst (C ++ (fs.take j).flatMap (newOf C))), .p (.str p.1), .p (.int p.2), .p (.lst ((rowsD C p.2).map (tm p.1))), .any, x9] _
        repeat walk_at "v1"
        refine x_lcf (i_seq (e_var rfl ⟨_, rfl, by simp only [novs, List.all_cons, List.all_nil]; simp [n9], ?_, fun t => !C.any (fun z => D.eqb z t), fun d => d, fun d hd => ?_, ?_⟩))
        · rw [List.length_map, rowsD_size]
          exact Nat.le_trans hpw (by decide)
        · obtain ⟨r, hr, rfl⟩ := List.mem_map.mp hd
          have hte : (tm p.1 r).tx = true ∧ (tm p.1 r).dep ≤ 64 := by
            unfold tm
            constructor
            · unfold D.tx
              refine txs_all fun d hd => ?_
              rcases List.mem_cons.mp hd with y | y
              · rw [y]; unfold D.tx; exact hstr
              · exact (hC d (rowsD_mem hr d y)).1
            · unfold D.dep
              refine Nat.succ_le_of_lt (Nat.lt_of_le_of_lt (deps_le (n := i + 1) fun d hd => ?_) (by omega))
              rcases List.mem_cons.mp hd with y | y
              · rw [y]; unfold D.dep; exact Nat.zero_le _
              · exact (hC d (rowsD_mem hr d y)).2
          refine gc_name (by decide) ?_
          repeat walk_at "v1"
          refine o_inL (tx_ok hte.1 hte.2) hok ?_
          repeat walk_at "v1"
          refine ⟨rfl, ite_b (fun _ => ?_) (fun _ => rfl)⟩
          repeat walk_at "v1"
          exact ⟨rfl, rfl⟩
        rw [List.map_id']
        have hnew : ((rowsD C p.2).map (tm p.1)).filter (fun t => !C.any (fun z => D.eqb z t)) = newOf C p := by
          unfold newOf
          rw [if_pos hz]
        rw [hnew]
        repeat walk_at "v1"
        refine om_extend rfl rfl rfl rdl_p ?_ ?_
        · have z1 := newOf_size hpw
          have z2 := new_size (ts := C) (fs := fs.take j) fun q hq => Nat.le_trans (cnt_mem (List.mem_of_mem_take hq)) hcn
          have z3 : (fs.take j).length ≤ 100 := Nat.le_trans (by rw [List.length_take]; exact Nat.min_le_right _ _) hn
          rw [List.length_append]
          show (_ : Nat) ≤ 16777216
          omega
        · refine ⟨_, _, _, _, _, rfl, rfl, rfl, rfl, by rw [htake, ← List.append_assoc]; rfl⟩
      · have hz : ¬ 0 < p.2 := by omega
        repeat walk_at "v1"
        have hnew : newOf C p = [] := by unfold newOf; rw [if_neg hz]
        exact ⟨_, _, _, _, _, rfl, n7, n8, n9, by rw [htake, hnew, List.append_nil]⟩
    · rintro ρ ⟨x5, x6, x7, x8, x9, n5, n7, n8, n9, rfl⟩
      refine s_mv rfl ?_
      rw [← hsucc]
      exact ⟨_, _, _, _, _, _, n5, n7, n8, n9, rfl⟩
  · rintro ρ ⟨x3, x5, x6, x7, x8, x9, n5, n7, n8, n9, rfl⟩
    rw [rngD_len]
    refine s_retO rfl ⟨trivial, rfl⟩
end
end K57
namespace K57
open PySem PySem.Spec PyProof.Rows L2 VL
/-! what the terms are, how many they are -/
def WT (fs : Fs) : Nat → D → Prop
  | 0, t => ∃ p, p ∈ fs ∧ p.2 = 0 ∧ t = tm p.1 []
  | l + 1, t => ∃ p, p ∈ fs ∧ ∃ r : List D, r.length = p.2 ∧ (∀ x ∈ r, WT fs l x) ∧ t = tm p.1 r
theorem tm_inj {n m : Str} {r q : List D} (h : tm n r = tm m q) : n = m ∧ r = q := by
  unfold tm at h
  injection h with h
  injection h with h1 h2
  injection h1 with h1
  exact ⟨h1, h2⟩
theorem wt_up {fs : Fs} : ∀ {l : Nat} {t : D}, WT fs l t → WT fs (l + 1) t
  | 0, t, ⟨p, h1, h2, h3⟩ => ⟨p, h1, [], h2.symm, fun x hx => (by cases hx), h3⟩
  | l + 1, t, ⟨p, h1, r, h2, h3, h4⟩ => ⟨p, h1, r, h2, fun x hx => wt_up (h3 x hx), h4⟩
theorem wt_le {fs : Fs} {l : Nat} {t : D} (h : WT fs l t) : ∀ {m : Nat}, l ≤ m → WT fs m t := by
  intro m hm
  induction hm with
  | refl => exact h
  | step _ ih => exact wt_up ih
theorem mem_rowsD {cs : List D} : ∀ {n : Nat} {r : List D}, r.length = n → (∀ x ∈ r, x ∈ cs) → r ∈ rowsD cs n
  | 0, r, h, _ => by rw [List.eq_nil_of_length_eq_zero h]; exact List.mem_singleton.mpr rfl
  | n + 1, r, h, g => by
    have hne : r ≠ [] := fun z => by rw [z] at h; cases h
    have e := List.dropLast_concat_getLast hne
    refine List.mem_flatMap.mpr ⟨r.dropLast, mem_rowsD (by rw [List.length_dropLast, h]; rfl) fun x hx => g x ((List.dropLast_sublist r).subset hx), ?_⟩
    exact List.mem_map.mpr ⟨r.getLast hne, g _ (List.getLast_mem hne), e⟩
theorem any_iff {fs : Fs} (hf : ∀ p ∈ fs, PyData.strOk p.1 = true ∧ p.2 ≤ 3) {l : Nat} {t : D} (ht : t.tx = true) : ((closed fs l).any fun z => D.eqb z t) = true ↔ t ∈ closed fs l :=
  tx_any (txs_all fun d hd => (closed_tx hf l d hd).1) ht
theorem wt_tx {fs : Fs} (hf : ∀ p ∈ fs, PyData.strOk p.1 = true ∧ p.2 ≤ 3) : ∀ {l : Nat} {t : D}, WT fs l t → t.tx = true
  | 0, t, ⟨p, h1, h2, h3⟩ => by
    rw [h3]
    unfold tm D.tx
    refine txs_all fun d hd => ?_
    rw [List.mem_singleton.mp hd]
    unfold D.tx
    exact (hf p h1).1
  | l + 1, t, ⟨p, h1, r, h2, h3, h4⟩ => by
    rw [h4]
    unfold tm D.tx
    refine txs_all fun d hd => ?_
    rcases List.mem_cons.mp hd with y | y
    · rw [y]; unfold D.tx; exact (hf p h1).1
    · exact wt_tx hf (h3 d y)
theorem closed_iff {fs : Fs} (hf : ∀ p ∈ fs, PyData.strOk p.1 = true ∧ p.2 ≤ 3) : ∀ (l : Nat) (t : D), t ∈ closed fs l ↔ WT fs l t
  | 0, t => by
    constructor
    · intro h
      obtain ⟨n, h1, rfl⟩ := List.mem_map.mp h
      unfold consts at h1
      obtain ⟨p, h2, rfl⟩ := List.mem_map.mp h1
      obtain ⟨h3, h4⟩ := List.mem_filter.mp h2
      exact ⟨p, h3, by simpa using h4, rfl⟩
    · rintro ⟨p, h1, h2, rfl⟩
      exact List.mem_map.mpr ⟨p.1, List.mem_map.mpr ⟨p, List.mem_filter.mpr ⟨h1, by simpa using h2⟩, rfl⟩, rfl⟩
  | l + 1, t => by
    constructor
    · intro h
      rcases List.mem_append.mp h with z | z
      · exact wt_up ((closed_iff hf l t).mp z)
      · obtain ⟨p, hp, h1⟩ := List.mem_flatMap.mp z
        obtain ⟨r, h2, rfl⟩ := newOf_mem h1
        exact ⟨p, hp, r, rowsD_len r h2, fun x hx => (closed_iff hf l x).mp (rowsD_mem h2 x hx), rfl⟩
    · intro w
      have wt := wt_tx hf w
      obtain ⟨p, hp, r, h1, h2, rfl⟩ := w
      by_cases z : tm p.1 r ∈ closed fs l
      · exact List.mem_append.mpr (.inl z)
      · by_cases h0 : 0 < p.2
        · refine List.mem_append.mpr (.inr (List.mem_flatMap.mpr ⟨p, hp, ?_⟩))
          unfold newOf
          rw [if_pos h0]
          refine List.mem_filter.mpr ⟨List.mem_map.mpr ⟨r, mem_rowsD h1 fun x hx => (closed_iff hf l x).mpr (h2 x hx), rfl⟩, ?_⟩
          cases q : (closed fs l).any fun z => D.eqb z (tm p.1 r) with
          | true => exact absurd ((any_iff hf wt).mp q) z
          | false => rfl
        · have hp0 : p.2 = 0 := by omega
          have hr : r = [] := List.eq_nil_of_length_eq_zero (by rw [h1, hp0])
          subst hr
          exact absurd ((closed_iff hf l _).mpr (wt_le (l := 0) ⟨p, hp, hp0, rfl⟩ (Nat.zero_le _))) z
theorem dep_tm {n : Str} {r : List D} : (tm n r).dep = D.deps r + 1 := by
  unfold tm D.dep
  conv => lhs; unfold D.deps
  rw [show (D.str n).dep = 0 by unfold D.dep; rfl, Nat.zero_max]
theorem wt_pos {fs : Fs} : ∀ {l : Nat} {t : D}, WT fs l t → 1 ≤ t.dep
  | 0, t, ⟨p, _, _, h⟩ => by rw [h, dep_tm]; omega
  | l + 1, t, ⟨p, _, r, _, _, h⟩ => by rw [h, dep_tm]; omega
theorem wt_dep {fs : Fs} : ∀ {l : Nat} {t : D}, WT fs l t → t.dep ≤ l + 1
  | 0, t, ⟨p, _, _, h⟩ => by rw [h, dep_tm]; unfold D.deps; exact Nat.le_refl _
  | l + 1, t, ⟨p, _, r, _, g, h⟩ => by rw [h, dep_tm]; exact Nat.succ_le_succ (deps_le fun d hd => wt_dep (g d hd))
theorem wt_down {fs : Fs} : ∀ {l : Nat} {t : D}, WT fs (l + 1) t → t.dep ≤ l + 1 → WT fs l t
  | 0, t, ⟨p, h1, r, h2, g, h⟩, hd => by
    have hr : r = [] := by
      cases r with
      | nil => rfl
      | cons x q =>
        have a := wt_pos (g x List.mem_cons_self)
        have b := dep_mem (l := x :: q) (d := x) List.mem_cons_self
        rw [h, dep_tm] at hd
        omega
    subst hr
    exact ⟨p, h1, h2.symm, h⟩
  | l + 1, t, ⟨p, h1, r, h2, g, h⟩, hd => by
    rw [h, dep_tm] at hd
    exact ⟨p, h1, r, h2, fun x hx => wt_down (g x hx) (Nat.le_trans (dep_mem hx) (by omega)), h⟩
/-- a row gives a new term just where one of its terms is nested as deep as can be -/
theorem new_iff {fs : Fs} (hf : ∀ p ∈ fs, PyData.strOk p.1 = true ∧ p.2 ≤ 3) {l : Nat} {p : Str × Nat} {r : List D} (hp : p ∈ fs) (h0 : 0 < p.2) (hr : r ∈ rowsD (closed fs l) p.2) :
    (!(closed fs l).any fun z => D.eqb z (tm p.1 r)) = (decide (l = 0) || r.any fun x => decide (x.dep - 1 = l)) := by
  have hlen := rowsD_len r hr
  have w : WT fs (l + 1) (tm p.1 r) := ⟨p, hp, r, hlen, fun x hx => (closed_iff hf l x).mp (rowsD_mem hr x hx), rfl⟩
  have wx : ∀ x ∈ r, WT fs l x := fun x hx => (closed_iff hf l x).mp (rowsD_mem hr x hx)
  have hany := any_iff hf (l := l) (wt_tx hf w)
  rw [closed_iff hf] at hany
  rw [Bool.eq_iff_iff, Bool.not_eq_true', ← Bool.not_eq_true, hany, Bool.or_eq_true, decide_eq_true_iff, List.any_eq_true]
  constructor
  · intro h
    by_cases z : l = 0
    · exact .inl z
    · refine .inr (Classical.byContradiction fun n => h (wt_down w ?_))
      rw [dep_tm]
      refine Nat.succ_le_succ (deps_le fun x hx => ?_)
      have a := wt_dep (wx x hx)
      have b := wt_pos (wx x hx)
      have c : ¬ x.dep - 1 = l := fun c => n ⟨x, hx, decide_eq_true c⟩
      omega
  · intro h q
    have a := wt_dep q
    rw [dep_tm] at a
    rcases h with z | ⟨x, hx, z⟩
    · cases r with
      | nil => rw [← hlen] at h0; exact absurd h0 (by decide)
      | cons x t =>
        have b := wt_pos (wx x List.mem_cons_self)
        have c := dep_mem (l := x :: t) (d := x) List.mem_cons_self
        omega
    · have b := wt_pos (wx x hx)
      have c := dep_mem hx
      have z := of_decide_eq_true z
      omega
/-! how many -/
theorem nodup_le {α : Type} : ∀ {l m : List α}, l.Nodup → (∀ x ∈ l, x ∈ m) → l.length ≤ m.length
  | [], m, _, _ => Nat.zero_le _
  | x :: r, m, h, g => by
    obtain ⟨s, t, rfl⟩ := List.append_of_mem (g x List.mem_cons_self)
    obtain ⟨h1, h2⟩ := List.nodup_cons.mp h
    have := nodup_le (m := s ++ t) h2 fun y hy => by
      rcases List.mem_append.mp (g y (List.mem_cons_of_mem _ hy)) with z | z
      · exact List.mem_append.mpr (.inl z)
      · rcases List.mem_cons.mp z with w | w
        · rw [w] at hy; exact absurd hy h1
        · exact List.mem_append.mpr (.inr w)
    rw [List.length_append] at this
    rw [List.length_cons, List.length_append, List.length_cons]
    omega
theorem rowsD_nodup {cs : List D} (h : cs.Nodup) : ∀ n : Nat, (rowsD cs n).Nodup
  | 0 => List.pairwise_singleton _ _
  | n + 1 => by
    show ((rowsD cs n).flatMap fun r => cs.map fun c => r ++ [c]).Nodup
    refine List.pairwise_flatMap.mpr ⟨fun r _ => List.pairwise_map.mpr (h.imp fun a b => a (by simpa using b)), (rowsD_nodup h n).imp fun {a b} ne x hx y hy e => ?_⟩
    obtain ⟨c, _, rfl⟩ := List.mem_map.mp hx
    obtain ⟨d, _, rfl⟩ := List.mem_map.mp hy
    exact ne (List.append_inj' e rfl).1
theorem tms_nodup {cs : List D} {n : Str} {k : Nat} (h : cs.Nodup) : ((rowsD cs k).map (tm n)).Nodup :=
  List.pairwise_map.mpr ((rowsD_nodup h k).imp fun {a b} ne e => ne (tm_inj e).2)
theorem fs_names {fs : Fs} (h : (fs.map (·.1)).Nodup) : fs.Pairwise fun p q => p.1 ≠ q.1 := List.pairwise_map.mp h
theorem closed_nodup {fs : Fs} (hf : ∀ p ∈ fs, PyData.strOk p.1 = true ∧ p.2 ≤ 3) (hn : (fs.map (·.1)).Nodup) : ∀ l : Nat, (closed fs l).Nodup
  | 0 => by
    have h : (consts fs).Nodup := by
      unfold consts
      exact List.pairwise_map.mpr ((fs_names hn).filter _)
    exact List.pairwise_map.mpr (h.imp fun {a b} ne e => ne (tm_inj e).1)
  | l + 1 => by
    have ih := closed_nodup hf hn l
    refine List.nodup_append.mpr ⟨ih, ?_, ?_⟩
    · refine List.pairwise_flatMap.mpr ⟨fun p _ => ?_, (fs_names hn).imp fun {p q} ne x hx y hy e => ?_⟩
      · unfold newOf
        split
        · exact List.Pairwise.filter _ (tms_nodup ih)
        · exact List.nodup_nil
      · obtain ⟨r, _, rfl⟩ := newOf_mem hx
        obtain ⟨s, _, rfl⟩ := newOf_mem hy
        exact ne (tm_inj e).1
    · intro x hx y hy e
      subst e
      obtain ⟨p, hp, h1⟩ := List.mem_flatMap.mp hy
      obtain ⟨r, hr, rfl⟩ := newOf_mem h1
      unfold newOf at h1
      by_cases z : 0 < p.2
      · rw [if_pos z] at h1
        have q := (List.mem_filter.mp h1).2
        rw [(any_iff hf (closed_tx hf l _ hx).1).mpr hx] at q
        cases q
      · rw [if_neg z] at h1
        cases h1
def allD (fs : Fs) (cs : List D) : List D := fs.flatMap fun p => (rowsD cs p.2).map (tm p.1)
theorem allD_size {cs : List D} : ∀ fs : Fs, (allD fs cs).length = cnt cs.length fs
  | [] => rfl
  | p :: r => by
    have ih := allD_size (cs := cs) r
    unfold allD at ih ⊢
    rw [List.flatMap_cons, List.length_append, ih, List.length_map, rowsD_size]
    unfold cnt
    rw [List.map_cons, List.sum_cons]
theorem closed_size {fs : Fs} (hf : ∀ p ∈ fs, PyData.strOk p.1 = true ∧ p.2 ≤ 3) (hn : (fs.map (·.1)).Nodup) (l : Nat) : (closed fs (l + 1)).length = cnt (closed fs l).length fs := by
  have hc := closed_nodup hf hn l
  have hA : (allD fs (closed fs l)).Nodup := by
    refine List.pairwise_flatMap.mpr ⟨fun p _ => tms_nodup hc, (fs_names hn).imp fun {p q} ne x hx y hy e => ?_⟩
    obtain ⟨r, _, rfl⟩ := List.mem_map.mp hx
    obtain ⟨s, _, rfl⟩ := List.mem_map.mp hy
    exact ne (tm_inj e).1
  have hm : ∀ t, t ∈ closed fs (l + 1) ↔ t ∈ allD fs (closed fs l) := fun t => by
    rw [closed_iff hf]
    constructor
    · rintro ⟨p, hp, r, h1, h2, rfl⟩
      exact List.mem_flatMap.mpr ⟨p, hp, List.mem_map.mpr ⟨r, mem_rowsD h1 fun x hx => (closed_iff hf l x).mpr (h2 x hx), rfl⟩⟩
    · intro h
      obtain ⟨p, hp, h1⟩ := List.mem_flatMap.mp h
      obtain ⟨r, h2, rfl⟩ := List.mem_map.mp h1
      exact ⟨p, hp, r, rowsD_len r h2, fun x hx => (closed_iff hf l x).mp (rowsD_mem h2 x hx), rfl⟩
  rw [← allD_size]
  exact Nat.le_antisymm (nodup_le (closed_nodup hf hn (l + 1)) fun x hx => (hm x).mp hx) (nodup_le hA fun x hx => (hm x).mpr hx)
/-- what a count from depth to depth gives -/
structure CountsOk (fs : Fs) (cs : List Nat) : Prop where
  s : 1 ≤ cs.length ∧ cs.length ≤ 9
  z : cs[0]? = some (consts fs).length
  n : ∀ i x, cs[i + 1]? = some x → x ≤ 400 ∧ ∃ y, cs[i]? = some y ∧ x = cnt y fs
theorem counts_size {fs : Fs} {cs : List Nat} (hf : ∀ p ∈ fs, PyData.strOk p.1 = true ∧ p.2 ≤ 3) (hn : (fs.map (·.1)).Nodup) (h : CountsOk fs cs) : ∀ (i x : Nat), cs[i]? = some x → x = (closed fs i).length
  | 0, x, hx => by
    rw [h.z] at hx
    cases hx
    show _ = ((consts fs).map _).length
    rw [List.length_map]
  | i + 1, x, hx => by
    obtain ⟨h1, y, h2, h3⟩ := h.n i x hx
    rw [closed_size hf hn, ← counts_size hf hn h i y h2]
    exact h3
theorem counts_ok {fs : Fs} {cs : List Nat} (hf : ∀ p ∈ fs, PyData.strOk p.1 = true ∧ p.2 ≤ 3) (hn : (fs.map (·.1)).Nodup) (hl : fs.length ≤ 100) (h : CountsOk fs cs) {d : Nat} (hd : d < cs.length) : ClOk fs d := by
  have key : ∀ k, k < cs.length → (closed fs k).length ≤ 400 := fun k hk => by
    have e := List.getElem?_eq_getElem hk
    rw [← counts_size hf hn h k _ e]
    cases k with
    | zero =>
      rw [h.z] at e
      rw [← Option.some.inj e]
      unfold consts
      rw [List.length_map]
      exact Nat.le_trans (List.length_filter_le _ _) (by omega)
    | succ i => exact (h.n i _ e).1
  refine ⟨hf, by have := h.s.2; omega, fun k hk => key k (by omega), fun k hk => ?_⟩
  rw [← closed_size hf hn]
  exact key (k + 1) (by omega)
theorem closed_prefix {fs : Fs} {l : Nat} : (closed fs (l + 1)).take (closed fs l).length = closed fs l := by
  show (closed fs l ++ _).take _ = _
  rw [List.take_left]
theorem closed_none {fs : Fs} (hf : ∀ p ∈ fs, PyData.strOk p.1 = true ∧ p.2 ≤ 3) (h : consts fs = []) : ∀ l, closed fs l = []
  | 0 => by show (consts fs).map _ = []; rw [h]; rfl
  | l + 1 => by
    have ih := closed_none hf h l
    rw [List.eq_nil_iff_forall_not_mem]
    intro t ht
    obtain ⟨p, hp, r, h1, h2, rfl⟩ := (closed_iff hf (l + 1) t).mp ht
    cases r with
    | nil =>
      have q : p.1 ∈ consts fs := List.mem_map.mpr ⟨p, List.mem_filter.mpr ⟨hp, by simpa using h1.symm⟩, rfl⟩
      rw [h] at q
      cases q
    | cons x r =>
      have q := (closed_iff hf l x).mpr (h2 x List.mem_cons_self)
      rw [ih] at q
      cases q
theorem cnt_zero {fs : Fs} (h : consts fs = []) : cnt 0 fs = 0 := by
  induction fs with
  | nil => rfl
  | cons p r ih =>
    unfold consts at h
    by_cases z : p.2 = 0
    · rw [List.filter_cons_of_pos (by simpa using z)] at h
      cases h
    · rw [List.filter_cons_of_neg (by simpa using z)] at h
      unfold cnt
      rw [List.map_cons, List.sum_cons, Nat.zero_pow (by omega)]
      have := ih h
      unfold cnt at this
      omega
end K57
namespace K57
open PySem PySem.Spec PyProof.Rows L2 VL
local macro_rules | `(tactic| walk_at "v1") => `(tactic| first
  | (with_reducible refine' s_seq ?_) | (with_reducible refine' s_next ?_) | (with_reducible refine' s_ret ?_) | (with_reducible refine' s_if ?_) | (with_reducible refine' x_setL ?_) | (with_reducible refine' s_asg ?_) | (with_reducible refine' s_drop ?_) | (with_reducible refine' s_retN ?_) | (with_reducible refine' i_rng1 ?_) | (with_reducible refine' i_rng2 ?_)
  | (with_reducible refine' g_name ?_) | (with_reducible refine' g_nameO ?_)
  | ((with_reducible refine' e_var ?h ?q); (case h => exact rfl)) | (with_reducible refine' e_int ?_) | (with_reducible refine' e_str ?_) | (with_reducible refine' e_bl ?_) | (with_reducible refine' e_non ?_)
  | ((with_reducible refine' e_al ?h ?g ?q); (case h => exact rfl); (case g => exact rfl))
  | ((with_reducible refine' oa_isi ?h ?hd ?hk ?q); (case h => exact rfl); (case hd => exact rfl); (case hk => first | exact kit_NoneType_bool | exact kit_NoneType_int | exact kit_NoneType_str | exact kit_NoneType_tuple | exact kit_NoneType_list | exact kit_NoneType_dict | exact kit_bool_bool | exact kit_bool_int | exact kit_bool_str | exact kit_bool_tuple | exact kit_bool_list | exact kit_bool_dict | exact kit_int_bool | exact kit_int_int | exact kit_int_str | exact kit_int_tuple | exact kit_int_list | exact kit_int_dict | exact kit_str_bool | exact kit_str_int | exact kit_str_str | exact kit_str_tuple | exact kit_str_list | exact kit_str_dict | exact kit_tuple_bool | exact kit_tuple_int | exact kit_tuple_str | exact kit_tuple_tuple | exact kit_tuple_list | exact kit_tuple_dict | exact kit_list_bool | exact kit_list_int | exact kit_list_str | exact kit_list_tuple | exact kit_list_list | exact kit_list_dict | exact kit_dict_bool | exact kit_dict_int | exact kit_dict_str | exact kit_dict_tuple | exact kit_dict_list | exact kit_dict_dict))
  | (with_reducible refine' e_bm ?_) | (with_reducible refine' e_bm0 ?_) | (refine ⟨.inl ⟨rfl, _, rdl_o rfl⟩, ?_⟩) | (refine ⟨.inl ⟨rfl, _, rdl_b rfl⟩, ?_⟩) | (refine ⟨.inr (.inl ⟨rfl, _, rfl⟩), ?_⟩)
  | ((refine om_append rfl rfl rfl ?l ?q); (case l => first | assumption | (show _ < 16777216; first | omega | (simp only [List.length_map, List.length_append, List.length_cons, List.length_nil]; omega))))
  | (with_reducible refine' e_op ?_) | (with_reducible refine' e_cb ?_) | (with_reducible refine' e_un ?_) | (with_reducible refine' x_tup ?_) | (with_reducible refine' x_lst ?_) | (with_reducible refine' x_call ?_) | (with_reducible refine' x_call1 ?_)
  | (with_reducible refine' a_cons ?_) | (with_reducible refine' a_nil ?_) | ((with_reducible refine' tupP ?h ?g ?q); (case h => exact rfl); (case g => exact Nat.le_of_ble_eq_true rfl)) | ((with_reducible refine' lstP ?h ?g ?q); (case h => exact rfl); (case g => exact Nat.le_of_ble_eq_true rfl))
  | (with_reducible refine' e_andV ?_) | (with_reducible refine' e_orV ?_) | (with_reducible refine' e_notV ?_) | (with_reducible refine' e_if ?_) | (with_reducible refine' e_chain ?_) | (with_reducible refine' t_ifT ?_) | (with_reducible refine' i_seq ?_) | (with_reducible refine' t_yes ?_)
  | (with_reducible refine' t_test ?_) | (with_reducible refine' t_B ?_) | (with_reducible refine' t_and ?_) | (with_reducible refine' t_or ?_) | (with_reducible refine' t_not ?_)
  | (refine o_addI ?_) | ((refine o_mulI ?c ?_); (case c => first | exact .inr ⟨by decide, by decide⟩ | exact .inl ⟨by decide, by decide⟩ | exact .inl ⟨by omega, by omega⟩ | exact .inr ⟨by omega, by omega⟩)) | (refine o_i ?_) | (refine o_ib ?_) | ((refine o_iC ?c ?_); (case c => first | (show (0 : Int) < _; first | decide | assumption | omega) | exact ⟨by decide, by decide⟩ | exact ⟨by decide, by decide, by decide⟩)) | (refine o_eqI ?_) | (refine o_eqS ?_) | (refine o_eqB ?_) | (refine o_isN ?_) | (refine o_notN ?_) | (refine o_neI ?_) | (refine o_neS ?_) | (refine o_neB ?_) | (refine o_un ?_)
  | (refine o_inSign ?_) | (refine o_inSL rdl_p ?_) | (refine o_inST ?_) | (refine oa_int ?_) | (refine oa_abs ?_) | (refine oa_lenC ?_) | (refine oa_lenT ?_) | (refine oa_lenL rdl_p ?_) | (refine oa_lenL (rdl_o rfl) ?_) | (refine oa_lenL (rdl_b rfl) ?_)
  | (refine o_ixL (rdl_b rfl) rfl ?_) | (refine o_ixL (rdl_o rfl) rfl ?_) | (refine o_ixL rdl_p rfl ?_) | (refine o_ixT rfl ?_)
  | (with_reducible refine' setP ?_) | (refine setI rfl rfl rfl rfl ?_) | (refine ite_t ?_) | (refine ite_f ?_) | (refine bl_ex ?_) | (refine ⟨_, rfl, ?_⟩))

theorem atI_last {α : Type} {xs : List α} {x : α} (h : xs[xs.length - 1]? = some x) : atI xs (-1) = some x := by
  have hl := (List.getElem?_eq_some_iff.mp h).1
  unfold atI ixN
  rw [if_neg (by decide), if_pos (by omega)]
  show xs[((-1 : Int) + (xs.length : Int)).toNat]? = some x
  rw [← h]
  congr 1
  omega
theorem cutD_tail {α : Type} {x : α} {xs : List α} : cutD (x :: xs) (some 1) none = xs := by
  show (((x :: xs).drop (min 1 (x :: xs).length)).take ((x :: xs).length - min 1 (x :: xs).length)) = xs
  rw [List.length_cons, Nat.min_eq_left (by omega), List.drop_succ_cons, List.drop_zero, Nat.add_sub_cancel, List.take_length]
structure FsOk (fs : Fs) : Prop where
  f : ∀ p ∈ fs, PyData.strOk p.1 = true ∧ p.2 ≤ 3
  n : (fs.map (·.1)).Nodup
  l : fs.length ≤ 100
def nats (l : List Nat) : List D := l.map fun (n : Nat) => D.int (n : Int)
def sCount : List D → (R → Prop) → Prop := fun ds Rs => ∃ (fs : Fs) (m : Nat), ds = [.lst (prs fs), .int m] ∧ FsOk fs ∧ m ≤ 400 ∧ Rs = fun t => t = .p (.int (cnt m fs : Nat))
def sCounts : List D → (R → Prop) → Prop := fun ds Rs => ∃ (fs : Fs), ds = [.lst (prs fs), .int 8] ∧ FsOk fs ∧ Rs = fun t => ∃ cs, t = .o (.lst (nats cs)) ∧ CountsOk fs cs
def sDeep (l : Nat) : List D → (R → Prop) → Prop := fun ds Rs => ∃ (fs : Fs) (n : Nat) (t : D), ds = [t] ∧ n < l ∧ WT fs n t ∧ (∀ p ∈ fs, p.2 ≤ 3) ∧ Rs = fun r => r = .p (.int ((t.dep - 1 : Nat) : Int))
def sListed : List D → (R → Prop) → Prop := fun ds Rs => ∃ (fs : Fs) (n : Nat), ds = [.lst (prs fs), .int n] ∧ FsOk fs ∧ ClOk fs n ∧ Rs = fun t => t = .o (.lst (closed fs n))
section
variable {P : Program} {w : World} {K : PySem.W.Frag} {mg : Str → Option Value} {base : Heap}
theorem ok_count (T : Txt K mg) : FnOk P w K mg base CX0 1 T.a_law_count T.d_law_count ["functions", "many"] (Sp0 K sCount) := by
  have hlen : ∀ ds Rs, sCount ds Rs → ds.length = 2 := by rintro ds Rs ⟨fs, m, rfl, _⟩; rfl
  refine T.F_law_count.ok sc_law_count (Sp0.len hlen) (fun cdv A outer s H vs Q E hr h => ?_)
  have hl : vs.length = 2 := Sp0.len hlen _ _ _ _ h
  refine ⟨_, (pss_cons (ps_set (i := 2) sc_law_count.nd rfl (.inl rfl) pe_int)
      (pss_cons (ps_for PassesOwn.never (by rfl) (PI.k (t' := iSeq K _) (pi_seq (pv 0)) rfl) (PG.k (t' := gTup K 2 _) (pg_tup (n := 2) (by rfl) (pgs_cons (pg_name (i := 3) sc_law_count.nd rfl (.inl rfl)) (pgs_cons (pg_name (i := 4) sc_law_count.nd rfl (.inl rfl)) pgs_nil))) rfl)
        (pss_cons (ps_set (i := 5) sc_law_count.nd rfl (.inl rfl) pe_int)
        (pss_cons (ps_for PassesOwn.never (by rfl) (pi_range1 (by rfl) T.z_range (pa_cons (pv 4) pa_nil)) (pg_name (i := 6) sc_law_count.nd rfl (.inl rfl))
          (pss_one (ps_set (i := 5) sc_law_count.nd rfl (.inl rfl) (pe_op op_mulU (pv 5) (pv 1)))))
        (pss_one (ps_set (i := 2) sc_law_count.nd rfl (.inl rfl) (pe_op (r := rAddU K) op_addU (pv 2) (pv 5)))))))
      (pss_one (ps_ret (pv 2))))), fn0 (by rw [hl]; decide) h ?_⟩
  rintro ds Rs ⟨fs, m, rfl, hf, hm, rfl⟩
  show S K _ [.p (.lst (prs fs)), .p (.int m), .any, .any, .any, .any, .any] _
  repeat walk_at "v1"
  refine s_for ?_
  repeat walk_at "v1"
  refine ⟨fun i ρ => ∃ x3 x4 x5 x6, ρ = [.p (.lst (prs fs)), .p (.int m), .p (.int ((cnt m (fs.take i) : Nat) : Int)), x3, x4, x5, x6], ⟨_, _, _, _, rfl⟩, ?_, ?_⟩
  · rintro i d ρ hd ⟨x3, x4, x5, x6, rfl⟩
    have hd2 : (fs.map pr)[i]? = some d := hd
    rw [List.getElem?_map] at hd2
    cases hp : fs[i]? with
    | none => rw [hp] at hd2; cases hd2
    | some p =>
    rw [hp] at hd2
    cases hd2
    have hpm : p ∈ fs := List.mem_of_getElem? hp
    have hp3 := (hf.f p hpm).2
    have hcnt : cnt m (fs.take (i + 1)) = cnt m (fs.take i) + m ^ p.2 := by
      unfold cnt
      rw [List.take_add_one, hp, List.map_append, List.sum_append]
      show _ + List.sum [m ^ p.2] = _
      rw [List.sum_cons, List.sum_nil, Nat.add_zero]
    refine g_tup rfl (gs_cons (g_name (gs_cons (g_name (gs_nil ?_)))))
    show S K _ [.p (.lst (prs fs)), .p (.int m), .p (.int ((cnt m (fs.take i) : Nat) : Int)), .p (.str p.1), .p (.int p.2), x5, x6] _
    repeat walk_at "v1"
    refine s_for ?_
    repeat walk_at "v1"
    refine ⟨by omega, by omega, fun j ρ => ∃ x6, ρ = [.p (.lst (prs fs)), .p (.int m), .p (.int ((cnt m (fs.take i) : Nat) : Int)), .p (.str p.1), .p (.int p.2), .p (.int ((m ^ j : Nat) : Int)), x6], ⟨_, rfl⟩, ?_, ?_⟩
    · rintro j d ρ hd ⟨x6, rfl⟩
      obtain ⟨hj, rfl⟩ := rngD_get hd
      refine g_name ?_
      show S K _ [.p (.lst (prs fs)), .p (.int m), .p (.int ((cnt m (fs.take i) : Nat) : Int)), .p (.str p.1), .p (.int p.2), .p (.int ((m ^ j : Nat) : Int)), .p (.int (0 + (j : Int)))] _
      repeat walk_at "v1"
      refine ⟨_, by rw [Nat.pow_succ, Int.natCast_mul]; rfl⟩
    · rintro ρ ⟨x6, rfl⟩
      rw [rngD_len, Int.toNat_natCast]
      repeat walk_at "v1"
      exact ⟨_, _, _, _, by rw [hcnt, Int.natCast_add]; rfl⟩
  · rintro ρ ⟨x3, x4, x5, x6, rfl⟩
    have he : fs.take (prs fs).length = fs := by unfold prs; rw [List.length_map, List.take_length]
    rw [he]
    repeat walk_at "v1"
    exact ⟨trivial, rfl⟩
theorem ok_counts (T : Txt K mg) : FnOk P w K mg base CX0 2 T.a_law_counts T.d_law_counts ["functions", "most"] (Sp0 K sCounts) := by
  have G_law_count := ok_count (P := P) (w := w) (base := base) T
  have hlen : ∀ ds Rs, sCounts ds Rs → ds.length = 2 := by rintro ds Rs ⟨fs, rfl, _⟩; rfl
  refine T.F_law_counts.ok sc_law_counts (Sp0.len hlen) (fun cdv A outer s H vs Q E hr h => ?_)
  have hl : vs.length = 2 := Sp0.len hlen _ _ _ _ h
  refine ⟨_, (pss_cons (ps_set (i := 2) sc_law_counts.nd rfl (.inl rfl) (pe_lst (pa_cons (pe_callB (r := rLenU K) call_lenU (by rfl) T.z_len PySem.boot_len (pa_cons (pe_lc (own := [("name", 5), ("arity", 6)]) (by rfl) sc_law_counts.nd (PI.k (t' := iSeq K _) (pi_seq (pv 0)) rfl) (blkOk_by (own := [("name", 5), ("arity", 6)]) (N := ["functions", "most", "counts", "depth", "more", "name", "arity"]) (sc := defScope s_law_counts) (by decide +kernel)) (fun _ _ _ _ _ => (PG.k (t' := gTup K 2 _) (pg_tup (n := 2) (by rfl) (pgs_cons (pg_name (i := 5) sc_law_counts.nd rfl (.inl rfl)) (pgs_cons (pg_name (i := 6) sc_law_counts.nd rfl (.inl rfl)) pgs_nil))) rfl)) (fun _ _ _ _ _ => (pts_one (pt_cmpR (r := rEqU K) (op_eqU hr.units) (pv 6) pe_int (nomark _)))) (fun _ _ _ _ _ => (pv 5))) pa_nil)) pa_nil)))
      (pss_cons (ps_for PassesOwn.never (by rfl) (pi_range1 (by rfl) T.z_range (pa_cons (pv 1) pa_nil)) (pg_name (i := 3) sc_law_counts.nd rfl (.inl rfl))
        (pss_cons (ps_set (i := 4) sc_law_counts.nd rfl (.inl rfl) (pe_call G_law_count (hr.mono (by omega)) (by rfl) T.g_law_count T.F_law_count.kp T.b_law_count .nil pass0 (pa_cons (pv 0) (pa_cons (pe_ix (r := rIx K) ix_seq (pv 2) (pe_un un_neg pe_int) (fun _ _ => rfl)) pa_nil))))
        (pss_one (ps_if (pt_cmpR op_le (pv 4) pe_int (nomark _))
          (pss_one (ps_expr (PE.k (t' := tBM K _ _ _ _) (pe_bm PySem.F.plainAttrs_list PySem.F.slot_list_append PySem.F.type_list_append mt_append (pv 2) (pa_cons (pv 4) pa_nil)) rfl)))
          (pss_one (ps_ret (pv 2)))))))
      (pss_one (ps_ret (pv 2))))), fn0 (by rw [hl]; decide) h ?_⟩
  rintro ds Rs ⟨fs, rfl, hf, rfl⟩
  show S K _ [.p (.lst (prs fs)), .p (.int 8), .any, .any, .any, .any, .any] _
  have hz : (prs fs).length ≤ sizeLine := by unfold prs; rw [List.length_map]; exact Nat.le_trans hf.l (by decide)
  repeat walk_at "v1"
  refine x_lcf ?_
  repeat walk_at "v1"
  refine ⟨rfl, hz, fun d => (match d with | .tup [_, .int a] => decide (a = 0) | _ => false), fun d => (match d with | .tup [x, _] => x | _ => .non), fun d hd => ?_, ?_⟩
  · obtain ⟨p, hp, rfl⟩ := List.mem_map.mp hd
    refine gc_tup rfl (gcs_cons (gc_name (by decide) (gcs_cons (gc_name (by decide) (gcs_nil ?_)))))
    repeat walk_at "v1"
    refine ⟨rfl, ?_⟩
    refine ite_d (fun z => ?_) (fun z => ?_)
    · repeat walk_at "v1"
      exact ⟨rfl, rfl⟩
    · rfl
  have hc0 : (((prs fs).filter fun d => (match d with | .tup [_, .int a] => decide (a = 0) | _ => false)).map fun d => (match d with | .tup [x, _] => x | _ => D.non)) = (consts fs).map D.str := by
    rw [filter_prs (q := fun p => p.2 == 0)]
    · unfold prs consts
      rw [List.map_map, List.map_map]
      rfl
    · intro x hx
      show decide ((x.2 : Int) = 0) = (x.2 == 0)
      rw [Bool.eq_iff_iff, decide_eq_true_iff, beq_iff_eq]
      omega
  rw [hc0]
  have hcl : (consts fs).length ≤ 100 := by
    unfold consts
    rw [List.length_map]
    exact Nat.le_trans (List.length_filter_le _ _) hf.l
  repeat walk_at "v1"
  rw [List.length_map]
  show S K _ [.p (.lst (prs fs)), .p (.int 8), .o (.lst (nats [(consts fs).length])), .any, .any, .any, .any] _
  repeat walk_at "v1"
  refine s_for ?_
  repeat walk_at "v1"
  refine ⟨by decide, by decide, fun i ρ => ∃ cs x3 x4, cs.length = i + 1 ∧ (∀ x ∈ cs, x ≤ 400) ∧ CountsOk fs cs ∧ ρ = [.p (.lst (prs fs)), .p (.int 8), .o (.lst (nats cs)), x3, x4, .any, .any], ⟨[(consts fs).length], _, _, rfl, fun x hx => ?_, ?_, rfl⟩, ?_, ?_⟩
  · rw [List.mem_singleton.mp hx]; omega
  · refine ⟨⟨Nat.le_refl _, by show (1 : Nat) ≤ 9; decide⟩, rfl, fun i x h => ?_⟩
    rw [List.getElem?_cons_succ, List.getElem?_nil] at h
    cases h
  · rintro i d ρ hd ⟨cs, x3, x4, hcs, h400, hco, rfl⟩
    obtain ⟨hi, rfl⟩ := rngD_get hd
    have hi : i < 8 := hi
    have hlast := List.getElem?_eq_getElem (l := cs) (i := i) (by omega)
    generalize cs[i] = m at hlast
    have hm := h400 m (List.mem_of_getElem? hlast)
    refine g_name ?_
    show S K _ [.p (.lst (prs fs)), .p (.int 8), .o (.lst (nats cs)), .p (.int (0 + (i : Int))), x4, .any, .any] _
    repeat walk_at "v1"
    refine o_ixL (rdl_o rfl) (d := .int (m : Int)) (atI_last ?_) ?_
    · unfold nats
      rw [List.length_map, hcs, Nat.add_sub_cancel, List.getElem?_map, hlast]
      rfl
    repeat walk_at "v1"
    refine callP rfl ⟨fs, m, rfl, hf, hm, rfl⟩ fun t ht _ => ?_
    subst ht
    repeat walk_at "v1"
    refine ite_d (fun hle => ?_) (fun hle => ?_)
    · have hle : cnt m fs ≤ 400 := by omega
      have hnl : (nats cs).length < sizeLine := by unfold nats; rw [List.length_map, hcs]; show _ < 16777216; omega
      repeat walk_at "v1"
      refine ⟨cs ++ [cnt m fs], _, _, by rw [List.length_append, hcs]; rfl, fun x hx => ?_, ?_, by unfold nats; rw [List.map_append]; rfl⟩
      · rcases List.mem_append.mp hx with q | q
        · exact h400 x q
        · rw [List.mem_singleton.mp q]; exact hle
      · refine ⟨by rw [List.length_append, hcs, List.length_singleton]; omega, by rw [List.getElem?_append_left (by omega)]; exact hco.z, fun j x hx => ?_⟩
        by_cases hj : j + 1 < cs.length
        · rw [List.getElem?_append_left hj] at hx
          obtain ⟨y1, y, y2, y3⟩ := hco.n j x hx
          exact ⟨y1, y, by rw [List.getElem?_append_left (by omega)]; exact y2, y3⟩
        · rw [List.getElem?_append_right (by omega)] at hx
          have hj2 : j = i := by
            have := (List.getElem?_eq_some_iff.mp hx).1
            rw [List.length_singleton] at this
            omega
          subst hj2
          rw [hcs, Nat.sub_self] at hx
          cases hx
          exact ⟨hle, m, by rw [List.getElem?_append_left (by omega)]; exact hlast, rfl⟩
    · refine s_retO rfl ⟨trivial, cs, rfl, hco⟩
  · rintro ρ ⟨cs, x3, x4, hcs, h400, hco, rfl⟩
    refine s_retO rfl ⟨trivial, cs, rfl, hco⟩
theorem ok_deep (T : Txt K mg) : ∀ l, FnOk P w K mg base CX0 l T.a_law_deep T.d_law_deep ["term"] (Sp0 K (sDeep l))
  | 0 => fn_none (Sp0.none (by rintro ds Rs ⟨fs, n, t, _, h, _⟩; omega))
  | l + 1 => by
    have G_law_deep := ok_deep T l
    have hlen : ∀ ds Rs, sDeep (l + 1) ds Rs → ds.length = 1 := by rintro ds Rs ⟨fs, n, t, rfl, _⟩; rfl
    refine T.F_law_deep.ok sc_law_deep (Sp0.len hlen) (fun cdv A outer s H vs Q E hr h => ?_)
    have hl : vs.length = 1 := Sp0.len hlen _ _ _ _ h
    refine ⟨_, (pss_one (ps_ret (pe_callB (r := rMax K) (cr_max rfl) (by rfl) T.z_max (by decide +kernel) (pa_cons (pe_op (r := rAddU K) op_addU (pe_lst (pa_cons pe_int pa_nil)) (pe_lc (own := [("part", 1)]) (by rfl) sc_law_deep.nd (PI.k (t' := iSeq K _) (pi_seq (pe_slice (r := rSlU K) sl_U (pv 0) (po_some pe_int) po_none)) rfl) (blkOk_by (own := [("part", 1)]) (N := ["term", "part"]) (sc := defScope s_law_deep) (by decide +kernel)) (fun _ _ _ _ _ => (pg_name (i := 1) sc_law_deep.nd rfl (.inl rfl))) (fun _ _ _ _ _ => pts_nil) (fun _ _ _ _ _ => (pe_op (r := rAddU K) op_addU pe_int (pe_call G_law_deep (hr.mono (by omega)) (by rfl) T.g_law_deep T.F_law_deep.kp T.b_law_deep .nil pass0 (pa_cons (pv 1) pa_nil)))))) pa_nil)))), fn0 (by rw [hl]; decide) h ?_⟩
    rintro ds Rs ⟨fs, n, t, rfl, hn, ht, h3, rfl⟩
    have hsh : ∃ nm r, t = tm nm r ∧ r.length ≤ 3 ∧ ∀ x ∈ r, ∃ k, k < l ∧ WT fs k x := by
      cases n with
      | zero =>
        obtain ⟨p, _, _, rfl⟩ := ht
        exact ⟨p.1, [], rfl, by decide, fun x hx => by cases hx⟩
      | succ k =>
        obtain ⟨p, hp, r, h1, h2, rfl⟩ := ht
        exact ⟨p.1, r, rfl, by rw [h1]; exact h3 p hp, fun x hx => ⟨k, by omega, h2 x hx⟩⟩
    obtain ⟨nm, r, rfl, hr3, hx⟩ := hsh
    have hpos : ∀ x ∈ r, 1 ≤ x.dep := fun x hx' => by obtain ⟨k, _, q⟩ := hx x hx'; exact wt_pos q
    show S K _ [.p (.tup (.str nm :: r)), .any] _
    repeat walk_at "v1"
    refine x_lcm (i_seq (e_sl (e_var rfl ?_)))
    refine to_some (e_int ⟨_, rfl, to_none (os_T ?_)⟩)
    rw [cutD_tail]
    refine ⟨r, rfl, rfl, Nat.le_trans hr3 (by decide), fun d => .int (d.dep : Int), fun d hd => ?_, ?_⟩
    · refine gc_name (by decide) ?_
      repeat walk_at "v1"
      obtain ⟨k, hk, hw⟩ := hx d hd
      refine callP rfl ⟨fs, k, d, rfl, hk, hw, h3, rfl⟩ fun t ht _ => ?_
      subst ht
      repeat walk_at "v1"
      have := hpos d hd
      exact ⟨congrArg (fun z => R.p (D.int z)) (by omega), rfl⟩
    refine o_addL rdl_p rdl_p (by rw [List.length_map]; show 1 + _ ≤ 16777216; omega) ?_
    have hm : ([D.int 0] ++ r.map fun d => D.int (d.dep : Int)) = ((0 : Int) :: r.map fun d => (d.dep : Int)).map D.int := by
      rw [List.map_cons, List.map_map]
      rfl
    rw [hm]
    repeat walk_at "v1"
    refine oa_max rdl_p (by simp) fun m h1 h2 => ⟨trivial, ?_⟩
    show R.p (D.int m) = R.p (D.int (((tm nm r).dep - 1 : Nat) : Int))
    rw [dep_tm, Nat.add_sub_cancel]
    have hmax : m = (D.deps r : Int) := by
      have a : ∀ x ∈ r, (x.dep : Int) ≤ m := fun x hx => h2 _ (List.mem_cons_of_mem _ (List.mem_map.mpr ⟨x, hx, rfl⟩))
      have b : 0 ≤ m := h2 0 List.mem_cons_self
      have c : D.deps r ≤ m.toNat := deps_le fun d hd => by have := a d hd; omega
      rcases List.mem_cons.mp h1 with q | q
      · omega
      · obtain ⟨x, hx, rfl⟩ := List.mem_map.mp q
        have := dep_mem hx
        omega
    rw [hmax]
theorem ok_lrows (T : Txt K mg) : FnOk P w K mg base CX0 1 T.a_law_rows T.d_law_rows ["terms", "length"] (Sp0 K sRows) := by
  have hlen : ∀ ds Rs, sRows ds Rs → ds.length = 2 := by rintro ds Rs ⟨s, n, rfl, _⟩; rfl
  refine T.F_law_rows.ok sc_law_rows (Sp0.len hlen) (fun cdv A outer s H vs Q E hr h => ?_)
  have hl : vs.length = 2 := Sp0.len hlen _ _ _ _ h
  refine ⟨_, (pss_cons (ps_set (i := 2) sc_law_rows.nd rfl (.inl rfl) (pe_lst (pa_cons (pe_tup pa_nil) pa_nil)))
      (pss_cons (ps_for PassesOwn.never (by rfl) (pi_range1 (by rfl) T.z_range (pa_cons (pv 1) pa_nil)) (pg_name (i := 3) sc_law_rows.nd rfl (.inl rfl))
        (pss_cons (ps_set (i := 4) sc_law_rows.nd rfl (.inl rfl) (pe_lst pa_nil))
        (pss_cons (ps_for PassesOwn.never (by rfl) (PI.k (t' := iSeq K _) (pi_seq (pv 2)) rfl) (pg_name (i := 5) sc_law_rows.nd rfl (.inr rfl))
          (pss_one (ps_set (i := 4) sc_law_rows.nd rfl (.inl rfl) (pe_op (r := rAddU K) op_addU (pv 4) (pe_lc (own := [("term", 6)]) (by rfl) sc_law_rows.nd (PI.k (t' := iSeq K _) (pi_seq (pv 0)) rfl) (blkOk_by (own := [("term", 6)]) (N := ["terms", "length", "rows", "k", "longer", "row", "term"]) (sc := defScope s_law_rows) (by decide +kernel)) (fun _ _ _ _ _ => (pg_name (i := 6) sc_law_rows.nd rfl (.inl rfl))) (fun _ _ _ _ _ => pts_nil) (fun _ _ _ _ _ => (pe_op (r := rAddU K) op_addU (pv 5) (pe_tup (pa_cons (pv 6) pa_nil)))))))))
        (pss_one (ps_set (i := 2) sc_law_rows.nd rfl (.inl rfl) (pv 4))))))
      (pss_one (ps_ret (pv 2))))), fn0 (by rw [hl]; decide) h ?_⟩
  rintro ds Rs ⟨cs, n, rfl, hn, hk, rfl⟩
  show S K _ [.p (.lst cs), .p (.int n), .any, .any, .any, .any, .any] _
  repeat walk_at "v1"
  show S K _ [.p (.lst cs), .p (.int n), .o (.lst ((rowsD cs 0).map D.tup)), .any, .any, .any, .any] _
  refine s_for ?_
  repeat walk_at "v1"
  refine ⟨by omega, by omega, fun i ρ => ∃ x3 x5 x6, x6.owns = false ∧ ρ = [.p (.lst cs), .p (.int n), .o (.lst ((rowsD cs i).map D.tup)), x3, .any, x5, x6], ⟨_, _, _, rfl, rfl⟩, ?_, ?_⟩
  · rintro i d ρ hd ⟨x3, x5, x6, n6, rfl⟩
    obtain ⟨hi, rfl⟩ := rngD_get hd
    have hi : i < n := by omega
    refine g_name ?_
    refine s_fz (i := 2) rfl ?_
    show S K _ [.p (.lst cs), .p (.int n), .p (.lst ((rowsD cs i).map D.tup)), .p (.int (0 + (i : Int))), .any, x5, x6] _
    have hlen : (rowsD cs (i + 1)).length ≤ 1000 := hk (i + 1) hi
    have part : ∀ j, j ≤ (rowsD cs i).length → (((rowsD cs i).take j).flatMap fun r => cs.map fun c => r ++ [c]).length ≤ 1000 := fun j hj => by
      refine Nat.le_trans ?_ hlen
      show _ ≤ ((rowsD cs i).flatMap fun r => cs.map fun c => r ++ [c]).length
      conv => rhs; rw [← List.take_append_drop j (rowsD cs i), List.flatMap_append, List.length_append]
      exact Nat.le_add_right _ _
    repeat walk_at "v1"
    refine s_for ?_
    repeat walk_at "v1"
    refine ⟨fun j ρ => ∃ x5 x6, x6.owns = false ∧ ρ = [.p (.lst cs), .p (.int n), .p (.lst ((rowsD cs i).map D.tup)), .p (.int (0 + (i : Int))), .o (.lst ((((rowsD cs i).take j).flatMap fun r => cs.map fun c => r ++ [c]).map D.tup)), x5, x6], ⟨_, _, n6, rfl⟩, ?_, ?_⟩
    · rintro j d ρ hd ⟨x5, x6, n6, rfl⟩
      rw [List.getElem?_map] at hd
      cases hr : (rowsD cs i)[j]? with
      | none => rw [hr] at hd; cases hd
      | some r =>
      rw [hr] at hd
      cases hd
      have hrm : r ∈ rowsD cs i := List.mem_of_getElem? hr
      have hj := (List.getElem?_eq_some_iff.mp hr).1
      have htk : ((rowsD cs i).take (j + 1)).flatMap (fun r => cs.map fun c => r ++ [c]) = ((rowsD cs i).take j).flatMap (fun r => cs.map fun c => r ++ [c]) ++ cs.map fun c => r ++ [c] := by
        rw [List.take_add_one, hr, List.flatMap_append]
        show _ ++ List.flatMap _ [r] = _
        rw [List.flatMap_singleton]
      have hp1 := part (j + 1) hj
      rw [htk, List.length_append, List.length_map] at hp1
      refine g_name ?_
      show S K _ [.p (.lst cs), .p (.int n), .p (.lst ((rowsD cs i).map D.tup)), .p (.int (0 + (i : Int))), .o (.lst ((((rowsD cs i).take j).flatMap fun r => cs.map fun c => r ++ [c]).map D.tup)), .p (.tup r), x6] _
      repeat walk_at "v1"
      refine x_lcm (i_seq (e_var rfl ⟨_, rfl, by simp only [novs, List.all_cons, List.all_nil]; simp [n6], by show _ ≤ 16777216; omega, fun d => .tup (r ++ [d]), fun d hd => ?_, ?_⟩))
      · refine gc_name (by decide) ?_
        repeat walk_at "v1"
        refine o_addT (by rw [rowsD_len r hrm]; show i + 1 ≤ 16777216; omega) ?_
        exact ⟨rfl, rfl⟩
      refine o_addL (rdl_o rfl) rdl_p (by rw [List.length_map, List.length_map]; show _ ≤ 16777216; omega) ?_
      refine g_nameO ?_
      refine ⟨.p (.tup r), .any, rfl, ?_⟩
      rw [htk, List.map_append, List.map_map]
      rfl
    · rintro ρ ⟨x5, x6, n6, rfl⟩
      rw [List.length_map, List.take_length]
      refine s_mv rfl ?_
      exact ⟨_, _, _, n6, rfl⟩
  · rintro ρ ⟨x3, x5, x6, n6, rfl⟩
    rw [rngD_len]
    refine s_retO rfl ⟨trivial, rfl⟩
theorem ok_listed (T : Txt K mg) : FnOk P w K mg base CX0 11 T.a_law_listed T.d_law_listed ["functions", "depth"] (Sp0 K sListed) := by
  have hlen : ∀ ds Rs, sListed ds Rs → ds.length = 2 := by rintro ds Rs ⟨fs, n, rfl, _⟩; rfl
  refine T.F_law_listed.ok sc_law_listed (Sp0.len hlen) (fun cdv A outer s H vs Q E hr h => ?_)
  have hl : vs.length = 2 := Sp0.len hlen _ _ _ _ h
  have G_law_deep := ok_deep (P := P) (w := w) (base := base) T 10
  have G_law_rows := ok_lrows (P := P) (w := w) (base := base) T
  refine ⟨_, (pss_cons (ps_setLc (i := 2) (own := [("name", 5), ("arity", 6)]) (by rfl) sc_law_listed.nd rfl rfl (sw_true rfl rfl rfl (by decide +kernel)) (PI.k (t' := iSeq K _) (pi_seq (pv 0)) rfl) (blkOk_by (own := [("name", 5), ("arity", 6)]) (N := ["functions", "depth", "terms", "level", "deeper", "name", "arity", "row", "term"]) (sc := defScope s_law_listed) (by decide +kernel)) (fun _ _ _ _ _ => (PG.k (t' := gTup K 2 _) (pg_tup (n := 2) (by rfl) (pgs_cons (pg_name (i := 5) sc_law_listed.nd rfl (.inl rfl)) (pgs_cons (pg_name (i := 6) sc_law_listed.nd rfl (.inl rfl)) pgs_nil))) rfl)) (fun _ _ _ _ _ => (pts_one (pt_cmpR (r := rEqU K) (op_eqU hr.units) (pv 6) pe_int (nomark _)))) (fun _ _ _ _ _ => (pe_tup (pa_cons (pv 5) pa_nil))))
      (pss_cons (ps_for PassesOwn.never (by rfl) (pi_range1 (by rfl) T.z_range (pa_cons (pv 1) pa_nil)) (pg_name (i := 3) sc_law_listed.nd rfl (.inr rfl))
        (pss_cons (ps_set (i := 4) sc_law_listed.nd rfl (.inl rfl) (pe_callTy (r := rListU K) call_listU (by rfl) T.z_list (by decide +kernel) (pa_cons (pv 2) pa_nil)))
        (pss_cons (ps_for PassesOwn.never (by rfl) (PI.k (t' := iSeq K _) (pi_seq (pv 0)) rfl) (PG.k (t' := gTup K 2 _) (pg_tup (n := 2) (by rfl) (pgs_cons (pg_name (i := 5) sc_law_listed.nd rfl (.inl rfl)) (pgs_cons (pg_name (i := 6) sc_law_listed.nd rfl (.inl rfl)) pgs_nil))) rfl)
          (pss_one (ps_if (pt_cmpR op_gt (pv 6) pe_int (nomark _))
            (pss_one (ps_for PassesOwn.never (by rfl) (PI.k (t' := iSeq K _) (pi_seq (pe_call G_law_rows (hr.mono (by omega)) (by rfl) T.g_law_rows T.F_law_rows.kp T.b_law_rows .nil pass0 (pa_cons (pv 2) (pa_cons (pv 6) pa_nil)))) rfl) (pg_name (i := 7) sc_law_listed.nd rfl (.inl rfl))
              (pss_one (ps_if (PW.pt (pw_or (pt_cmpR (r := rEqU K) (op_eqU hr.units) (pv 3) pe_int (nomark _)) (pw_or1 (pt_val (pe_callB (r := rAny K) (cr_any rfl) (by rfl) T.z_any (by decide +kernel) (pa_cons (pe_lc (own := [("term", 8)]) (by rfl) sc_law_listed.nd (PI.k (t' := iSeq K _) (pi_seq (pv 7)) rfl) (blkOk_by (own := [("term", 8)]) (N := ["functions", "depth", "terms", "level", "deeper", "name", "arity", "row", "term"]) (sc := defScope s_law_listed) (by decide +kernel)) (fun _ _ _ _ _ => (pg_name (i := 8) sc_law_listed.nd rfl (.inl rfl))) (fun _ _ _ _ _ => pts_nil) (fun _ _ _ _ _ => (pe_cmpR (r := rEqU K) (op_eqU hr.units) (pe_call G_law_deep (hr.mono (by omega)) (by rfl) T.g_law_deep T.F_law_deep.kp T.b_law_deep .nil pass0 (pa_cons (pv 8) pa_nil)) (pv 3) (nomark _)))) pa_nil))))))
                (pss_one (ps_expr (PE.k (t' := tBM K _ _ _ _) (pe_bm PySem.F.plainAttrs_list PySem.F.slot_list_append PySem.F.type_list_append mt_append (pv 4) (pa_cons (pe_op (r := rAddU K) op_addU (pe_tup (pa_cons (pv 5) pa_nil)) (pv 7)) pa_nil)) rfl)))
                pss_nil))))
            pss_nil)))
        (pss_one (ps_set (i := 2) sc_law_listed.nd rfl (.inl rfl) (pv 4))))))
      (pss_one (ps_ret (pv 2))))), fn0 (by rw [hl]; decide) h ?_⟩
  rintro ds Rs ⟨fs, n, rfl, hf, ok, rfl⟩
  show S K _ [.p (.lst (prs fs)), .p (.int n), .any, .any, .any, .any, .any, .any, .any] _
  have hn8 := ok.m
  have h3 : ∀ p ∈ fs, p.2 ≤ 3 := fun p hp => (ok.f p hp).2
  have hz : (prs fs).length ≤ sizeLine := by unfold prs; rw [List.length_map]; exact Nat.le_trans hf.l (by decide)
  repeat walk_at "v1"
  refine x_lcf (i_seq (e_var rfl ⟨_, rfl, rfl, hz, fun d => (match d with | .tup [_, .int a] => decide (a = 0) | _ => false), fun d => (match d with | .tup [x, _] => .tup [x] | _ => .non), fun d hd => ?_, ?_⟩))
  · obtain ⟨p, hp, rfl⟩ := List.mem_map.mp hd
    refine gc_tup rfl (gcs_cons (gc_name (by decide) (gcs_cons (gc_name (by decide) (gcs_nil ?_)))))
    repeat walk_at "v1"
    refine ⟨rfl, ?_⟩
    refine ite_d (fun z => ?_) (fun z => ?_)
    · repeat walk_at "v1"
      exact ⟨rfl, rfl⟩
    · rfl
  have hc0 : (((prs fs).filter fun d => (match d with | .tup [_, .int a] => decide (a = 0) | _ => false)).map fun d => (match d with | .tup [x, _] => D.tup [x] | _ => D.non)) = closed fs 0 := by
    rw [filter_prs (q := fun p => p.2 == 0)]
    · show _ = (consts fs).map fun n => tm n []
      unfold prs consts
      rw [List.map_map, List.map_map]
      rfl
    · intro x hx
      show decide ((x.2 : Int) = 0) = (x.2 == 0)
      rw [Bool.eq_iff_iff, decide_eq_true_iff, beq_iff_eq]
      omega
  rw [hc0]
  refine g_nameO ?_
  show S K _ [.p (.lst (prs fs)), .p (.int n), .o (.lst (closed fs 0)), .any, .any, .any, .any, .any, .any] _
  repeat walk_at "v1"
  refine s_for ?_
  repeat walk_at "v1"
  refine ⟨by omega, by omega, fun i ρ => ∃ x3 x5 x6 x7 x8, x8.owns = false ∧ ρ = [.p (.lst (prs fs)), .p (.int n), .o (.lst (closed fs i)), x3, .any, x5, x6, x7, x8], ⟨_, _, _, _, _, rfl, rfl⟩, ?_, ?_⟩
  · rintro i d ρ hd ⟨x3, x5, x6, x7, x8, n8, rfl⟩
    obtain ⟨hi, rfl⟩ := rngD_get hd
    have hi : i < n := by omega
    have hCl := ok.l i (by omega)
    have hcn := ok.c i hi
    have hnw := fun p r => new_iff ok.f (l := i) (p := p) (r := r)
    have hwt : ∀ x ∈ closed fs i, WT fs i x := fun x hx => (closed_iff ok.f i x).mp hx
    have hsucc : closed fs (i + 1) = closed fs i ++ (fs.take (prs fs).length).flatMap (newOf (closed fs i)) := by
      unfold prs
      rw [List.length_map, List.take_length]
      rfl
    generalize hCe : closed fs i = C at *
    refine g_name ?_
    refine s_fz (i := 2) rfl ?_
    show S K _ [.p (.lst (prs fs)), .p (.int n), .p (.lst C), .p (.int (0 + (i : Int))), .any, x5, x6, x7, x8] _
    repeat walk_at "v1"
    refine oa_listL rdl_p ?_
    repeat walk_at "v1"
    refine s_for (i_seq (e_var rfl ?_))
    refine ⟨_, rfl, fun j ρ => ∃ x5 x6 x7 x8, x8.owns = false ∧ ρ = [.p (.lst (prs fs)), .p (.int n), .p (.lst C), .p (.int (0 + (i : Int))), .o (.lst (C ++ (fs.take j).flatMap (newOf C))), x5, x6, x7, x8], ⟨_, _, _, _, n8, by rw [List.take_zero, List.flatMap_nil, List.append_nil]; rfl⟩, ?_, ?_⟩
    · rintro j d ρ hd ⟨x5, x6, x7, x8, n8, rfl⟩
      have hd2 : (fs.map pr)[j]? = some d := hd
      rw [List.getElem?_map] at hd2
      cases hp : fs[j]? with
      | none => rw [hp] at hd2; cases hd2
      | some p =>
      rw [hp] at hd2
      cases hd2
      have hpm : p ∈ fs := List.mem_of_getElem? hp
      obtain ⟨hstr, hp3⟩ := ok.f p hpm
      have hpw : C.length ^ p.2 ≤ 400 := Nat.le_trans (cnt_mem hpm) hcn
      have htake : (fs.take (j + 1)).flatMap (newOf C) = (fs.take j).flatMap (newOf C) ++ newOf C p := by
        rw [List.take_add_one, hp, List.flatMap_append]
        show _ ++ List.flatMap _ [p] = _
        rw [List.flatMap_singleton]
      have hAcc : (C ++ (fs.take j).flatMap (newOf C)).length ≤ 40400 := by
        have z2 := new_size (ts := C) (fs := fs.take j) fun q hq => Nat.le_trans (cnt_mem (List.mem_of_mem_take hq)) hcn
        have z3 : (fs.take j).length ≤ 100 := Nat.le_trans (by rw [List.length_take]; exact Nat.min_le_right _ _) hf.l
        rw [List.length_append]
        omega
      refine g_tup rfl (gs_cons (g_name (gs_cons (g_name (gs_nil ?_)))))
      generalize hA : C ++ (fs.take j).flatMap (newOf C) = A at *
      show S K _ [.p (.lst (prs fs)), .p (.int n), .p (.lst C), .p (.int (0 + (i : Int))), .o (.lst A), .p (.str p.1), .p (.int p.2), x7, x8] _
      repeat walk_at "v1"
      refine ite_d (fun hz0 => ?_) (fun hz0 => ?_)
      · have hz0 : 0 < p.2 := by omega
        refine s_for (i_seq (x_call (a_cons (e_var rfl (a_cons (e_var rfl (a_nil (callP rfl ⟨C, p.2, rfl, by omega, fun k hk => ?_, rfl⟩ fun t ht _ => ?_))))))))
        · rw [rowsD_size]
          exact Nat.le_trans (pow_small hk hpw) (by decide)
        subst ht
        refine ⟨_, rfl, fun q ρ => ∃ x7 x8, x8.owns = false ∧ ρ = [.p (.lst (prs fs)), .p (.int n), .p (.lst C), .p (.int (0 + (i : Int))), .o (.lst (A ++ (((rowsD C p.2).take q).map (tm p.1)).filter fun t => !C.any (fun z => D.eqb z t))), .p (.str p.1), .p (.int p.2), x7, x8], ⟨_, _, n8, by rw [List.take_zero, List.map_nil, List.filter_nil, List.append_nil]⟩, ?_, ?_⟩
        · rintro q d ρ hd ⟨x7, x8, n8, rfl⟩
          rw [List.getElem?_map] at hd
          cases hr : (rowsD C p.2)[q]? with
          | none => rw [hr] at hd; cases hd
          | some r =>
          rw [hr] at hd
          cases hd
          have hrm : r ∈ rowsD C p.2 := List.mem_of_getElem? hr
          have hnew := hnw p r hpm hz0 hrm
          have hrl := rowsD_len r hrm
          have hstep : ((((rowsD C p.2).take (q + 1)).map (tm p.1)).filter fun t => !C.any (fun z => D.eqb z t)) = ((((rowsD C p.2).take q).map (tm p.1)).filter fun t => !C.any (fun z => D.eqb z t)) ++ if (!C.any (fun z => D.eqb z (tm p.1 r))) = true then [tm p.1 r] else [] := by
            rw [List.take_add_one, hr, List.map_append, List.filter_append]
            congr 1
            show List.filter _ [tm p.1 r] = _
            rw [List.filter_cons, List.filter_nil]
          have hBl : (A ++ (((rowsD C p.2).take q).map (tm p.1)).filter fun t => !C.any (fun z => D.eqb z t)).length ≤ 40800 := by
            rw [List.length_append]
            have y1 := List.length_filter_le (fun t => !C.any (fun z => D.eqb z t)) (((rowsD C p.2).take q).map (tm p.1))
            have y2 : (((rowsD C p.2).take q).map (tm p.1)).length ≤ 400 := by
              rw [List.length_map, List.length_take, rowsD_size]
              exact Nat.le_trans (Nat.min_le_right _ _) hpw
            omega
          rw [hnew] at hstep
          refine g_name ?_
          show S K _ [.p (.lst (prs fs)), .p (.int n), .p (.lst C), .p (.int (0 + (i : Int))), .o (.lst (A ++ (((rowsD C p.2).take q).map (tm p.1)).filter fun t => !C.any (fun z => D.eqb z t))), .p (.str p.1), .p (.int p.2), .p (.tup r), x8] _
          have hbs : (r.map fun d => D.bl (decide (d.dep - 1 = i))) = (r.map fun d => decide (d.dep - 1 = i)).map D.bl := by rw [List.map_map]; rfl
          have hany : (r.map fun d => decide (d.dep - 1 = i)).any id = r.any fun x => decide (x.dep - 1 = i) := by rw [List.any_map]; rfl
          have hnov : novs [.p (.lst (prs fs)), .p (.int n), .p (.lst C), .p (.int (0 + (i : Int))), .o (.lst (A ++ (((rowsD C p.2).take q).map (tm p.1)).filter fun t => !C.any (fun z => D.eqb z t))), .p (.str p.1), .p (.int p.2), .p (.tup r), x8] [8] = true := by simp only [novs, List.all_cons, List.all_nil]; simp [n8]
          repeat walk_at "v1"
          refine ite_d (fun hz1 => ?_) (fun hz1 => ?_)
          · have hz2 : i = 0 := by omega
            repeat walk_at "v1"
            refine o_addT (by rw [hrl]; show 1 + p.2 ≤ 16777216; omega) ?_
            refine a_nil ?_
            refine om_append rfl rfl rfl (by show _ < 16777216; omega) ?_
            exact ⟨_, _, n8, by rw [hstep, hz2, decide_eq_true rfl, Bool.true_or, if_pos rfl, ← List.append_assoc]; rfl⟩
          · have hz2 : ¬ i = 0 := by omega
            rw [decide_eq_false hz2, Bool.false_or] at hstep
            repeat walk_at "v1"
            refine x_lcm (i_seq (e_var rfl ⟨r, rfl, hnov, by rw [hrl]; show p.2 ≤ 16777216; omega, fun d => .bl (decide (d.dep - 1 = i)), fun d hd => ?_, ?_⟩))
            · refine gc_name (by decide) ?_
              repeat walk_at "v1"
              refine callP rfl ⟨fs, i, d, rfl, by omega, hwt d (rowsD_mem hrm d hd), h3, rfl⟩ fun t ht _ => ?_
              subst ht
              repeat walk_at "v1"
              exact ⟨congrArg (fun b => R.p (D.bl b)) (decide_eq_decide.mpr (by omega)), rfl⟩
            rw [hbs]
            refine a_nil (oa_any rdl_p ?_)
            rw [hany]
            refine bl_ex ?_
            refine ite_b (fun hy => ?_) (fun hy => ?_)
            · rw [hy, if_pos rfl] at hstep
              repeat walk_at "v1"
              refine o_addT (by rw [hrl]; show 1 + p.2 ≤ 16777216; omega) ?_
              refine a_nil ?_
              refine om_append rfl rfl rfl (by show _ < 16777216; omega) ?_
              exact ⟨_, .any, rfl, by rw [hstep, ← List.append_assoc]; rfl⟩
            · rw [hy, if_neg Bool.false_ne_true, List.append_nil] at hstep
              repeat walk_at "v1"
              exact ⟨_, .any, rfl, by rw [hstep]; rfl⟩
        · rintro ρ ⟨x7, x8, n8, rfl⟩
          have hnn : ((rowsD C p.2).map (tm p.1)).filter (fun t => !C.any (fun z => D.eqb z t)) = newOf C p := by
            unfold newOf
            rw [if_pos hz0]
          rw [List.length_map, List.take_length, hnn]
          exact ⟨_, _, _, _, n8, by rw [htake, ← List.append_assoc, hA]⟩
      · have hz0 : ¬ 0 < p.2 := by omega
        repeat walk_at "v1"
        have hnew : newOf C p = [] := by unfold newOf; rw [if_neg hz0]
        exact ⟨_, _, _, _, n8, by rw [htake, hnew, List.append_nil, hA]⟩
    · rintro ρ ⟨x5, x6, x7, x8, n8, rfl⟩
      refine s_mv rfl ?_
      rw [← hsucc]
      exact ⟨_, _, _, _, _, n8, rfl⟩
  · rintro ρ ⟨x3, x5, x6, x7, x8, n8, rfl⟩
    rw [rngD_len]
    refine s_retO rfl ⟨trivial, rfl⟩
end
end K57
namespace K57
open PySem PySem.Spec PyProof.Rows L2 VL
local macro_rules | `(tactic| walk_at "v1") => `(tactic| first
  | (with_reducible refine' s_seq ?_) | (with_reducible refine' s_next ?_) | (with_reducible refine' s_ret ?_) | (with_reducible refine' s_if ?_) | (with_reducible refine' x_setL ?_) | (with_reducible refine' s_asg ?_) | (with_reducible refine' s_drop ?_) | (with_reducible refine' s_retN ?_) | (with_reducible refine' i_rng1 ?_) | (with_reducible refine' i_rng2 ?_)
  | (with_reducible refine' g_name ?_)
  | ((with_reducible refine' e_var ?h ?q); (case h => exact rfl)) | (with_reducible refine' e_int ?_) | (with_reducible refine' e_str ?_) | (with_reducible refine' e_bl ?_) | (with_reducible refine' e_non ?_)
  | ((with_reducible refine' e_al ?h ?g ?q); (case h => exact rfl); (case g => exact rfl))
  | ((with_reducible refine' oa_isi ?h ?hd ?hk ?q); (case h => exact rfl); (case hd => exact rfl); (case hk => first | exact kit_NoneType_bool | exact kit_NoneType_int | exact kit_NoneType_str | exact kit_NoneType_tuple | exact kit_NoneType_list | exact kit_NoneType_dict | exact kit_bool_bool | exact kit_bool_int | exact kit_bool_str | exact kit_bool_tuple | exact kit_bool_list | exact kit_bool_dict | exact kit_int_bool | exact kit_int_int | exact kit_int_str | exact kit_int_tuple | exact kit_int_list | exact kit_int_dict | exact kit_str_bool | exact kit_str_int | exact kit_str_str | exact kit_str_tuple | exact kit_str_list | exact kit_str_dict | exact kit_tuple_bool | exact kit_tuple_int | exact kit_tuple_str | exact kit_tuple_tuple | exact kit_tuple_list | exact kit_tuple_dict | exact kit_list_bool | exact kit_list_int | exact kit_list_str | exact kit_list_tuple | exact kit_list_list | exact kit_list_dict | exact kit_dict_bool | exact kit_dict_int | exact kit_dict_str | exact kit_dict_tuple | exact kit_dict_list | exact kit_dict_dict))
  | (with_reducible refine' e_bm ?_) | (with_reducible refine' e_bm0 ?_) | (refine ⟨.inl ⟨rfl, _, rdl_o rfl⟩, ?_⟩) | (refine ⟨.inl ⟨rfl, _, rdl_b rfl⟩, ?_⟩) | (refine ⟨.inr (.inl ⟨rfl, _, rfl⟩), ?_⟩)
  | ((refine om_append rfl rfl rfl ?l ?q); (case l => first | assumption | (show _ < 16777216; first | omega | (simp only [List.length_map, List.length_append, List.length_cons, List.length_nil]; omega))))
  | (with_reducible refine' e_op ?_) | (with_reducible refine' e_cb ?_) | (with_reducible refine' e_un ?_) | (with_reducible refine' x_tup ?_) | (with_reducible refine' x_lst ?_) | (with_reducible refine' x_call ?_) | (with_reducible refine' x_call1 ?_)
  | (with_reducible refine' a_cons ?_) | (with_reducible refine' a_nil ?_) | ((with_reducible refine' tupP ?h ?g ?q); (case h => exact rfl); (case g => exact Nat.le_of_ble_eq_true rfl)) | ((with_reducible refine' lstP ?h ?g ?q); (case h => exact rfl); (case g => exact Nat.le_of_ble_eq_true rfl))
  | (with_reducible refine' e_andV ?_) | (with_reducible refine' e_orV ?_) | (with_reducible refine' e_notV ?_) | (with_reducible refine' e_if ?_) | (with_reducible refine' e_chain ?_) | (with_reducible refine' t_ifT ?_) | (with_reducible refine' i_seq ?_) | (with_reducible refine' t_yes ?_)
  | (with_reducible refine' t_test ?_) | (with_reducible refine' t_B ?_) | (with_reducible refine' t_and ?_) | (with_reducible refine' t_or ?_) | (with_reducible refine' t_not ?_)
  | (refine o_addI ?_) | ((refine o_mulI ?c ?_); (case c => first | exact .inr ⟨by decide, by decide⟩ | exact .inl ⟨by decide, by decide⟩ | exact .inl ⟨by omega, by omega⟩ | exact .inr ⟨by omega, by omega⟩)) | (refine o_i ?_) | (refine o_ib ?_) | ((refine o_iC ?c ?_); (case c => first | (show (0 : Int) < _; first | decide | assumption | omega) | exact ⟨by decide, by decide⟩ | exact ⟨by decide, by decide, by decide⟩)) | (refine o_eqI ?_) | (refine o_eqS ?_) | (refine o_eqB ?_) | (refine o_isN ?_) | (refine o_notN ?_) | (refine o_neI ?_) | (refine o_neS ?_) | (refine o_neB ?_) | (refine o_un ?_)
  | (refine o_inSign ?_) | (refine o_inSL rdl_p ?_) | (refine o_inST ?_) | (refine oa_int ?_) | (refine oa_abs ?_) | (refine oa_lenC ?_) | (refine oa_lenT ?_) | (refine oa_lenL rdl_p ?_) | (refine oa_lenL (rdl_o rfl) ?_) | (refine oa_lenL (rdl_b rfl) ?_)
  | (refine o_ixL (rdl_b rfl) rfl ?_) | (refine o_ixL (rdl_o rfl) rfl ?_) | (refine o_ixL rdl_p rfl ?_) | (refine o_ixT rfl ?_)
  | (with_reducible refine' setP ?_) | (refine setI rfl rfl rfl rfl ?_) | (refine ite_t ?_) | (refine ite_f ?_) | (refine bl_ex ?_) | (refine ⟨_, rfl, ?_⟩))

def sAsked (C : Addr) : List D → (R → Prop) → Prop := fun ds Rs => ∃ (fs rs ts : Fs) (cs : List Nat) (n : Nat), ds = [sigP C fs rs ts, .lst (prs fs), .lst (nats cs), .int n] ∧ FsOk fs ∧ CountsOk fs cs ∧ n < cs.length ∧ Rs = fun t => t = .p (.bl true)
def sTyped : List D → (R → Prop) → Prop := fun ds Rs => ds = [] ∧ Rs = fun t => t = .p (.bl true)
theorem same_ok {l : List D} (h : D.pures l = true) (g : D.deps l ≤ 30) : sSame 40 [.lst l, .lst l] (fun t => t = .p (.bl true)) :=
  ⟨.lst l, rfl, by unfold D.pure; exact h, by unfold D.dep; omega, fun _ _ => trivial, rfl⟩
theorem closed_same {fs : Fs} {n : Nat} (ok : ClOk fs n) : D.pures (closed fs n) = true ∧ D.deps (closed fs n) ≤ n + 1 :=
  ⟨txs_pure _ (txs_all fun d hd => (closed_tx ok.f n d hd).1), deps_le fun d hd => (closed_tx ok.f n d hd).2⟩
theorem nats_at {cs : List Nat} {i x : Nat} (h : cs[i]? = some x) : atI (nats cs) (i : Int) = some (.int (x : Int)) := atI_at (by unfold nats; rw [List.getElem?_map, h]; rfl)
section
variable {P : Program} {w : World} {K : PySem.W.Frag} {mg : Str → Option Value} {base : Heap}
theorem ok_asked (T : Txt K mg) (G_law_same : FnOk P w K mg base CX0 40 T.a_law_same T.d_law_same ["one", "two"] (Sp0 K (sSame 40))) : FnOk P w K mg base CX0 41 T.a_law_asked T.d_law_asked ["signature", "functions", "counts", "depth"] (Sp0 K (sAsked T.a_Signature)) := by
  have G_closed_terms := ok_closed (P := P) (w := w) (base := base) T
  have G_law_listed := ok_listed (P := P) (w := w) (base := base) T
  have G_law_deep := ok_deep (P := P) (w := w) (base := base) T 20
  have hlen : ∀ ds Rs, sAsked T.a_Signature ds Rs → ds.length = 4 := by rintro ds Rs ⟨fs, rs, ts, cs, n, rfl, _⟩; rfl
  refine T.F_law_asked.ok sc_law_asked (Sp0.len hlen) (fun cdv A outer s H vs Q E hr h => ?_)
  have hl : vs.length = 4 := Sp0.len hlen _ _ _ _ h
  refine ⟨_, (pss_cons (ps_set (i := 4) sc_law_asked.nd rfl (.inl rfl) (pe_call G_closed_terms (hr.mono (by omega)) (by rfl) T.g_closed_terms T.F_closed_terms.kp T.b_closed_terms .nil pass0 (pa_cons (pv 0) (pa_cons (pv 3) pa_nil))))
      (pss_cons (ps_set (i := 5) sc_law_asked.nd rfl (.inl rfl) (pe_call G_law_listed (hr.mono (by omega)) (by rfl) T.g_law_listed T.F_law_listed.kp T.b_law_listed .nil pass0 (pa_cons (pv 1) (pa_cons (pv 3) pa_nil))))
      (pss_cons (ps_if (PW.pt (pw_or (pt_not (pt_val (pe_callB (r := rIsi K) call_isi (by rfl) T.z_isinstance (by decide +kernel) (pa_cons (pv 4) (pa_cons (pe_bltn (v := .ty "list") (by rfl) T.z_list (by decide +kernel) rfl) pa_nil))))) (pw_or (pt_cmpR (r := rNeU K) (op_neU hr.units) (pe_callB (r := rLenU K) call_lenU (by rfl) T.z_len PySem.boot_len (pa_cons (pv 4) pa_nil)) (pe_ix (r := rIx K) ix_seq (pv 2) (pv 3) (fun _ _ => rfl)) (nomark _)) (pw_or1 (pt_not (pt_val (pe_call G_law_same (hr.mono (by omega)) (by rfl) T.g_law_same T.F_law_same.kp T.b_law_same .nil pass0 (pa_cons (pv 4) (pa_cons (pv 5) pa_nil)))))))))
        (pss_one (ps_ret pe_bl))
        pss_nil)
      (pss_cons (ps_if (pt_not (pt_val (pe_callB (r := rAll K) (cr_all rfl) (by rfl) T.z_all (by decide +kernel) (pa_cons (pe_lc (own := [("term", 6)]) (by rfl) sc_law_asked.nd (PI.k (t' := iSeq K _) (pi_seq (pv 4)) rfl) (blkOk_by (own := [("term", 6)]) (N := ["signature", "functions", "counts", "depth", "told", "due", "term"]) (sc := defScope s_law_asked) (by decide +kernel)) (fun _ _ _ _ _ => (pg_name (i := 6) sc_law_asked.nd rfl (.inl rfl))) (fun _ _ _ _ _ => pts_nil) (fun _ _ _ _ _ => (pe_cmpR op_le (pe_call G_law_deep (hr.mono (by omega)) (by rfl) T.g_law_deep T.F_law_deep.kp T.b_law_deep .nil pass0 (pa_cons (pv 6) pa_nil)) (pv 3) (nomark _)))) pa_nil))))
        (pss_one (ps_ret pe_bl))
        pss_nil)
      (pss_cons (ps_if (PW.pt (pw_and (pt_cmpR op_gt (pv 3) pe_int (nomark _)) (pw_and1 (pt_not (pt_val (pe_call G_law_same (hr.mono (by omega)) (by rfl) T.g_law_same T.F_law_same.kp T.b_law_same .nil pass0 (pa_cons (pe_call G_closed_terms (hr.mono (by omega)) (by rfl) T.g_closed_terms T.F_closed_terms.kp T.b_closed_terms .nil pass0 (pa_cons (pv 0) (pa_cons (pe_op op_sub (pv 3) pe_int) pa_nil))) (pa_cons (pe_slice (r := rSlU K) sl_U (pv 4) po_none (po_some (pe_ix (r := rIx K) ix_seq (pv 2) (pe_op op_sub (pv 3) pe_int) (fun _ _ => rfl)))) pa_nil))))))))
        (pss_one (ps_ret pe_bl))
        pss_nil)
      (pss_cons (ps_expr (PE.k (t' := tBM0 K _ _ _) (pe_bm0 PySem.F.plainAttrs_list PySem.F.slot_list_reverse PySem.F.type_list_reverse mt_reverse (pv 4)) rfl))
      (pss_cons (ps_expr (PE.k (t' := tBM K _ _ _ _) (pe_bm PySem.F.plainAttrs_list PySem.F.slot_list_append PySem.F.type_list_append mt_append (pv 4) (pa_cons pe_str pa_nil)) rfl))
      (pss_one (ps_ret (pe_call G_law_same (hr.mono (by omega)) (by rfl) T.g_law_same T.F_law_same.kp T.b_law_same .nil pass0 (pa_cons (pe_call G_closed_terms (hr.mono (by omega)) (by rfl) T.g_closed_terms T.F_closed_terms.kp T.b_closed_terms .nil pass0 (pa_cons (pv 0) (pa_cons (pv 3) pa_nil))) (pa_cons (pv 5) pa_nil)))))))))))), fn0 (by rw [hl]; decide) h ?_⟩
  rintro ds Rs ⟨fs, rs, ts, cs, n, rfl, hf, hc, hn, rfl⟩
  show S K _ [.p (sigP T.a_Signature fs rs ts), .p (.lst (prs fs)), .p (.lst (nats cs)), .p (.int n), .any, .any, .any] _
  have ok : ClOk fs n := counts_ok hf.f hf.n hf.l hc hn
  have hn8 := ok.m
  obtain ⟨hpu, hde⟩ := closed_same ok
  have hget := List.getElem?_eq_getElem hn
  have hcn := counts_size hf.f hf.n hc n _ hget
  rw [hcn] at hget
  have hwt : ∀ x ∈ closed fs n, WT fs n x := fun x hx => (closed_iff hf.f n x).mp hx
  have h3 : ∀ p ∈ fs, p.2 ≤ 3 := fun p hp => (hf.f p hp).2
  have hle := ok.l n (Nat.le_refl _)
  repeat walk_at "v1"
  refine callP rfl ⟨fs, rs, ts, n, rfl, hf.l, ok, rfl⟩ fun t ht _ => ?_
  subst ht
  refine g_nameO ?_
  show S K _ [.p (sigP T.a_Signature fs rs ts), .p (.lst (prs fs)), .p (.lst (nats cs)), .p (.int n), .o (.lst (closed fs n)), .any, .any] _
  repeat walk_at "v1"
  refine callP rfl ⟨fs, n, rfl, hf, ok, rfl⟩ fun t ht _ => ?_
  subst ht
  refine g_nameF ?_
  show S K _ [.p (sigP T.a_Signature fs rs ts), .p (.lst (prs fs)), .p (.lst (nats cs)), .p (.int n), .o (.lst (closed fs n)), .p (.lst (closed fs n)), .any] _
  refine s_seq (s_if (t_ro ?_))
  show VL.T K _ [.p (sigP T.a_Signature fs rs ts), .p (.lst (prs fs)), .p (.lst (nats cs)), .p (.int n), .p (.lst (closed fs n)), .p (.lst (closed fs n)), .any] _
  repeat walk_at "v1"
  refine o_ixL rdl_p (nats_at hget) ?_
  repeat walk_at "v1"
  refine ite_n (fun hne => absurd rfl hne) (fun _ => ?_)
  repeat walk_at "v1"
  refine callP rfl (same_ok hpu (by omega)) fun t ht _ => ?_
  subst ht
  refine ⟨_, rfl, ?_⟩
  refine ite_f ?_
  refine s_next ?_
  show S K _ [.p (sigP T.a_Signature fs rs ts), .p (.lst (prs fs)), .p (.lst (nats cs)), .p (.int n), .o (.lst (closed fs n)), .p (.lst (closed fs n)), .any] _
  refine s_seq (s_if (t_ro ?_))
  show VL.T K _ [.p (sigP T.a_Signature fs rs ts), .p (.lst (prs fs)), .p (.lst (nats cs)), .p (.int n), .p (.lst (closed fs n)), .p (.lst (closed fs n)), .any] _
  repeat walk_at "v1"
  refine x_lcm (i_seq (e_var rfl ⟨_, rfl, rfl, Nat.le_trans hle (by decide), fun _ => .bl true, fun d hd => ?_, ?_⟩))
  · refine gc_name (by decide) ?_
    repeat walk_at "v1"
    refine callP rfl ⟨fs, n, d, rfl, by omega, hwt d hd, h3, rfl⟩ fun t ht _ => ?_
    subst ht
    repeat walk_at "v1"
    have := wt_dep (hwt d hd)
    exact ⟨congrArg (fun b => R.p (D.bl b)) (decide_eq_true (by omega)), rfl⟩
  refine a_nil (oa_all (bs := List.replicate _ true) (congrArg D.lst (bls_const (l := closed fs n))) ?_)
  rw [all_rep]
  refine ⟨_, rfl, ?_⟩
  refine ite_f ?_
  refine s_next ?_
  show S K _ [.p (sigP T.a_Signature fs rs ts), .p (.lst (prs fs)), .p (.lst (nats cs)), .p (.int n), .o (.lst (closed fs n)), .p (.lst (closed fs n)), .any] _
  refine s_seq (s_if (t_ro ?_))
  show VL.T K _ [.p (sigP T.a_Signature fs rs ts), .p (.lst (prs fs)), .p (.lst (nats cs)), .p (.int n), .p (.lst (closed fs n)), .p (.lst (closed fs n)), .any] _
  have rest : S K (tSeq (tDrop (tBM0 K "list" rReverse (tVar 4))) (tSeq (tDrop (tBM K "list" rAppend (tVar 4) (tCons (tC (.str "none")) tNil))) (tRet (tCall (Sp0 K (sSame 40)) [] E0 (tCons (tCall (Sp0 K (sClosed T.a_Signature)) [] E0 (tCons (tVar 0) (tCons (tVar 3) tNil))) (tCons (tVar 5) tNil))))))
      [.p (sigP T.a_Signature fs rs ts), .p (.lst (prs fs)), .p (.lst (nats cs)), .p (.int n), .o (.lst (closed fs n)), .p (.lst (closed fs n)), .any] { nx := fun _ => (fun t => t = R.p (.bl true)) (.p .non), rt := fun t _ => t.noal ∧ (fun t => t = R.p (.bl true)) t } := by
    repeat walk_at "v1"
    refine om_reverse rfl rfl rfl ?_
    repeat walk_at "v1"
    refine om_append rfl rfl rfl (by rw [List.length_reverse]; show _ < 16777216; omega) ?_
    repeat walk_at "v1"
    refine callP rfl ⟨fs, rs, ts, n, rfl, hf.l, ok, rfl⟩ fun t ht _ => ?_
    subst ht
    repeat walk_at "v1"
    refine callP rfl (same_ok hpu (by omega)) fun t ht _ => ?_
    subst ht
    exact ⟨trivial, rfl⟩
  repeat walk_at "v1"
  refine ite_d (fun hp => ?_) (fun hp => ?_)
  · obtain ⟨m, rfl⟩ : ∃ m, n = m + 1 := ⟨n - 1, by omega⟩
    have okm : ClOk fs m := counts_ok hf.f hf.n hf.l hc (by omega)
    have hgm := List.getElem?_eq_getElem (l := cs) (i := m) (by omega)
    rw [counts_size hf.f hf.n hc m _ hgm] at hgm
    obtain ⟨hpum, hdem⟩ := closed_same okm
    have em : ((m + 1 : Nat) : Int) - 1 = (m : Int) := by omega
    repeat walk_at "v1"
    rw [em]
    refine callP rfl ⟨fs, rs, ts, m, rfl, hf.l, okm, rfl⟩ fun t ht _ => ?_
    subst ht
    refine a_cons (e_sl (e_var rfl (to_none (to_some ?_))))
    repeat walk_at "v1"
    rw [em]
    refine o_ixL rdl_p (nats_at hgm) ?_
    refine ⟨_, rfl, os_L rdl_p ?_⟩
    rw [cutD_take, closed_prefix]
    refine a_nil (callP rfl (same_ok hpum (by omega)) fun t ht _ => ?_)
    subst ht
    refine ⟨_, rfl, ?_⟩
    refine ite_f ?_
    exact s_next rest
  · refine ite_f ?_
    exact s_next rest
def fsT : Fs := [("f", 1), ("a", 0), ("g", 2), ("b", 0)]
def rsT : Fs := [("P", 1)]
def fsS : Fs := [("s", 1), ("z", 0)]
def fsU : Fs := [("s", 1)]
def tw : Nat → D
  | 0 => tm "z" []
  | k + 1 => tm "s" [tw k]
def firstT : List D := let a := tm "a" []; let b := tm "b" []; [tm "f" [a], tm "f" [b], tm "g" [a, a], tm "g" [a, b], tm "g" [b, a], tm "g" [b, b]]
theorem t0 : closed fsT 0 = [tm "a" [], tm "b" []] := by rfl
theorem t1 : closed fsT 1 = [tm "a" [], tm "b" []] ++ firstT := by rfl
theorem tw8 : closed fsS 8 = (List.range 9).map tw := by rfl
theorem tu3 : closed fsU 3 = [] := by rfl
theorem sgT : SgOk fsT rsT := ⟨by decide +kernel, by decide +kernel, by decide +kernel, by decide⟩
theorem sgS : SgOk fsS [] := ⟨by decide +kernel, by decide +kernel, by decide +kernel, by decide⟩
theorem sgU : SgOk fsU [] := ⟨by decide +kernel, by decide +kernel, by decide +kernel, by decide⟩
end
end K57
namespace K57
open PySem PySem.Spec PyProof.Rows L2 VL
local macro_rules | `(tactic| walk_at "v1") => `(tactic| first
  | (with_reducible refine' s_seq ?_) | (with_reducible refine' s_next ?_) | (with_reducible refine' s_ret ?_) | (with_reducible refine' s_if ?_) | (with_reducible refine' x_setL ?_) | (with_reducible refine' s_asg ?_) | (with_reducible refine' s_drop ?_) | (with_reducible refine' s_retN ?_) | (with_reducible refine' i_rng1 ?_) | (with_reducible refine' i_rng2 ?_)
  | (with_reducible refine' g_name ?_)
  | ((with_reducible refine' e_var ?h ?q); (case h => exact rfl)) | (with_reducible refine' e_int ?_) | (with_reducible refine' e_str ?_) | (with_reducible refine' e_bl ?_) | (with_reducible refine' e_non ?_)
  | ((with_reducible refine' e_al ?h ?g ?q); (case h => exact rfl); (case g => exact rfl))
  | ((with_reducible refine' oa_isi ?h ?hd ?hk ?q); (case h => exact rfl); (case hd => exact rfl); (case hk => first | exact kit_NoneType_bool | exact kit_NoneType_int | exact kit_NoneType_str | exact kit_NoneType_tuple | exact kit_NoneType_list | exact kit_NoneType_dict | exact kit_bool_bool | exact kit_bool_int | exact kit_bool_str | exact kit_bool_tuple | exact kit_bool_list | exact kit_bool_dict | exact kit_int_bool | exact kit_int_int | exact kit_int_str | exact kit_int_tuple | exact kit_int_list | exact kit_int_dict | exact kit_str_bool | exact kit_str_int | exact kit_str_str | exact kit_str_tuple | exact kit_str_list | exact kit_str_dict | exact kit_tuple_bool | exact kit_tuple_int | exact kit_tuple_str | exact kit_tuple_tuple | exact kit_tuple_list | exact kit_tuple_dict | exact kit_list_bool | exact kit_list_int | exact kit_list_str | exact kit_list_tuple | exact kit_list_list | exact kit_list_dict | exact kit_dict_bool | exact kit_dict_int | exact kit_dict_str | exact kit_dict_tuple | exact kit_dict_list | exact kit_dict_dict))
  | (with_reducible refine' e_bm ?_) | (with_reducible refine' e_bm0 ?_) | (refine ⟨.inl ⟨rfl, _, rdl_o rfl⟩, ?_⟩) | (refine ⟨.inl ⟨rfl, _, rdl_b rfl⟩, ?_⟩) | (refine ⟨.inr (.inl ⟨rfl, _, rfl⟩), ?_⟩)
  | ((refine om_append rfl rfl rfl ?l ?q); (case l => first | assumption | (show _ < 16777216; first | omega | (simp only [List.length_map, List.length_append, List.length_cons, List.length_nil]; omega))))
  | (with_reducible refine' e_op ?_) | (with_reducible refine' e_cb ?_) | (with_reducible refine' e_un ?_) | (with_reducible refine' x_tup ?_) | (with_reducible refine' x_lst ?_) | (with_reducible refine' x_call ?_) | (with_reducible refine' x_call1 ?_)
  | (with_reducible refine' a_cons ?_) | (with_reducible refine' a_nil ?_) | ((with_reducible refine' tupP ?h ?g ?q); (case h => exact rfl); (case g => exact Nat.le_of_ble_eq_true rfl)) | ((with_reducible refine' lstP ?h ?g ?q); (case h => exact rfl); (case g => exact Nat.le_of_ble_eq_true rfl))
  | (with_reducible refine' e_andV ?_) | (with_reducible refine' e_orV ?_) | (with_reducible refine' e_notV ?_) | (with_reducible refine' e_if ?_) | (with_reducible refine' e_chain ?_) | (with_reducible refine' t_ifT ?_) | (with_reducible refine' i_seq ?_) | (with_reducible refine' t_yes ?_)
  | (with_reducible refine' t_test ?_) | (with_reducible refine' t_B ?_) | (with_reducible refine' t_and ?_) | (with_reducible refine' t_or ?_) | (with_reducible refine' t_not ?_)
  | (refine o_addI ?_) | ((refine o_mulI ?c ?_); (case c => first | exact .inr ⟨by decide, by decide⟩ | exact .inl ⟨by decide, by decide⟩ | exact .inl ⟨by omega, by omega⟩ | exact .inr ⟨by omega, by omega⟩)) | (refine o_i ?_) | (refine o_ib ?_) | ((refine o_iC ?c ?_); (case c => first | (show (0 : Int) < _; first | decide | assumption | omega) | exact ⟨by decide, by decide⟩ | exact ⟨by decide, by decide, by decide⟩)) | (refine o_eqI ?_) | (refine o_eqS ?_) | (refine o_eqB ?_) | (refine o_isN ?_) | (refine o_notN ?_) | (refine o_neI ?_) | (refine o_neS ?_) | (refine o_neB ?_) | (refine o_un ?_)
  | (refine o_inSign ?_) | (refine o_inSL rdl_p ?_) | (refine o_inST ?_) | (refine oa_int ?_) | (refine oa_abs ?_) | (refine oa_lenC ?_) | (refine oa_lenT ?_) | (refine oa_lenL rdl_p ?_) | (refine oa_lenL (rdl_o rfl) ?_) | (refine oa_lenL (rdl_b rfl) ?_)
  | (refine o_ixL (rdl_b rfl) rfl ?_) | (refine o_ixL (rdl_o rfl) rfl ?_) | (refine o_ixL rdl_p rfl ?_) | (refine o_ixT rfl ?_)
  | (with_reducible refine' setP ?_) | (refine setI rfl rfl rfl rfl ?_) | (refine ite_t ?_) | (refine ite_f ?_) | (refine bl_ex ?_) | (refine ⟨_, rfl, ?_⟩))

theorem countsOk_of {fs : Fs} {cs : List Nat} (h1 : 1 ≤ cs.length ∧ cs.length ≤ 9) (hz : cs[0]? = some (consts fs).length) (h : ∀ i, i < cs.length - 1 → cs.getD (i + 1) 0 ≤ 400 ∧ cs.getD (i + 1) 0 = cnt (cs.getD i 0) fs) : CountsOk fs cs :=
  ⟨h1, hz, fun i x hx => by
    have hi := (List.getElem?_eq_some_iff.mp hx).1
    obtain ⟨a, b⟩ := h i (by omega)
    rw [List.getD_eq_getElem?_getD, hx] at a b
    rw [List.getD_eq_getElem?_getD, List.getElem?_eq_getElem (by omega : i < cs.length)] at b
    exact ⟨a, _, List.getElem?_eq_getElem (by omega), b⟩⟩
theorem fokT : ∀ p ∈ fsT, PyData.strOk p.1 = true ∧ p.2 ≤ 3 := by decide +kernel
theorem fokS : ∀ p ∈ fsS, PyData.strOk p.1 = true ∧ p.2 ≤ 3 := by decide +kernel
theorem fokU : ∀ p ∈ fsU, PyData.strOk p.1 = true ∧ p.2 ≤ 3 := by decide +kernel
theorem cT : CountsOk fsT [2, 8] := countsOk_of (by decide) (by decide +kernel) (by decide +kernel)
theorem cS : CountsOk fsS [1, 2, 3, 4, 5, 6, 7, 8, 9] := countsOk_of (by decide) (by decide +kernel) (by decide +kernel)
theorem cU : CountsOk fsU [0, 0, 0, 0] := countsOk_of (by decide) (by decide +kernel) (by decide +kernel)
theorem clT (d : Nat) (h : d < 2) : ClOk fsT d := counts_ok fokT (by decide +kernel) (by decide) cT h
theorem clS (d : Nat) (h : d < 9) : ClOk fsS d := counts_ok fokS (by decide +kernel) (by decide) cS h
theorem clU (d : Nat) (h : d < 4) : ClOk fsU d := counts_ok fokU (by decide +kernel) (by decide) cU h
section
variable {P : Program} {w : World} {K : PySem.W.Frag} {mg : Str → Option Value} {base : Heap}
theorem ok_typed (T : Txt K mg) (G_law_same : FnOk P w K mg base CX0 40 T.a_law_same T.d_law_same ["one", "two"] (Sp0 K (sSame 40))) : FnOk P w K mg base CX0 41 T.a_law_typed T.d_law_typed [] (Sp0 K sTyped) := by
  have G_closed_terms := ok_closed (P := P) (w := w) (base := base) T
  have G_Signature___init__ := ok_init (P := P) (w := w) (base := base) T
  have hlen : ∀ ds Rs, sTyped ds Rs → ds.length = 0 := by rintro ds Rs ⟨rfl, _⟩; rfl
  refine T.F_law_typed.ok sc_law_typed (Sp0.len hlen) (fun cdv A outer s H vs Q E hr h => ?_)
  have hl : vs.length = 0 := Sp0.len hlen _ _ _ _ h
  refine ⟨_, (pss_cons (ps_asg (pe_tup (pa_cons (pe_tup (pa_cons pe_str pa_nil)) (pa_cons (pe_tup (pa_cons pe_str pa_nil)) pa_nil))) (PG.k (t' := gTup K 2 _) (pg_tup (n := 2) (by rfl) (pgs_cons (pg_name (i := 0) sc_law_typed.nd rfl (.inl rfl)) (pgs_cons (pg_name (i := 1) sc_law_typed.nd rfl (.inl rfl)) pgs_nil))) rfl))
      (pss_cons (ps_set (i := 2) sc_law_typed.nd rfl (.inl rfl) (pe_make T.M_Signature G_Signature___init__ (hr.mono (by omega)) (by rfl) T.g_Signature T.b_Signature___init__ .nil pass0 (pa_cons (pe_lst (pa_cons (pe_tup (pa_cons pe_str (pa_cons pe_int pa_nil))) (pa_cons (pe_tup (pa_cons pe_str (pa_cons pe_int pa_nil))) (pa_cons (pe_tup (pa_cons pe_str (pa_cons pe_int pa_nil))) (pa_cons (pe_tup (pa_cons pe_str (pa_cons pe_int pa_nil))) pa_nil))))) (pa_cons (pe_lst (pa_cons (pe_tup (pa_cons pe_str (pa_cons pe_int pa_nil))) pa_nil)) pa_nil))))
      (pss_cons (ps_set (i := 3) sc_law_typed.nd rfl (.inl rfl) (pe_lst (pa_cons (pe_tup (pa_cons pe_str (pa_cons (pv 0) pa_nil))) (pa_cons (pe_tup (pa_cons pe_str (pa_cons (pv 1) pa_nil))) (pa_cons (pe_tup (pa_cons pe_str (pa_cons (pv 0) (pa_cons (pv 0) pa_nil)))) (pa_cons (pe_tup (pa_cons pe_str (pa_cons (pv 0) (pa_cons (pv 1) pa_nil)))) (pa_cons (pe_tup (pa_cons pe_str (pa_cons (pv 1) (pa_cons (pv 0) pa_nil)))) (pa_cons (pe_tup (pa_cons pe_str (pa_cons (pv 1) (pa_cons (pv 1) pa_nil)))) pa_nil))))))))
      (pss_cons (ps_if (pt_not (pt_val (pe_call G_law_same (hr.mono (by omega)) (by rfl) T.g_law_same T.F_law_same.kp T.b_law_same .nil pass0 (pa_cons (pe_lst (pa_cons (pe_call G_closed_terms (hr.mono (by omega)) (by rfl) T.g_closed_terms T.F_closed_terms.kp T.b_closed_terms .nil pass0 (pa_cons (pv 2) (pa_cons pe_int pa_nil))) (pa_cons (pe_call G_closed_terms (hr.mono (by omega)) (by rfl) T.g_closed_terms T.F_closed_terms.kp T.b_closed_terms .nil pass0 (pa_cons (pv 2) (pa_cons pe_int pa_nil))) pa_nil))) (pa_cons (pe_lst (pa_cons (pe_lst (pa_cons (pv 0) (pa_cons (pv 1) pa_nil))) (pa_cons (pe_op (r := rAddU K) op_addU (pe_lst (pa_cons (pv 0) (pa_cons (pv 1) pa_nil))) (pv 3)) pa_nil))) pa_nil)))))
        (pss_one (ps_ret pe_bl))
        pss_nil)
      (pss_cons (ps_set (i := 4) sc_law_typed.nd rfl (.inl rfl) (pe_make T.M_Signature G_Signature___init__ (hr.mono (by omega)) (by rfl) T.g_Signature T.b_Signature___init__ .nil pass0 (pa_cons (pe_tup (pa_cons (pe_tup (pa_cons pe_str (pa_cons pe_int pa_nil))) (pa_cons (pe_tup (pa_cons pe_str (pa_cons pe_int pa_nil))) pa_nil))) (pa_cons (pe_tup pa_nil) pa_nil))))
      (pss_cons (ps_set (i := 5) sc_law_typed.nd rfl (.inl rfl) (pe_lst (pa_cons (pe_tup (pa_cons pe_str pa_nil)) pa_nil)))
      (pss_cons (ps_for PassesOwn.never (by rfl) (pi_range1 (by rfl) T.z_range (pa_cons pe_int pa_nil)) (pg_name (i := 6) sc_law_typed.nd rfl (.inl rfl))
        (pss_one (ps_expr (PE.k (t' := tBM K _ _ _ _) (pe_bm PySem.F.plainAttrs_list PySem.F.slot_list_append PySem.F.type_list_append mt_append (pv 5) (pa_cons (pe_tup (pa_cons pe_str (pa_cons (pe_ix (r := rIx K) ix_seq (pv 5) (pe_un un_neg pe_int) (fun _ _ => rfl)) pa_nil))) pa_nil)) rfl))))
      (pss_one (ps_ret (pe_and (pe_call G_law_same (hr.mono (by omega)) (by rfl) T.g_law_same T.F_law_same.kp T.b_law_same .nil pass0 (pa_cons (pe_call G_closed_terms (hr.mono (by omega)) (by rfl) T.g_closed_terms T.F_closed_terms.kp T.b_closed_terms .nil pass0 (pa_cons (pv 4) (pa_cons pe_int pa_nil))) (pa_cons (pv 5) pa_nil))) (pe_one (pe_call G_law_same (hr.mono (by omega)) (by rfl) T.g_law_same T.F_law_same.kp T.b_law_same .nil pass0 (pa_cons (pe_call G_closed_terms (hr.mono (by omega)) (by rfl) T.g_closed_terms T.F_closed_terms.kp T.b_closed_terms .nil pass0 (pa_cons (pe_make T.M_Signature G_Signature___init__ (hr.mono (by omega)) (by rfl) T.g_Signature T.b_Signature___init__ .nil pass0 (pa_cons (pe_lst (pa_cons (pe_tup (pa_cons pe_str (pa_cons pe_int pa_nil))) pa_nil)) (pa_cons (pe_lst pa_nil) pa_nil))) (pa_cons pe_int pa_nil))) (pa_cons (pe_lst pa_nil) pa_nil)))))))))))))), fn0 (by rw [hl]; decide) h ?_⟩
  rintro ds Rs ⟨rfl, rfl⟩
  show S K _ [.any, .any, .any, .any, .any, .any, .any] _
  have hT0 := closed_same (clT 0 (by decide))
  have hT1 := closed_same (clT 1 (by decide))
  have hS8 := closed_same (clS 8 (by decide))
  rw [t0] at hT0
  rw [t1] at hT1
  rw [tw8] at hS8
  repeat walk_at "v1"
  refine g_tup rfl (gs_cons (g_name (gs_cons (g_name (gs_nil ?_)))))
  show S K _ [.p (tm "a" []), .p (tm "b" []), .any, .any, .any, .any, .any] _
  repeat walk_at "v1"
  refine x_make ?_
  repeat walk_at "v1"
  refine makeP rfl ⟨_, _, fsT, rsT, rfl, .inl rfl, .inl rfl, sgT, rfl⟩ fun r d' q => ⟨q.1, ?_⟩
  obtain ⟨_, q2⟩ := q
  subst q2
  refine g_nameF ?_
  show S K _ [.p (tm "a" []), .p (tm "b" []), .p (sigD T.a_Signature fsT rsT), .any, .any, .any, .any] _
  repeat walk_at "v1"
  refine g_nameF ?_
  show S K _ [.p (tm "a" []), .p (tm "b" []), .p (sigD T.a_Signature fsT rsT), .p (.lst firstT), .any, .any, .any] _
  repeat walk_at "v1"
  refine callP rfl ⟨fsT, rsT, fsT ++ rsT, 0, rfl, by decide, clT 0 (by decide), rfl⟩ fun t ht _ => ?_
  subst ht
  repeat walk_at "v1"
  refine callP rfl ⟨fsT, rsT, fsT ++ rsT, 1, rfl, by decide, clT 1 (by decide), rfl⟩ fun t ht _ => ?_
  subst ht
  rw [t0, t1]
  repeat walk_at "v1"
  refine o_addL rdl_p rdl_p (by decide) ?_
  repeat walk_at "v1"
  refine callP rfl (same_ok (l := [.lst [tm "a" [], tm "b" []], .lst ([tm "a" [], tm "b" []] ++ firstT)]) (by rfl) (by decide)) fun t ht _ => ?_
  subst ht
  refine ⟨_, rfl, ?_⟩
  refine ite_f ?_
  refine s_next ?_
  show S K _ [.p (tm "a" []), .p (tm "b" []), .p (sigD T.a_Signature fsT rsT), .p (.lst firstT), .any, .any, .any] _
  repeat walk_at "v1"
  refine x_make ?_
  repeat walk_at "v1"
  refine makeP rfl ⟨_, _, fsS, [], rfl, .inr rfl, .inr rfl, sgS, rfl⟩ fun r d' q => ⟨q.1, ?_⟩
  obtain ⟨_, q2⟩ := q
  subst q2
  refine g_nameF ?_
  repeat walk_at "v1"
  refine g_nameO ?_
  show S K _ [.p (tm "a" []), .p (tm "b" []), .p (sigD T.a_Signature fsT rsT), .p (.lst firstT), .p (sigD T.a_Signature fsS []), .o (.lst ((List.range 1).map tw)), .any] _
  repeat walk_at "v1"
  refine s_for ?_
  repeat walk_at "v1"
  refine ⟨by decide, by decide, fun i ρ => ∃ x, ρ = [.p (tm "a" []), .p (tm "b" []), .p (sigD T.a_Signature fsT rsT), .p (.lst firstT), .p (sigD T.a_Signature fsS []), .o (.lst ((List.range (i + 1)).map tw)), x], ⟨_, rfl⟩, ?_, ?_⟩
  · rintro i d ρ hd ⟨x, rfl⟩
    obtain ⟨hi, rfl⟩ := rngD_get hd
    have hi : i < 8 := hi
    have hL : ((List.range (i + 1)).map tw).length = i + 1 := by rw [List.length_map, List.length_range]
    refine g_name ?_
    show S K _ [.p (tm "a" []), .p (tm "b" []), .p (sigD T.a_Signature fsT rsT), .p (.lst firstT), .p (sigD T.a_Signature fsS []), .o (.lst ((List.range (i + 1)).map tw)), .p (.int (0 + (i : Int)))] _
    repeat walk_at "v1"
    refine o_ixL (rdl_o rfl) (d := tw i) (atI_last ?_) ?_
    · rw [hL, Nat.add_sub_cancel, List.getElem?_map, List.getElem?_range (by omega)]
      rfl
    repeat walk_at "v1"
    refine ⟨.p (.int (0 + (i : Int))), ?_⟩
    rw [List.range_succ (n := i + 1), List.map_append]
    rfl
  · rintro ρ ⟨x, rfl⟩
    refine s_fz (i := 5) rfl ?_
    show S K _ [.p (tm "a" []), .p (tm "b" []), .p (sigD T.a_Signature fsT rsT), .p (.lst firstT), .p (sigD T.a_Signature fsS []), .p (.lst ((List.range 9).map tw)), x] _
    repeat walk_at "v1"
    refine callP rfl ⟨fsS, [], fsS ++ [], 8, rfl, by decide, clS 8 (by decide), rfl⟩ fun t ht _ => ?_
    subst ht
    rw [tw8]
    repeat walk_at "v1"
    refine callP rfl (same_ok hS8.1 (by have := hS8.2; omega)) fun t ht _ => ?_
    subst ht
    refine ⟨_, rfl, ?_⟩
    refine ite_t ?_
    repeat walk_at "v1"
    refine x_make ?_
    repeat walk_at "v1"
    refine makeP rfl ⟨_, _, fsU, [], rfl, .inl rfl, .inl rfl, sgU, rfl⟩ fun r d' q => ⟨q.1, ?_⟩
    obtain ⟨_, q2⟩ := q
    subst q2
    repeat walk_at "v1"
    refine callP rfl ⟨fsU, [], fsU ++ [], 3, rfl, by decide, clU 3 (by decide), rfl⟩ fun t ht _ => ?_
    subst ht
    rw [tu3]
    repeat walk_at "v1"
    refine callP rfl (same_ok (l := []) (by rfl) (by decide)) fun t ht _ => ?_
    subst ht
    exact ⟨trivial, rfl⟩
end
end K57
namespace K57
open PySem PySem.Spec PyProof.Rows L2 VL
local macro_rules | `(tactic| walk_at "v1") => `(tactic| first
  | (with_reducible refine' s_seq ?_) | (with_reducible refine' s_next ?_) | (with_reducible refine' s_ret ?_) | (with_reducible refine' s_if ?_) | (with_reducible refine' x_setL ?_) | (with_reducible refine' s_asg ?_) | (with_reducible refine' s_drop ?_) | (with_reducible refine' s_retN ?_) | (with_reducible refine' i_rng1 ?_) | (with_reducible refine' i_rng2 ?_)
  | (with_reducible refine' g_name ?_)
  | ((with_reducible refine' e_var ?h ?q); (case h => exact rfl)) | (with_reducible refine' e_int ?_) | (with_reducible refine' e_str ?_) | (with_reducible refine' e_bl ?_) | (with_reducible refine' e_non ?_)
  | ((with_reducible refine' e_al ?h ?g ?q); (case h => exact rfl); (case g => exact rfl))
  | ((with_reducible refine' oa_isi ?h ?hd ?hk ?q); (case h => exact rfl); (case hd => exact rfl); (case hk => first | exact kit_NoneType_bool | exact kit_NoneType_int | exact kit_NoneType_str | exact kit_NoneType_tuple | exact kit_NoneType_list | exact kit_NoneType_dict | exact kit_bool_bool | exact kit_bool_int | exact kit_bool_str | exact kit_bool_tuple | exact kit_bool_list | exact kit_bool_dict | exact kit_int_bool | exact kit_int_int | exact kit_int_str | exact kit_int_tuple | exact kit_int_list | exact kit_int_dict | exact kit_str_bool | exact kit_str_int | exact kit_str_str | exact kit_str_tuple | exact kit_str_list | exact kit_str_dict | exact kit_tuple_bool | exact kit_tuple_int | exact kit_tuple_str | exact kit_tuple_tuple | exact kit_tuple_list | exact kit_tuple_dict | exact kit_list_bool | exact kit_list_int | exact kit_list_str | exact kit_list_tuple | exact kit_list_list | exact kit_list_dict | exact kit_dict_bool | exact kit_dict_int | exact kit_dict_str | exact kit_dict_tuple | exact kit_dict_list | exact kit_dict_dict))
  | (with_reducible refine' e_bm ?_) | (with_reducible refine' e_bm0 ?_) | (refine ⟨.inl ⟨rfl, _, rdl_o rfl⟩, ?_⟩) | (refine ⟨.inl ⟨rfl, _, rdl_b rfl⟩, ?_⟩) | (refine ⟨.inr (.inl ⟨rfl, _, rfl⟩), ?_⟩)
  | ((refine om_append rfl rfl rfl ?l ?q); (case l => first | assumption | (show _ < 16777216; first | omega | (simp only [List.length_map, List.length_append, List.length_cons, List.length_nil]; omega))))
  | (with_reducible refine' e_op ?_) | (with_reducible refine' e_cb ?_) | (with_reducible refine' e_un ?_) | (with_reducible refine' x_tup ?_) | (with_reducible refine' x_lst ?_) | (with_reducible refine' x_call ?_) | (with_reducible refine' x_call1 ?_)
  | (with_reducible refine' a_cons ?_) | (with_reducible refine' a_nil ?_) | ((with_reducible refine' tupP ?h ?g ?q); (case h => exact rfl); (case g => exact Nat.le_of_ble_eq_true rfl)) | ((with_reducible refine' lstP ?h ?g ?q); (case h => exact rfl); (case g => exact Nat.le_of_ble_eq_true rfl))
  | (with_reducible refine' e_andV ?_) | (with_reducible refine' e_orV ?_) | (with_reducible refine' e_notV ?_) | (with_reducible refine' e_if ?_) | (with_reducible refine' e_chain ?_) | (with_reducible refine' t_ifT ?_) | (with_reducible refine' i_seq ?_) | (with_reducible refine' t_yes ?_)
  | (with_reducible refine' t_test ?_) | (with_reducible refine' t_B ?_) | (with_reducible refine' t_and ?_) | (with_reducible refine' t_or ?_) | (with_reducible refine' t_not ?_)
  | (refine o_addI ?_) | ((refine o_mulI ?c ?_); (case c => first | exact .inr ⟨by decide, by decide⟩ | exact .inl ⟨by decide, by decide⟩ | exact .inl ⟨by omega, by omega⟩ | exact .inr ⟨by omega, by omega⟩)) | (refine o_i ?_) | (refine o_ib ?_) | ((refine o_iC ?c ?_); (case c => first | (show (0 : Int) < _; first | decide | assumption | omega) | exact ⟨by decide, by decide⟩ | exact ⟨by decide, by decide, by decide⟩)) | (refine o_eqI ?_) | (refine o_eqS ?_) | (refine o_eqB ?_) | (refine o_isN ?_) | (refine o_notN ?_) | (refine o_neI ?_) | (refine o_neS ?_) | (refine o_neB ?_) | (refine o_un ?_)
  | (refine o_inSign ?_) | (refine o_inSL rdl_p ?_) | (refine o_inST ?_) | (refine oa_int ?_) | (refine oa_abs ?_) | (refine oa_lenC ?_) | (refine oa_lenT ?_) | (refine oa_lenL rdl_p ?_) | (refine oa_lenL (rdl_o rfl) ?_) | (refine oa_lenL (rdl_b rfl) ?_)
  | (refine o_ixL (rdl_b rfl) rfl ?_) | (refine o_ixL (rdl_o rfl) rfl ?_) | (refine o_ixL rdl_p rfl ?_) | (refine o_ixT rfl ?_)
  | (with_reducible refine' setP ?_) | (refine setI rfl rfl rfl rfl ?_) | (refine ite_t ?_) | (refine ite_f ?_) | (refine bl_ex ?_) | (refine ⟨_, rfl, ?_⟩))

def base0 : List Str := ["a", "b", "c", "f", "g", "h", "k"]
def great0 : List Str := ["P", "R"]
def small2 : List Str := ["c1", "c3", "c", "c2", "c11", "c4", "c12"]
def smallOf (r : Int) : List Str := if r = 2 then small2 else if r = 1 then base0.map fun s => ("abcdefghijk" : Str) ++ s else base0
def greatOf (r : Int) : List Str := if r = 1 then great0.map fun s => ("Abcdefghijk" : Str) ++ s else great0
def csOf (r k : Int) : Fs := (cutD (smallOf r) none (some k)).map fun s => (s, 0)
def towers : List (List Nat) := [[], [1], [1, 1], [2], [1, 2], [3], [2, 2], [1, 3]]
def towOf (q : Int) : List Nat := towers.getD q.toNat []
def fnOf (r q : Int) : Fs := (List.range (towOf q).length).map fun k => ((smallOf r).getD (3 + k) ("" : Str), (towOf q).getD k 0)
def rsOf (r : Int) (n : Nat) : Fs := (List.range n).map fun k => ((greatOf r).getD k ("" : Str), [1, 2].getD k 0)
def nmc1 : Str × Nat := ("c1", 0)
structure DrOk (fs rs : Fs) : Prop where
  sg : SgOk fs rs
  st : ∀ p ∈ fs, PyData.strOk p.1 = true
  c1 : consts fs = [] → ("c1" : Str) ∉ (fs ++ rs).map (·.1)
  l : (fs ++ rs).length ≤ 90
def chk (fs rs : Fs) : Bool := fs.all (fun p => okSmall p.1 && decide (p.2 ≤ 3) && PyData.strOk p.1) && rs.all (fun p => okCap p.1 && decide (p.2 ≤ 3)) && decide ((fs ++ rs).map (·.1)).Nodup && decide ((fs ++ rs).length ≤ 90) && (decide (0 < (consts fs).length) || !decide (("c1" : Str) ∈ (fs ++ rs).map (·.1)))
theorem chk_all : ∀ r : Fin 3, ∀ k : Fin 4, ∀ q : Fin 8, ∀ n : Fin 3, chk (csOf (r.val : Int) (k.val : Int) ++ fnOf (r.val : Int) (q.val : Int)) (rsOf (r.val : Int) n.val) = true := by decide +kernel
theorem dr_of {fs gs rs : Fs} (hp : fs.Perm gs) (h : chk gs rs = true) : DrOk fs rs := by
  unfold chk at h
  rw [Bool.and_eq_true, Bool.and_eq_true, Bool.and_eq_true, Bool.and_eq_true] at h
  obtain ⟨⟨⟨⟨h1, h2⟩, h3⟩, h4⟩, h5⟩ := h
  have h1 := List.all_eq_true.mp h1
  have h2 := List.all_eq_true.mp h2
  have h3 := of_decide_eq_true h3
  have h4 := of_decide_eq_true h4
  have hpn : ((fs ++ rs).map (·.1)).Perm ((gs ++ rs).map (·.1)) := (hp.append_right rs).map _
  refine ⟨⟨fun p hpm => ?_, fun p hpm => ?_, hpn.nodup_iff.mpr h3, by rw [(hp.append_right rs).length_eq]; omega⟩, fun p hpm => ?_, fun hc hm => ?_, by rw [(hp.append_right rs).length_eq]; exact h4⟩
  · have := h1 p (hp.mem_iff.mp hpm)
    rw [Bool.and_eq_true, Bool.and_eq_true] at this
    exact ⟨this.1.1, of_decide_eq_true this.1.2⟩
  · have := h2 p hpm
    rw [Bool.and_eq_true] at this
    exact ⟨this.1, of_decide_eq_true this.2⟩
  · have := h1 p (hp.mem_iff.mp hpm)
    rw [Bool.and_eq_true] at this
    exact this.2
  · have hq : (consts gs).length = 0 := by
      have : (consts fs).length = (consts gs).length := by
        unfold consts
        rw [List.length_map, List.length_map]
        exact (hp.filter _).length_eq
      rw [← this, hc]
      rfl
    rw [hq] at h5
    have h5 : (!decide (("c1" : Str) ∈ (gs ++ rs).map (·.1))) = true := h5
    rw [decide_eq_true (hpn.mem_iff.mp hm)] at h5
    cases h5
def sDrawn : List D → (R → D → Prop) → Prop := fun ds Rs => ∃ (s : LS) (n : Nat), ds = [s.d] ∧ s.Ok (n + 20) ∧ Rs = fun t d' => ∃ fs rs s', t = .o (.lst [.lst (prs fs), .lst (prs rs)]) ∧ DrOk fs rs ∧ d' = LS.d s' ∧ s'.Ok n
theorem cat_base : ∀ x ∈ base0, (("abcdefghijk" : Str)).length + x.length ≤ sizeLine := by decide +kernel
theorem cat_great : ∀ x ∈ great0, (("Abcdefghijk" : Str)).length + x.length ≤ sizeLine := by decide +kernel
def TW : List D := [.lst [], .lst [.int 1], .lst [.int 1, .int 1], .lst [.int 2], .lst [.int 1, .int 2], .lst [.int 3], .lst [.int 2, .int 2], .lst [.int 1, .int 3]]
theorem tow_at {q : Int} (h0 : 0 ≤ q) (h8 : q < 8) : atI TW q = some (.lst (nats (towOf q))) ∧ (towOf q).length ≤ 2 := by
  have : q = 0 ∨ q = 1 ∨ q = 2 ∨ q = 3 ∨ q = 4 ∨ q = 5 ∨ q = 6 ∨ q = 7 := by omega
  rcases this with rfl | rfl | rfl | rfl | rfl | rfl | rfl | rfl <;> exact ⟨rfl, by decide⟩
theorem cutD_map {α β : Type} {f : α → β} {l : List α} {lo hi : Option Int} : cutD (l.map f) lo hi = (cutD l lo hi).map f := by
  unfold VL.cutD
  rw [List.length_map, List.map_take, List.map_drop]
theorem getD_at {α : Type} {l : List α} {i : Nat} {d : α} (h : i < l.length) : l[i]? = some (l.getD i d) := by
  rw [List.getElem?_eq_getElem h, List.getD_eq_getElem?_getD, List.getElem?_eq_getElem h]
  rfl
theorem great_len (r : Int) : (greatOf r).length = 2 := by
  unfold greatOf
  split <;> rfl
theorem small_len (r : Int) : (smallOf r).length = 7 := by
  unfold smallOf
  split
  · rfl
  · split <;> rfl
section
variable {P : Program} {w : World} {K : PySem.W.Frag} {mg : Str → Option Value} {base : Heap}
theorem ok_drawn (T : Txt K mg) : FnOk P w K mg base CX0 2 T.a_law_drawn T.d_law_drawn ["state"] (Sp1 K sDrawn) := by
  have G_law_take := ok_take (P := P) (w := w) (base := base) T
  have hlen : ∀ ds Rs, sDrawn ds Rs → ds.length = 1 := by rintro ds Rs ⟨fs, n, rfl, _⟩; rfl
  refine T.F_law_drawn.ok sc_law_drawn (Sp1.len hlen) (fun cdv A outer s H vs Q E hr h => ?_)
  have hl : vs.length = 1 := Sp1.len hlen _ _ _ _ h
  refine ⟨_, (pss_cons (ps_set (i := 1) sc_law_drawn.nd rfl (.inl rfl) (pe_call G_law_take (hr.mono (by omega)) (by rfl) T.g_law_take T.F_law_take.kp T.b_law_take .nil pass0 (pa_cons (pv 0) (pa_cons pe_int pa_nil))))
      (pss_cons (ps_set (i := 2) sc_law_drawn.nd rfl (.inr rfl) (pe_lst (pa_cons pe_str (pa_cons pe_str (pa_cons pe_str (pa_cons pe_str (pa_cons pe_str (pa_cons pe_str (pa_cons pe_str pa_nil)))))))))
      (pss_cons (ps_set (i := 3) sc_law_drawn.nd rfl (.inr rfl) (pe_lst (pa_cons pe_str (pa_cons pe_str pa_nil))))
      (pss_cons (ps_if (pt_cmpR (r := rEqU K) (op_eqU hr.units) (pv 1) pe_int (nomark _))
        (pss_cons (ps_set (i := 2) sc_law_drawn.nd rfl (.inr rfl) (pe_lc (own := [("sign", 11)]) (by rfl) sc_law_drawn.nd (PI.k (t' := iSeq K _) (pi_seq (pv 2)) rfl) (blkOk_by (own := [("sign", 11)]) (N := ["state", "style", "small", "great", "constants", "kind", "towers", "functions", "mixed", "pair", "relations", "sign", "name", "k"]) (sc := defScope s_law_drawn) (by decide +kernel)) (fun _ _ _ _ _ => (pg_name (i := 11) sc_law_drawn.nd rfl (.inl rfl))) (fun _ _ _ _ _ => pts_nil) (fun _ _ _ _ _ => (pe_op (r := rAddU K) op_addU pe_str (pv 11)))))
        (pss_one (ps_set (i := 3) sc_law_drawn.nd rfl (.inr rfl) (pe_lc (own := [("sign", 11)]) (by rfl) sc_law_drawn.nd (PI.k (t' := iSeq K _) (pi_seq (pv 3)) rfl) (blkOk_by (own := [("sign", 11)]) (N := ["state", "style", "small", "great", "constants", "kind", "towers", "functions", "mixed", "pair", "relations", "sign", "name", "k"]) (sc := defScope s_law_drawn) (by decide +kernel)) (fun _ _ _ _ _ => (pg_name (i := 11) sc_law_drawn.nd rfl (.inl rfl))) (fun _ _ _ _ _ => pts_nil) (fun _ _ _ _ _ => (pe_op (r := rAddU K) op_addU pe_str (pv 11)))))))
        pss_nil)
      (pss_cons (ps_if (pt_cmpR (r := rEqU K) (op_eqU hr.units) (pv 1) pe_int (nomark _))
        (pss_one (ps_set (i := 2) sc_law_drawn.nd rfl (.inr rfl) (pe_lst (pa_cons pe_str (pa_cons pe_str (pa_cons pe_str (pa_cons pe_str (pa_cons pe_str (pa_cons pe_str (pa_cons pe_str pa_nil))))))))))
        pss_nil)
      (pss_cons (ps_setLc (i := 4) (own := [("name", 12)]) (by rfl) sc_law_drawn.nd rfl rfl (sw_true rfl rfl rfl (by decide +kernel)) (PI.k (t' := iSeq K _) (pi_seq (pe_slice (r := rSlU K) sl_U (pv 2) po_none (po_some (pe_call G_law_take (hr.mono (by omega)) (by rfl) T.g_law_take T.F_law_take.kp T.b_law_take .nil pass0 (pa_cons (pv 0) (pa_cons pe_int pa_nil)))))) rfl) (blkOk_by (own := [("name", 12)]) (N := ["state", "style", "small", "great", "constants", "kind", "towers", "functions", "mixed", "pair", "relations", "sign", "name", "k"]) (sc := defScope s_law_drawn) (by decide +kernel)) (fun _ _ _ _ _ => (pg_name (i := 12) sc_law_drawn.nd rfl (.inl rfl))) (fun _ _ _ _ _ => pts_nil) (fun _ _ _ _ _ => (pe_tup (pa_cons (pv 12) (pa_cons pe_int pa_nil)))))
      (pss_cons (ps_set (i := 5) sc_law_drawn.nd rfl (.inl rfl) (pe_call G_law_take (hr.mono (by omega)) (by rfl) T.g_law_take T.F_law_take.kp T.b_law_take .nil pass0 (pa_cons (pv 0) (pa_cons pe_int pa_nil))))
      (pss_cons (ps_set (i := 6) sc_law_drawn.nd rfl (.inr rfl) (pe_ix (r := rIx K) ix_seq (pe_lst (pa_cons (pe_lst pa_nil) (pa_cons (pe_lst (pa_cons pe_int pa_nil)) (pa_cons (pe_lst (pa_cons pe_int (pa_cons pe_int pa_nil))) (pa_cons (pe_lst (pa_cons pe_int pa_nil)) (pa_cons (pe_lst (pa_cons pe_int (pa_cons pe_int pa_nil))) (pa_cons (pe_lst (pa_cons pe_int pa_nil)) (pa_cons (pe_lst (pa_cons pe_int (pa_cons pe_int pa_nil))) (pa_cons (pe_lst (pa_cons pe_int (pa_cons pe_int pa_nil))) pa_nil))))))))) (pv 5) (fun _ _ => rfl)))
      (pss_cons (ps_setLc (i := 7) (own := [("k", 13)]) (by rfl) sc_law_drawn.nd rfl rfl (sw_true rfl rfl rfl (by decide +kernel)) (pi_range1 (by rfl) T.z_range (pa_cons (pe_callB (r := rLenU K) call_lenU (by rfl) T.z_len PySem.boot_len (pa_cons (pv 6) pa_nil)) pa_nil)) (blkOk_by (own := [("k", 13)]) (N := ["state", "style", "small", "great", "constants", "kind", "towers", "functions", "mixed", "pair", "relations", "sign", "name", "k"]) (sc := defScope s_law_drawn) (by decide +kernel)) (fun _ _ _ _ _ => (pg_name (i := 13) sc_law_drawn.nd rfl (.inl rfl))) (fun _ _ _ _ _ => pts_nil) (fun _ _ _ _ _ => (pe_tup (pa_cons (pe_ix (r := rIx K) ix_seq (pv 2) (pe_op (r := rAddU K) op_addU pe_int (pv 13)) (fun _ _ => rfl)) (pa_cons (pe_ix (r := rIx K) ix_seq (pv 6) (pv 13) (fun _ _ => rfl)) pa_nil)))))
      (pss_cons (ps_set (i := 8) sc_law_drawn.nd rfl (.inl rfl) (pe_lst pa_nil))
      (pss_cons (ps_for PassesOwn.never (by rfl) (PI.k (t' := iSeq K _) (pi_seq (pe_op (r := rAddU K) op_addU (pv 4) (pv 7))) rfl) (pg_name (i := 9) sc_law_drawn.nd rfl (.inl rfl))
        (pss_one (ps_expr (PE.k (t' := tBM K _ _ _ _) (pe_bm PySem.F.plainAttrs_list PySem.F.slot_list_insert PySem.F.type_list_insert mt_insert (pv 8) (pa_cons (pe_call G_law_take (hr.mono (by omega)) (by rfl) T.g_law_take T.F_law_take.kp T.b_law_take .nil pass0 (pa_cons (pv 0) (pa_cons (pe_op (r := rAddU K) op_addU (pe_callB (r := rLenU K) call_lenU (by rfl) T.z_len PySem.boot_len (pa_cons (pv 8) pa_nil)) pe_int) pa_nil))) (pa_cons (pv 9) pa_nil))) rfl))))
      (pss_cons (ps_setLc (i := 10) (own := [("k", 13)]) (by rfl) sc_law_drawn.nd rfl rfl (sw_true rfl rfl rfl (by decide +kernel)) (pi_range1 (by rfl) T.z_range (pa_cons (pe_call G_law_take (hr.mono (by omega)) (by rfl) T.g_law_take T.F_law_take.kp T.b_law_take .nil pass0 (pa_cons (pv 0) (pa_cons pe_int pa_nil))) pa_nil)) (blkOk_by (own := [("k", 13)]) (N := ["state", "style", "small", "great", "constants", "kind", "towers", "functions", "mixed", "pair", "relations", "sign", "name", "k"]) (sc := defScope s_law_drawn) (by decide +kernel)) (fun _ _ _ _ _ => (pg_name (i := 13) sc_law_drawn.nd rfl (.inl rfl))) (fun _ _ _ _ _ => pts_nil) (fun _ _ _ _ _ => (pe_tup (pa_cons (pe_ix (r := rIx K) ix_seq (pv 3) (pv 13) (fun _ _ => rfl)) (pa_cons (pe_ix (r := rIx K) ix_seq (pe_lst (pa_cons pe_int (pa_cons pe_int pa_nil))) (pv 13) (fun _ _ => rfl)) pa_nil)))))
      (pss_one (ps_ret (pe_lst (pa_cons (pv 8) (pa_cons (pv 10) pa_nil))))))))))))))))), fn1 (by rw [hl]; decide) h ?_⟩
  rintro d ds Rs ⟨s, n, he, hok, rfl⟩
  cases he
  show S K _ [.b 0 (LS.d s), .any, .any, .any, .any, .any, .any, .any, .any, .any, .any, .any, .any, .any] _
  repeat walk_at "v1"
  refine call1P rfl rfl rfl ⟨s, n + 19, 3, rfl, hok, by decide, rfl⟩ ?_
  rintro t d' ⟨r, s1, rfl, r0, r3, rfl, ok1⟩ _
  have hr3 : r = 0 ∨ r = 1 ∨ r = 2 := by omega
  repeat walk_at "v1"
  refine g_nameO ?_
  repeat walk_at "v1"
  refine g_nameO ?_
  show S K _ [.b 0 (LS.d s1), .p (.int r), .o (.lst (base0.map D.str)), .o (.lst (great0.map D.str)), .any, .any, .any, .any, .any, .any, .any, .any, .any, .any] _
  refine s_cut (fun ρ => ρ = [.b 0 (LS.d s1), .p (.int r), .o (.lst ((if r = 1 then base0.map fun s => ("abcdefghijk" : Str) ++ s else base0).map D.str)), .o (.lst ((greatOf r).map D.str)), .any, .any, .any, .any, .any, .any, .any, .any, .any, .any]) ?_ ?_
  · repeat walk_at "v1"
    refine ite_d (fun h1 => ?_) (fun h1 => ?_)
    · have eg : greatOf r = great0.map fun s => ("Abcdefghijk" : Str) ++ s := by unfold greatOf; rw [if_pos h1]
      rw [eg, if_pos h1]
      refine s_fz (i := 2) rfl (s_fz (i := 3) rfl ?_)
      show S K _ [.b 0 (LS.d s1), .p (.int r), .p (.lst (base0.map D.str)), .p (.lst (great0.map D.str)), .any, .any, .any, .any, .any, .any, .any, .any, .any, .any] _
      repeat walk_at "v1"
      refine x_lcm (i_seq (e_var rfl ⟨_, rfl, rfl, by decide, fun d => (match d with | .str s => .str (("abcdefghijk" : Str) ++ s) | _ => .non), fun d hd => ?_, ?_⟩))
      · obtain ⟨x, hx, rfl⟩ := List.mem_map.mp hd
        refine gc_name (by decide) ?_
        repeat walk_at "v1"
        refine o_addS (cat_base x hx) ?_
        exact ⟨rfl, rfl⟩
      refine g_nameO ?_
      repeat walk_at "v1"
      refine x_lcm (i_seq (e_var rfl ⟨_, rfl, rfl, by decide, fun d => (match d with | .str s => .str (("Abcdefghijk" : Str) ++ s) | _ => .non), fun d hd => ?_, ?_⟩))
      · obtain ⟨x, hx, rfl⟩ := List.mem_map.mp hd
        refine gc_name (by decide) ?_
        repeat walk_at "v1"
        refine o_addS (cat_great x hx) ?_
        exact ⟨rfl, rfl⟩
      refine g_nameO ?_
      rfl
    · have eg : greatOf r = great0 := by unfold greatOf; rw [if_neg h1]
      rw [eg, if_neg h1]
      repeat walk_at "v1"
      rfl
  rintro ρ rfl
  refine s_cut (fun ρ => ρ = [.b 0 (LS.d s1), .p (.int r), .o (.lst ((smallOf r).map D.str)), .o (.lst ((greatOf r).map D.str)), .any, .any, .any, .any, .any, .any, .any, .any, .any, .any]) ?_ ?_
  · repeat walk_at "v1"
    refine ite_d (fun h1 => ?_) (fun h1 => ?_)
    · have eg : smallOf r = small2 := by unfold smallOf; rw [if_pos h1]
      rw [eg]
      repeat walk_at "v1"
      refine g_nameO ?_
      rfl
    · have eg : smallOf r = if r = 1 then base0.map fun s => ("abcdefghijk" : Str) ++ s else base0 := by unfold smallOf; rw [if_neg h1]
      rw [eg]
      repeat walk_at "v1"
      rfl
  rintro ρ rfl
  refine s_fz (i := 2) rfl ?_
  refine s_fz (i := 3) rfl ?_
  show S K _ [.b 0 (LS.d s1), .p (.int r), .p (.lst ((smallOf r).map D.str)), .p (.lst ((greatOf r).map D.str)), .any, .any, .any, .any, .any, .any, .any, .any, .any, .any] _
  repeat walk_at "v1"
  refine x_lcm (i_seq (e_sl (e_var rfl (to_none (to_some ?_)))))
  repeat walk_at "v1"
  refine call1P rfl rfl rfl ⟨s1, n + 18, 4, rfl, ok1, by decide, rfl⟩ ?_
  rintro t d' ⟨k, s2, rfl, k0, k4, rfl, ok2⟩ _
  refine ⟨_, rfl, os_L rdl_p ?_⟩
  rw [cutD_map]
  have hcsl : (cutD (smallOf r) none (some k)).length ≤ 7 := by have := cutD_len (smallOf r) none (some k); rw [small_len] at this; exact this
  refine ⟨_, rfl, rfl, by rw [List.length_map]; exact Nat.le_trans hcsl (by decide), fun d => (match d with | .str s => .tup [.str s, .int 0] | _ => .non), fun d hd => ?_, ?_⟩
  · obtain ⟨x, hx, rfl⟩ := List.mem_map.mp hd
    refine gc_name (by decide) ?_
    repeat walk_at "v1"
    exact ⟨rfl, rfl⟩
  have hcs : ((cutD (smallOf r) none (some k)).map D.str).map (fun d => (match d with | .str s => D.tup [.str s, .int 0] | _ => .non)) = prs (csOf r k) := by
    unfold prs csOf
    rw [List.map_map, List.map_map]
    rfl
  rw [hcs]
  refine g_nameF ?_
  show S K _ [.b 0 (LS.d s2), .p (.int r), .p (.lst ((smallOf r).map D.str)), .p (.lst ((greatOf r).map D.str)), .p (.lst (prs (csOf r k))), .any, .any, .any, .any, .any, .any, .any, .any, .any] _
  repeat walk_at "v1"
  refine call1P rfl rfl rfl ⟨s2, n + 17, 8, rfl, ok2, by decide, rfl⟩ ?_
  rintro t d' ⟨q, s3, rfl, q0, q8, rfl, ok3⟩ _
  obtain ⟨htw, htl⟩ := tow_at q0 q8
  repeat walk_at "v1"
  refine o_ixL rdl_p htw ?_
  refine g_name ?_
  show S K _ [.b 0 (LS.d s3), .p (.int r), .p (.lst ((smallOf r).map D.str)), .p (.lst ((greatOf r).map D.str)), .p (.lst (prs (csOf r k))), .p (.int q), .p (.lst (nats (towOf q))), .any, .any, .any, .any, .any, .any, .any] _
  have hnl : (nats (towOf q)).length = (towOf q).length := by unfold nats; rw [List.length_map]
  repeat walk_at "v1"
  refine x_lcm ?_
  repeat walk_at "v1"
  refine ⟨by omega, by omega, rfl, by rw [rngD_len]; show _ ≤ 16777216; omega, fun d => (match d with | .int k => pr ((smallOf r).getD (3 + k.toNat) "", (towOf q).getD k.toNat 0) | _ => .non), fun d hd => ?_, ?_⟩
  · obtain ⟨j, hj, rfl⟩ := rngD_mem hd
    have hj : j < (towOf q).length := by omega
    have ej : (0 + (j : Int)).toNat = j := by omega
    have e3 : (3 + (0 + (j : Int))).toNat = 3 + j := by omega
    refine gc_name (by decide) ?_
    repeat walk_at "v1"
    refine o_ixL rdl_p (d := .str ((smallOf r).getD (3 + j) "")) ?_ ?_
    · rw [atI_pos (by omega), e3, List.getElem?_map, getD_at (l := smallOf r) (i := 3 + j) (d := ("" : Str)) (by rw [small_len]; omega)]
      rfl
    repeat walk_at "v1"
    refine o_ixL rdl_p (d := .int ((towOf q).getD j 0 : Nat)) ?_ ?_
    · rw [atI_pos (by omega), ej]
      unfold nats
      rw [List.getElem?_map, getD_at (l := towOf q) (i := j) (d := 0) hj]
      rfl
    repeat walk_at "v1"
    refine ⟨?_, rfl⟩
    show _ = R.p (pr ((smallOf r).getD (3 + (0 + (j : Int)).toNat) "", (towOf q).getD (0 + (j : Int)).toNat 0))
    rw [ej]
    rfl
  have hfn : (rngD 0 (Int.toNat ((nats (towOf q)).length : Int))).map (fun d => (match d with | .int k => pr ((smallOf r).getD (3 + k.toNat) "", (towOf q).getD k.toNat 0) | _ => D.non)) = prs (fnOf r q) := by
    rw [Int.toNat_natCast, hnl]
    unfold rngD prs fnOf
    rw [List.map_map, List.map_map]
    congr 1
    funext j
    show pr ((smallOf r).getD (3 + (0 + (j : Int)).toNat) "", (towOf q).getD (0 + (j : Int)).toNat 0) = _
    rw [show (0 + (j : Int)).toNat = j by omega]
    rfl
  rw [hfn]
  refine g_nameF ?_
  repeat walk_at "v1"
  refine g_nameO ?_
  show S K _ [.b 0 (LS.d s3), .p (.int r), .p (.lst ((smallOf r).map D.str)), .p (.lst ((greatOf r).map D.str)), .p (.lst (prs (csOf r k))), .p (.int q), .p (.lst (nats (towOf q))), .p (.lst (prs (fnOf r q))), .o (.lst (prs [])), .any, .any, .any, .any, .any] _
  have hcl : (csOf r k).length ≤ 7 := by unfold csOf; rw [List.length_map]; exact hcsl
  have hfl : (fnOf r q).length ≤ 2 := by unfold fnOf; rw [List.length_map, List.length_range]; exact htl
  have hbl : (csOf r k ++ fnOf r q).length ≤ 9 := by rw [List.length_append]; omega
  have hpl : ∀ zs : Fs, (prs zs).length = zs.length := fun zs => by unfold prs; rw [List.length_map]
  refine s_seq (s_for (i_seq (e_op (e_var rfl (e_var rfl (o_addL rdl_p rdl_p (by rw [hpl, hpl]; show _ ≤ 16777216; omega) ?_))))))
  rw [prs_app]
  refine ⟨_, rfl, fun i ρ => ∃ (m : Fs) (x9 : SV) (s' : LS), m.Perm ((csOf r k ++ fnOf r q).take i) ∧ s'.Ok (n + 17 - i) ∧ ρ = [.b 0 (LS.d s'), .p (.int r), .p (.lst ((smallOf r).map D.str)), .p (.lst ((greatOf r).map D.str)), .p (.lst (prs (csOf r k))), .p (.int q), .p (.lst (nats (towOf q))), .p (.lst (prs (fnOf r q))), .o (.lst (prs m)), x9, .any, .any, .any, .any], ⟨[], _, s3, .refl _, ok3, rfl⟩, ?_, ?_⟩
  · rintro i d ρ hd ⟨m, x9, s4, hm, ok4, rfl⟩
    have hd2 : ((csOf r k ++ fnOf r q).map pr)[i]? = some d := hd
    rw [List.getElem?_map] at hd2
    cases hp : (csOf r k ++ fnOf r q)[i]? with
    | none => rw [hp] at hd2; cases hd2
    | some p =>
    rw [hp] at hd2
    cases hd2
    have hi := (List.getElem?_eq_some_iff.mp hp).1
    have hml : m.length ≤ 9 := by rw [hm.length_eq, List.length_take]; omega
    have hml2 := hpl m
    refine g_name ?_
    show S K _ [.b 0 (LS.d s4), .p (.int r), .p (.lst ((smallOf r).map D.str)), .p (.lst ((greatOf r).map D.str)), .p (.lst (prs (csOf r k))), .p (.int q), .p (.lst (nats (towOf q))), .p (.lst (prs (fnOf r q))), .o (.lst (prs m)), .p (pr p), .any, .any, .any, .any] _
    repeat walk_at "v1"
    refine call1P rfl rfl rfl ⟨s4, n + 16 - i, ((prs m).length : Int) + 1, rfl, by rw [show n + 16 - i + 1 = n + 17 - i by omega]; exact ok4, by omega, rfl⟩ ?_
    rintro t d' ⟨z, s5, rfl, z0, z1, rfl, ok5⟩ _
    repeat walk_at "v1"
    refine om_insert rfl rfl rfl (by show _ < 16777216; omega) ⟨z0, by omega⟩ ?_
    refine ⟨m.take z.toNat ++ [p] ++ m.drop z.toNat, .p (pr p), s5, ?_, by rw [show n + 17 - (i + 1) = n + 16 - i by omega]; exact ok5, ?_⟩
    · rw [List.take_add_one, hp]
      show (m.take z.toNat ++ [p] ++ m.drop z.toNat).Perm (_ ++ [p])
      have e1 : (m.take z.toNat ++ [p] ++ m.drop z.toNat).Perm (p :: m) := by
        rw [List.append_assoc]
        conv => rhs; rw [← List.take_append_drop z.toNat m]
        exact List.perm_middle
      exact (e1.trans (hm.cons p)).trans (List.perm_append_singleton _ _).symm
    · have e2 : (prs m).take z.toNat ++ [pr p] ++ (prs m).drop z.toNat = prs (m.take z.toNat ++ [p] ++ m.drop z.toNat) := by
        unfold prs
        rw [List.map_append, List.map_append, List.map_take, List.map_drop]
        rfl
      rw [← e2]
      rfl
  rintro ρ ⟨m, x9, s4, hm, ok4, rfl⟩
  rw [hpl, List.take_length] at hm
  rw [hpl] at ok4
  have ok4' : s4.Ok (n + 8) := ok4.mono (by omega)
  have hml : m.length ≤ 9 := by rw [hm.length_eq]; exact hbl
  refine s_fz (i := 8) rfl ?_
  show S K _ [.b 0 (LS.d s4), .p (.int r), .p (.lst ((smallOf r).map D.str)), .p (.lst ((greatOf r).map D.str)), .p (.lst (prs (csOf r k))), .p (.int q), .p (.lst (nats (towOf q))), .p (.lst (prs (fnOf r q))), .p (.lst (prs m)), x9, .any, .any, .any, .any] _
  repeat walk_at "v1"
  refine x_lcm ?_
  repeat walk_at "v1"
  refine call1P rfl rfl rfl ⟨s4, n + 7, 3, rfl, ok4', by decide, rfl⟩ ?_
  rintro t d' ⟨z, s5, rfl, z0, z3, rfl, ok5⟩ _
  repeat walk_at "v1"
  refine ⟨by omega, by omega, rfl, by rw [rngD_len]; show _ ≤ 16777216; omega, fun d => (match d with | .int k => pr ((greatOf r).getD k.toNat "", [1, 2].getD k.toNat 0) | _ => .non), fun d hd => ?_, ?_⟩
  · obtain ⟨j, hj, rfl⟩ := rngD_mem hd
    have hj : j < 2 := by omega
    have ej : (0 + (j : Int)).toNat = j := by omega
    refine gc_name (by decide) ?_
    repeat walk_at "v1"
    refine o_ixL rdl_p (d := .str ((greatOf r).getD j "")) ?_ ?_
    · rw [atI_pos (by omega), ej, List.getElem?_map, getD_at (l := greatOf r) (i := j) (d := ("" : Str)) (by rw [great_len]; omega)]
      rfl
    repeat walk_at "v1"
    refine o_ixL rdl_p (d := .int (([1, 2] : List Nat).getD j 0 : Nat)) ?_ ?_
    · rw [atI_pos (by omega), ej]
      have : j = 0 ∨ j = 1 := by omega
      rcases this with rfl | rfl <;> rfl
    repeat walk_at "v1"
    refine ⟨?_, rfl⟩
    show _ = R.p (pr ((greatOf r).getD (0 + (j : Int)).toNat "", [1, 2].getD (0 + (j : Int)).toNat 0))
    rw [ej]
    rfl
  have hrs : (rngD 0 z.toNat).map (fun d => (match d with | .int k => pr ((greatOf r).getD k.toNat "", [1, 2].getD k.toNat 0) | _ => D.non)) = prs (rsOf r z.toNat) := by
    unfold rngD prs rsOf
    rw [List.map_map, List.map_map]
    congr 1
    funext j
    show pr ((greatOf r).getD (0 + (j : Int)).toNat "", [1, 2].getD (0 + (j : Int)).toNat 0) = _
    rw [show (0 + (j : Int)).toNat = j by omega]
    rfl
  rw [hrs]
  refine g_nameF ?_
  repeat walk_at "v1"
  refine ⟨trivial, _, rfl, m, rsOf r z.toNat, s5, rfl, dr_of hm ?_, rfl, ok5.mono (by omega)⟩
  have := chk_all ⟨r.toNat, by omega⟩ ⟨k.toNat, by omega⟩ ⟨q.toNat, by omega⟩ ⟨z.toNat, by omega⟩
  dsimp only at this
  rw [Int.toNat_of_nonneg r0, Int.toNat_of_nonneg k0, Int.toNat_of_nonneg q0] at this
  exact this
end
end K57
namespace K57
open PySem PySem.Spec PyProof.Rows L2 VL
local macro_rules | `(tactic| walk_at "v1") => `(tactic| first
  | (with_reducible refine' s_seq ?_) | (with_reducible refine' s_next ?_) | (with_reducible refine' s_ret ?_) | (with_reducible refine' s_if ?_) | (with_reducible refine' x_setL ?_) | (with_reducible refine' s_asg ?_) | (with_reducible refine' s_drop ?_) | (with_reducible refine' s_retN ?_) | (with_reducible refine' i_rng1 ?_) | (with_reducible refine' i_rng2 ?_)
  | (with_reducible refine' g_name ?_)
  | ((with_reducible refine' e_var ?h ?q); (case h => exact rfl)) | (with_reducible refine' e_int ?_) | (with_reducible refine' e_str ?_) | (with_reducible refine' e_bl ?_) | (with_reducible refine' e_non ?_)
  | ((with_reducible refine' e_al ?h ?g ?q); (case h => exact rfl); (case g => exact rfl))
  | ((with_reducible refine' oa_isi ?h ?hd ?hk ?q); (case h => exact rfl); (case hd => exact rfl); (case hk => first | exact kit_NoneType_bool | exact kit_NoneType_int | exact kit_NoneType_str | exact kit_NoneType_tuple | exact kit_NoneType_list | exact kit_NoneType_dict | exact kit_bool_bool | exact kit_bool_int | exact kit_bool_str | exact kit_bool_tuple | exact kit_bool_list | exact kit_bool_dict | exact kit_int_bool | exact kit_int_int | exact kit_int_str | exact kit_int_tuple | exact kit_int_list | exact kit_int_dict | exact kit_str_bool | exact kit_str_int | exact kit_str_str | exact kit_str_tuple | exact kit_str_list | exact kit_str_dict | exact kit_tuple_bool | exact kit_tuple_int | exact kit_tuple_str | exact kit_tuple_tuple | exact kit_tuple_list | exact kit_tuple_dict | exact kit_list_bool | exact kit_list_int | exact kit_list_str | exact kit_list_tuple | exact kit_list_list | exact kit_list_dict | exact kit_dict_bool | exact kit_dict_int | exact kit_dict_str | exact kit_dict_tuple | exact kit_dict_list | exact kit_dict_dict))
  | (with_reducible refine' e_bm ?_) | (with_reducible refine' e_bm0 ?_) | (refine ⟨.inl ⟨rfl, _, rdl_o rfl⟩, ?_⟩) | (refine ⟨.inl ⟨rfl, _, rdl_b rfl⟩, ?_⟩) | (refine ⟨.inr (.inl ⟨rfl, _, rfl⟩), ?_⟩)
  | ((refine om_append rfl rfl rfl ?l ?q); (case l => first | assumption | (show _ < 16777216; first | omega | (simp only [List.length_map, List.length_append, List.length_cons, List.length_nil]; omega))))
  | (with_reducible refine' e_op ?_) | (with_reducible refine' e_cb ?_) | (with_reducible refine' e_un ?_) | (with_reducible refine' x_tup ?_) | (with_reducible refine' x_lst ?_) | (with_reducible refine' x_call ?_) | (with_reducible refine' x_call1 ?_)
  | (with_reducible refine' a_cons ?_) | (with_reducible refine' a_nil ?_) | ((with_reducible refine' tupP ?h ?g ?q); (case h => exact rfl); (case g => exact Nat.le_of_ble_eq_true rfl)) | ((with_reducible refine' lstP ?h ?g ?q); (case h => exact rfl); (case g => exact Nat.le_of_ble_eq_true rfl))
  | (with_reducible refine' e_andV ?_) | (with_reducible refine' e_orV ?_) | (with_reducible refine' e_notV ?_) | (with_reducible refine' e_if ?_) | (with_reducible refine' e_chain ?_) | (with_reducible refine' t_ifT ?_) | (with_reducible refine' i_seq ?_) | (with_reducible refine' t_yes ?_)
  | (with_reducible refine' t_test ?_) | (with_reducible refine' t_B ?_) | (with_reducible refine' t_and ?_) | (with_reducible refine' t_or ?_) | (with_reducible refine' t_not ?_)
  | (refine o_addI ?_) | ((refine o_mulI ?c ?_); (case c => first | exact .inr ⟨by decide, by decide⟩ | exact .inl ⟨by decide, by decide⟩ | exact .inl ⟨by omega, by omega⟩ | exact .inr ⟨by omega, by omega⟩)) | (refine o_i ?_) | (refine o_ib ?_) | ((refine o_iC ?c ?_); (case c => first | (show (0 : Int) < _; first | decide | assumption | omega) | exact ⟨by decide, by decide⟩ | exact ⟨by decide, by decide, by decide⟩)) | (refine o_eqI ?_) | (refine o_eqS ?_) | (refine o_eqB ?_) | (refine o_isN ?_) | (refine o_notN ?_) | (refine o_neI ?_) | (refine o_neS ?_) | (refine o_neB ?_) | (refine o_un ?_)
  | (refine o_inSign ?_) | (refine o_inSL rdl_p ?_) | (refine o_inST ?_) | (refine oa_int ?_) | (refine oa_abs ?_) | (refine oa_lenC ?_) | (refine oa_lenT ?_) | (refine oa_lenL rdl_p ?_) | (refine oa_lenL (rdl_o rfl) ?_) | (refine oa_lenL (rdl_b rfl) ?_)
  | (refine o_ixL (rdl_b rfl) rfl ?_) | (refine o_ixL (rdl_o rfl) rfl ?_) | (refine o_ixL rdl_p rfl ?_) | (refine o_ixT rfl ?_)
  | (with_reducible refine' setP ?_) | (refine setI rfl rfl rfl rfl ?_) | (refine ite_t ?_) | (refine ite_f ?_) | (refine bl_ex ?_) | (refine ⟨_, rfl, ?_⟩))

def fsC (fs : Fs) : Fs := if consts fs = [] then fs ++ [nmc1] else fs
theorem fsC_ok {fs rs : Fs} (h : DrOk fs rs) : SgOk (fsC fs) rs ∧ FsOk (fsC fs) := by
  have nn : ((fs ++ rs).map (·.1)).Nodup := h.sg.n
  have hl := h.sg.l
  rw [List.length_append] at hl
  have nf : (fs.map (·.1)).Nodup := by rw [List.map_append] at nn; exact (List.nodup_append.mp nn).1
  unfold fsC
  by_cases hc : consts fs = []
  · rw [if_pos hc]
    have hn := h.c1 hc
    have hll := h.l
    rw [List.length_append] at hll
    have hnf : ("c1" : Str) ∉ fs.map (·.1) := fun z => hn (by rw [List.map_append]; exact List.mem_append.mpr (.inl z))
    have hok : okSmall nmc1.1 = true ∧ nmc1.2 ≤ 3 ∧ PyData.strOk nmc1.1 = true := by decide +kernel
    have hperm : ((fs ++ [nmc1] ++ rs).map (·.1)).Perm (("c1" : Str) :: (fs ++ rs).map (·.1)) := by
      have e1 : (fs ++ [nmc1] ++ rs).Perm (nmc1 :: (fs ++ rs)) := by rw [List.append_assoc]; exact List.perm_middle
      exact e1.map _
    refine ⟨⟨fun p hp => ?_, h.sg.r, hperm.nodup_iff.mpr (List.nodup_cons.mpr ⟨hn, nn⟩), by rw [List.length_append, List.length_append, List.length_singleton]; omega⟩, fun p hp => ?_, ?_, by rw [List.length_append, List.length_singleton]; omega⟩
    · rcases List.mem_append.mp hp with z | z
      · exact h.sg.f p z
      · rw [List.mem_singleton.mp z]; exact ⟨hok.1, hok.2.1⟩
    · rcases List.mem_append.mp hp with z | z
      · exact ⟨h.st p z, (h.sg.f p z).2⟩
      · rw [List.mem_singleton.mp z]; exact ⟨hok.2.2, hok.2.1⟩
    · rw [List.map_append]
      refine List.nodup_append.mpr ⟨nf, List.pairwise_singleton _ _, fun x hx y hy e => ?_⟩
      subst e
      rw [List.mem_singleton.mp hy] at hx
      exact hnf hx
  · rw [if_neg hc]
    exact ⟨h.sg, fun p hp => ⟨h.st p hp, (h.sg.f p hp).2⟩, nf, by omega⟩
theorem prs_pure : ∀ fs : Fs, D.pures (prs fs) = true ∧ D.deps (prs fs) ≤ 1
  | [] => ⟨rfl, Nat.zero_le _⟩
  | p :: r => by
    obtain ⟨h1, h2⟩ := prs_pure r
    show (D.pures (pr p :: prs r)) = true ∧ D.deps (pr p :: prs r) ≤ 1
    unfold D.pures D.deps
    refine ⟨by rw [h1]; rfl, Nat.max_le.mpr ⟨?_, h2⟩⟩
    exact Nat.le_refl 1
theorem two_pure (fs rs : Fs) : D.pures [.tup (prs fs), .tup (prs rs)] = true ∧ D.deps [.tup (prs fs), .tup (prs rs)] ≤ 30 := by
  obtain ⟨h1, h2⟩ := prs_pure fs
  obtain ⟨h3, h4⟩ := prs_pure rs
  constructor
  · show (D.pure (.tup (prs fs)) && (D.pure (.tup (prs rs)) && true)) = true
    rw [show D.pure (.tup (prs fs)) = true by unfold D.pure; exact h1, show D.pure (.tup (prs rs)) = true by unfold D.pure; exact h3]
    rfl
  · refine deps_le fun d hd => ?_
    rcases List.mem_cons.mp hd with z | hd
    · rw [z]; unfold D.dep; omega
    · rw [List.mem_singleton.mp hd]; unfold D.dep; omega
def sLaw : List D → (R → Prop) → Prop := fun ds Rs => ∃ ns : List Int, ds = [.scr ns] ∧ ns.length ≤ 63 ∧ Rs = fun t => t = .p (.bl true)
section
variable {P : Program} {w : World} {K : PySem.W.Frag} {mg : Str → Option Value} {base : Heap}
theorem ok_law (T : Txt K mg) : FnOk P w K mg base CX0 43 T.a_law T.d_law ["script"] (Sp0 K sLaw) := by
  have G_law_same := ok_same (P := P) (w := w) (base := base) T 40
  have G_law_take := ok_take (P := P) (w := w) (base := base) T
  have G_law_start := ok_start (P := P) (w := w) (base := base) T
  have G_law_drawn := ok_drawn (P := P) (w := w) (base := base) T
  have G_law_counts := ok_counts (P := P) (w := w) (base := base) T
  have G_law_asked := ok_asked (P := P) (w := w) (base := base) T G_law_same
  have G_law_typed := ok_typed (P := P) (w := w) (base := base) T G_law_same
  have G_closed_terms := ok_closed (P := P) (w := w) (base := base) T
  have G_named_signature := ok_named (P := P) (w := w) (base := base) T
  have G_Signature___init__ := ok_init (P := P) (w := w) (base := base) T
  have hlen : ∀ ds Rs, sLaw ds Rs → ds.length = 1 := by rintro ds Rs ⟨ns, rfl, _⟩; rfl
  refine T.F_law.ok sc_law (Sp0.len hlen) (fun cdv A outer s H vs Q E hr h => ?_)
  have hl : vs.length = 1 := Sp0.len hlen _ _ _ _ h
  refine ⟨_, (pss_cons (ps_set (i := 1) sc_law.nd rfl (.inl rfl) (pe_call G_law_start (hr.mono (by omega)) (by rfl) T.g_law_start T.F_law_start.kp T.b_law_start .nil pass0 (pa_cons (pv 0) pa_nil)))
      (pss_cons (ps_asg (pe_call G_law_drawn (hr.mono (by omega)) (by rfl) T.g_law_drawn T.F_law_drawn.kp T.b_law_drawn .nil pass0 (pa_cons (pv 1) pa_nil)) (PG.k (t' := gUnl K 2 _) (pg_unl (n := 2) (by rfl) (pgs_cons (pg_name (i := 2) sc_law.nd rfl (.inl rfl)) (pgs_cons (pg_name (i := 3) sc_law.nd rfl (.inl rfl)) pgs_nil))) rfl))
      (pss_cons (ps_set (i := 4) sc_law.nd rfl (.inr rfl) (pe_make T.M_Signature G_Signature___init__ (hr.mono (by omega)) (by rfl) T.g_Signature T.b_Signature___init__ .nil pass0 (pa_cons (pv 2) (pa_cons (pv 3) pa_nil))))
      (pss_cons (ps_set (i := 5) sc_law.nd rfl (.inl rfl) (pe_call G_law_counts (hr.mono (by omega)) (by rfl) T.g_law_counts T.F_law_counts.kp T.b_law_counts .nil pass0 (pa_cons (pv 2) (pa_cons pe_int pa_nil))))
      (pss_cons (ps_if (PW.pt (pw_and (pt_cmpR (r := rEqU K) (op_eqU hr.units) (pe_ix (r := rIx K) ix_seq (pv 5) pe_int (fun _ _ => rfl)) pe_int (nomark _)) (pw_and1 (pt_not (pt_val (pe_call G_law_same (hr.mono (by omega)) (by rfl) T.g_law_same T.F_law_same.kp T.b_law_same .nil pass0 (pa_cons (pe_lc (own := [("k", 11)]) (by rfl) sc_law.nd (PI.k (t' := iSeq K _) (pi_seq (pe_tup (pa_cons pe_int (pa_cons pe_int (pa_cons pe_int pa_nil))))) rfl) (blkOk_by (own := [("k", 11)]) (N := ["script", "state", "functions", "relations", "signature", "counts", "named", "more", "taken", "most", "depth", "k", "name", "arity"]) (sc := defScope s_law) (by decide +kernel)) (fun _ _ _ _ _ => (pg_name (i := 11) sc_law.nd rfl (.inl rfl))) (fun _ _ _ _ _ => pts_nil) (fun _ _ _ _ _ => (pe_call G_closed_terms (hr.mono (by omega)) (by rfl) T.g_closed_terms T.F_closed_terms.kp T.b_closed_terms .nil pass0 (pa_cons (pv 4) (pa_cons (pv 11) pa_nil))))) (pa_cons (pe_lst (pa_cons (pe_lst pa_nil) (pa_cons (pe_lst pa_nil) (pa_cons (pe_lst pa_nil) pa_nil)))) pa_nil))))))))
        (pss_one (ps_ret pe_bl))
        pss_nil)
      (pss_cons (ps_set (i := 6) sc_law.nd rfl (.inl rfl) (pe_call G_named_signature (hr.mono (by omega)) (by rfl) T.g_named_signature T.F_named_signature.kp T.b_named_signature .nil pass0 (pa_cons (pv 4) pa_nil)))
      (pss_cons (ps_set (i := 7) sc_law.nd rfl (.inl rfl) (pe_callTy (r := rListU K) call_listU (by rfl) T.z_list (by decide +kernel) (pa_cons (pv 2) pa_nil)))
      (pss_cons (ps_if (pt_cmpR (r := rEqU K) (op_eqU hr.units) (pe_ix (r := rIx K) ix_seq (pv 5) pe_int (fun _ _ => rfl)) pe_int (nomark _))
        (pss_cons (ps_set (i := 8) sc_law.nd rfl (.inr rfl) (pe_lc (own := [("name", 12), ("arity", 13)]) (by rfl) sc_law.nd (PI.k (t' := iSeq K _) (pi_seq (pv 2)) rfl) (blkOk_by (own := [("name", 12), ("arity", 13)]) (N := ["script", "state", "functions", "relations", "signature", "counts", "named", "more", "taken", "most", "depth", "k", "name", "arity"]) (sc := defScope s_law) (by decide +kernel)) (fun _ _ _ _ _ => (PG.k (t' := gTup K 2 _) (pg_tup (n := 2) (by rfl) (pgs_cons (pg_name (i := 12) sc_law.nd rfl (.inl rfl)) (pgs_cons (pg_name (i := 13) sc_law.nd rfl (.inl rfl)) pgs_nil))) rfl)) (fun _ _ _ _ _ => pts_nil) (fun _ _ _ _ _ => (pv 12))))
        (pss_one (ps_expr (PE.k (t' := tBM K _ _ _ _) (pe_bm PySem.F.plainAttrs_list PySem.F.slot_list_append PySem.F.type_list_append mt_append (pv 7) (pa_cons (pe_tup (pa_cons (pe_ix (r := rIx K) ix_seq (pe_lc (own := [("name", 12)]) (by rfl) sc_law.nd (PI.k (t' := iSeq K _) (pi_seq (pe_lst (pa_cons pe_str (pa_cons pe_str (pa_cons pe_str (pa_cons pe_str (pa_cons pe_str pa_nil))))))) rfl) (blkOk_by (own := [("name", 12)]) (N := ["script", "state", "functions", "relations", "signature", "counts", "named", "more", "taken", "most", "depth", "k", "name", "arity"]) (sc := defScope s_law) (by decide +kernel)) (fun _ _ _ _ _ => (pg_name (i := 12) sc_law.nd rfl (.inl rfl))) (fun _ _ _ _ _ => (pts_one (pt_cmpR (r := rInU K true) (op_notInU (hu65 hr)) (pv 12) (pv 8) (by rfl)))) (fun _ _ _ _ _ => (pv 12))) pe_int (fun _ _ => rfl)) (pa_cons pe_int pa_nil))) pa_nil)) rfl))))
        pss_nil)
      (pss_cons (ps_if (pt_not (pt_val (pe_call G_law_same (hr.mono (by omega)) (by rfl) T.g_law_same T.F_law_same.kp T.b_law_same .nil pass0 (pa_cons (pe_lst (pa_cons (PE.k (t' := tFld K _ _) (pe_fld (pv 6) rfl) rfl) (pa_cons (PE.k (t' := tFld K _ _) (pe_fld (pv 6) rfl) rfl) pa_nil))) (pa_cons (pe_lst (pa_cons (pe_callTy (r := rTupU K) call_tupU (by rfl) T.z_tuple (by decide +kernel) (pa_cons (pv 7) pa_nil)) (pa_cons (pe_callTy (r := rTupU K) call_tupU (by rfl) T.z_tuple (by decide +kernel) (pa_cons (pv 3) pa_nil)) pa_nil))) pa_nil)))))
        (pss_one (ps_ret pe_bl))
        pss_nil)
      (pss_cons (ps_set (i := 5) sc_law.nd rfl (.inl rfl) (pe_call G_law_counts (hr.mono (by omega)) (by rfl) T.g_law_counts T.F_law_counts.kp T.b_law_counts .nil pass0 (pa_cons (pv 7) (pa_cons pe_int pa_nil))))
      (pss_cons (ps_set (i := 9) sc_law.nd rfl (.inl rfl) (pe_call G_law_take (hr.mono (by omega)) (by rfl) T.g_law_take T.F_law_take.kp T.b_law_take .nil pass0 (pa_cons (pv 1) (pa_cons (pe_callB (r := rLenU K) call_lenU (by rfl) T.z_len PySem.boot_len (pa_cons (pv 5) pa_nil)) pa_nil))))
      (pss_cons (ps_for PassesOwn.never (by rfl) (PI.k (t' := iSeq K _) (pi_seq (pe_op (r := rAddU K) op_addU (pe_listRg rfl (by rfl) T.z_list (prg_1 (by rfl) T.z_range (pe_op (r := rAddU K) op_addU (pv 9) pe_int))) (pe_lst (pa_cons (pv 9) (pa_cons pe_int pa_nil))))) rfl) (pg_name (i := 10) sc_law.nd rfl (.inl rfl))
        (pss_one (ps_if (pt_not (pt_val (pe_call G_law_asked (hr.mono (by omega)) (by rfl) T.g_law_asked T.F_law_asked.kp T.b_law_asked .nil pass0 (pa_cons (pv 6) (pa_cons (pv 7) (pa_cons (pv 5) (pa_cons (pv 10) pa_nil)))))))
          (pss_one (ps_ret pe_bl))
          pss_nil)))
      (pss_one (ps_ret (pe_call0 G_law_typed (hr.mono (by omega)) (by rfl) T.g_law_typed T.F_law_typed.kp T.b_law_typed .nil pass0))))))))))))))), fn0 (by rw [hl]; decide) h ?_⟩
  rintro ds Rs ⟨ns, rfl, hns, rfl⟩
  show S K _ [.p (.scr ns), .any, .any, .any, .any, .any, .any, .any, .any, .any, .any, .any, .any, .any] _
  repeat walk_at "v1"
  refine callP rfl ⟨ns, rfl, hns, rfl⟩ ?_
  rintro t ⟨s0, rfl, ok0⟩ _
  refine g_nameO ?_
  repeat walk_at "v1"
  refine call1P rfl rfl rfl ⟨s0, 10, rfl, ok0.mono (by decide), rfl⟩ ?_
  rintro t d' ⟨fs, rs, s1, rfl, hdr, rfl, ok1⟩ _
  refine g_unlO rfl (gs_cons (g_name (gs_cons (g_name (gs_nil ?_)))))
  obtain ⟨sgC, fokC⟩ := fsC_ok hdr
  have hl := hdr.sg.l
  rw [List.length_append] at hl
  have hpl : ∀ zs : Fs, (prs zs).length = zs.length := fun zs => by unfold prs; rw [List.length_map]
  have nf : (fs.map (·.1)).Nodup := by have nn := hdr.sg.n; rw [List.map_append] at nn; exact (List.nodup_append.mp nn).1
  have fok : FsOk fs := ⟨fun p hp => ⟨hdr.st p hp, (hdr.sg.f p hp).2⟩, nf, by omega⟩
  show S K _ [.p (.scr ns), .o (LS.d s1), .p (.lst (prs fs)), .p (.lst (prs rs)), .any, .any, .any, .any, .any, .any, .any, .any, .any, .any] _
  repeat walk_at "v1"
  refine x_make ?_
  repeat walk_at "v1"
  refine makeP rfl ⟨_, _, fs, rs, rfl, .inl rfl, .inl rfl, hdr.sg, rfl⟩ fun r d' q => ⟨q.1, ?_⟩
  obtain ⟨_, q2⟩ := q
  subst q2
  refine g_nameF ?_
  repeat walk_at "v1"
  refine callP rfl ⟨fs, rfl, fok, rfl⟩ ?_
  rintro t ⟨cs, rfl, hco⟩ _
  refine g_nameF ?_
  show S K _ [.p (.scr ns), .o (LS.d s1), .p (.lst (prs fs)), .p (.lst (prs rs)), .p (sigD T.a_Signature fs rs), .p (.lst (nats cs)), .any, .any, .any, .any, .any, .any, .any, .any] _
  have hc0 := nats_at hco.z
  refine s_cut (fun ρ => ∃ x11, x11.owns = false ∧ ρ = [.p (.scr ns), .o (LS.d s1), .p (.lst (prs fs)), .p (.lst (prs rs)), .p (sigD T.a_Signature fs rs), .p (.lst (nats cs)), .any, .any, .any, .any, .any, x11, .any, .any]) ?_ ?_
  · repeat walk_at "v1"
    refine o_ixL rdl_p hc0 ?_
    repeat walk_at "v1"
    refine ite_d (fun hz => ?_) (fun hz => ?_)
    · have hc : consts fs = [] := List.eq_nil_of_length_eq_zero (by omega)
      repeat walk_at "v1"
      refine x_lcm ?_
      repeat walk_at "v1"
      refine ⟨rfl, by decide, fun _ => .lst [], fun d hd => ?_, ?_⟩
      · have hm : ∃ m : Nat, d = .int (m : Int) ∧ m ≤ 8 := by
          rcases List.mem_cons.mp hd with z | hd
          · exact ⟨0, z, by decide⟩
          rcases List.mem_cons.mp hd with z | hd
          · exact ⟨2, z, by decide⟩
          rcases List.mem_cons.mp hd with z | hd
          · exact ⟨8, z, by decide⟩
          cases hd
        obtain ⟨m, rfl, hm8⟩ := hm
        have hnil := closed_none fok.f hc
        have clm : ClOk fs m := ⟨fok.f, hm8, fun k _ => by rw [hnil]; exact Nat.zero_le _, fun k _ => by rw [hnil, show ([] : List D).length = 0 from rfl, cnt_zero hc]; exact Nat.zero_le _⟩
        refine gc_name (by decide) ?_
        repeat walk_at "v1"
        refine callP rfl ⟨fs, rs, fs ++ rs, m, rfl, fok.l, clm, rfl⟩ fun t ht _ => ?_
        subst ht
        rw [hnil]
        exact ⟨rfl, rfl⟩
      repeat walk_at "v1"
      refine callP rfl (same_ok (l := [.lst [], .lst [], .lst []]) (by rfl) (by decide)) fun t ht _ => ?_
      subst ht
      refine ⟨_, rfl, ?_⟩
      refine ite_f ?_
      exact s_next ⟨_, rfl, rfl⟩
    · refine ite_f ?_
      exact s_next ⟨_, rfl, rfl⟩
  rintro ρ ⟨x11, n11, rfl⟩
  refine s_cut (fun ρ => ρ = [.p (.scr ns), .o (LS.d s1), .p (.lst (prs fs)), .p (.lst (prs rs)), .p (sigD T.a_Signature fs rs), .p (.lst (nats cs)), .p (sigD T.a_Signature (fsC fs) rs), .any, .any, .any, .any, x11, .any, .any]) ?_ ?_
  · repeat walk_at "v1"
    refine callP rfl ⟨fs, rs, rfl, hdr.c1, hdr.sg, fun hc => ?_, rfl⟩ fun t ht _ => ?_
    · have := sgC
      unfold fsC at this
      rw [if_pos hc] at this
      exact this
    unfold fsC
    have ht : if consts fs = [] then t = .o (sigD T.a_Signature (fs ++ [nmc1]) rs) else t = .p (sigD T.a_Signature fs rs) := ht
    by_cases hc : consts fs = []
    · rw [if_pos hc] at ht ⊢
      subst ht
      exact g_nameF rfl
    · rw [if_neg hc] at ht ⊢
      subst ht
      exact g_name rfl
  rintro ρ rfl
  refine s_seq ?_
  repeat walk_at "v1"
  refine oa_listL rdl_p ?_
  refine g_nameO ?_
  show S K _ [.p (.scr ns), .o (LS.d s1), .p (.lst (prs fs)), .p (.lst (prs rs)), .p (sigD T.a_Signature fs rs), .p (.lst (nats cs)), .p (sigD T.a_Signature (fsC fs) rs), .o (.lst (prs fs)), .any, .any, .any, x11, .any, .any] _
  refine s_cut (fun ρ => ∃ x8 x12 x13, x8.owns = false ∧ x12.owns = false ∧ x13.owns = false ∧ ρ = [.p (.scr ns), .o (LS.d s1), .p (.lst (prs fs)), .p (.lst (prs rs)), .p (sigD T.a_Signature fs rs), .p (.lst (nats cs)), .p (sigD T.a_Signature (fsC fs) rs), .o (.lst (prs (fsC fs))), x8, .any, .any, x11, x12, x13]) ?_ ?_
  · repeat walk_at "v1"
    refine o_ixL rdl_p hc0 ?_
    repeat walk_at "v1"
    refine ite_d (fun hz => ?_) (fun hz => ?_)
    · have hc : consts fs = [] := List.eq_nil_of_length_eq_zero (by omega)
      have hno : ("c1" : Str) ∉ fs.map (·.1) := fun z => hdr.c1 hc (by rw [List.map_append]; exact List.mem_append.mpr (.inl z))
      have efs : fsC fs = fs ++ [nmc1] := by unfold fsC; rw [if_pos hc]
      rw [efs]
      repeat walk_at "v1"
      refine x_lcm (i_seq (e_var rfl ⟨_, rfl, rfl, by rw [hpl]; show _ ≤ 16777216; omega, fun d => (match d with | .tup [x, _] => x | _ => .non), fun d hd => ?_, ?_⟩))
      · obtain ⟨p, hp, rfl⟩ := List.mem_map.mp hd
        refine gc_tup rfl (gcs_cons (gc_name (by decide) (gcs_cons (gc_name (by decide) (gcs_nil ?_)))))
        repeat walk_at "v1"
        exact ⟨rfl, rfl⟩
      have hm : ((prs fs).map fun d => (match d with | .tup [x, _] => x | _ => D.non)) = (fs.map (·.1)).map D.str := by
        unfold prs
        rw [List.map_map, List.map_map]
        rfl
      rw [hm]
      refine g_nameF ?_
      repeat walk_at "v1"
      refine x_lcf ?_
      repeat walk_at "v1"
      refine ⟨rfl, by decide, fun d => (match d with | .str s => !decide (s ∈ fs.map (·.1)) | _ => false), fun d => d, fun d hd => ?_, ?_⟩
      · have hs : ∃ s : Str, d = .str s := by
          rcases List.mem_cons.mp hd with z | hd
          · exact ⟨_, z⟩
          rcases List.mem_cons.mp hd with z | hd
          · exact ⟨_, z⟩
          rcases List.mem_cons.mp hd with z | hd
          · exact ⟨_, z⟩
          rcases List.mem_cons.mp hd with z | hd
          · exact ⟨_, z⟩
          rcases List.mem_cons.mp hd with z | hd
          · exact ⟨_, z⟩
          cases hd
        obtain ⟨s, rfl⟩ := hs
        refine gc_name (by decide) ?_
        repeat walk_at "v1"
        refine ⟨rfl, ite_b (fun _ => ?_) (fun _ => rfl)⟩
        repeat walk_at "v1"
        exact ⟨rfl, rfl⟩
      rw [List.map_id', List.filter_cons_of_pos (by show (!decide (("c1" : Str) ∈ fs.map (·.1))) = true; rw [decide_eq_false hno]; rfl)]
      repeat walk_at "v1"
      refine o_ixL rdl_p (d := .str "c1") (by rw [atI_pos (Int.le_refl _)]; rfl) ?_
      repeat walk_at "v1"
      refine om_append rfl rfl rfl (by rw [hpl]; show _ < 16777216; omega) ?_
      refine ⟨.p (.lst ((fs.map (·.1)).map D.str)), .any, .any, rfl, rfl, rfl, ?_⟩
      have ep : prs (fs ++ [nmc1]) = prs fs ++ [.tup [.str "c1", .int 0]] := by rw [← prs_app]; rfl
      rw [ep]
      rfl
    · have efs : fsC fs = fs := by unfold fsC; rw [if_neg (fun z => hz (by rw [z]; rfl))]
      rw [efs]
      repeat walk_at "v1"
      exact ⟨_, _, _, rfl, rfl, rfl, rfl⟩
  rintro ρ ⟨x8, x12, x13, n8, n12, n13, rfl⟩
  generalize hfe : fsC fs = gs at *
  refine s_fz (i := 7) rfl ?_
  show S K _ [.p (.scr ns), .o (LS.d s1), .p (.lst (prs fs)), .p (.lst (prs rs)), .p (sigD T.a_Signature fs rs), .p (.lst (nats cs)), .p (sigD T.a_Signature gs rs), .p (.lst (prs gs)), x8, .any, .any, x11, x12, x13] _
  repeat walk_at "v1"
  refine e_fld (e_var rfl (fldP T.cl_Signature T.n_functions rfl ?_))
  refine a_cons (e_fld (e_var rfl (fldP T.cl_Signature T.n_relations rfl ?_)))
  repeat walk_at "v1"
  refine oa_tupL rdl_p ?_
  repeat walk_at "v1"
  refine oa_tupL rdl_p ?_
  repeat walk_at "v1"
  refine callP rfl (same_ok (two_pure gs rs).1 (two_pure gs rs).2) fun t ht _ => ?_
  subst ht
  refine ⟨_, rfl, ?_⟩
  refine ite_f ?_
  refine s_next ?_
  show S K _ [.p (.scr ns), .o (LS.d s1), .p (.lst (prs fs)), .p (.lst (prs rs)), .p (sigD T.a_Signature fs rs), .p (.lst (nats cs)), .p (sigD T.a_Signature gs rs), .p (.lst (prs gs)), x8, .any, .any, x11, x12, x13] _
  repeat walk_at "v1"
  refine callP rfl ⟨gs, rfl, fokC, rfl⟩ ?_
  rintro t ⟨cg, rfl, hcg⟩ _
  refine g_nameF ?_
  have hgl : (nats cg).length = cg.length := by unfold nats; rw [List.length_map]
  have hg9 := hcg.s
  show S K _ [.p (.scr ns), .o (LS.d s1), .p (.lst (prs fs)), .p (.lst (prs rs)), .p (sigD T.a_Signature fs rs), .p (.lst (nats cg)), .p (sigD T.a_Signature gs rs), .p (.lst (prs gs)), x8, .any, .any, x11, x12, x13] _
  repeat walk_at "v1"
  refine call1P rfl rfl rfl ⟨s1, 9, _, rfl, ok1, by rw [hgl]; omega, rfl⟩ ?_
  rintro t d' ⟨r, s2, rfl, r0, r1, rfl, ok2⟩ _
  obtain ⟨m, rfl⟩ : ∃ m : Nat, r = m := ⟨r.toNat, by omega⟩
  have hm : m < cg.length := by omega
  refine g_name ?_
  show S K _ [.p (.scr ns), .o (LS.d s2), .p (.lst (prs fs)), .p (.lst (prs rs)), .p (sigD T.a_Signature fs rs), .p (.lst (nats cg)), .p (sigD T.a_Signature gs rs), .p (.lst (prs gs)), x8, .p (.int m), .any, x11, x12, x13] _
  have hrl : (rngD 0 (m + 1)).length = m + 1 := rngD_len
  refine s_seq (s_for (i_seq (e_op (e_listRg (e_op (e_var rfl (e_int (o_addI ⟨m + 1, rfl, by omega, ?_⟩))))))))
  repeat walk_at "v1"
  refine o_addL rdl_p rdl_p (by rw [hrl]; show m + 1 + 2 ≤ 16777216; omega) ?_
  refine ⟨_, rfl, fun i ρ => ∃ x10, ρ = [.p (.scr ns), .o (LS.d s2), .p (.lst (prs fs)), .p (.lst (prs rs)), .p (sigD T.a_Signature fs rs), .p (.lst (nats cg)), .p (sigD T.a_Signature gs rs), .p (.lst (prs gs)), x8, .p (.int m), x10, x11, x12, x13], ⟨_, rfl⟩, ?_, ?_⟩
  · rintro i d ρ hd ⟨x10, rfl⟩
    have hdm : ∃ k : Nat, d = .int (k : Int) ∧ k ≤ m := by
      rcases List.mem_append.mp (List.mem_of_getElem? hd) with z | z
      · obtain ⟨k, hk, rfl⟩ := rngD_mem z
        exact ⟨k, by rw [Int.zero_add], by omega⟩
      rcases List.mem_cons.mp z with z | z
      · exact ⟨m, z, Nat.le_refl _⟩
      · exact ⟨0, List.mem_singleton.mp z, Nat.zero_le _⟩
    obtain ⟨k, rfl, hk⟩ := hdm
    refine g_name ?_
    show S K _ [.p (.scr ns), .o (LS.d s2), .p (.lst (prs fs)), .p (.lst (prs rs)), .p (sigD T.a_Signature fs rs), .p (.lst (nats cg)), .p (sigD T.a_Signature gs rs), .p (.lst (prs gs)), x8, .p (.int m), .p (.int k), x11, x12, x13] _
    repeat walk_at "v1"
    refine callP rfl ⟨gs, rs, gs ++ rs, cg, k, rfl, fokC, hcg, by omega, rfl⟩ fun t ht _ => ?_
    subst ht
    refine ⟨_, rfl, ?_⟩
    refine ite_f ?_
    exact s_next ⟨_, rfl⟩
  rintro ρ ⟨x10, rfl⟩
  repeat walk_at "v1"
  refine callP rfl ⟨rfl, rfl⟩ fun t ht _ => ?_
  subst ht
  exact ⟨trivial, rfl⟩
end
end K57
namespace K57
open PySem PySem.Spec PyProof.Rows L2 VL

theorem all_mk {l : PySem.W.OpenLaw} {w : World} {K : PySem.W.Frag} {h : Heap} {mg : Str → Option Value} {fa C aR : Addr} {f_law_start f_law_take f_law_same f_has_name_signs f_is_small_name f_is_capital_name f_fresh_name f_named_signature f_rows_of f_closed_terms f_Signature___init__ f_Signature_constants f_Signature_extended f_law_drawn f_law_count f_law_counts f_law_deep f_law_rows f_law_listed f_law_asked f_law_typed f_law : Addr} (X : K.In h) (G : h.Ns mainGlobals mg) (hfa : mg "law" = some (.ref fa))
    {od_law_start an_law_start od_law_take an_law_take od_law_same an_law_same od_has_name_signs an_has_name_signs od_is_small_name an_is_small_name od_is_capital_name an_is_capital_name od_fresh_name an_fresh_name od_named_signature an_named_signature od_rows_of an_rows_of od_closed_terms an_closed_terms od_Signature___init__ an_Signature___init__ od_Signature_constants an_Signature_constants od_Signature_extended an_Signature_extended od_law_drawn an_law_drawn od_law_count an_law_count od_law_counts an_law_counts od_law_deep an_law_deep od_law_rows an_law_rows od_law_listed an_law_listed od_law_asked an_law_asked od_law_typed an_law_typed od_law an_law odR : Option Addr} {sl_law_start sl_law_take sl_law_same sl_has_name_signs sl_is_small_name sl_is_capital_name sl_fresh_name sl_named_signature sl_rows_of sl_closed_terms sl_Signature___init__ sl_Signature_constants sl_Signature_extended sl_law_drawn sl_law_count sl_law_counts sl_law_deep sl_law_rows sl_law_listed sl_law_asked sl_law_typed sl_law slR : Array (Option Value)} {uu_SMALL uu_CAPITAL uu_DIGITS uu_LONGEST uu_MOST_ARGUMENTS : Value} {oc_law_start kV_law_start dc_law_start pm_law_start cd_law_start ct_law_start oc_law_take kV_law_take dc_law_take pm_law_take cd_law_take ct_law_take oc_law_same kV_law_same dc_law_same pm_law_same cd_law_same ct_law_same oc_has_name_signs kV_has_name_signs dc_has_name_signs pm_has_name_signs cd_has_name_signs ct_has_name_signs oc_is_small_name kV_is_small_name dc_is_small_name pm_is_small_name cd_is_small_name ct_is_small_name oc_is_capital_name kV_is_capital_name dc_is_capital_name pm_is_capital_name cd_is_capital_name ct_is_capital_name oc_fresh_name kV_fresh_name dc_fresh_name pm_fresh_name cd_fresh_name ct_fresh_name oc_named_signature kV_named_signature dc_named_signature pm_named_signature cd_named_signature ct_named_signature oc_rows_of kV_rows_of dc_rows_of pm_rows_of cd_rows_of ct_rows_of oc_closed_terms kV_closed_terms dc_closed_terms pm_closed_terms cd_closed_terms ct_closed_terms oc_Signature___init__ kV_Signature___init__ dc_Signature___init__ pm_Signature___init__ cd_Signature___init__ ct_Signature___init__ oc_Signature_constants kV_Signature_constants dc_Signature_constants pm_Signature_constants cd_Signature_constants ct_Signature_constants oc_Signature_extended kV_Signature_extended dc_Signature_extended pm_Signature_extended cd_Signature_extended ct_Signature_extended oc_law_drawn kV_law_drawn dc_law_drawn pm_law_drawn cd_law_drawn ct_law_drawn oc_law_count kV_law_count dc_law_count pm_law_count cd_law_count ct_law_count oc_law_counts kV_law_counts dc_law_counts pm_law_counts cd_law_counts ct_law_counts oc_law_deep kV_law_deep dc_law_deep pm_law_deep cd_law_deep ct_law_deep oc_law_rows kV_law_rows dc_law_rows pm_law_rows cd_law_rows ct_law_rows oc_law_listed kV_law_listed dc_law_listed pm_law_listed cd_law_listed ct_law_listed oc_law_asked kV_law_asked dc_law_asked pm_law_asked cd_law_asked ct_law_asked oc_law_typed kV_law_typed dc_law_typed pm_law_typed cd_law_typed ct_law_typed oc_law kV_law dc_law pm_law cd_law ct_law ocR : Value} {itsR : Array Value} {nR : Nat}
    (aC : PySem.W.nsIn K mainGlobals "Signature" = some (some (.ref C)))
    (a_law_start : PySem.W.nsIn K mainGlobals "_law_start" = some (some (.ref f_law_start)))
    (l_law_start : K.lookup f_law_start = some ⟨oc_law_start, od_law_start, .func (PySem.W.fnOf "_law_start" "_law_start" (defArgs s_law_start) (defBody s_law_start) (defScope s_law_start) .none kV_law_start dc_law_start pm_law_start an_law_start cd_law_start ct_law_start), sl_law_start⟩)
    (c_law_start : PySem.W.codeIn K cd_law_start "_law_start" = true)
    (k_law_start : PySem.W.keepIn K (.ref f_law_start) = true)
    (a_law_take : PySem.W.nsIn K mainGlobals "_law_take" = some (some (.ref f_law_take)))
    (l_law_take : K.lookup f_law_take = some ⟨oc_law_take, od_law_take, .func (PySem.W.fnOf "_law_take" "_law_take" (defArgs s_law_take) (defBody s_law_take) (defScope s_law_take) .none kV_law_take dc_law_take pm_law_take an_law_take cd_law_take ct_law_take), sl_law_take⟩)
    (c_law_take : PySem.W.codeIn K cd_law_take "_law_take" = true)
    (k_law_take : PySem.W.keepIn K (.ref f_law_take) = true)
    (a_law_same : PySem.W.nsIn K mainGlobals "_law_same" = some (some (.ref f_law_same)))
    (l_law_same : K.lookup f_law_same = some ⟨oc_law_same, od_law_same, .func (PySem.W.fnOf "_law_same" "_law_same" (defArgs s_law_same) (defBody s_law_same) (defScope s_law_same) .none kV_law_same dc_law_same pm_law_same an_law_same cd_law_same ct_law_same), sl_law_same⟩)
    (c_law_same : PySem.W.codeIn K cd_law_same "_law_same" = true)
    (k_law_same : PySem.W.keepIn K (.ref f_law_same) = true)
    (a_has_name_signs : PySem.W.nsIn K mainGlobals "has_name_signs" = some (some (.ref f_has_name_signs)))
    (l_has_name_signs : K.lookup f_has_name_signs = some ⟨oc_has_name_signs, od_has_name_signs, .func (PySem.W.fnOf "has_name_signs" "has_name_signs" (defArgs s_has_name_signs) (defBody s_has_name_signs) (defScope s_has_name_signs) .none kV_has_name_signs dc_has_name_signs pm_has_name_signs an_has_name_signs cd_has_name_signs ct_has_name_signs), sl_has_name_signs⟩)
    (c_has_name_signs : PySem.W.codeIn K cd_has_name_signs "has_name_signs" = true)
    (k_has_name_signs : PySem.W.keepIn K (.ref f_has_name_signs) = true)
    (a_is_small_name : PySem.W.nsIn K mainGlobals "is_small_name" = some (some (.ref f_is_small_name)))
    (l_is_small_name : K.lookup f_is_small_name = some ⟨oc_is_small_name, od_is_small_name, .func (PySem.W.fnOf "is_small_name" "is_small_name" (defArgs s_is_small_name) (defBody s_is_small_name) (defScope s_is_small_name) .none kV_is_small_name dc_is_small_name pm_is_small_name an_is_small_name cd_is_small_name ct_is_small_name), sl_is_small_name⟩)
    (c_is_small_name : PySem.W.codeIn K cd_is_small_name "is_small_name" = true)
    (k_is_small_name : PySem.W.keepIn K (.ref f_is_small_name) = true)
    (a_is_capital_name : PySem.W.nsIn K mainGlobals "is_capital_name" = some (some (.ref f_is_capital_name)))
    (l_is_capital_name : K.lookup f_is_capital_name = some ⟨oc_is_capital_name, od_is_capital_name, .func (PySem.W.fnOf "is_capital_name" "is_capital_name" (defArgs s_is_capital_name) (defBody s_is_capital_name) (defScope s_is_capital_name) .none kV_is_capital_name dc_is_capital_name pm_is_capital_name an_is_capital_name cd_is_capital_name ct_is_capital_name), sl_is_capital_name⟩)
    (c_is_capital_name : PySem.W.codeIn K cd_is_capital_name "is_capital_name" = true)
    (k_is_capital_name : PySem.W.keepIn K (.ref f_is_capital_name) = true)
    (a_fresh_name : PySem.W.nsIn K mainGlobals "fresh_name" = some (some (.ref f_fresh_name)))
    (l_fresh_name : K.lookup f_fresh_name = some ⟨oc_fresh_name, od_fresh_name, .func (PySem.W.fnOf "fresh_name" "fresh_name" (defArgs s_fresh_name) (defBody s_fresh_name) (defScope s_fresh_name) .none kV_fresh_name dc_fresh_name pm_fresh_name an_fresh_name cd_fresh_name ct_fresh_name), sl_fresh_name⟩)
    (c_fresh_name : PySem.W.codeIn K cd_fresh_name "fresh_name" = true)
    (k_fresh_name : PySem.W.keepIn K (.ref f_fresh_name) = true)
    (a_named_signature : PySem.W.nsIn K mainGlobals "named_signature" = some (some (.ref f_named_signature)))
    (l_named_signature : K.lookup f_named_signature = some ⟨oc_named_signature, od_named_signature, .func (PySem.W.fnOf "named_signature" "named_signature" (defArgs s_named_signature) (defBody s_named_signature) (defScope s_named_signature) .none kV_named_signature dc_named_signature pm_named_signature an_named_signature cd_named_signature ct_named_signature), sl_named_signature⟩)
    (c_named_signature : PySem.W.codeIn K cd_named_signature "named_signature" = true)
    (k_named_signature : PySem.W.keepIn K (.ref f_named_signature) = true)
    (a_rows_of : PySem.W.nsIn K mainGlobals "rows_of" = some (some (.ref f_rows_of)))
    (l_rows_of : K.lookup f_rows_of = some ⟨oc_rows_of, od_rows_of, .func (PySem.W.fnOf "rows_of" "rows_of" (defArgs s_rows_of) (defBody s_rows_of) (defScope s_rows_of) .none kV_rows_of dc_rows_of pm_rows_of an_rows_of cd_rows_of ct_rows_of), sl_rows_of⟩)
    (c_rows_of : PySem.W.codeIn K cd_rows_of "rows_of" = true)
    (k_rows_of : PySem.W.keepIn K (.ref f_rows_of) = true)
    (a_closed_terms : PySem.W.nsIn K mainGlobals "closed_terms" = some (some (.ref f_closed_terms)))
    (l_closed_terms : K.lookup f_closed_terms = some ⟨oc_closed_terms, od_closed_terms, .func (PySem.W.fnOf "closed_terms" "closed_terms" (defArgs s_closed_terms) (defBody s_closed_terms) (defScope s_closed_terms) .none kV_closed_terms dc_closed_terms pm_closed_terms an_closed_terms cd_closed_terms ct_closed_terms), sl_closed_terms⟩)
    (c_closed_terms : PySem.W.codeIn K cd_closed_terms "closed_terms" = true)
    (k_closed_terms : PySem.W.keepIn K (.ref f_closed_terms) = true)
    (a_Signature___init__ : PySem.W.findIn K (.ref C) "__init__" = some (some (.ref f_Signature___init__)))
    (i_Signature___init__ : PySem.W.isFn K (.ref f_Signature___init__) = true)
    (l_Signature___init__ : K.lookup f_Signature___init__ = some ⟨oc_Signature___init__, od_Signature___init__, .func (PySem.W.fnOf "__init__" "Signature.__init__" (defArgs s_Signature___init__) (defBody s_Signature___init__) (defScope s_Signature___init__) .none kV_Signature___init__ dc_Signature___init__ pm_Signature___init__ an_Signature___init__ cd_Signature___init__ ct_Signature___init__), sl_Signature___init__⟩)
    (c_Signature___init__ : PySem.W.codeIn K cd_Signature___init__ "Signature.__init__" = true)
    (k_Signature___init__ : PySem.W.keepIn K (.ref f_Signature___init__) = true)
    (a_Signature_constants : PySem.W.findIn K (.ref C) "constants" = some (some (.ref f_Signature_constants)))
    (i_Signature_constants : PySem.W.isFn K (.ref f_Signature_constants) = true)
    (l_Signature_constants : K.lookup f_Signature_constants = some ⟨oc_Signature_constants, od_Signature_constants, .func (PySem.W.fnOf "constants" "Signature.constants" (defArgs s_Signature_constants) (defBody s_Signature_constants) (defScope s_Signature_constants) .none kV_Signature_constants dc_Signature_constants pm_Signature_constants an_Signature_constants cd_Signature_constants ct_Signature_constants), sl_Signature_constants⟩)
    (c_Signature_constants : PySem.W.codeIn K cd_Signature_constants "Signature.constants" = true)
    (k_Signature_constants : PySem.W.keepIn K (.ref f_Signature_constants) = true)
    (a_Signature_extended : PySem.W.findIn K (.ref C) "extended" = some (some (.ref f_Signature_extended)))
    (i_Signature_extended : PySem.W.isFn K (.ref f_Signature_extended) = true)
    (l_Signature_extended : K.lookup f_Signature_extended = some ⟨oc_Signature_extended, od_Signature_extended, .func (PySem.W.fnOf "extended" "Signature.extended" (defArgs s_Signature_extended) (defBody s_Signature_extended) (defScope s_Signature_extended) .none kV_Signature_extended dc_Signature_extended pm_Signature_extended an_Signature_extended cd_Signature_extended ct_Signature_extended), sl_Signature_extended⟩)
    (c_Signature_extended : PySem.W.codeIn K cd_Signature_extended "Signature.extended" = true)
    (k_Signature_extended : PySem.W.keepIn K (.ref f_Signature_extended) = true)
    (a_law_drawn : PySem.W.nsIn K mainGlobals "_law_drawn" = some (some (.ref f_law_drawn)))
    (l_law_drawn : K.lookup f_law_drawn = some ⟨oc_law_drawn, od_law_drawn, .func (PySem.W.fnOf "_law_drawn" "_law_drawn" (defArgs s_law_drawn) (defBody s_law_drawn) (defScope s_law_drawn) .none kV_law_drawn dc_law_drawn pm_law_drawn an_law_drawn cd_law_drawn ct_law_drawn), sl_law_drawn⟩)
    (c_law_drawn : PySem.W.codeIn K cd_law_drawn "_law_drawn" = true)
    (k_law_drawn : PySem.W.keepIn K (.ref f_law_drawn) = true)
    (a_law_count : PySem.W.nsIn K mainGlobals "_law_count" = some (some (.ref f_law_count)))
    (l_law_count : K.lookup f_law_count = some ⟨oc_law_count, od_law_count, .func (PySem.W.fnOf "_law_count" "_law_count" (defArgs s_law_count) (defBody s_law_count) (defScope s_law_count) .none kV_law_count dc_law_count pm_law_count an_law_count cd_law_count ct_law_count), sl_law_count⟩)
    (c_law_count : PySem.W.codeIn K cd_law_count "_law_count" = true)
    (k_law_count : PySem.W.keepIn K (.ref f_law_count) = true)
    (a_law_counts : PySem.W.nsIn K mainGlobals "_law_counts" = some (some (.ref f_law_counts)))
    (l_law_counts : K.lookup f_law_counts = some ⟨oc_law_counts, od_law_counts, .func (PySem.W.fnOf "_law_counts" "_law_counts" (defArgs s_law_counts) (defBody s_law_counts) (defScope s_law_counts) .none kV_law_counts dc_law_counts pm_law_counts an_law_counts cd_law_counts ct_law_counts), sl_law_counts⟩)
    (c_law_counts : PySem.W.codeIn K cd_law_counts "_law_counts" = true)
    (k_law_counts : PySem.W.keepIn K (.ref f_law_counts) = true)
    (a_law_deep : PySem.W.nsIn K mainGlobals "_law_deep" = some (some (.ref f_law_deep)))
    (l_law_deep : K.lookup f_law_deep = some ⟨oc_law_deep, od_law_deep, .func (PySem.W.fnOf "_law_deep" "_law_deep" (defArgs s_law_deep) (defBody s_law_deep) (defScope s_law_deep) .none kV_law_deep dc_law_deep pm_law_deep an_law_deep cd_law_deep ct_law_deep), sl_law_deep⟩)
    (c_law_deep : PySem.W.codeIn K cd_law_deep "_law_deep" = true)
    (k_law_deep : PySem.W.keepIn K (.ref f_law_deep) = true)
    (a_law_rows : PySem.W.nsIn K mainGlobals "_law_rows" = some (some (.ref f_law_rows)))
    (l_law_rows : K.lookup f_law_rows = some ⟨oc_law_rows, od_law_rows, .func (PySem.W.fnOf "_law_rows" "_law_rows" (defArgs s_law_rows) (defBody s_law_rows) (defScope s_law_rows) .none kV_law_rows dc_law_rows pm_law_rows an_law_rows cd_law_rows ct_law_rows), sl_law_rows⟩)
    (c_law_rows : PySem.W.codeIn K cd_law_rows "_law_rows" = true)
    (k_law_rows : PySem.W.keepIn K (.ref f_law_rows) = true)
    (a_law_listed : PySem.W.nsIn K mainGlobals "_law_listed" = some (some (.ref f_law_listed)))
    (l_law_listed : K.lookup f_law_listed = some ⟨oc_law_listed, od_law_listed, .func (PySem.W.fnOf "_law_listed" "_law_listed" (defArgs s_law_listed) (defBody s_law_listed) (defScope s_law_listed) .none kV_law_listed dc_law_listed pm_law_listed an_law_listed cd_law_listed ct_law_listed), sl_law_listed⟩)
    (c_law_listed : PySem.W.codeIn K cd_law_listed "_law_listed" = true)
    (k_law_listed : PySem.W.keepIn K (.ref f_law_listed) = true)
    (a_law_asked : PySem.W.nsIn K mainGlobals "_law_asked" = some (some (.ref f_law_asked)))
    (l_law_asked : K.lookup f_law_asked = some ⟨oc_law_asked, od_law_asked, .func (PySem.W.fnOf "_law_asked" "_law_asked" (defArgs s_law_asked) (defBody s_law_asked) (defScope s_law_asked) .none kV_law_asked dc_law_asked pm_law_asked an_law_asked cd_law_asked ct_law_asked), sl_law_asked⟩)
    (c_law_asked : PySem.W.codeIn K cd_law_asked "_law_asked" = true)
    (k_law_asked : PySem.W.keepIn K (.ref f_law_asked) = true)
    (a_law_typed : PySem.W.nsIn K mainGlobals "_law_typed" = some (some (.ref f_law_typed)))
    (l_law_typed : K.lookup f_law_typed = some ⟨oc_law_typed, od_law_typed, .func (PySem.W.fnOf "_law_typed" "_law_typed" (defArgs s_law_typed) (defBody s_law_typed) (defScope s_law_typed) .none kV_law_typed dc_law_typed pm_law_typed an_law_typed cd_law_typed ct_law_typed), sl_law_typed⟩)
    (c_law_typed : PySem.W.codeIn K cd_law_typed "_law_typed" = true)
    (k_law_typed : PySem.W.keepIn K (.ref f_law_typed) = true)
    (a_law : PySem.W.nsIn K mainGlobals "law" = some (some (.ref f_law)))
    (l_law : K.lookup f_law = some ⟨oc_law, od_law, .func (PySem.W.fnOf "law" "law" (defArgs s_law) (defBody s_law) (defScope s_law) .none kV_law dc_law pm_law an_law cd_law ct_law), sl_law⟩)
    (c_law : PySem.W.codeIn K cd_law "law" = true)
    (k_law : PySem.W.keepIn K (.ref f_law) = true)
    (pg : PySem.W.plainGet K C Str.empty = true)
    (hd : PySem.W.hasDictIn K C = true)
    (po : PySem.W.plainOver K C = true)
    (sa : PySem.W.findIn K (.ref C) "__setattr__" = some (some (.builtin "object.__setattr__")))
    (mk : PySem.W.makesIn K C = true)
    (kc : PySem.W.keepIn K (.ref C) = true)
    (n_functions : PySem.W.findIn K (.ref C) "functions" = some none)
    (n_relations : PySem.W.findIn K (.ref C) "relations" = some none)
    (n_table : PySem.W.findIn K (.ref C) "table" = some none)
    (u_SMALL : PySem.W.nsIn K mainGlobals "SMALL" = some (some uu_SMALL))
    (u_CAPITAL : PySem.W.nsIn K mainGlobals "CAPITAL" = some (some uu_CAPITAL))
    (u_DIGITS : PySem.W.nsIn K mainGlobals "DIGITS" = some (some uu_DIGITS))
    (u_LONGEST : PySem.W.nsIn K mainGlobals "LONGEST" = some (some uu_LONGEST))
    (u_MOST_ARGUMENTS : PySem.W.nsIn K mainGlobals "MOST_ARGUMENTS" = some (some uu_MOST_ARGUMENTS))
    (u_RESERVED : PySem.W.nsIn K mainGlobals "RESERVED" = some (some (.ref aR)))
    (lR : K.lookup aR = some ⟨ocR, odR, .seq itsR nR, slR⟩)
    (z_abs : PySem.W.nsIn K mainGlobals "abs" = some none)
    (z_all : PySem.W.nsIn K mainGlobals "all" = some none)
    (z_any : PySem.W.nsIn K mainGlobals "any" = some none)
    (z_bool : PySem.W.nsIn K mainGlobals "bool" = some none)
    (z_dict : PySem.W.nsIn K mainGlobals "dict" = some none)
    (z_int : PySem.W.nsIn K mainGlobals "int" = some none)
    (z_isinstance : PySem.W.nsIn K mainGlobals "isinstance" = some none)
    (z_len : PySem.W.nsIn K mainGlobals "len" = some none)
    (z_list : PySem.W.nsIn K mainGlobals "list" = some none)
    (z_max : PySem.W.nsIn K mainGlobals "max" = some none)
    (z_range : PySem.W.nsIn K mainGlobals "range" = some none)
    (z_str : PySem.W.nsIn K mainGlobals "str" = some none)
    (z_tuple : PySem.W.nsIn K mainGlobals "tuple" = some none)
    (r_SMALL : RelV (.str sSMALL) uu_SMALL)
    (r_CAPITAL : RelV (.str sCAPITAL) uu_CAPITAL)
    (r_DIGITS : RelV (.str sDIGITS) uu_DIGITS)
    (r_LONGEST : RelV (.int 12) uu_LONGEST)
    (r_MOST_ARGUMENTS : RelV (.int 3) uu_MOST_ARGUMENTS)
    (tR : ocR = .type "tuple")
    (szR : itsR.size ≤ sizeLine)
    (vR : Vals (lRESERVED.map V.str) itsR.toList)
    : ∃ fd : FuncData, (∀ (s : Shared) (v : Value), BindsTo s fd ⟨[v], []⟩ [("script", v)]) ∧ ∀ base : Heap, K.In base → base.Ns mainGlobals mg → FnOk l.prog w K mg base CX0 43 fa fd ["script"] (Sp0 K sLaw) := by
  have e := hfa.symm.trans (PySem.W.mg_of X G a_law)
  cases e
  subst tR
  have F_law_start := fun_mk (st := s_law_start) l_law_start c_law_start k_law_start
  have b_law_start := F_law_start.binds (ps := ["script"]) fun _ _ _ _ _ _ us hl => match us, hl with | [_], _ => rfl
  have F_law_take := fun_mk (st := s_law_take) l_law_take c_law_take k_law_take
  have b_law_take := F_law_take.binds (ps := ["state", "many"]) fun _ _ _ _ _ _ us hl => match us, hl with | [_, _], _ => rfl
  have F_law_same := fun_mk (st := s_law_same) l_law_same c_law_same k_law_same
  have b_law_same := F_law_same.binds (ps := ["one", "two"]) fun _ _ _ _ _ _ us hl => match us, hl with | [_, _], _ => rfl
  have F_has_name_signs := fun_mk (st := s_has_name_signs) l_has_name_signs c_has_name_signs k_has_name_signs
  have b_has_name_signs := F_has_name_signs.binds (ps := ["name"]) fun _ _ _ _ _ _ us hl => match us, hl with | [_], _ => rfl
  have F_is_small_name := fun_mk (st := s_is_small_name) l_is_small_name c_is_small_name k_is_small_name
  have b_is_small_name := F_is_small_name.binds (ps := ["name"]) fun _ _ _ _ _ _ us hl => match us, hl with | [_], _ => rfl
  have F_is_capital_name := fun_mk (st := s_is_capital_name) l_is_capital_name c_is_capital_name k_is_capital_name
  have b_is_capital_name := F_is_capital_name.binds (ps := ["name"]) fun _ _ _ _ _ _ us hl => match us, hl with | [_], _ => rfl
  have F_fresh_name := fun_mk (st := s_fresh_name) l_fresh_name c_fresh_name k_fresh_name
  have b_fresh_name := F_fresh_name.binds (ps := ["stem", "taken"]) fun _ _ _ _ _ _ us hl => match us, hl with | [_, _], _ => rfl
  have F_named_signature := fun_mk (st := s_named_signature) l_named_signature c_named_signature k_named_signature
  have b_named_signature := F_named_signature.binds (ps := ["signature"]) fun _ _ _ _ _ _ us hl => match us, hl with | [_], _ => rfl
  have F_rows_of := fun_mk (st := s_rows_of) l_rows_of c_rows_of k_rows_of
  have b_rows_of := F_rows_of.binds (ps := ["choices", "length"]) fun _ _ _ _ _ _ us hl => match us, hl with | [_, _], _ => rfl
  have F_closed_terms := fun_mk (st := s_closed_terms) l_closed_terms c_closed_terms k_closed_terms
  have b_closed_terms := F_closed_terms.binds (ps := ["signature", "depth"]) fun _ _ _ _ _ _ us hl => match us, hl with | [_, _], _ => rfl
  have F_Signature___init__ := fun_mk (st := s_Signature___init__) l_Signature___init__ c_Signature___init__ k_Signature___init__
  have b_Signature___init__ := F_Signature___init__.binds (ps := ["self", "functions", "relations"]) fun _ _ _ _ _ _ us hl => match us, hl with | [_, _, _], _ => rfl
  have F_Signature_constants := fun_mk (st := s_Signature_constants) l_Signature_constants c_Signature_constants k_Signature_constants
  have b_Signature_constants := F_Signature_constants.binds (ps := ["self"]) fun _ _ _ _ _ _ us hl => match us, hl with | [_], _ => rfl
  have F_Signature_extended := fun_mk (st := s_Signature_extended) l_Signature_extended c_Signature_extended k_Signature_extended
  have b_Signature_extended := F_Signature_extended.binds (ps := ["self", "functions"]) fun _ _ _ _ _ _ us hl => match us, hl with | [_, _], _ => rfl
  have F_law_drawn := fun_mk (st := s_law_drawn) l_law_drawn c_law_drawn k_law_drawn
  have b_law_drawn := F_law_drawn.binds (ps := ["state"]) fun _ _ _ _ _ _ us hl => match us, hl with | [_], _ => rfl
  have F_law_count := fun_mk (st := s_law_count) l_law_count c_law_count k_law_count
  have b_law_count := F_law_count.binds (ps := ["functions", "many"]) fun _ _ _ _ _ _ us hl => match us, hl with | [_, _], _ => rfl
  have F_law_counts := fun_mk (st := s_law_counts) l_law_counts c_law_counts k_law_counts
  have b_law_counts := F_law_counts.binds (ps := ["functions", "most"]) fun _ _ _ _ _ _ us hl => match us, hl with | [_, _], _ => rfl
  have F_law_deep := fun_mk (st := s_law_deep) l_law_deep c_law_deep k_law_deep
  have b_law_deep := F_law_deep.binds (ps := ["term"]) fun _ _ _ _ _ _ us hl => match us, hl with | [_], _ => rfl
  have F_law_rows := fun_mk (st := s_law_rows) l_law_rows c_law_rows k_law_rows
  have b_law_rows := F_law_rows.binds (ps := ["terms", "length"]) fun _ _ _ _ _ _ us hl => match us, hl with | [_, _], _ => rfl
  have F_law_listed := fun_mk (st := s_law_listed) l_law_listed c_law_listed k_law_listed
  have b_law_listed := F_law_listed.binds (ps := ["functions", "depth"]) fun _ _ _ _ _ _ us hl => match us, hl with | [_, _], _ => rfl
  have F_law_asked := fun_mk (st := s_law_asked) l_law_asked c_law_asked k_law_asked
  have b_law_asked := F_law_asked.binds (ps := ["signature", "functions", "counts", "depth"]) fun _ _ _ _ _ _ us hl => match us, hl with | [_, _, _, _], _ => rfl
  have F_law_typed := fun_mk (st := s_law_typed) l_law_typed c_law_typed k_law_typed
  have b_law_typed := F_law_typed.binds (ps := []) fun _ _ _ _ _ _ us hl => match us, hl with | [], _ => rfl
  have F_law := fun_mk (st := s_law) l_law c_law k_law
  have b_law := F_law.binds (ps := ["script"]) fun _ _ _ _ _ _ us hl => match us, hl with | [_], _ => rfl
  let T : Txt K mg := { a_law_start := f_law_start, d_law_start := _, F_law_start := F_law_start, b_law_start := b_law_start, g_law_start := PySem.W.mg_of X G a_law_start, a_law_take := f_law_take, d_law_take := _, F_law_take := F_law_take, b_law_take := b_law_take, g_law_take := PySem.W.mg_of X G a_law_take, a_law_same := f_law_same, d_law_same := _, F_law_same := F_law_same, b_law_same := b_law_same, g_law_same := PySem.W.mg_of X G a_law_same, a_has_name_signs := f_has_name_signs, d_has_name_signs := _, F_has_name_signs := F_has_name_signs, b_has_name_signs := b_has_name_signs, g_has_name_signs := PySem.W.mg_of X G a_has_name_signs, a_is_small_name := f_is_small_name, d_is_small_name := _, F_is_small_name := F_is_small_name, b_is_small_name := b_is_small_name, g_is_small_name := PySem.W.mg_of X G a_is_small_name, a_is_capital_name := f_is_capital_name, d_is_capital_name := _, F_is_capital_name := F_is_capital_name, b_is_capital_name := b_is_capital_name, g_is_capital_name := PySem.W.mg_of X G a_is_capital_name, a_fresh_name := f_fresh_name, d_fresh_name := _, F_fresh_name := F_fresh_name, b_fresh_name := b_fresh_name, g_fresh_name := PySem.W.mg_of X G a_fresh_name, a_named_signature := f_named_signature, d_named_signature := _, F_named_signature := F_named_signature, b_named_signature := b_named_signature, g_named_signature := PySem.W.mg_of X G a_named_signature, a_rows_of := f_rows_of, d_rows_of := _, F_rows_of := F_rows_of, b_rows_of := b_rows_of, g_rows_of := PySem.W.mg_of X G a_rows_of, a_closed_terms := f_closed_terms, d_closed_terms := _, F_closed_terms := F_closed_terms, b_closed_terms := b_closed_terms, g_closed_terms := PySem.W.mg_of X G a_closed_terms, a_Signature___init__ := f_Signature___init__, d_Signature___init__ := _, F_Signature___init__ := F_Signature___init__, b_Signature___init__ := b_Signature___init__, a_Signature_constants := f_Signature_constants, d_Signature_constants := _, F_Signature_constants := F_Signature_constants, b_Signature_constants := b_Signature_constants, a_Signature_extended := f_Signature_extended, d_Signature_extended := _, F_Signature_extended := F_Signature_extended, b_Signature_extended := b_Signature_extended, a_law_drawn := f_law_drawn, d_law_drawn := _, F_law_drawn := F_law_drawn, b_law_drawn := b_law_drawn, g_law_drawn := PySem.W.mg_of X G a_law_drawn, a_law_count := f_law_count, d_law_count := _, F_law_count := F_law_count, b_law_count := b_law_count, g_law_count := PySem.W.mg_of X G a_law_count, a_law_counts := f_law_counts, d_law_counts := _, F_law_counts := F_law_counts, b_law_counts := b_law_counts, g_law_counts := PySem.W.mg_of X G a_law_counts, a_law_deep := f_law_deep, d_law_deep := _, F_law_deep := F_law_deep, b_law_deep := b_law_deep, g_law_deep := PySem.W.mg_of X G a_law_deep, a_law_rows := f_law_rows, d_law_rows := _, F_law_rows := F_law_rows, b_law_rows := b_law_rows, g_law_rows := PySem.W.mg_of X G a_law_rows, a_law_listed := f_law_listed, d_law_listed := _, F_law_listed := F_law_listed, b_law_listed := b_law_listed, g_law_listed := PySem.W.mg_of X G a_law_listed, a_law_asked := f_law_asked, d_law_asked := _, F_law_asked := F_law_asked, b_law_asked := b_law_asked, g_law_asked := PySem.W.mg_of X G a_law_asked, a_law_typed := f_law_typed, d_law_typed := _, F_law_typed := F_law_typed, b_law_typed := b_law_typed, g_law_typed := PySem.W.mg_of X G a_law_typed, a_law := fa, d_law := _, F_law := F_law, b_law := b_law, g_law := PySem.W.mg_of X G a_law, z_abs := PySem.W.mg_none_of X G z_abs, z_all := PySem.W.mg_none_of X G z_all, z_any := PySem.W.mg_none_of X G z_any, z_bool := PySem.W.mg_none_of X G z_bool, z_dict := PySem.W.mg_none_of X G z_dict, z_int := PySem.W.mg_none_of X G z_int, z_isinstance := PySem.W.mg_none_of X G z_isinstance, z_len := PySem.W.mg_none_of X G z_len, z_list := PySem.W.mg_none_of X G z_list, z_max := PySem.W.mg_none_of X G z_max, z_range := PySem.W.mg_none_of X G z_range, z_str := PySem.W.mg_none_of X G z_str, z_tuple := PySem.W.mg_none_of X G z_tuple, a_Signature := C, g_Signature := PySem.W.mg_of X G aC, cl_Signature := ⟨pg, hd, po, sa⟩, M_Signature := ⟨mk, a_Signature___init__, i_Signature___init__, kc⟩, m_Signature_constants := ⟨a_Signature_constants, i_Signature_constants, k_Signature_constants⟩, m_Signature_extended := ⟨a_Signature_extended, i_Signature_extended, k_Signature_extended⟩, n_functions := n_functions, n_relations := n_relations, n_table := n_table, u_SMALL := uu_SMALL, c_SMALL := PySem.W.mg_of X G u_SMALL, r_SMALL := r_SMALL, u_CAPITAL := uu_CAPITAL, c_CAPITAL := PySem.W.mg_of X G u_CAPITAL, r_CAPITAL := r_CAPITAL, u_DIGITS := uu_DIGITS, c_DIGITS := PySem.W.mg_of X G u_DIGITS, r_DIGITS := r_DIGITS, u_LONGEST := uu_LONGEST, c_LONGEST := PySem.W.mg_of X G u_LONGEST, r_LONGEST := r_LONGEST, u_MOST_ARGUMENTS := uu_MOST_ARGUMENTS, c_MOST_ARGUMENTS := PySem.W.mg_of X G u_MOST_ARGUMENTS, r_MOST_ARGUMENTS := r_MOST_ARGUMENTS, a_RESERVED := aR, c_RESERVED := PySem.W.mg_of X G u_RESERVED, q_RESERVED := fun H => .inr ⟨_, itsR, nR, lR, rfl, rfl, szR, vR⟩ }
  exact ⟨PySem.W.fnOf "law" "law" (defArgs s_law) (defBody s_law) (defScope s_law) .none kV_law dc_law pm_law an_law cd_law ct_law, fun s v => .of_eq rfl, fun base _ _ => ok_law T⟩
theorem walk {l : PySem.W.OpenLaw} {q : Program} {loose : List Str} {XP : (Str → Option Value) → Heap → Prop} {YP : World → Heap → Prop} {d : DefRec} {K : Params → PySem.W.Frag} (hn : l.most = some 63) (hdf : d.params.defaults = [])
    (hY : ∀ (w : World) (h : Heap), YP w h → (K w.params).In h)
    (F : ∀ (w : World) (mg : Str → Option Value) (fa : Addr) (h : Heap), (K w.params).In h → h.Ns mainGlobals mg → mg d.name = some (.ref fa) →
      ∃ fd : FuncData, (∀ (s : Shared) (u : Value), BindsTo s fd ⟨[u], []⟩ [("script", u)]) ∧ ∀ base : Heap, (K w.params).In base → base.Ns mainGlobals mg → FnOk l.prog w (K w.params) mg base CX0 43 fa fd ["script"] (Sp0 (K w.params) sLaw)) :
    PySem.W.WalkO q loose XP YP l.row.toRowW d [] (fun f vs => PySem.call f vs) :=
  L2.walk_of (n := 63) (k := 43) (x := "script") (CX := fun _ => CX0) (sp := fun w => Sp0 (K w.params) sLaw) hn (by decide) hdf ⟨rfl, by decide, by decide⟩ hY F
    (fun w H a ns hl _ hS => ⟨H, [.scr ns], _, Same.refl H, .one ⟨a, rfl, hS⟩, ⟨ns, rfl, hl, rfl⟩, fun t ht v F' H' _ _ _ _ rn => by subst ht; exact rn⟩) fun _ _ _ _ _ z => z
end K57
open PySem PySem.W PyProof.Rows
set_option maxRecDepth 100000 in
set_option maxHeartbeats 0 in
theorem PySem.Challenge.cw_kingsandcourts_k57_closed_terms_counted_holds : PySem.Challenge.rw_kingsandcourts_k57_closed_terms_counted.Holds := by
  w_on; o_law; k_head; (case hw => w_witness2)
  k_fill
  refine K57.walk (l := PySem.Challenge.rw_kingsandcourts_k57_closed_terms_counted) rfl rfl (fun w h Y => PySem.W.kIn_of Y) ?F
  case F =>
    intro w mg fa h KX G hmg
    refine' K57.all_mk KX G hmg ?aC ?a_law_start ?l_law_start ?c_law_start ?k_law_start ?a_law_take ?l_law_take ?c_law_take ?k_law_take ?a_law_same ?l_law_same ?c_law_same ?k_law_same ?a_has_name_signs ?l_has_name_signs ?c_has_name_signs ?k_has_name_signs ?a_is_small_name ?l_is_small_name ?c_is_small_name ?k_is_small_name ?a_is_capital_name ?l_is_capital_name ?c_is_capital_name ?k_is_capital_name ?a_fresh_name ?l_fresh_name ?c_fresh_name ?k_fresh_name ?a_named_signature ?l_named_signature ?c_named_signature ?k_named_signature ?a_rows_of ?l_rows_of ?c_rows_of ?k_rows_of ?a_closed_terms ?l_closed_terms ?c_closed_terms ?k_closed_terms ?a_Signature___init__ ?i_Signature___init__ ?l_Signature___init__ ?c_Signature___init__ ?k_Signature___init__ ?a_Signature_constants ?i_Signature_constants ?l_Signature_constants ?c_Signature_constants ?k_Signature_constants ?a_Signature_extended ?i_Signature_extended ?l_Signature_extended ?c_Signature_extended ?k_Signature_extended ?a_law_drawn ?l_law_drawn ?c_law_drawn ?k_law_drawn ?a_law_count ?l_law_count ?c_law_count ?k_law_count ?a_law_counts ?l_law_counts ?c_law_counts ?k_law_counts ?a_law_deep ?l_law_deep ?c_law_deep ?k_law_deep ?a_law_rows ?l_law_rows ?c_law_rows ?k_law_rows ?a_law_listed ?l_law_listed ?c_law_listed ?k_law_listed ?a_law_asked ?l_law_asked ?c_law_asked ?k_law_asked ?a_law_typed ?l_law_typed ?c_law_typed ?k_law_typed ?a_law ?l_law ?c_law ?k_law ?pg ?hd ?po ?sa ?mk ?kc ?n_functions ?n_relations ?n_table ?u_SMALL ?u_CAPITAL ?u_DIGITS ?u_LONGEST ?u_MOST_ARGUMENTS ?u_RESERVED ?lR ?z_abs ?z_all ?z_any ?z_bool ?z_dict ?z_int ?z_isinstance ?z_len ?z_list ?z_max ?z_range ?z_str ?z_tuple ?r_SMALL ?r_CAPITAL ?r_DIGITS ?r_LONGEST ?r_MOST_ARGUMENTS ?tR ?szR ?vR
    (case aC => k_is)
    (case a_law_start => k_is)
    (case l_law_start => k_is)
    (case c_law_start => k_is)
    (case k_law_start => k_is)
    (case a_law_take => k_is)
    (case l_law_take => k_is)
    (case c_law_take => k_is)
    (case k_law_take => k_is)
    (case a_law_same => k_is)
    (case l_law_same => k_is)
    (case c_law_same => k_is)
    (case k_law_same => k_is)
    (case a_has_name_signs => k_is)
    (case l_has_name_signs => k_is)
    (case c_has_name_signs => k_is)
    (case k_has_name_signs => k_is)
    (case a_is_small_name => k_is)
    (case l_is_small_name => k_is)
    (case c_is_small_name => k_is)
    (case k_is_small_name => k_is)
    (case a_is_capital_name => k_is)
    (case l_is_capital_name => k_is)
    (case c_is_capital_name => k_is)
    (case k_is_capital_name => k_is)
    (case a_fresh_name => k_is)
    (case l_fresh_name => k_is)
    (case c_fresh_name => k_is)
    (case k_fresh_name => k_is)
    (case a_named_signature => k_is)
    (case l_named_signature => k_is)
    (case c_named_signature => k_is)
    (case k_named_signature => k_is)
    (case a_rows_of => k_is)
    (case l_rows_of => k_is)
    (case c_rows_of => k_is)
    (case k_rows_of => k_is)
    (case a_closed_terms => k_is)
    (case l_closed_terms => k_is)
    (case c_closed_terms => k_is)
    (case k_closed_terms => k_is)
    (case a_Signature___init__ => k_is)
    (case i_Signature___init__ => k_is)
    (case l_Signature___init__ => k_is)
    (case c_Signature___init__ => k_is)
    (case k_Signature___init__ => k_is)
    (case a_Signature_constants => k_is)
    (case i_Signature_constants => k_is)
    (case l_Signature_constants => k_is)
    (case c_Signature_constants => k_is)
    (case k_Signature_constants => k_is)
    (case a_Signature_extended => k_is)
    (case i_Signature_extended => k_is)
    (case l_Signature_extended => k_is)
    (case c_Signature_extended => k_is)
    (case k_Signature_extended => k_is)
    (case a_law_drawn => k_is)
    (case l_law_drawn => k_is)
    (case c_law_drawn => k_is)
    (case k_law_drawn => k_is)
    (case a_law_count => k_is)
    (case l_law_count => k_is)
    (case c_law_count => k_is)
    (case k_law_count => k_is)
    (case a_law_counts => k_is)
    (case l_law_counts => k_is)
    (case c_law_counts => k_is)
    (case k_law_counts => k_is)
    (case a_law_deep => k_is)
    (case l_law_deep => k_is)
    (case c_law_deep => k_is)
    (case k_law_deep => k_is)
    (case a_law_rows => k_is)
    (case l_law_rows => k_is)
    (case c_law_rows => k_is)
    (case k_law_rows => k_is)
    (case a_law_listed => k_is)
    (case l_law_listed => k_is)
    (case c_law_listed => k_is)
    (case k_law_listed => k_is)
    (case a_law_asked => k_is)
    (case l_law_asked => k_is)
    (case c_law_asked => k_is)
    (case k_law_asked => k_is)
    (case a_law_typed => k_is)
    (case l_law_typed => k_is)
    (case c_law_typed => k_is)
    (case k_law_typed => k_is)
    (case a_law => k_is)
    (case l_law => k_is)
    (case c_law => k_is)
    (case k_law => k_is)
    (case pg => k_is)
    (case hd => k_is)
    (case po => k_is)
    (case sa => k_is)
    (case mk => k_is)
    (case kc => k_is)
    (case n_functions => k_is)
    (case n_relations => k_is)
    (case n_table => k_is)
    (case u_SMALL => k_is)
    (case u_CAPITAL => k_is)
    (case u_DIGITS => k_is)
    (case u_LONGEST => k_is)
    (case u_MOST_ARGUMENTS => k_is)
    (case u_RESERVED => k_is)
    (case lR => k_is)
    (case z_abs => k_is)
    (case z_all => k_is)
    (case z_any => k_is)
    (case z_bool => k_is)
    (case z_dict => k_is)
    (case z_int => k_is)
    (case z_isinstance => k_is)
    (case z_len => k_is)
    (case z_list => k_is)
    (case z_max => k_is)
    (case z_range => k_is)
    (case z_str => k_is)
    (case z_tuple => k_is)
    (case r_SMALL => exact ⟨_, rfl⟩)
    (case r_CAPITAL => exact ⟨_, rfl⟩)
    (case r_DIGITS => exact ⟨_, rfl⟩)
    (case r_LONGEST => exact ⟨_, rfl⟩)
    (case r_MOST_ARGUMENTS => exact ⟨_, rfl⟩)
    (case tR => rfl)
    (case szR => decide)
    (case vR => exact .cons ⟨_, rfl⟩ (.cons ⟨_, rfl⟩ (.cons ⟨_, rfl⟩ (.cons ⟨_, rfl⟩ (.cons ⟨_, rfl⟩ (.cons ⟨_, rfl⟩ (.cons ⟨_, rfl⟩ (.cons ⟨_, rfl⟩ (.cons ⟨_, rfl⟩ .nil)))))))))
