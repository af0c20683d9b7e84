import PyProof.Rows.All
import Wide.All
import OpenK.AllK
import Wide.FinOn
import HandS.ForMost
import HandS.ForExc
import HandS.Walk
import HandS.IsInst
import HandS.Conv
import HandS.Zip
import HandS.RaiseMore
import HandS.TupAny
import PySem.Challenge.RW_pennyroll_k04_halves
set_option Elab.async false
set_option linter.all false
set_option maxRecDepth 100000
/-! DL: plain data over the layer: values as data, a def's meaning as a plain function of data. -/
namespace DL
open PySem L2

abbrev D := PyData
/-- a ghost object: what may change though several names hold it -/
inductive GO where
  | mach (cells left : List Int) (pos : Int)
abbrev G := List GO
/-- the n-th ghost object, as a datum -/
def gref (n : Nat) : D := .dict [(.list [], .int n)]
/-- the script -/
def scr (ns : List Int) : D := .dict [(.list [], .list (ns.map PyData.int))]
/-- an exception: its class's name, its fields -/
structure Exn where
  cls : Str
  fs : List (Str × D)
inductive R (α : Type) where
  | ok (a : α) (g : G)
  | exc (x : Exn) (g : G)
  | stuck
@[simp] def R.bind {α β : Type} (r : R α) (k : α → G → R β) : R β := match r with
  | .ok a g => k a g
  | .exc x g => .exc x g
  | .stuck => .stuck
theorem bind_ok {α β : Type} (a : α) (g : G) (k : α → G → R β) : (R.ok a g).bind k = k a g := rfl
theorem bind_exc {α β : Type} (x : Exn) (g : G) (k : α → G → R β) : (R.exc x g).bind k = .exc x g := rfl
theorem bind_stuck {α β : Type} (k : α → G → R β) : (R.stuck : R α).bind k = .stuck := rfl
/-- a slot -/
inductive Sl where
  | un
  | va (d : D)
  | ow (ds : List D)
  | od (kvs : List (Key × D))
abbrev Env := List Sl
abbrev EF (α : Type) := Env → G → R α

abbrev Fps := List (List Addr)
def gAt (ρ : Fps) (n : Nat) (a : Addr) : Prop := ∃ as, ρ[n]? = some (a :: as)

mutual
inductive Rp (K : PySem.W.Frag) (F : Hp) (ρ : Fps) : V → D → Prop
  | non : Rp K F ρ .non .none
  | bl (b : Bool) : Rp K F ρ (.bl b) (.bool b)
  | int (i : Int) : Rp K F ρ (.int i) (.int i)
  | str (x : Str) : Rp K F ρ (.str x) (.str x)
  | lst {a : Addr} {xs : List V} {ds : List D} : F a = some (.lst xs) → RpA K F ρ xs ds → Rp K F ρ (.ref a) (.list ds)
  | scr {a : Addr} {ns : List Int} : SqL K F a (ns.map V.int) → Rp K F ρ (.ref a) (scr ns)
  | tup {a : Addr} {xs : List V} {ds : List D} : SqT K F a xs → RpA K F ρ xs ds → Rp K F ρ (.ref a) (.tuple ds)
  | dic {a : Addr} {ws : List (Key × V)} {kvs : List (D × D)} : F a = some (.dK ws) → RpK K F ρ ws kvs → Rp K F ρ (.ref a) (.dict kvs)
  | gob {n : Nat} {a : Addr} : gAt ρ n a → Rp K F ρ (.ref a) (gref n)
inductive RpA (K : PySem.W.Frag) (F : Hp) (ρ : Fps) : List V → List D → Prop
  | nil : RpA K F ρ [] []
  | cons {v : V} {vs : List V} {d : D} {ds : List D} : Rp K F ρ v d → RpA K F ρ vs ds → RpA K F ρ (v :: vs) (d :: ds)
inductive RpK (K : PySem.W.Frag) (F : Hp) (ρ : Fps) : List (Key × V) → List (D × D) → Prop
  | nil : RpK K F ρ [] []
  | consI {i : Int} {v : V} {vs : List (Key × V)} {d : D} {ds : List (D × D)} : Rp K F ρ v d → RpK K F ρ vs ds → RpK K F ρ ((.inl i, v) :: vs) ((.int i, d) :: ds)
  | consS {x : Str} {v : V} {vs : List (Key × V)} {d : D} {ds : List (D × D)} : Rp K F ρ v d → RpK K F ρ vs ds → RpK K F ρ ((.inr x, v) :: vs) ((.str x, d) :: ds)
end

section
variable {K : PySem.W.Frag} {F F' : Hp} {ρ ρ' : Fps}
theorem sqT_mono {a : Addr} {xs : List V} (e : Same F F') (h : SqT K F a xs) : SqT K F' a xs := by
  rcases h with (h | ⟨o, h⟩) | h
  · exact .inl (.inl (e _ _ h))
  · exact .inl (.inr ⟨o, e _ _ h⟩)
  · exact .inr h
theorem gAt_mono {n : Nat} {a : Addr} (r : ρ <+: ρ') (h : gAt ρ n a) : gAt ρ' n a := by
  obtain ⟨as, h⟩ := h
  obtain ⟨t, rfl⟩ := r
  refine ⟨as, ?_⟩
  have hl := (List.getElem?_eq_some_iff.mp h).1
  rw [List.getElem?_append_left hl]
  exact h
mutual
theorem Rp.mono (e : Same F F') (r : ρ <+: ρ') : ∀ {v : V} {d : D}, Rp K F ρ v d → Rp K F' ρ' v d
  | _, _, .non => .non
  | _, _, .bl b => .bl b
  | _, _, .int i => .int i
  | _, _, .str x => .str x
  | _, _, .lst h t => .lst (e _ _ h) (RpA.mono e r t)
  | _, _, .scr h => .scr (e.seq h)
  | _, _, .tup h t => .tup (sqT_mono e h) (RpA.mono e r t)
  | _, _, .dic h t => .dic (e _ _ h) (RpK.mono e r t)
  | _, _, .gob h => .gob (gAt_mono r h)
theorem RpA.mono (e : Same F F') (r : ρ <+: ρ') : ∀ {v : List V} {d : List D}, RpA K F ρ v d → RpA K F' ρ' v d
  | _, _, .nil => .nil
  | _, _, .cons h t => .cons (Rp.mono e r h) (RpA.mono e r t)
theorem RpK.mono (e : Same F F') (r : ρ <+: ρ') : ∀ {v : List (Key × V)} {d : List (D × D)}, RpK K F ρ v d → RpK K F' ρ' v d
  | _, _, .nil => .nil
  | _, _, .consI h t => .consI (Rp.mono e r h) (RpK.mono e r t)
  | _, _, .consS h t => .consS (Rp.mono e r h) (RpK.mono e r t)
end
theorem RpA.length : ∀ {vs : List V} {ds : List D}, RpA K F ρ vs ds → vs.length = ds.length
  | _, _, .nil => rfl
  | _, _, .cons _ t => by rw [List.length_cons, List.length_cons, RpA.length t]
theorem RpA.get : ∀ {vs : List V} {ds : List D} {i : Nat} {v : V}, RpA K F ρ vs ds → vs[i]? = some v → ∃ d, ds[i]? = some d ∧ Rp K F ρ v d
  | _, _, _, _, .nil, e => by simp at e
  | _, _, 0, _, .cons h _, e => by simp at e; subst e; exact ⟨_, rfl, h⟩
  | _, _, i + 1, _, .cons _ t, e => by
    obtain ⟨d, h1, h2⟩ := RpA.get (i := i) t (by simpa using e)
    exact ⟨d, by simpa using h1, h2⟩
theorem RpA.get' : ∀ {vs : List V} {ds : List D} {i : Nat} {d : D}, RpA K F ρ vs ds → ds[i]? = some d → ∃ v, vs[i]? = some v ∧ Rp K F ρ v d
  | _, _, _, _, .nil, e => by simp at e
  | _, _, 0, _, .cons h _, e => by simp at e; subst e; exact ⟨_, rfl, h⟩
  | _, _, i + 1, _, .cons _ t, e => by
    obtain ⟨d, h1, h2⟩ := RpA.get' (i := i) t (by simpa using e)
    exact ⟨d, by simpa using h1, h2⟩
theorem RpA.append : ∀ {vs ws : List V} {ds es : List D}, RpA K F ρ vs ds → RpA K F ρ ws es → RpA K F ρ (vs ++ ws) (ds ++ es)
  | _, _, _, _, .nil, s => s
  | _, _, _, _, .cons h t, s => .cons h (RpA.append t s)
theorem RpA.set {v : V} {d : D} (h : Rp K F ρ v d) : ∀ {vs : List V} {ds : List D} (i : Nat), RpA K F ρ vs ds → RpA K F ρ (vs.set i v) (ds.set i d)
  | _, _, _, .nil => .nil
  | _, _, 0, .cons _ t => .cons h t
  | _, _, i + 1, .cons q t => .cons q (RpA.set h i t)
theorem RpA.take : ∀ {vs : List V} {ds : List D} (n : Nat), RpA K F ρ vs ds → RpA K F ρ (vs.take n) (ds.take n)
  | _, _, 0, _ => .nil
  | _, _, _ + 1, .nil => .nil
  | _, _, n + 1, .cons h t => .cons h (RpA.take n t)
theorem RpA.drop : ∀ {vs : List V} {ds : List D} (n : Nat), RpA K F ρ vs ds → RpA K F ρ (vs.drop n) (ds.drop n)
  | _, _, 0, s => s
  | _, _, _ + 1, .nil => .nil
  | _, _, n + 1, .cons _ t => RpA.drop n t
theorem RpA.ints : ∀ (ns : List Int), RpA K F ρ (ns.map V.int) (ns.map PyData.int)
  | [] => .nil
  | n :: ns => .cons (.int n) (RpA.ints ns)
/-- plain data only: no dict, no ghost -/
theorem gref_dict (n : Nat) : gref n = .dict [(.list [], .int n)] := rfl
mutual
def pure0 : D → Bool
  | .dict _ => false
  | .list xs => pureA xs
  | .tuple xs => pureA xs
  | _ => true
def pureA : List D → Bool
  | [] => true
  | x :: xs => pure0 x && pureA xs
end
mutual
theorem Rp.dp {H : Hp} (e : Same F H) : ∀ {v : V} {d : D}, Rp K F ρ v d → pure0 d = true → Dp K H v d
  | _, _, .non, _ => .non
  | _, _, .bl b, _ => .bl b
  | _, _, .int i, _ => .int i
  | _, _, .str x, _ => .str x
  | _, _, .lst h t, p => .lst (SqL.of (e _ _ h)) (RpA.dp e t (by simpa [pure0] using p))
  | _, _, .scr _, p => by simp [scr, pure0] at p
  | _, _, .tup h t, p => .tup (sqT_mono e h) (RpA.dp e t (by simpa [pure0] using p))
  | _, _, .dic _ _, p => by simp [pure0] at p
  | _, _, .gob _, p => by simp [gref, pure0] at p
theorem RpA.dp {H : Hp} (e : Same F H) : ∀ {v : List V} {d : List D}, RpA K F ρ v d → pureA d = true → DpAll K H v d
  | _, _, .nil, _ => .nil
  | _, _, .cons h t, p => by
    rw [pureA, Bool.and_eq_true] at p
    exact .cons (Rp.dp e h p.1) (RpA.dp e t p.2)
end
end

/-! ### where one stands -/
structure Base where
  F : Hp
  ρ : Fps
  H : Hp
structure Step (b : Base) (F : Hp) (ρ : Fps) (H : Hp) : Prop where
  f : Same b.F F
  r : b.ρ <+: ρ
  fn : ∀ a, F a ≠ none → b.F a ≠ none ∨ b.H a = none
  rn : ∀ a ∈ ρ.flatten, a ∈ b.ρ.flatten ∨ b.H a = none
  hn : ∀ a o, b.H a = some o → a ∉ b.ρ.flatten → H a = some o
  th : ∀ a, b.H a ≠ none → H a ≠ none
theorem Step.refl (F : Hp) (ρ : Fps) (H : Hp) : Step ⟨F, ρ, H⟩ F ρ H :=
  ⟨Same.refl _, List.prefix_refl _, fun _ h => .inl h, fun _ h => .inl h, fun _ _ h _ => h, fun _ h => h⟩
theorem Step.trans {b : Base} {F F' : Hp} {ρ ρ' : Fps} {H H' : Hp} (s : Step b F ρ H) (t : Step ⟨F, ρ, H⟩ F' ρ' H') : Step b F' ρ' H' where
  f := s.f.trans t.f
  r := s.r.trans t.r
  fn a h := by
    rcases t.fn a h with h | h
    · exact s.fn a h
    · right
      refine Classical.byContradiction fun q => s.th a q h
  rn a h := by
    rcases t.rn a h with h | h
    · exact s.rn a h
    · right
      refine Classical.byContradiction fun q => s.th a q h
  hn a o h n := by
    refine t.hn a o (s.hn a o h n) fun q => ?_
    rcases s.rn a q with z | z
    · exact n z
    · rw [h] at z; cases z
  th a h := t.th a (s.th a h)

/-- a ghost object as it lies: the addresses are its own -/
def GoR (F H : Hp) (as : List Addr) : GO → Prop
  | .mach cells left pos => ∃ p c l, as = [p, l] ∧ H p = some (.dK [(.inr "cells", .ref c), (.inr "left", .ref l), (.inr "at", .int pos)]) ∧
      F c = some (.lst (cells.map V.int)) ∧ H l = some (.lst (left.map V.int))
theorem GoR.frame {F F' H H' : Hp} {as : List Addr} {o : GO} (h : GoR F H as o) (f : Same F F') (e : ∀ a ∈ as, H' a = H a) : GoR F' H' as o := by
  cases o with
  | mach cells left pos =>
    obtain ⟨p, c, l, rfl, h1, h2, h3⟩ := h
    exact ⟨p, c, l, rfl, by rw [e p (by simp)]; exact h1, f _ _ h2, by rw [e l (by simp)]; exact h3⟩
theorem GoR.there {F H : Hp} {as : List Addr} {o : GO} (h : GoR F H as o) : ∀ a ∈ as, H a ≠ none := by
  cases o with
  | mach cells left pos =>
    obtain ⟨p, c, l, rfl, h1, h2, h3⟩ := h
    intro a ha
    simp only [List.mem_cons, List.not_mem_nil, or_false] at ha
    rcases ha with rfl | rfl
    · rw [h1]; simp
    · rw [h3]; simp
structure GRel (F : Hp) (ρ : Fps) (H : Hp) (g : G) : Prop where
  le : Same F H
  len : g.length = ρ.length
  go : ∀ (n : Nat) (o : GO), g[n]? = some o → ∃ as, ρ[n]? = some as ∧ GoR F H as o
  nd : ρ.flatten.Nodup
  nf : ∀ a ∈ ρ.flatten, F a = none
theorem GRel.there {F : Hp} {ρ : Fps} {H : Hp} {g : G} (h : GRel F ρ H g) : ∀ a ∈ ρ.flatten, H a ≠ none := by
  intro a ha
  obtain ⟨as, has, haa⟩ := List.mem_flatten.mp ha
  obtain ⟨n, hn⟩ := List.getElem?_of_mem has
  have hl : n < g.length := by rw [h.len]; exact (List.getElem?_eq_some_iff.mp hn).1
  obtain ⟨as', e1, e2⟩ := h.go n g[n] (by simp [hl])
  rw [hn] at e1
  cases e1
  exact e2.there a haa

def SlR (K : PySem.W.Frag) (B : Base) (F : Hp) (ρ : Fps) (H : Hp) (x : Option (Option V)) : Sl → Prop
  | .un => True
  | .va d => ∃ v, x = some (some v) ∧ Rp K F ρ v d
  | .ow ds => ∃ a vs, x = some (some (.ref a)) ∧ H a = some (.lst vs) ∧ RpA K F ρ vs ds ∧ F a = none ∧ B.H a = none ∧ a ∉ ρ.flatten
  | .od kvs => ∃ a ws, x = some (some (.ref a)) ∧ H a = some (.dK ws) ∧ RpK K F ρ ws (kvs.map fun p => (match p.1 with | .inl i => PyData.int i | .inr z => PyData.str z, p.2)) ∧ F a = none ∧ B.H a = none ∧ a ∉ ρ.flatten
def Sl.owned : Sl → Bool
  | .ow _ => true
  | .od _ => true
  | _ => false
structure Rel (K : PySem.W.Frag) (B : Base) (F : Hp) (ρ : Fps) (σ : St) (H : Hp) (ε : Env) (g : G) : Prop where
  gr : GRel F ρ H g
  st : Step B F ρ H
  len : σ.length = ε.length
  sl : ∀ (i : Nat) (s : Sl), ε[i]? = some s → SlR K B F ρ H σ[i]? s
  inj : ∀ (i j : Nat) (s t : Sl) (a : Addr), i ≠ j → ε[i]? = some s → ε[j]? = some t → s.owned = true → t.owned = true → σ[i]? = some (some (.ref a)) → σ[j]? ≠ some (some (.ref a))

theorem SlR.step {K : PySem.W.Frag} {B : Base} {F F' : Hp} {ρ ρ' : Fps} {H H' : Hp} {x : Option (Option V)} {s : Sl} (h : SlR K B F ρ H x s) (t : Step ⟨F, ρ, H⟩ F' ρ' H') : SlR K B F' ρ' H' x s := by
  have key : ∀ (a : Addr) (o : HO), H a = some o → F a = none → a ∉ ρ.flatten → H' a = some o ∧ F' a = none ∧ a ∉ ρ'.flatten := fun a o h1 h2 h3 => by
    refine ⟨t.hn a o h1 h3, ?_, fun q => ?_⟩
    · refine Classical.byContradiction fun q => ?_
      rcases t.fn a q with z | z
      · exact z h2
      · have z : H a = none := z
        rw [h1] at z; cases z
    · rcases t.rn a q with z | z
      · exact h3 z
      · have z : H a = none := z
        rw [h1] at z; cases z
  cases s with
  | un => trivial
  | va d =>
    obtain ⟨v, e, r⟩ := h
    exact ⟨v, e, r.mono t.f t.r⟩
  | ow ds =>
    obtain ⟨a, vs, e, h1, h2, h3, h4, h5⟩ := h
    obtain ⟨k1, k2, k3⟩ := key a _ h1 h3 h5
    exact ⟨a, vs, e, k1, h2.mono t.f t.r, k2, h4, k3⟩
  | od kvs =>
    obtain ⟨a, vs, e, h1, h2, h3, h4, h5⟩ := h
    obtain ⟨k1, k2, k3⟩ := key a _ h1 h3 h5
    exact ⟨a, vs, e, k1, h2.mono t.f t.r, k2, h4, k3⟩
theorem Rel.step {K : PySem.W.Frag} {B : Base} {F F' : Hp} {ρ ρ' : Fps} {σ : St} {H H' : Hp} {ε : Env} {g g' : G} (h : Rel K B F ρ σ H ε g) (t : Step ⟨F, ρ, H⟩ F' ρ' H') (q : GRel F' ρ' H' g') : Rel K B F' ρ' σ H' ε g' :=
  ⟨q, h.st.trans t, h.len, fun i s e => (h.sl i s e).step t, h.inj⟩
/-- a new object, kept for good -/
theorem step_new {F : Hp} {ρ : Fps} {H : Hp} {g : G} {p : Addr} {o : HO} (q : GRel F ρ H g) (hp : H p = none) : Step ⟨F, ρ, H⟩ (upd F p o) ρ (upd H p o) ∧ GRel (upd F p o) ρ (upd H p o) g := by
  have fp : F p = none := q.le.free hp
  have np : p ∉ ρ.flatten := fun z => q.there p z hp
  refine ⟨⟨fun b u e => ?_, List.prefix_refl _, fun a h => ?_, fun a h => .inl h, fun a u h _ => ?_, fun a h => ?_⟩, ⟨fun b u e => ?_, q.len, fun n o' e => ?_, q.nd, fun a ha => ?_⟩⟩
  · rw [upd_ne (ne_of_none e fp)]; exact e
  · by_cases e : a = p
    · subst e; exact .inr hp
    · rw [upd_ne e] at h; exact .inl h
  · rw [upd_ne (ne_of_none h hp)]; exact h
  · by_cases e : a = p
    · subst e; exact absurd hp h
    · rw [upd_ne e]; exact h
  · by_cases z : b = p
    · subst z; rw [upd_same] at e ⊢; exact e
    · rw [upd_ne z] at e ⊢; exact q.le _ _ e
  · obtain ⟨as, e1, e2⟩ := q.go n o' e
    refine ⟨as, e1, e2.frame (fun b u e => by rw [upd_ne (ne_of_none e fp)]; exact e) fun a ha => upd_ne fun z => ?_⟩
    subst z
    exact np (List.mem_flatten.mpr ⟨as, List.mem_of_getElem? e1, ha⟩)
  · rw [upd_ne (fun z : a = p => np (z ▸ ha))]; exact q.nf a ha

/-! ### wishes -/
/-- an exception as it lies -/
def ExR (K : PySem.W.Frag) (mg : Str → Option Value) (F : Hp) (ρ : Fps) (H : Hp) (x : Exn) (cls : Value) (dd : Option Addr) : Prop :=
  ∃ C : Addr, cls = .ref C ∧ mg x.cls = some (.ref C) ∧ ((x.fs = [] ∧ dd = none) ∨ ∃ a ws, dd = some a ∧ H a = some (.xd ws) ∧ ws.map (·.1) = x.fs.map (·.1) ∧ RpA K F ρ (ws.map (·.2)) (x.fs.map (·.2)))
def Wp (K : PySem.W.Frag) (mg : Str → Option Value) (W : WX) (σ : St) (b : Base) {α β : Type} (P : Hp → Fps → Hp → β → α → Prop) (r : R α) (Q : β → Hp → Prop) : Prop := match r with
  | .ok d g' => ∀ v F' ρ' H', Step b F' ρ' H' → GRel F' ρ' H' g' → P F' ρ' H' v d → Q v H'
  | .exc x g' => ∀ cls dd F' ρ' H', Step b F' ρ' H' → GRel F' ρ' H' g' → ExR K mg F' ρ' H' x cls dd → W cls dd σ H'
  | .stuck => False
theorem Wp.bind {K : PySem.W.Frag} {mg : Str → Option Value} {W : WX} {B : Base} {F : Hp} {ρ : Fps} {σ : St} {H : Hp} {ε : Env} {g : G} {α β α' β' : Type} {P : Hp → Fps → Hp → β → α → Prop} {P' : Hp → Fps → Hp → β' → α' → Prop} {r : R α} {k : α → G → R α'} {Q : β → Hp → Prop} {Q' : β' → Hp → Prop}
    (I : Rel K B F ρ σ H ε g) (h : Wp K mg W σ ⟨F, ρ, H⟩ P' (r.bind k) Q')
    (n : ∀ v d F1 ρ1 H1 g1, Rel K B F1 ρ1 σ H1 ε g1 → Step ⟨F, ρ, H⟩ F1 ρ1 H1 → P F1 ρ1 H1 v d → Wp K mg W σ ⟨F1, ρ1, H1⟩ P' (k d g1) Q' → Q v H1) : Wp K mg W σ ⟨F, ρ, H⟩ P r Q := by
  cases r with
  | ok d g1 =>
    intro v F1 ρ1 H1 s q p
    refine n v d F1 ρ1 H1 g1 (I.step s q) s p ?_
    rw [bind_ok] at h
    cases e : k d g1 with
    | ok d2 g2 =>
      rw [e] at h
      exact fun v2 F2 ρ2 H2 s2 q2 p2 => h v2 F2 ρ2 H2 (s.trans s2) q2 p2
    | exc x g2 =>
      rw [e] at h
      exact fun cls dd F2 ρ2 H2 s2 q2 p2 => h cls dd F2 ρ2 H2 (s.trans s2) q2 p2
    | stuck =>
      rw [e] at h
      exact h
  | exc x g1 => exact h
  | stuck => exact h
theorem Wp.imp {K : PySem.W.Frag} {mg : Str → Option Value} {W : WX} {b : Base} {σ : St} {α β : Type} {P P' : Hp → Fps → Hp → β → α → Prop} {r : R α} {Q : β → Hp → Prop} (h : Wp K mg W σ b P r Q) (e : ∀ F ρ H v d, P' F ρ H v d → P F ρ H v d) : Wp K mg W σ b P' r Q := by
  cases r with
  | ok d g1 => exact fun v F' ρ' H' s q p => h v F' ρ' H' s q (e _ _ _ _ _ p)
  | exc x g => exact h
  | stuck => exact h

/-! ### the readings -/
structure Cn where
  K : PySem.W.Frag
  mg : Str → Option Value
  B : Base
  W : WX
/-- kept for good -/
def PD (c : Cn) : Hp → Fps → Hp → V → D → Prop := fun F ρ _ v d => Rp c.K F ρ v d
/-- as it stands now: kept, or an own slot's list -/
def RpT (K : PySem.W.Frag) (F : Hp) (ρ : Fps) (H : Hp) (σ : St) (ε : Env) (v : V) (d : D) : Prop :=
  Rp K F ρ v d ∨ ∃ (i : Nat) (ds : List D), ε[i]? = some (.ow ds) ∧ σ[i]? = some (some v) ∧ d = .list ds
def tD (c : Cn) (f : EF D) : TE := fun σ H Q => ∃ F ρ ε g, Rel c.K c.B F ρ σ H ε g ∧ Wp c.K c.mg c.W σ ⟨F, ρ, H⟩ (PD c) (f ε g) Q
def tT (c : Cn) (f : EF D) : TE := fun σ H Q => ∃ F ρ ε g, Rel c.K c.B F ρ σ H ε g ∧ Wp c.K c.mg c.W σ ⟨F, ρ, H⟩ (fun F ρ H v d => RpT c.K F ρ H σ ε v d) (f ε g) Q
/-- a new list, nobody's yet -/
def PF (c : Cn) : Hp → Fps → Hp → V → List D → Prop := fun F ρ H v ds => ∃ a vs, v = .ref a ∧ H a = some (.lst vs) ∧ RpA c.K F ρ vs ds ∧ F a = none ∧ c.B.H a = none ∧ a ∉ ρ.flatten
def tF (c : Cn) (f : EF (List D)) : TE := fun σ H Q => ∃ F ρ ε g, Rel c.K c.B F ρ σ H ε g ∧ Wp c.K c.mg c.W σ ⟨F, ρ, H⟩ (fun F' ρ' H' v d => PF c F' ρ' H' v d ∧ ∀ a, v = .ref a → H a = none) (f ε g) Q
def tB (c : Cn) (f : EF Bool) : TT := fun σ H Q => ∃ F ρ ε g, Rel c.K c.B F ρ σ H ε g ∧ Wp c.K c.mg c.W σ ⟨F, ρ, H⟩ (fun _ _ _ v d => v = d) (f ε g) Q
def tA (c : Cn) (f : EF (List D)) : TA := fun σ H Q => ∃ F ρ ε g, Rel c.K c.B F ρ σ H ε g ∧ Wp c.K c.mg c.W σ ⟨F, ρ, H⟩ (fun F ρ _ vs ds => RpA c.K F ρ vs ds) (f ε g) Q
/-- arguments as they stand now -/
inductive RpTA (K : PySem.W.Frag) (F : Hp) (ρ : Fps) (H : Hp) (σ : St) (ε : Env) : List V → List D → Prop
  | nil : RpTA K F ρ H σ ε [] []
  | cons {v : V} {vs : List V} {d : D} {ds : List D} : RpT K F ρ H σ ε v d → RpTA K F ρ H σ ε vs ds → RpTA K F ρ H σ ε (v :: vs) (d :: ds)
def tTA (c : Cn) (f : EF (List D)) : TA := fun σ H Q => ∃ F ρ ε g, Rel c.K c.B F ρ σ H ε g ∧ Wp c.K c.mg c.W σ ⟨F, ρ, H⟩ (fun F ρ H vs ds => RpTA c.K F ρ H σ ε vs ds) (f ε g) Q
theorem RpT.mono {K : PySem.W.Frag} {F F' : Hp} {ρ ρ' : Fps} {H H' : Hp} {σ : St} {ε : Env} {v : V} {d : D} (h : RpT K F ρ H σ ε v d) (e : Same F F') (r : ρ <+: ρ') : RpT K F' ρ' H' σ ε v d := by
  rcases h with h | h
  · exact .inl (h.mono e r)
  · exact .inr h

/-! statements -/
inductive RS where
  | nx (ε : Env) (g : G)
  | ret (d : D) (g : G)
  | exc (x : Exn) (ε : Env) (g : G)
  | brk (ε : Env) (g : G)
  | cnt (ε : Env) (g : G)
  | stuck
abbrev SF := Env → G → RS
def WpS (c : Cn) (F : Hp) (ρ : Fps) (r : RS) (E : Ends) : Prop := match r with
  | .nx ε' g' => ∀ σ' F' ρ' H', Rel c.K c.B F' ρ' σ' H' ε' g' → Same F F' → ρ <+: ρ' → E.nx σ' H'
  | .ret d g' => ∀ v F' ρ' H', Step c.B F' ρ' H' → GRel F' ρ' H' g' → Rp c.K F' ρ' v d → E.rt v H'
  | .exc x ε' g' => ∀ cls dd σ' F' ρ' H', Rel c.K c.B F' ρ' σ' H' ε' g' → Same F F' → ρ <+: ρ' → ExR c.K c.mg F' ρ' H' x cls dd → c.W cls dd σ' H'
  | .brk ε' g' => ∀ σ' F' ρ' H', Rel c.K c.B F' ρ' σ' H' ε' g' → Same F F' → ρ <+: ρ' → E.bk σ' H'
  | .cnt ε' g' => ∀ σ' F' ρ' H', Rel c.K c.B F' ρ' σ' H' ε' g' → Same F F' → ρ <+: ρ' → E.ct σ' H'
  | .stuck => False
theorem WpS.later {c : Cn} {F F1 : Hp} {ρ ρ1 : Fps} {r : RS} {E : Ends} (h : WpS c F ρ r E) (f : Same F F1) (p : ρ <+: ρ1) : WpS c F1 ρ1 r E := by
  cases r with
  | nx ε g => exact fun σ' F' ρ' H' I a b => h σ' F' ρ' H' I (f.trans a) (p.trans b)
  | ret d g => exact h
  | exc x ε g => exact fun cls dd σ' F' ρ' H' I a b => h cls dd σ' F' ρ' H' I (f.trans a) (p.trans b)
  | brk ε g => exact fun σ' F' ρ' H' I a b => h σ' F' ρ' H' I (f.trans a) (p.trans b)
  | cnt ε g => exact fun σ' F' ρ' H' I a b => h σ' F' ρ' H' I (f.trans a) (p.trans b)
  | stuck => exact h
def tS (c : Cn) (s : SF) : TS := fun E σ H => ∃ F ρ ε g, Rel c.K c.B F ρ σ H ε g ∧ WpS c F ρ (s ε g) E
/-- from an expression into a statement -/
@[simp] def R.toS {α : Type} (r : R α) (ε : Env) (k : α → G → RS) : RS := match r with
  | .ok a g => k a g
  | .exc x g => .exc x ε g
  | .stuck => .stuck
theorem Wp.toS {c : Cn} {F : Hp} {ρ : Fps} {σ : St} {H : Hp} {ε : Env} {g : G} {α β : Type} {P : Hp → Fps → Hp → β → α → Prop} {r : R α} {k : α → G → RS} {Q : β → Hp → Prop} {E : Ends}
    (I : Rel c.K c.B F ρ σ H ε g) (h : WpS c F ρ (r.toS ε k) E)
    (n : ∀ v d F1 ρ1 H1 g1, Rel c.K c.B F1 ρ1 σ H1 ε g1 → Step ⟨F, ρ, H⟩ F1 ρ1 H1 → P F1 ρ1 H1 v d → WpS c F1 ρ1 (k d g1) E → Q v H1) : Wp c.K c.mg c.W σ ⟨F, ρ, H⟩ P r Q := by
  cases r with
  | ok d g1 => exact fun v F1 ρ1 H1 s q p => n v d F1 ρ1 H1 g1 (I.step s q) s p (h.later s.f s.r)
  | exc x g1 => exact fun cls dd F1 ρ1 H1 s q p => h cls dd σ F1 ρ1 H1 (I.step s q) s.f s.r p
  | stuck => exact h
end DL

namespace DL
open PySem L2

abbrev cn (X : Cx) (B : Base) (W : WX) : Cn := ⟨X.K, X.mg, B, W⟩
section
variable {X : Cx} {B : Base} {W : WX}
theorem PE.imp {e : Expr} {t t' : TE} (h : PE X e t) (k : ∀ σ H Q, t' σ H Q → t σ H Q) : PE X e t' := ⟨fun pins s σ H Q I q => h.run pins s σ H Q I (k σ H Q q)⟩
theorem PT.imp {e : Expr} {t t' : TT} (h : PT X e t) (k : ∀ σ H Q, t' σ H Q → t σ H Q) : PT X e t' := ⟨fun pins s σ H Q I q => h.run pins s σ H Q I (k σ H Q q)⟩
theorem PW.imp {e : Expr} {t t' : TT} (h : PW X e t) (k : ∀ σ H Q, t' σ H Q → t σ H Q) : PW X e t' := ⟨fun wh pins s σ H Q I q => h.run wh pins s σ H Q I (k σ H Q q)⟩
theorem PA.imp {e : List Expr} {t t' : TA} (h : PA X e t) (k : ∀ σ H Q, t' σ H Q → t σ H Q) : PA X e t' := ⟨fun pos pins s σ H Q I q => h.run pos pins s σ H Q I (k σ H Q q)⟩
theorem PS.imp {e : Stmt} {t t' : TS} (h : PS X e t) (k : ∀ D σ H, t' D σ H → t D σ H) : PS X e t' := ⟨fun pins s σ H D I q => h.run pins s σ H D I (k D σ H q)⟩
theorem PSs.imp {e : List Stmt} {t t' : TS} (h : PSs X e t) (k : ∀ D σ H, t' D σ H → t D σ H) : PSs X e t' := ⟨fun pins s σ H D I q => h.run pins s σ H D I (k D σ H q)⟩

/-! ### changes of kind -/
theorem t_of {e : Expr} {f : EF D} (h : PE X e (tD (cn X B W) f)) : PE X e (tT (cn X B W) f) :=
  PE.imp h fun σ H Q ⟨F, ρ, ε, g, I, w⟩ => ⟨F, ρ, ε, g, I, w.imp fun _ _ _ _ _ p => .inl p⟩
/-- a fresh list kept for good -/
@[simp] def fz (f : EF (List D)) : EF D := fun ε g => (f ε g).bind fun ds g => .ok (.list ds) g
theorem d_fz {e : Expr} {f : EF (List D)} (h : PE X e (tF (cn X B W) f)) : PE X e (tD (cn X B W) (fz f)) := by
  refine PE.imp h fun σ H Q ⟨F, ρ, ε, g, I, w⟩ => ⟨F, ρ, ε, g, I, ?_⟩
  unfold fz at w
  cases e : f ε g with
  | ok ds g1 =>
    rw [e, bind_ok] at w
    rintro v F1 ρ1 H1 s q ⟨⟨a, vs, rfl, h1, h2, h3, h4, h5⟩, fr⟩
    refine w (.ref a) (upd F1 a (.lst vs)) ρ1 H1 ⟨fun b u e => ?_, s.r, fun b hb => ?_, s.rn, s.hn, s.th⟩ ⟨fun b u e => ?_, q.len, fun n o e => (let ⟨as, k1, k2⟩ := q.go n o e; ⟨as, k1, k2.frame (fun b u e => by rw [upd_ne (ne_of_none e h3)]; exact e) fun _ _ => rfl⟩), q.nd, fun b hb => ?_⟩ (.lst upd_same ?_)
    · rw [upd_ne (ne_of_none (s.f _ _ e) h3)]; exact s.f _ _ e
    · by_cases z : b = a
      · subst z; exact .inr (fr _ rfl)
      · rw [upd_ne z] at hb; exact s.fn b hb
    · by_cases z : b = a
      · subst z; rw [upd_same] at e; rw [h1]; exact e
      · rw [upd_ne z] at e; exact q.le _ _ e
    · rw [upd_ne (fun z : b = a => h5 (z ▸ hb))]; exact q.nf b hb
    · refine h2.mono (fun b u e => ?_) (List.prefix_refl _)
      rw [upd_ne (ne_of_none e h3)]; exact e
  | exc x g1 => rw [e] at w; exact w
  | stuck => rw [e] at w; exact w
theorem t_fz {e : Expr} {f : EF (List D)} (h : PE X e (tF (cn X B W) f)) : PE X e (tT (cn X B W) (fz f)) := t_of (d_fz h)

/-! ### names, constants -/
@[simp] def dVar (i : Nat) : EF D := fun ε g => match ε[i]? with
  | some (.va d) => .ok d g
  | _ => .stuck
@[simp] def tVr (i : Nat) : EF D := fun ε g => match ε[i]? with
  | some (.va d) => .ok d g
  | some (.ow ds) => .ok (.list ds) g
  | _ => .stuck
theorem d_var (i : Nat) {x : Str} {pos : Pos} (hN : X.N[i]? = some x := by rfl) (hv : Vis X.env.scope x := by first | exact Or.inl rfl | exact Or.inr (Or.inl rfl) | exact Or.inr (Or.inr rfl)) (hd : (x == ("__debug__" : Str)) = false := by decide)
    (hcd : (x == ("__classdict__" : Str)) = false := by decide) : PE X (.Name x pos) (tD (cn X B W) (dVar i)) := by
  refine PE.imp (pv i hN hv hd hcd) fun σ H Q ⟨F, ρ, ε, g, I, w⟩ => ?_
  unfold dVar at w
  cases h : ε[i]? with
  | none => rw [h] at w; exact w.elim
  | some s =>
    rw [h] at w
    cases s with
    | va d =>
      obtain ⟨v, e, r⟩ := I.sl i _ h
      exact ⟨v, e, w v F ρ H (Step.refl _ _ _) I.gr r⟩
    | _ => exact w.elim
theorem t_var (i : Nat) {x : Str} {pos : Pos} (hN : X.N[i]? = some x := by rfl) (hv : Vis X.env.scope x := by first | exact Or.inl rfl | exact Or.inr (Or.inl rfl) | exact Or.inr (Or.inr rfl)) (hd : (x == ("__debug__" : Str)) = false := by decide)
    (hcd : (x == ("__classdict__" : Str)) = false := by decide) : PE X (.Name x pos) (tT (cn X B W) (tVr i)) := by
  refine PE.imp (pv i hN hv hd hcd) fun σ H Q ⟨F, ρ, ε, g, I, w⟩ => ?_
  unfold tVr at w
  cases h : ε[i]? with
  | none => rw [h] at w; exact w.elim
  | some s =>
    rw [h] at w
    cases s with
    | va d =>
      obtain ⟨v, e, r⟩ := I.sl i _ h
      exact ⟨v, e, w v F ρ H (Step.refl _ _ _) I.gr (.inl r)⟩
    | ow ds =>
      obtain ⟨a, vs, e, _⟩ := I.sl i _ h
      exact ⟨.ref a, e, w _ F ρ H (Step.refl _ _ _) I.gr (.inr ⟨i, ds, h, e, rfl⟩)⟩
    | _ => exact w.elim
@[simp] def dC (d : D) : EF D := fun _ g => .ok d g
theorem d_c {e : Expr} {v : V} {d : D} (h : PE X e (tC v)) (r : ∀ F ρ, Rp X.K F ρ v d) : PE X e (tD (cn X B W) (dC d)) :=
  PE.imp h fun σ H Q ⟨F, ρ, ε, g, I, w⟩ => w v F ρ H (Step.refl _ _ _) I.gr (r F ρ)
theorem d_int {i : Int} {j pos} : PE X (.Constant (.int i) j pos) (tD (cn X B W) (dC (.int i))) := d_c pe_int fun _ _ => .int i
theorem d_bl {b : Bool} {j pos} : PE X (.Constant (.bool b) j pos) (tD (cn X B W) (dC (.bool b))) := d_c pe_bl fun _ _ => .bl b
theorem d_non {j pos} : PE X (.Constant .none j pos) (tD (cn X B W) (dC .none)) := d_c pe_non fun _ _ => .non
theorem d_str {x : Str} {j pos} : PE X (.Constant (.str x) j pos) (tD (cn X B W) (dC (.str x))) := d_c pe_str fun _ _ => .str x
theorem d_globI {x : Str} {i : Int} {t : Tok} {pos : Pos} (hg : Gl X x) (hm : X.mg x = some (.int i t)) (hd : (x == ("__debug__" : Str)) = false := by decide) : PE X (.Name x pos) (tD (cn X B W) (dC (.int i))) := d_c (v := .int i) (pe_glob hg hm ⟨t, rfl⟩ hd) fun _ _ => .int i
theorem d_globS {x : Str} {i : Str} {t : Tok} {pos : Pos} (hg : Gl X x) (hm : X.mg x = some (.str i t)) (hd : (x == ("__debug__" : Str)) = false := by decide) : PE X (.Name x pos) (tD (cn X B W) (dC (.str i))) := d_c (v := .str i) (pe_glob hg hm ⟨t, rfl⟩ hd) fun _ _ => .str i

/-! ### two operands, one, arguments -/
@[simp] def dBin (h : D → D → G → R D) (fa fb : EF D) : EF D := fun ε g => (fa ε g).bind fun d1 g1 => (fb ε g1).bind fun d2 g2 => h d1 d2 g2
def OpD (X : Cx) (B : Base) (W : WX) (r : R2) (h : D → D → G → R D) : Prop := ∀ (F : Hp) (ρ : Fps) (σ : St) (H : Hp) (ε : Env) (g : G) (v1 v2 : V) (d1 d2 : D) (Q : VK), Rel X.K B F ρ σ H ε g → RpT X.K F ρ H σ ε v1 d1 → RpT X.K F ρ H σ ε v2 d2 →
  Wp X.K X.mg W σ ⟨F, ρ, H⟩ (PD (cn X B W)) (h d1 d2 g) Q → r v1 v2 H Q
theorem d_bin {e : Expr} {r : R2} {h : D → D → G → R D} {ta tb : EF D} (hh : OpD X B W r h) (p : PE X e (tOp r (tT (cn X B W) ta) (tT (cn X B W) tb))) : PE X e (tD (cn X B W) (dBin h ta tb)) := by
  refine PE.imp p fun σ H Q ⟨F, ρ, ε, g, I, w⟩ => ⟨F, ρ, ε, g, I, ?_⟩
  refine Wp.bind I w fun v1 d1 F1 ρ1 H1 g1 I1 s1 p1 w1 => ⟨F1, ρ1, ε, g1, I1, ?_⟩
  exact Wp.bind I1 w1 fun v2 d2 F2 ρ2 H2 g2 I2 s2 p2 w2 => hh _ _ _ _ _ _ _ _ _ _ _ I2 (p1.mono s2.f s2.r) p2 w2
@[simp] def dUn (h : D → G → R D) (fa : EF D) : EF D := fun ε g => (fa ε g).bind fun d1 g1 => h d1 g1
def UnD (X : Cx) (B : Base) (W : WX) (r : V → Hp → VK → Prop) (h : D → G → R D) : Prop := ∀ (F : Hp) (ρ : Fps) (σ : St) (H : Hp) (ε : Env) (g : G) (v1 : V) (d1 : D) (Q : VK), Rel X.K B F ρ σ H ε g → RpT X.K F ρ H σ ε v1 d1 →
  Wp X.K X.mg W σ ⟨F, ρ, H⟩ (PD (cn X B W)) (h d1 g) Q → r v1 H Q
theorem d_un {e : Expr} {r : V → Hp → VK → Prop} {h : D → G → R D} {ta : EF D} (hh : UnD X B W r h) (p : PE X e (tUn r (tT (cn X B W) ta))) : PE X e (tD (cn X B W) (dUn h ta)) := by
  refine PE.imp p fun σ H Q ⟨F, ρ, ε, g, I, w⟩ => ⟨F, ρ, ε, g, I, ?_⟩
  exact Wp.bind I w fun v1 d1 F1 ρ1 H1 g1 I1 s1 p1 w1 => hh _ _ _ _ _ _ _ _ _ I1 p1 w1

@[simp] def fNil : EF (List D) := fun _ g => .ok [] g
@[simp] def fCons (f : EF D) (fs : EF (List D)) : EF (List D) := fun ε g => (f ε g).bind fun d g => (fs ε g).bind fun ds g => .ok (d :: ds) g
theorem a_nil : PA X [] (tA (cn X B W) fNil) := PA.imp pa_nil fun σ H Q ⟨F, ρ, ε, g, I, w⟩ => w [] F ρ H (Step.refl _ _ _) I.gr .nil
theorem a_cons {e : Expr} {es : List Expr} {f : EF D} {fs : EF (List D)} (ha : PE X e (tD (cn X B W) f)) (hr : PA X es (tA (cn X B W) fs)) (hs : starEach (e :: es) X.env = (false, eval e X.env) :: starEach es X.env := by rfl) : PA X (e :: es) (tA (cn X B W) (fCons f fs)) := by
  refine PA.imp (pa_cons ha hr hs) fun σ H Q ⟨F, ρ, ε, g, I, w⟩ => ⟨F, ρ, ε, g, I, ?_⟩
  refine Wp.bind I w fun v1 d1 F1 ρ1 H1 g1 I1 s1 p1 w1 => ⟨F1, ρ1, ε, g1, I1, ?_⟩
  exact Wp.bind I1 w1 fun v2 d2 F2 ρ2 H2 g2 I2 s2 p2 w2 => w2 _ F2 ρ2 H2 (Step.refl _ _ _) I2.gr (.cons (Rp.mono s2.f s2.r p1) p2)
theorem at_nil : PA X [] (tTA (cn X B W) fNil) := PA.imp pa_nil fun σ H Q ⟨F, ρ, ε, g, I, w⟩ => w [] F ρ H (Step.refl _ _ _) I.gr .nil
theorem RpTA.mono {K : PySem.W.Frag} {F F' : Hp} {ρ ρ' : Fps} {H H' : Hp} {σ : St} {ε : Env} (e : Same F F') (r : ρ <+: ρ') : ∀ {v : List V} {d : List D}, RpTA K F ρ H σ ε v d → RpTA K F' ρ' H' σ ε v d
  | _, _, .nil => .nil
  | _, _, .cons h t => .cons (h.mono e r) (RpTA.mono e r t)
theorem at_cons {e : Expr} {es : List Expr} {f : EF D} {fs : EF (List D)} (ha : PE X e (tT (cn X B W) f)) (hr : PA X es (tTA (cn X B W) fs)) (hs : starEach (e :: es) X.env = (false, eval e X.env) :: starEach es X.env := by rfl) : PA X (e :: es) (tTA (cn X B W) (fCons f fs)) := by
  refine PA.imp (pa_cons ha hr hs) fun σ H Q ⟨F, ρ, ε, g, I, w⟩ => ⟨F, ρ, ε, g, I, ?_⟩
  refine Wp.bind I w fun v1 d1 F1 ρ1 H1 g1 I1 s1 p1 w1 => ⟨F1, ρ1, ε, g1, I1, ?_⟩
  exact Wp.bind I1 w1 fun v2 d2 F2 ρ2 H2 g2 I2 s2 p2 w2 => w2 _ F2 ρ2 H2 (Step.refl _ _ _) I2.gr (.cons (p1.mono s2.f s2.r) p2)

/-! ### reading what stands -/
theorem RpT.int {K : PySem.W.Frag} {F : Hp} {ρ : Fps} {H : Hp} {σ : St} {ε : Env} {v : V} {i : Int} (h : RpT K F ρ H σ ε v (.int i)) : v = .int i := by
  rcases h with h | ⟨_, _, _, _, e⟩
  · cases h; rfl
  · cases e
theorem RpT.bl {K : PySem.W.Frag} {F : Hp} {ρ : Fps} {H : Hp} {σ : St} {ε : Env} {v : V} {i : Bool} (h : RpT K F ρ H σ ε v (.bool i)) : v = .bl i := by
  rcases h with h | ⟨_, _, _, _, e⟩
  · cases h; rfl
  · cases e
theorem RpT.str {K : PySem.W.Frag} {F : Hp} {ρ : Fps} {H : Hp} {σ : St} {ε : Env} {v : V} {i : Str} (h : RpT K F ρ H σ ε v (.str i)) : v = .str i := by
  rcases h with h | ⟨_, _, _, _, e⟩
  · cases h; rfl
  · cases e
theorem RpT.non {K : PySem.W.Frag} {F : Hp} {ρ : Fps} {H : Hp} {σ : St} {ε : Env} {v : V} (h : RpT K F ρ H σ ε v .none) : v = .non := by
  rcases h with h | ⟨_, _, _, _, e⟩
  · cases h; rfl
  · cases e
theorem RpT.tup {K : PySem.W.Frag} {B : Base} {F : Hp} {ρ : Fps} {H : Hp} {σ : St} {ε : Env} {g : G} {v : V} {ds : List D} (I : Rel K B F ρ σ H ε g) (h : RpT K F ρ H σ ε v (.tuple ds)) : ∃ a vs, v = .ref a ∧ SqT K H a vs ∧ SqT K F a vs ∧ RpA K F ρ vs ds := by
  rcases h with h | ⟨_, _, _, _, e⟩
  · cases h with
    | tup h t => exact ⟨_, _, rfl, sqT_mono I.gr.le h, h, t⟩
  · cases e
theorem RpT.lst {K : PySem.W.Frag} {B : Base} {F : Hp} {ρ : Fps} {H : Hp} {σ : St} {ε : Env} {g : G} {v : V} {ds : List D} (I : Rel K B F ρ σ H ε g) (h : RpT K F ρ H σ ε v (.list ds)) : ∃ a vs, v = .ref a ∧ H a = some (.lst vs) ∧ RpA K F ρ vs ds := by
  rcases h with h | ⟨i, ds', e1, e2, e⟩
  · cases h with
    | lst h t => exact ⟨_, _, rfl, I.gr.le _ _ h, t⟩
  · cases e
    obtain ⟨a, vs, e3, h1, h2, _⟩ := I.sl i _ e1
    rw [e2] at e3
    cases e3
    exact ⟨a, vs, rfl, h1, h2⟩
theorem RpT.scr {K : PySem.W.Frag} {B : Base} {F : Hp} {ρ : Fps} {H : Hp} {σ : St} {ε : Env} {g : G} {v : V} {ns : List Int} (I : Rel K B F ρ σ H ε g) (h : RpT K F ρ H σ ε v (scr ns)) : ∃ a, v = .ref a ∧ SqL K H a (ns.map V.int) := by
  rcases h with h | ⟨i, ds', e1, e2, e⟩
  · generalize hd : DL.scr ns = d at h
    cases h with
    | @scr a ms h =>
      have e : ns = ms := by
        simp only [DL.scr, PyData.dict.injEq, List.cons.injEq, Prod.mk.injEq, PyData.list.injEq, and_true, true_and] at hd
        exact (List.map_inj_right (fun a b e => by cases e; rfl)).mp hd
      subst e
      exact ⟨_, rfl, I.gr.le.seq h⟩
    | gob h => simp [DL.scr, gref] at hd
    | dic h t =>
      exfalso
      simp only [DL.scr, PyData.dict.injEq] at hd
      subst hd
      cases t
    | _ => simp [DL.scr] at hd
  · simp [DL.scr] at e
/-- plain data of any form -/
theorem RpT.dp {K : PySem.W.Frag} {B : Base} {F : Hp} {ρ : Fps} {H : Hp} {σ : St} {ε : Env} {g : G} {v : V} {d : D} (I : Rel K B F ρ σ H ε g) (h : RpT K F ρ H σ ε v d) (p : pure0 d = true) : Dp K H v d := by
  rcases h with h | ⟨i, ds', e1, e2, e⟩
  · exact h.dp I.gr.le p
  · obtain ⟨a, vs, e3, h1, h2, _⟩ := I.sl i _ e1
    rw [e2] at e3
    cases e3
    subst e
    exact .lst (SqL.of h1) (h2.dp I.gr.le (by simpa [pure0] using p))
/-- giving back a flat value -/
theorem Wp.now {c : Cn} {F : Hp} {ρ : Fps} {σ : St} {H : Hp} {ε : Env} {g : G} {v : V} {d : D} {Q : VK} (I : Rel c.K c.B F ρ σ H ε g) (w : Wp c.K c.mg c.W σ ⟨F, ρ, H⟩ (PD c) (.ok d g) Q) (r : Rp c.K F ρ v d) : Q v H := w v F ρ H (Step.refl _ _ _) I.gr r
/-- .. a new object -/
theorem Wp.new {c : Cn} {F : Hp} {ρ : Fps} {σ : St} {H : Hp} {ε : Env} {g : G} {p : Addr} {o : HO} {d : D} {Q : VK} (I : Rel c.K c.B F ρ σ H ε g) (w : Wp c.K c.mg c.W σ ⟨F, ρ, H⟩ (PD c) (.ok d g) Q) (hp : H p = none) (r : Rp c.K (upd F p o) ρ (.ref p) d) : Q (.ref p) (upd H p o) := by
  obtain ⟨s, q⟩ := step_new (o := o) I.gr hp
  exact w _ _ _ _ s q r
theorem same_new {F : Hp} {p : Addr} {o : HO} (h : F p = none) : Same F (upd F p o) := fun b u e => by
  rw [upd_ne (ne_of_none e h)]; exact e
end
end DL

namespace DL
open PySem L2
section
variable {X : Cx} {B : Base} {W : WX}
theorem OpD.or {r r' : R2} {h : D → D → G → R D} (p : ∀ (F : Hp) (ρ : Fps) (σ : St) (H : Hp) (ε : Env) (g : G) (v1 v2 : V) (d1 d2 : D) (Q : VK), Rel X.K B F ρ σ H ε g → RpT X.K F ρ H σ ε v1 d1 → RpT X.K F ρ H σ ε v2 d2 →
  Wp X.K X.mg W σ ⟨F, ρ, H⟩ (PD (cn X B W)) (h d1 d2 g) Q → r v1 v2 H Q ∨ r' v1 v2 H Q) : OpD X B W (fun x y H Q => r x y H Q ∨ r' x y H Q) h := p

def cap : Nat := 1000000
theorem cap_size {n : Nat} (h : n ≤ cap) : n ≤ sizeLine := Nat.le_trans h (by decide)
theorem cap_lt {n : Nat} (h : n ≤ cap) : n < sizeLine := Nat.lt_of_le_of_lt h (by decide)
/-! ### + - * // % ** -/
@[simp] def pyAdd (a b : D) (g : G) : R D := match a, b with
  | .int i, .int j => .ok (.int (i + j)) g
  | .str x, .str y => if x.length + y.length ≤ cap then .ok (.str (x ++ y)) g else .stuck
  | .list x, .list y => if x.length + y.length ≤ cap then .ok (.list (x ++ y)) g else .stuck
  | .tuple x, .tuple y => if x.length + y.length ≤ cap then .ok (.tuple (x ++ y)) g else .stuck
  | _, _ => .stuck
def rAddA (K : PySem.W.Frag) : R2 := fun x y H Q => rI0 (fun i j => .int (i + j)) x y H Q ∨ (fun x y H Q => (fun x y H Q => ∃ i j, x = .str i ∧ y = .str j ∧ i.length + j.length ≤ sizeLine ∧ Q (.str (i ++ j)) H) x y H Q ∨ (fun x y H Q => rCat x y H Q ∨ rCatA K x y H Q) x y H Q) x y H Q
theorem op_addA : OpR X (binaryOp .Add) (rAddA X.K) := op_add.or (op_add_str.or (op_cat.or op_catA))
theorem RpA.nil_iff {K : PySem.W.Frag} {F : Hp} {ρ : Fps} {vs : List V} {ds : List D} (h : RpA K F ρ vs ds) : vs = [] ↔ ds = [] := by
  cases h with
  | nil => simp
  | cons _ _ => simp
theorem od_add : OpD X B W (rAddA X.K) pyAdd := by
  intro F ρ σ H ε g v1 v2 d1 d2 Q I p1 p2 w
  unfold pyAdd at w
  split at w
  · cases p1.int; cases p2.int
    exact .inl ⟨_, _, rfl, rfl, Wp.now I w (.int _)⟩
  · cases p1.str; cases p2.str
    split at w
    · rename_i h
      exact .inr (.inl ⟨_, _, rfl, rfl, cap_size h, Wp.now I w (.str _)⟩)
    · exact w.elim
  · split at w
    · rename_i h
      obtain ⟨a, vs, rfl, h1, r1⟩ := p1.lst I
      obtain ⟨b, ws, rfl, h2, r2⟩ := p2.lst I
      refine .inr (.inr (.inl ⟨a, b, vs, ws, rfl, rfl, h1, h2, cap_size (by rw [r1.length, r2.length]; exact h), fun p hp => Wp.new I w hp (.lst upd_same ?_)⟩))
      exact (r1.append r2).mono (same_new (I.gr.le.free hp)) (List.prefix_refl _)
    · exact w.elim
  · split at w
    · rename_i h
      obtain ⟨a, vs, rfl, h1, h1', r1⟩ := p1.tup I
      obtain ⟨b, ws, rfl, h2, h2', r2⟩ := p2.tup I
      refine .inr (.inr (.inr ⟨a, b, vs, ws, rfl, rfl, h1, h2, cap_size (by rw [r1.length, r2.length]; exact h), fun z => Wp.now I w ?_, fun _ z => Wp.now I w ?_, fun _ _ p hp => Wp.new I w hp (.tup (SqT.of upd_same) ?_)⟩))
      · rw [r1.nil_iff.mp z, List.nil_append]; exact .tup h2' r2
      · rw [r2.nil_iff.mp z, List.append_nil]; exact .tup h1' r1
      · exact (r1.append r2).mono (same_new (I.gr.le.free hp)) (List.prefix_refl _)
    · exact w.elim
  · exact w.elim
@[simp] def pySub (a b : D) (g : G) : R D := match a, b with
  | .int i, .int j => .ok (.int (i - j)) g
  | _, _ => .stuck
theorem od_sub : OpD X B W (rI0 fun i j => .int (i - j)) pySub := by
  intro F ρ σ H ε g v1 v2 d1 d2 Q I p1 p2 w
  unfold pySub at w
  split at w
  · cases p1.int; cases p2.int
    exact ⟨_, _, rfl, rfl, Wp.now I w (.int _)⟩
  · exact w.elim
/-- one side small -/
def small (i : Int) : Bool := decide (-(2 ^ 64) < i ∧ i < 2 ^ 64)
theorem CMul_of {i j : Int} (h : (small i || small j) = true) : CMul i j := by
  rcases (Bool.or_eq_true _ _).mp h with h | h
  · exact .inl (of_decide_eq_true h)
  · exact .inr (of_decide_eq_true h)
@[simp] def pyMulI (a b : D) (g : G) : R D := match a, b with
  | .int i, .int j => if (small i || small j) = true then .ok (.int (i * j)) g else .stuck
  | _, _ => .stuck
theorem od_mulI : OpD X B W (rI CMul fun i j => .int (i * j)) pyMulI := by
  intro F ρ σ H ε g v1 v2 d1 d2 Q I p1 p2 w
  unfold pyMulI at w
  split at w
  · cases p1.int; cases p2.int
    split at w
    · rename_i h
      exact ⟨_, _, rfl, rfl, CMul_of h, Wp.now I w (.int _)⟩
    · exact w.elim
  · exact w.elim
/-- // of a divisor from 1 to 2 ** 30 -/
@[simp] def pyDiv (a b : D) (g : G) : R D := match a, b with
  | .int i, .int j => if 0 < j ∧ j < 1073741824 then .ok (.int (i / j)) g else .stuck
  | _, _ => .stuck
theorem od_div : OpD X B W (rI CDiv fun i j => .int (i / j)) pyDiv := by
  intro F ρ σ H ε g v1 v2 d1 d2 Q I p1 p2 w
  unfold pyDiv at w
  split at w
  · cases p1.int; cases p2.int
    split at w
    · rename_i h
      exact ⟨_, _, rfl, rfl, h, Wp.now I w (.int _)⟩
    · exact w.elim
  · exact w.elim
@[simp] def pyMod (a b : D) (g : G) : R D := match a, b with
  | .int i, .int j => if 0 < j then .ok (.int (i % j)) g else .stuck
  | _, _ => .stuck
theorem od_mod : OpD X B W (rI (fun _ j => 0 < j) fun i j => .int (i % j)) pyMod := by
  intro F ρ σ H ε g v1 v2 d1 d2 Q I p1 p2 w
  unfold pyMod at w
  split at w
  · cases p1.int; cases p2.int
    split at w
    · rename_i h
      exact ⟨_, _, rfl, rfl, h, Wp.now I w (.int _)⟩
    · exact w.elim
  · exact w.elim
@[simp] def pyPow (a b : D) (g : G) : R D := match a, b with
  | .int i, .int j => if 0 ≤ j ∧ j ≤ 1000 ∧ i.natAbs < 1000 then .ok (.int (i ^ j.toNat)) g else .stuck
  | _, _ => .stuck
theorem od_pow : OpD X B W (rI CPow fun i j => .int (i ^ j.toNat)) pyPow := by
  intro F ρ σ H ε g v1 v2 d1 d2 Q I p1 p2 w
  unfold pyPow at w
  split at w
  · cases p1.int; cases p2.int
    split at w
    · rename_i h
      exact ⟨_, _, rfl, rfl, ⟨h.1, by omega, by omega⟩, Wp.now I w (.int _)⟩
    · exact w.elim
  · exact w.elim
@[simp] def pyNeg (a : D) (g : G) : R D := match a with
  | .int i => .ok (.int (-i)) g
  | _ => .stuck
theorem ud_neg : UnD X B W (rU fun i => .int (-i)) pyNeg := by
  intro F ρ σ H ε g v1 d1 Q I p1 w
  unfold pyNeg at w
  split at w
  · cases p1.int
    exact ⟨_, rfl, Wp.now I w (.int _)⟩
  · exact w.elim

/-! ### comparisons -/
@[simp] def pyLt (a b : D) (g : G) : R D := match a, b with
  | .int i, .int j => .ok (.bool (decide (i < j))) g
  | .str x, .str y => .ok (.bool (decide (x.cps.toList < y.cps.toList))) g
  | _, _ => .stuck
@[simp] def pyLe (a b : D) (g : G) : R D := match a, b with
  | .int i, .int j => .ok (.bool (decide (i ≤ j))) g
  | _, _ => .stuck
@[simp] def pyGt (a b : D) (g : G) : R D := match a, b with
  | .int i, .int j => .ok (.bool (decide (j < i))) g
  | _, _ => .stuck
@[simp] def pyGe (a b : D) (g : G) : R D := match a, b with
  | .int i, .int j => .ok (.bool (decide (j ≤ i))) g
  | _, _ => .stuck
def rLtA : R2 := fun x y H Q => rI0 (fun i j => .bl (decide (i < j))) x y H Q ∨ (fun x y H Q => ∃ i j, x = .str i ∧ y = .str j ∧ Q (.bl (decide (i.cps.toList < j.cps.toList))) H) x y H Q
theorem op_ltA : OpR X (compareOp .Lt) rLtA := op_lt.or op_lt_str
theorem od_lt : OpD X B W rLtA pyLt := by
  intro F ρ σ H ε g v1 v2 d1 d2 Q I p1 p2 w
  unfold pyLt at w
  split at w
  · cases p1.int; cases p2.int
    exact .inl ⟨_, _, rfl, rfl, Wp.now I w (.bl _)⟩
  · cases p1.str; cases p2.str
    exact .inr ⟨_, _, rfl, rfl, Wp.now I w (.bl _)⟩
  · exact w.elim
theorem od_le : OpD X B W (rI0 fun i j => .bl (decide (i ≤ j))) pyLe := by
  intro F ρ σ H ε g v1 v2 d1 d2 Q I p1 p2 w
  unfold pyLe at w
  split at w
  · cases p1.int; cases p2.int
    exact ⟨_, _, rfl, rfl, Wp.now I w (.bl _)⟩
  · exact w.elim
theorem od_gt : OpD X B W (rI0 fun i j => .bl (decide (j < i))) pyGt := by
  intro F ρ σ H ε g v1 v2 d1 d2 Q I p1 p2 w
  unfold pyGt at w
  split at w
  · cases p1.int; cases p2.int
    exact ⟨_, _, rfl, rfl, Wp.now I w (.bl _)⟩
  · exact w.elim
theorem od_ge : OpD X B W (rI0 fun i j => .bl (decide (j ≤ i))) pyGe := by
  intro F ρ σ H ε g v1 v2 d1 d2 Q I p1 p2 w
  unfold pyGe at w
  split at w
  · cases p1.int; cases p2.int
    exact ⟨_, _, rfl, rfl, Wp.now I w (.bl _)⟩
  · exact w.elim
def okEq (d : D) : Bool := pure0 d && SeqAt.shaped d
@[simp] def pyEq (a b : D) (g : G) : R D := match a, b with
  | .int i, .int j => .ok (.bool (decide (i = j))) g
  | .str i, .str j => .ok (.bool (decide (i = j))) g
  | _, _ => if (okEq a && okEq b) = true then .ok (.bool (PyData.eqv a b)) g else .stuck
@[simp] def pyNe (a b : D) (g : G) : R D := match a, b with
  | .int i, .int j => .ok (.bool (!decide (i = j))) g
  | .str i, .str j => .ok (.bool (!decide (i = j))) g
  | _, _ => if (okEq a && okEq b) = true then .ok (.bool (!PyData.eqv a b)) g else .stuck
def rEqA (K : PySem.W.Frag) : R2 := fun x y H Q => rEq x y H Q ∨ rEqD K x y H Q
def rNeA (K : PySem.W.Frag) : R2 := fun x y H Q => rNe x y H Q ∨ rNeD K x y H Q
theorem op_eqA (hu : X.A.units + 64 < cLine) : OpR X (compareOp .Eq) (rEqA X.K) := op_eq.or (op_eqD hu)
theorem op_neA (hu : X.A.units + 64 < cLine) : OpR X (compareOp .NotEq) (rNeA X.K) := op_ne.or (op_neD hu)
theorem dec_i {i j : Int} : decide (V.int i = V.int j) = decide (i = j) := by
  by_cases h : i = j
  · subst h; simp
  · simp [h]
theorem dec_s {i j : Str} : decide (V.str i = V.str j) = decide (i = j) := by
  by_cases h : i = j
  · subst h; simp
  · simp [h]
theorem od_eq : OpD X B W (rEqA X.K) pyEq := by
  intro F ρ σ H ε g v1 v2 d1 d2 Q I p1 p2 w
  unfold pyEq at w
  split at w
  · cases p1.int; cases p2.int
    exact .inl ⟨rfl, by rw [dec_i]; exact Wp.now I w (.bl _)⟩
  · cases p1.str; cases p2.str
    exact .inl ⟨rfl, by rw [dec_s]; exact Wp.now I w (.bl _)⟩
  · split at w
    · rename_i h
      simp only [Bool.and_eq_true, okEq] at h
      exact .inr ⟨_, _, p1.dp I h.1.1, p2.dp I h.2.1, h.1.2, h.2.2, Wp.now I w (.bl _)⟩
    · exact w.elim
theorem od_ne : OpD X B W (rNeA X.K) pyNe := by
  intro F ρ σ H ε g v1 v2 d1 d2 Q I p1 p2 w
  unfold pyNe at w
  split at w
  · cases p1.int; cases p2.int
    exact .inl ⟨rfl, by rw [dec_i]; exact Wp.now I w (.bl _)⟩
  · cases p1.str; cases p2.str
    exact .inl ⟨rfl, by rw [dec_s]; exact Wp.now I w (.bl _)⟩
  · split at w
    · rename_i h
      simp only [Bool.and_eq_true, okEq] at h
      exact .inr ⟨_, _, p1.dp I h.1.1, p2.dp I h.2.1, h.1.2, h.2.2, Wp.now I w (.bl _)⟩
    · exact w.elim

section
variable {a b e : Expr} {fa fb fc : EF D} {pos : Pos}
theorem d_add (ha : PE X a (tT (cn X B W) fa)) (hb : PE X b (tT (cn X B W) fb)) : PE X (.BinOp a .Add b pos) (tD (cn X B W) (dBin pyAdd fa fb)) := d_bin od_add (pe_op op_addA ha hb)
theorem d_sub (ha : PE X a (tT (cn X B W) fa)) (hb : PE X b (tT (cn X B W) fb)) : PE X (.BinOp a .Sub b pos) (tD (cn X B W) (dBin pySub fa fb)) := d_bin od_sub (pe_op op_sub ha hb)
theorem d_mulI (ha : PE X a (tT (cn X B W) fa)) (hb : PE X b (tT (cn X B W) fb)) : PE X (.BinOp a .Mult b pos) (tD (cn X B W) (dBin pyMulI fa fb)) := d_bin od_mulI (pe_op op_mul ha hb)
theorem d_div (ha : PE X a (tT (cn X B W) fa)) (hb : PE X b (tT (cn X B W) fb)) : PE X (.BinOp a .FloorDiv b pos) (tD (cn X B W) (dBin pyDiv fa fb)) := d_bin od_div (pe_op op_fdiv ha hb)
theorem d_mod (ha : PE X a (tT (cn X B W) fa)) (hb : PE X b (tT (cn X B W) fb)) : PE X (.BinOp a .Mod b pos) (tD (cn X B W) (dBin pyMod fa fb)) := d_bin od_mod (pe_op op_mod ha hb)
theorem d_pow (ha : PE X a (tT (cn X B W) fa)) (hb : PE X b (tT (cn X B W) fb)) : PE X (.BinOp a .Pow b pos) (tD (cn X B W) (dBin pyPow fa fb)) := d_bin od_pow (pe_op op_pow ha hb)
theorem d_neg (ha : PE X a (tT (cn X B W) fa)) : PE X (.UnaryOp .USub a pos) (tD (cn X B W) (dUn pyNeg fa)) := d_un ud_neg (pe_un un_neg ha)
theorem d_lt (ha : PE X a (tT (cn X B W) fa)) (hb : PE X b (tT (cn X B W) fb)) : PE X (.Compare a [.Lt] [b] pos) (tD (cn X B W) (dBin pyLt fa fb)) := d_bin od_lt (pe_cmpR op_ltA ha hb (nomark _))
theorem d_le (ha : PE X a (tT (cn X B W) fa)) (hb : PE X b (tT (cn X B W) fb)) : PE X (.Compare a [.LtE] [b] pos) (tD (cn X B W) (dBin pyLe fa fb)) := d_bin od_le (pe_cmpR op_le ha hb (nomark _))
theorem d_gt (ha : PE X a (tT (cn X B W) fa)) (hb : PE X b (tT (cn X B W) fb)) : PE X (.Compare a [.Gt] [b] pos) (tD (cn X B W) (dBin pyGt fa fb)) := d_bin od_gt (pe_cmpR op_gt ha hb (nomark _))
theorem d_ge (ha : PE X a (tT (cn X B W) fa)) (hb : PE X b (tT (cn X B W) fb)) : PE X (.Compare a [.GtE] [b] pos) (tD (cn X B W) (dBin pyGe fa fb)) := d_bin od_ge (pe_cmpR op_ge ha hb (nomark _))
theorem d_eq (hu : X.A.units + 64 < cLine) (ha : PE X a (tT (cn X B W) fa)) (hb : PE X b (tT (cn X B W) fb)) : PE X (.Compare a [.Eq] [b] pos) (tD (cn X B W) (dBin pyEq fa fb)) := d_bin od_eq (pe_cmpR (op_eqA hu) ha hb (nomark _))
theorem d_ne (hu : X.A.units + 64 < cLine) (ha : PE X a (tT (cn X B W) fa)) (hb : PE X b (tT (cn X B W) fb)) : PE X (.Compare a [.NotEq] [b] pos) (tD (cn X B W) (dBin pyNe fa fb)) := d_bin od_ne (pe_cmpR (op_neA hu) ha hb (nomark _))
/-- a op b op' c -/
@[simp] def dChn (h h' : D → D → G → R D) (fa fb fc : EF D) : EF D := fun ε g => (fa ε g).bind fun d1 g1 => (fb ε g1).bind fun d2 g2 => (h d1 d2 g2).bind fun k g3 => match k with
  | .bool true => (fc ε g3).bind fun d3 g4 => h' d2 d3 g4
  | .bool false => .ok (.bool false) g3
  | _ => .stuck
end
end
end DL

namespace DL
open PySem L2
section
variable {X : Cx} {B : Base} {W : WX}
/-! ### chains -/
theorem d_chn {op op' : CmpOp} {a b c : Expr} {r r' : R2} {h h' : D → D → G → R D} {fa fb fc : EF D} {pos : Pos} (ho : OpR X (compareOp op) r) (ho' : OpR X (compareOp op') r') (hh : OpD X B W r h) (hh' : OpD X B W r' h') (hb2 : ∀ x y g, (∃ k g', h x y g = .ok (.bool k) g') ∨ h x y g = .stuck)
    (ha : PE X a (tT (cn X B W) fa)) (hb : PE X b (tT (cn X B W) fb)) (hc : PE X c (tT (cn X B W) fc)) (hm : lastMarks [op, op'] [b, c] = false := by with_unfolding_all rfl) :
    PE X (.Compare a [op, op'] [b, c] pos) (tD (cn X B W) (dChn h h' fa fb fc)) := by
  refine PE.imp (pe_chain ho ho' ha hb hc hm) fun σ H Q ⟨F, ρ, ε, g, I, w⟩ => ⟨F, ρ, ε, g, I, ?_⟩
  refine Wp.bind I w fun v1 d1 F1 ρ1 H1 g1 I1 s1 p1 w1 => ⟨F1, ρ1, ε, g1, I1, ?_⟩
  refine Wp.bind I1 w1 fun v2 d2 F2 ρ2 H2 g2 I2 s2 p2 w2 => hh _ _ _ _ _ _ _ _ _ _ _ I2 (p1.mono s2.f s2.r) p2 ?_
  rcases hb2 d1 d2 g2 with ⟨k, g', e⟩ | e
  · rw [e] at w2 ⊢
    rw [bind_ok] at w2
    intro v F3 ρ3 H3 s3 q3 p3
    have p3' : Rp X.K F3 ρ3 v (.bool k) := p3
    cases p3'
    refine ⟨k, rfl, ?_⟩
    have I3 := I2.step s3 q3
    cases k with
    | true =>
      rw [if_pos rfl]
      refine ⟨F3, ρ3, ε, g', I3, ?_⟩
      have w3 : Wp X.K X.mg W σ ⟨F3, ρ3, H3⟩ (PD (cn X B W)) ((fc ε g').bind fun d3 g4 => h' d2 d3 g4) Q := by
        revert w2
        cases ((fc ε g').bind fun d3 g4 => h' d2 d3 g4) with
        | ok d g4 => exact fun w v F' ρ' H' s q p => w v F' ρ' H' (s3.trans s) q p
        | exc x g4 => exact fun w cl dd F' ρ' H' s q p => w cl dd F' ρ' H' (s3.trans s) q p
        | stuck => exact fun w => w
      exact Wp.bind I3 w3 fun v4 d4 F4 ρ4 H4 g4 I4 s4 p4 w4 => hh' _ _ _ _ _ _ _ _ _ _ _ I4 (p2.mono (s3.f.trans s4.f) (s3.r.trans s4.r)) p4 w4
    | false =>
      rw [if_neg Bool.false_ne_true]
      exact w2 _ _ _ _ s3 q3 (.bl false)
  · rw [e] at w2
    exact w2.elim
theorem isb_lt (x y g) : (∃ k g', pyLt x y g = .ok (.bool k) g') ∨ pyLt x y g = .stuck := by
  unfold pyLt; split <;> first | exact .inl ⟨_, _, rfl⟩ | exact .inr rfl
theorem isb_le (x y g) : (∃ k g', pyLe x y g = .ok (.bool k) g') ∨ pyLe x y g = .stuck := by
  unfold pyLe; split <;> first | exact .inl ⟨_, _, rfl⟩ | exact .inr rfl
section
variable {a b c e : Expr} {fa fb fc : EF D} {pos : Pos}
theorem d_le_le (ha : PE X a (tT (cn X B W) fa)) (hb : PE X b (tT (cn X B W) fb)) (hc : PE X c (tT (cn X B W) fc)) (hm : lastMarks [.LtE, .LtE] [b, c] = false := by with_unfolding_all rfl) :
    PE X (.Compare a [.LtE, .LtE] [b, c] pos) (tD (cn X B W) (dChn pyLe pyLe fa fb fc)) := d_chn op_le op_le od_le od_le isb_le ha hb hc hm
theorem d_lt_lt (ha : PE X a (tT (cn X B W) fa)) (hb : PE X b (tT (cn X B W) fb)) (hc : PE X c (tT (cn X B W) fc)) (hm : lastMarks [.Lt, .Lt] [b, c] = false := by with_unfolding_all rfl) :
    PE X (.Compare a [.Lt, .Lt] [b, c] pos) (tD (cn X B W) (dChn pyLt pyLt fa fb fc)) := d_chn op_ltA op_ltA od_lt od_lt isb_lt ha hb hc hm
theorem d_le_lt (ha : PE X a (tT (cn X B W) fa)) (hb : PE X b (tT (cn X B W) fb)) (hc : PE X c (tT (cn X B W) fc)) (hm : lastMarks [.LtE, .Lt] [b, c] = false := by with_unfolding_all rfl) :
    PE X (.Compare a [.LtE, .Lt] [b, c] pos) (tD (cn X B W) (dChn pyLe pyLt fa fb fc)) := d_chn op_le op_ltA od_le od_lt isb_le ha hb hc hm
theorem d_lt_le (ha : PE X a (tT (cn X B W) fa)) (hb : PE X b (tT (cn X B W) fb)) (hc : PE X c (tT (cn X B W) fc)) (hm : lastMarks [.Lt, .LtE] [b, c] = false := by with_unfolding_all rfl) :
    PE X (.Compare a [.Lt, .LtE] [b, c] pos) (tD (cn X B W) (dChn pyLt pyLe fa fb fc)) := d_chn op_ltA op_le od_lt od_le isb_lt ha hb hc hm
end

/-! ### truths -/
@[simp] def asB (f : EF D) : EF Bool := fun ε g => (f ε g).bind fun d g => match d with
  | .bool b => .ok b g
  | _ => .stuck
theorem b_of {e : Expr} {f : EF D} {t : TT} (h : PT X e t) (ht : ∀ σ H Q, (tD (cn X B W) f σ H fun x H1 => ∃ k, x = .bl k ∧ Q k H1) → t σ H Q) : PT X e (tB (cn X B W) (asB f)) := by
  refine PT.imp h fun σ H Q ⟨F, ρ, ε, g, I, w⟩ => ht σ H Q ⟨F, ρ, ε, g, I, ?_⟩
  unfold asB at w
  refine Wp.bind I w fun v1 d1 F1 ρ1 H1 g1 I1 s1 p1 w1 => ?_
  split at w1
  · cases p1
    exact ⟨_, rfl, w1 _ F1 ρ1 H1 (Step.refl _ _ _) I1.gr rfl⟩
  · exact w1.elim
theorem b_val {e : Expr} {f : EF D} (h : PE X e (tD (cn X B W) f)) (he : ∀ whole, isTrue e X.env whole = (do let v ← whole; standAt e.pos; holding [v] (truthy v)) := by intro _; rfl) : PT X e (tB (cn X B W) (asB f)) :=
  b_of (pt_val h he) fun _ _ _ z => z
/-- a comparison as a test -/
theorem b_bin {e : Expr} {r : R2} {h : D → D → G → R D} {fa fb : EF D} (hh : OpD X B W r h) (p : PT X e (tTest (tOp r (tT (cn X B W) fa) (tT (cn X B W) fb)))) : PT X e (tB (cn X B W) (asB (dBin h fa fb))) := by
  refine b_of p fun σ H Q ⟨F, ρ, ε, g, I, w⟩ => ⟨F, ρ, ε, g, I, ?_⟩
  refine Wp.bind I w fun v1 d1 F1 ρ1 H1 g1 I1 s1 p1 w1 => ⟨F1, ρ1, ε, g1, I1, ?_⟩
  exact Wp.bind I1 w1 fun v2 d2 F2 ρ2 H2 g2 I2 s2 p2 w2 => hh _ _ _ _ _ _ _ _ _ _ _ I2 (p1.mono s2.f s2.r) p2 w2
section
variable {a b c e : Expr} {fa fb fc : EF D} {pos : Pos}
theorem b_lt (ha : PE X a (tT (cn X B W) fa)) (hb : PE X b (tT (cn X B W) fb)) : PT X (.Compare a [.Lt] [b] pos) (tB (cn X B W) (asB (dBin pyLt fa fb))) := b_bin od_lt (pt_cmpR op_ltA ha hb (nomark _))
theorem b_le (ha : PE X a (tT (cn X B W) fa)) (hb : PE X b (tT (cn X B W) fb)) : PT X (.Compare a [.LtE] [b] pos) (tB (cn X B W) (asB (dBin pyLe fa fb))) := b_bin od_le (pt_cmpR op_le ha hb (nomark _))
theorem b_gt (ha : PE X a (tT (cn X B W) fa)) (hb : PE X b (tT (cn X B W) fb)) : PT X (.Compare a [.Gt] [b] pos) (tB (cn X B W) (asB (dBin pyGt fa fb))) := b_bin od_gt (pt_cmpR op_gt ha hb (nomark _))
theorem b_ge (ha : PE X a (tT (cn X B W) fa)) (hb : PE X b (tT (cn X B W) fb)) : PT X (.Compare a [.GtE] [b] pos) (tB (cn X B W) (asB (dBin pyGe fa fb))) := b_bin od_ge (pt_cmpR op_ge ha hb (nomark _))
theorem b_eq (hu : X.A.units + 64 < cLine) (ha : PE X a (tT (cn X B W) fa)) (hb : PE X b (tT (cn X B W) fb)) : PT X (.Compare a [.Eq] [b] pos) (tB (cn X B W) (asB (dBin pyEq fa fb))) := b_bin od_eq (pt_cmpR (op_eqA hu) ha hb (nomark _))
theorem b_ne (hu : X.A.units + 64 < cLine) (ha : PE X a (tT (cn X B W) fa)) (hb : PE X b (tT (cn X B W) fb)) : PT X (.Compare a [.NotEq] [b] pos) (tB (cn X B W) (asB (dBin pyNe fa fb))) := b_bin od_ne (pt_cmpR (op_neA hu) ha hb (nomark _))
/-- a chain as a test -/
theorem b_chn {op op' : CmpOp} {r r' : R2} {h h' : D → D → G → R D} (ho : OpR X (compareOp op) r) (ho' : OpR X (compareOp op') r') (hh : OpD X B W r h) (hh' : OpD X B W r' h') (hb2 : ∀ x y g, (∃ k g', h x y g = .ok (.bool k) g') ∨ h x y g = .stuck)
    (ha : PE X a (tT (cn X B W) fa)) (hb : PE X b (tT (cn X B W) fb)) (hc : PE X c (tT (cn X B W) fc)) (hm : lastMarks [op, op'] [b, c] = false := by with_unfolding_all rfl) :
    PT X (.Compare a [op, op'] [b, c] pos) (tB (cn X B W) (asB (dChn h h' fa fb fc))) := by
  refine b_of (pt_chain ho ho' ha hb hc hm) fun σ H Q ⟨F, ρ, ε, g, I, w⟩ => ⟨F, ρ, ε, g, I, ?_⟩
  refine Wp.bind I w fun v1 d1 F1 ρ1 H1 g1 I1 s1 p1 w1 => ⟨F1, ρ1, ε, g1, I1, ?_⟩
  refine Wp.bind I1 w1 fun v2 d2 F2 ρ2 H2 g2 I2 s2 p2 w2 => hh _ _ _ _ _ _ _ _ _ _ _ I2 (p1.mono s2.f s2.r) p2 ?_
  rcases hb2 d1 d2 g2 with ⟨k, g', e⟩ | e
  · rw [e] at w2 ⊢
    rw [bind_ok] at w2
    intro v F3 ρ3 H3 s3 q3 p3
    have p3' : Rp X.K F3 ρ3 v (.bool k) := p3
    cases p3'
    refine ⟨k, rfl, ?_⟩
    have I3 := I2.step s3 q3
    cases k with
    | true =>
      rw [if_pos rfl]
      refine ⟨F3, ρ3, ε, g', I3, ?_⟩
      have w3 : Wp X.K X.mg W σ ⟨F3, ρ3, H3⟩ (PD (cn X B W)) ((fc ε g').bind fun d3 g4 => h' d2 d3 g4) (fun x H1 => ∃ k, x = .bl k ∧ Q k H1) := by
        revert w2
        cases ((fc ε g').bind fun d3 g4 => h' d2 d3 g4) with
        | ok d g4 => exact fun w v F' ρ' H' s q p => w v F' ρ' H' (s3.trans s) q p
        | exc x g4 => exact fun w cl dd F' ρ' H' s q p => w cl dd F' ρ' H' (s3.trans s) q p
        | stuck => exact fun w => w
      exact Wp.bind I3 w3 fun v4 d4 F4 ρ4 H4 g4 I4 s4 p4 w4 => hh' _ _ _ _ _ _ _ _ _ _ _ I4 (p2.mono (s3.f.trans s4.f) (s3.r.trans s4.r)) p4 w4
    | false =>
      rw [if_neg Bool.false_ne_true]
      exact w2 _ _ _ _ s3 q3 (.bl false)
  · rw [e] at w2
    exact w2.elim
theorem b_le_le (ha : PE X a (tT (cn X B W) fa)) (hb : PE X b (tT (cn X B W) fb)) (hc : PE X c (tT (cn X B W) fc)) (hm : lastMarks [.LtE, .LtE] [b, c] = false := by with_unfolding_all rfl) :
    PT X (.Compare a [.LtE, .LtE] [b, c] pos) (tB (cn X B W) (asB (dChn pyLe pyLe fa fb fc))) := b_chn op_le op_le od_le od_le isb_le ha hb hc hm
theorem b_lt_lt (ha : PE X a (tT (cn X B W) fa)) (hb : PE X b (tT (cn X B W) fb)) (hc : PE X c (tT (cn X B W) fc)) (hm : lastMarks [.Lt, .Lt] [b, c] = false := by with_unfolding_all rfl) :
    PT X (.Compare a [.Lt, .Lt] [b, c] pos) (tB (cn X B W) (asB (dChn pyLt pyLt fa fb fc))) := b_chn op_ltA op_ltA od_lt od_lt isb_lt ha hb hc hm
end
@[simp] def bAnd (fa fb : EF Bool) : EF Bool := fun ε g => (fa ε g).bind fun k g => if k = true then fb ε g else .ok false g
@[simp] def bOr (fa fb : EF Bool) : EF Bool := fun ε g => (fa ε g).bind fun k g => if k = true then .ok true g else fb ε g
@[simp] def bNot (fa : EF Bool) : EF Bool := fun ε g => (fa ε g).bind fun k g => .ok (!k) g
section
variable {a b : Expr} {rest : List Expr} {fa fb : EF Bool} {pos : Pos}
theorem w_and1 (ha : PT X a (tB (cn X B W) fa)) : PW X (.BoolOp .And [a] pos) (tB (cn X B W) fa) := pw_and1 ha
theorem w_or1 (ha : PT X a (tB (cn X B W) fa)) : PW X (.BoolOp .Or [a] pos) (tB (cn X B W) fa) := pw_or1 ha
theorem w_and (ha : PT X a (tB (cn X B W) fa)) (hb : PW X (.BoolOp .And (b :: rest) pos) (tB (cn X B W) fb)) : PW X (.BoolOp .And (a :: b :: rest) pos) (tB (cn X B W) (bAnd fa fb)) := by
  refine PW.imp (pw_and ha hb) fun σ H Q ⟨F, ρ, ε, g, I, w⟩ => ⟨F, ρ, ε, g, I, ?_⟩
  refine Wp.bind I w fun v1 d1 F1 ρ1 H1 g1 I1 s1 p1 w1 => ?_
  subst p1
  cases v1 with
  | true =>
    rw [if_pos rfl]
    rw [if_pos rfl] at w1
    exact ⟨F1, ρ1, ε, g1, I1, w1⟩
  | false =>
    rw [if_neg Bool.false_ne_true]
    rw [if_neg Bool.false_ne_true] at w1
    exact w1 _ F1 ρ1 H1 (Step.refl _ _ _) I1.gr rfl
theorem w_or (ha : PT X a (tB (cn X B W) fa)) (hb : PW X (.BoolOp .Or (b :: rest) pos) (tB (cn X B W) fb)) : PW X (.BoolOp .Or (a :: b :: rest) pos) (tB (cn X B W) (bOr fa fb)) := by
  refine PW.imp (pw_or ha hb) fun σ H Q ⟨F, ρ, ε, g, I, w⟩ => ⟨F, ρ, ε, g, I, ?_⟩
  refine Wp.bind I w fun v1 d1 F1 ρ1 H1 g1 I1 s1 p1 w1 => ?_
  subst p1
  cases v1 with
  | true =>
    rw [if_pos rfl]
    rw [if_pos rfl] at w1
    exact w1 _ F1 ρ1 H1 (Step.refl _ _ _) I1.gr rfl
  | false =>
    rw [if_neg Bool.false_ne_true]
    rw [if_neg Bool.false_ne_true] at w1
    exact ⟨F1, ρ1, ε, g1, I1, w1⟩
theorem b_not (ha : PT X a (tB (cn X B W) fa)) : PT X (.UnaryOp .Not a pos) (tB (cn X B W) (bNot fa)) := by
  refine PT.imp (pt_not ha) fun σ H Q ⟨F, ρ, ε, g, I, w⟩ => ⟨F, ρ, ε, g, I, ?_⟩
  refine Wp.bind I w fun v1 d1 F1 ρ1 H1 g1 I1 s1 p1 w1 => ?_
  subst p1
  exact w1 _ F1 ρ1 H1 (Step.refl _ _ _) I1.gr rfl
end
/-! and, or, not as values -/
@[simp] def dAnd (fa fb : EF D) : EF D := fun ε g => (fa ε g).bind fun d g => match d with
  | .bool true => fb ε g
  | .bool false => .ok (.bool false) g
  | _ => .stuck
@[simp] def dOr (fa fb : EF D) : EF D := fun ε g => (fa ε g).bind fun d g => match d with
  | .bool true => .ok (.bool true) g
  | .bool false => fb ε g
  | _ => .stuck
@[simp] def dNot (fa : EF D) : EF D := fun ε g => (fa ε g).bind fun d g => match d with
  | .bool k => .ok (.bool (!k)) g
  | _ => .stuck
section
variable {a b c : Expr} {rest : List Expr} {fa fb : EF D} {fc : EF Bool} {pos : Pos} {op : BoolOp}
theorem d_one (h : PE X a (tD (cn X B W) fa)) : PE X (.BoolOp op [a] pos) (tD (cn X B W) fa) := pe_one h
theorem d_and (ha : PE X a (tD (cn X B W) fa)) (hb : PE X (.BoolOp .And (b :: rest) pos) (tD (cn X B W) fb)) : PE X (.BoolOp .And (a :: b :: rest) pos) (tD (cn X B W) (dAnd fa fb)) := by
  refine PE.imp (pe_and ha hb) fun σ H Q ⟨F, ρ, ε, g, I, w⟩ => ⟨F, ρ, ε, g, I, ?_⟩
  refine Wp.bind I w fun v1 d1 F1 ρ1 H1 g1 I1 s1 p1 w1 => ?_
  split at w1
  · cases p1
    refine ⟨true, rfl, ?_⟩
    rw [if_pos rfl]
    exact ⟨F1, ρ1, ε, g1, I1, w1⟩
  · cases p1
    refine ⟨false, rfl, ?_⟩
    rw [if_neg Bool.false_ne_true]
    exact w1 _ F1 ρ1 H1 (Step.refl _ _ _) I1.gr (.bl false)
  · exact w1.elim
theorem d_or (ha : PE X a (tD (cn X B W) fa)) (hb : PE X (.BoolOp .Or (b :: rest) pos) (tD (cn X B W) fb)) : PE X (.BoolOp .Or (a :: b :: rest) pos) (tD (cn X B W) (dOr fa fb)) := by
  refine PE.imp (pe_or ha hb) fun σ H Q ⟨F, ρ, ε, g, I, w⟩ => ⟨F, ρ, ε, g, I, ?_⟩
  refine Wp.bind I w fun v1 d1 F1 ρ1 H1 g1 I1 s1 p1 w1 => ?_
  split at w1
  · cases p1
    refine ⟨true, rfl, ?_⟩
    rw [if_pos rfl]
    exact w1 _ F1 ρ1 H1 (Step.refl _ _ _) I1.gr (.bl true)
  · cases p1
    refine ⟨false, rfl, ?_⟩
    rw [if_neg Bool.false_ne_true]
    exact ⟨F1, ρ1, ε, g1, I1, w1⟩
  · exact w1.elim
theorem d_not (ha : PE X a (tD (cn X B W) fa)) : PE X (.UnaryOp .Not a pos) (tD (cn X B W) (dNot fa)) := by
  refine PE.imp (pe_not ha) fun σ H Q ⟨F, ρ, ε, g, I, w⟩ => ⟨F, ρ, ε, g, I, ?_⟩
  refine Wp.bind I w fun v1 d1 F1 ρ1 H1 g1 I1 s1 p1 w1 => ?_
  split at w1
  · cases p1
    exact ⟨_, rfl, w1 _ F1 ρ1 H1 (Step.refl _ _ _) I1.gr (.bl _)⟩
  · exact w1.elim
/-- a if c else b -/
@[simp] def dIf (fc : EF Bool) (fa fb : EF D) : EF D := fun ε g => (fc ε g).bind fun k g => if k = true then fa ε g else fb ε g
theorem d_if (hc : PT X c (tB (cn X B W) fc)) (ha : PE X a (tD (cn X B W) fa)) (hb : PE X b (tD (cn X B W) fb)) : PE X (.IfExp c a b pos) (tD (cn X B W) (dIf fc fa fb)) := by
  refine PE.imp (pe_ifExp hc ha hb) fun σ H Q ⟨F, ρ, ε, g, I, w⟩ => ⟨F, ρ, ε, g, I, ?_⟩
  refine Wp.bind I w fun v1 d1 F1 ρ1 H1 g1 I1 s1 p1 w1 => ?_
  subst p1
  cases v1 with
  | true =>
    rw [if_pos rfl]
    rw [if_pos rfl] at w1
    exact ⟨F1, ρ1, ε, g1, I1, w1⟩
  | false =>
    rw [if_neg Bool.false_ne_true]
    rw [if_neg Bool.false_ne_true] at w1
    exact ⟨F1, ρ1, ε, g1, I1, w1⟩
end

/-! ### x[i] -/
@[simp] def pyIx (a b : D) (g : G) : R D := match a, b with
  | .list ds, .int i => match atI ds i with
    | some d => .ok d g
    | none => .stuck
  | .tuple ds, .int i => match atI ds i with
    | some d => .ok d g
    | none => .stuck
  | .str z, .int i => if z.length ≤ cap then match atI z.cps.toList i with
    | some c => .ok (.str ⟨#[c]⟩) g
    | none => .stuck
    else .stuck
  | _, _ => .stuck
theorem RpA.atI {K : PySem.W.Frag} {F : Hp} {ρ : Fps} {vs : List V} {ds : List D} {i : Int} {d : D} (h : RpA K F ρ vs ds) (e : L2.atI ds i = some d) : ∃ v, L2.atI vs i = some v ∧ Rp K F ρ v d := by
  unfold L2.atI at e ⊢
  rw [h.length]
  cases q : ixN ds.length i with
  | none => rw [q] at e; cases e
  | some j =>
    rw [q] at e
    exact h.get' e
theorem od_ix : OpD X B W (rIx X.K) pyIx := by
  intro F ρ σ H ε g v1 v2 d1 d2 Q I p1 p2 w
  unfold pyIx at w
  split at w
  · split at w
    · rename_i h
      obtain ⟨a, vs, rfl, h1, r1⟩ := p1.lst I
      cases p2.int
      obtain ⟨v, h2, h3⟩ := r1.atI h
      exact .inl ⟨a, vs, _, v, rfl, rfl, SqL.of h1, h2, Wp.now I w h3⟩
    · exact w.elim
  · split at w
    · rename_i h
      obtain ⟨a, vs, rfl, h1, _, r1⟩ := p1.tup I
      cases p2.int
      obtain ⟨v, h2, h3⟩ := r1.atI h
      exact .inr (.inl ⟨a, vs, _, v, rfl, rfl, h1, h2, Wp.now I w h3⟩)
    · exact w.elim
  · split at w
    · rename_i hz
      split at w
      · rename_i h
        cases p1.str
        cases p2.int
        exact .inr (.inr ⟨_, _, _, rfl, rfl, cap_size hz, h, Wp.now I w (.str _)⟩)
      · exact w.elim
    · exact w.elim
  · exact w.elim
theorem d_ix {a b : Expr} {fa fb : EF D} {pos : Pos} (ha : PE X a (tT (cn X B W) fa)) (hb : PE X b (tT (cn X B W) fb)) (hs : PlainIx b := by exact (fun _ _ => rfl)) : PE X (.Subscript a b pos) (tD (cn X B W) (dBin pyIx fa fb)) := d_bin od_ix (pe_ix ix_seq ha hb hs)

/-! ### displays -/
theorem step_tmp {F : Hp} {ρ : Fps} {H : Hp} {g : G} {p : Addr} {o : HO} (q : GRel F ρ H g) (hp : H p = none) : Step ⟨F, ρ, H⟩ F ρ (upd H p o) ∧ GRel F ρ (upd H p o) g := by
  have fp : F p = none := q.le.free hp
  have np : p ∉ ρ.flatten := fun z => q.there p z hp
  refine ⟨⟨Same.refl _, List.prefix_refl _, fun a h => .inl h, fun a h => .inl h, fun a u h _ => ?_, fun a h => ?_⟩, ⟨fun b u e => ?_, q.len, fun n o' e => ?_, q.nd, q.nf⟩⟩
  · rw [upd_ne (ne_of_none h hp)]; exact h
  · by_cases e : a = p
    · subst e; exact absurd hp h
    · rw [upd_ne e]; exact h
  · rw [upd_ne (ne_of_none e fp)]; exact q.le _ _ e
  · obtain ⟨as, e1, e2⟩ := q.go n o' e
    refine ⟨as, e1, e2.frame (Same.refl _) fun a ha => upd_ne fun z => ?_⟩
    subst z
    exact np (List.mem_flatten.mpr ⟨as, List.mem_of_getElem? e1, ha⟩)
theorem Rel.newB {K : PySem.W.Frag} {B : Base} {F : Hp} {ρ : Fps} {σ : St} {H : Hp} {ε : Env} {g : G} {p : Addr} (I : Rel K B F ρ σ H ε g) (hp : H p = none) : B.H p = none := Classical.byContradiction fun q => I.st.th p q hp
/-- a fresh list given back -/
theorem Wp.newF {c : Cn} {F : Hp} {ρ : Fps} {σ : St} {H : Hp} {b : Base} {ε : Env} {g : G} {p : Addr} {vs : List V} {ds : List D} {Q : VK} (I : Rel c.K c.B F ρ σ H ε g) (st : Step b F ρ H)
    (w : Wp c.K c.mg c.W σ ⟨F, ρ, H⟩ (fun F' ρ' H' v d => PF c F' ρ' H' v d ∧ ∀ a, v = .ref a → b.H a = none) (.ok ds g) Q) (hp : H p = none) (r : RpA c.K F ρ vs ds) : Q (.ref p) (upd H p (.lst vs)) := by
  obtain ⟨s, q⟩ := step_tmp (o := .lst vs) I.gr hp
  refine w _ _ _ _ s q ⟨⟨p, vs, rfl, upd_same, r, I.gr.le.free hp, I.newB hp, fun z => I.gr.there p z hp⟩, fun a e => ?_⟩
  cases e
  exact Classical.byContradiction fun z => st.th p z hp
theorem f_lst {es : List Expr} {fs : EF (List D)} {pos : Pos} (h : PA X es (tA (cn X B W) fs)) : PE X (.List es pos) (tF (cn X B W) (fun ε g => (fs ε g).bind fun ds g => if ds.length ≤ cap then .ok ds g else .stuck)) := by
  refine PE.imp (pe_lst h) fun σ H Q ⟨F, ρ, ε, g, I, w⟩ => ⟨F, ρ, ε, g, I, ?_⟩
  refine Wp.bind I w fun vs ds F1 ρ1 H1 g1 I1 s1 p1 w1 => ?_
  split at w1
  · rename_i hz
    refine ⟨cap_size (by rw [p1.length]; exact hz), fun p hp => ?_⟩
    exact Wp.newF (c := cn X B W) I1 s1 w1 hp p1
  · exact w1.elim
@[simp] def dTup (fs : EF (List D)) : EF D := fun ε g => (fs ε g).bind fun ds g => if ds.length ≤ cap then .ok (.tuple ds) g else .stuck
theorem d_tup {es : List Expr} {fs : EF (List D)} {x1} {pos : Pos} (h : PA X es (tA (cn X B W) fs)) : PE X (.Tuple es x1 pos) (tD (cn X B W) (dTup fs)) := by
  refine PE.imp (pe_tup h) fun σ H Q ⟨F, ρ, ε, g, I, w⟩ => ⟨F, ρ, ε, g, I, ?_⟩
  refine Wp.bind I w fun vs ds F1 ρ1 H1 g1 I1 s1 p1 w1 => ?_
  split at w1
  · rename_i hz
    refine ⟨cap_size (by rw [p1.length]; exact hz), fun p hp => Wp.new (c := cn X B W) I1 w1 hp (.tup (SqT.of upd_same) (p1.mono (same_new (I1.gr.le.free hp)) (List.prefix_refl _)))⟩
  · exact w1.elim
@[simp] def fLst (fs : EF (List D)) : EF (List D) := fun ε g => (fs ε g).bind fun ds g => if ds.length ≤ cap then .ok ds g else .stuck

/-! ### calls of built-ins -/
@[simp] def dCall (h : List D → G → R D) (fs : EF (List D)) : EF D := fun ε g => (fs ε g).bind fun ds g => h ds g
def CallD (X : Cx) (B : Base) (W : WX) (r : List V → Hp → VK → Prop) (h : List D → G → R D) : Prop := ∀ (F : Hp) (ρ : Fps) (σ : St) (H : Hp) (ε : Env) (g : G) (vs : List V) (ds : List D) (Q : VK), Rel X.K B F ρ σ H ε g → RpTA X.K F ρ H σ ε vs ds →
  Wp X.K X.mg W σ ⟨F, ρ, H⟩ (PD (cn X B W)) (h ds g) Q → r vs H Q
theorem d_callB {e : Expr} {r : List V → Hp → VK → Prop} {h : List D → G → R D} {fs : EF (List D)} (hh : CallD X B W r h) (p : PE X e (tCB r (tTA (cn X B W) fs))) : PE X e (tD (cn X B W) (dCall h fs)) := by
  refine PE.imp p fun σ H Q ⟨F, ρ, ε, g, I, w⟩ => ⟨F, ρ, ε, g, I, ?_⟩
  exact Wp.bind I w fun vs ds F1 ρ1 H1 g1 I1 s1 p1 w1 => hh _ _ _ _ _ _ _ _ _ I1 p1 w1
theorem RpTA.one {K : PySem.W.Frag} {F : Hp} {ρ : Fps} {H : Hp} {σ : St} {ε : Env} {vs : List V} {d : D} (h : RpTA K F ρ H σ ε vs [d]) : ∃ v, vs = [v] ∧ RpT K F ρ H σ ε v d := by
  cases h with
  | cons h t => cases t; exact ⟨_, rfl, h⟩
theorem RpTA.two {K : PySem.W.Frag} {F : Hp} {ρ : Fps} {H : Hp} {σ : St} {ε : Env} {vs : List V} {d e : D} (h : RpTA K F ρ H σ ε vs [d, e]) : ∃ v w, vs = [v, w] ∧ RpT K F ρ H σ ε v d ∧ RpT K F ρ H σ ε w e := by
  cases h with
  | cons h t => obtain ⟨w, rfl, r⟩ := t.one; exact ⟨_, _, rfl, h, r⟩

/-! len -/
@[simp] def pyLen (ds : List D) (g : G) : R D := match ds with
  | [.list xs] => .ok (.int xs.length) g
  | [.tuple xs] => .ok (.int xs.length) g
  | [.str z] => if z.length ≤ cap then .ok (.int z.length) g else .stuck
  | _ => .stuck
def rLenA (K : PySem.W.Frag) : List V → Hp → VK → Prop := fun xs H Q => ∃ x n, xs = [x] ∧ LenV K x H n ∧ Q (.int n) H
theorem cd_len : CallD X B W (rLenA X.K) pyLen := by
  intro F ρ σ H ε g vs ds Q I p w
  unfold pyLen at w
  split at w
  · obtain ⟨v, rfl, r⟩ := p.one
    obtain ⟨a, ws, rfl, h1, r1⟩ := r.lst I
    exact ⟨_, ws.length, rfl, .inl ⟨ws, SqL.of h1, rfl⟩, by rw [r1.length]; exact Wp.now I w (.int _)⟩
  · obtain ⟨v, rfl, r⟩ := p.one
    obtain ⟨a, ws, rfl, h1, _, r1⟩ := r.tup I
    exact ⟨_, ws.length, rfl, .inr ⟨ws, h1, rfl⟩, by rw [r1.length]; exact Wp.now I w (.int _)⟩
  · split at w
    · rename_i hz
      obtain ⟨v, rfl, r⟩ := p.one
      cases r.str
      exact ⟨_, _, rfl, ⟨cap_size hz, rfl⟩, Wp.now I w (.int _)⟩
    · exact w.elim
  · exact w.elim
/-! int(x) -/
@[simp] def pyInt (ds : List D) (g : G) : R D := match ds with
  | [.int i] => .ok (.int i) g
  | [.bool k] => .ok (.int (if k = true then 1 else 0)) g
  | _ => .stuck
def rIntA : List V → Hp → VK → Prop := fun xs H Q => (∃ i, xs = [.int i] ∧ Q (.int i) H) ∨ ∃ k, xs = [.bl k] ∧ Q (.int (if k then 1 else 0)) H
theorem cd_int : CallD X B W rIntA pyInt := by
  intro F ρ σ H ε g vs ds Q I p w
  unfold pyInt at w
  split at w
  · obtain ⟨v, rfl, r⟩ := p.one
    cases r.int
    exact .inl ⟨_, rfl, Wp.now I w (.int _)⟩
  · obtain ⟨v, rfl, r⟩ := p.one
    cases r.bl
    exact .inr ⟨_, rfl, Wp.now I w (.int _)⟩
  · exact w.elim
/-! sum(xs) of ints -/
def intsOf : List D → Option (List Int)
  | [] => some []
  | .int i :: r => (intsOf r).map (i :: ·)
  | _ :: _ => none
theorem intsOf_eq : ∀ {ds : List D} {ns : List Int}, intsOf ds = some ns → ds = ns.map PyData.int
  | [], ns, h => by simp [intsOf] at h; subst h; rfl
  | .int i :: r, ns, h => by
    simp only [intsOf, Option.map_eq_some_iff] at h
    obtain ⟨ms, h1, rfl⟩ := h
    rw [intsOf_eq h1]; rfl
theorem intsOf_map (ns : List Int) : intsOf (ns.map PyData.int) = some ns := by
  induction ns with
  | nil => rfl
  | cons n ns ih => simp [intsOf, ih]
theorem RpA.toInts {K : PySem.W.Frag} {F : Hp} {ρ : Fps} : ∀ {vs : List V} {ns : List Int}, RpA K F ρ vs (ns.map PyData.int) → vs = ns.map V.int
  | _, [], h => by cases h; rfl
  | _, n :: ns, h => by
    cases h with
    | cons h t => cases h; rw [RpA.toInts t]; rfl
@[simp] def pySum (ds : List D) (g : G) : R D := match ds with
  | [.list xs] => match intsOf xs with
    | some ns => .ok (.int ns.sum) g
    | none => .stuck
  | _ => .stuck
theorem cd_sum : CallD X B W (rSum X.K) pySum := by
  intro F ρ σ H ε g vs ds Q I p w
  unfold pySum at w
  split at w
  · split at w
    · rename_i h
      obtain ⟨v, rfl, r⟩ := p.one
      obtain ⟨a, ws, rfl, h1, r1⟩ := r.lst I
      rw [intsOf_eq h] at r1
      exact ⟨a, _, rfl, SqL.of (by rw [h1, r1.toInts]), Wp.now I w (.int _)⟩
    · exact w.elim
  · exact w.elim
/-! all(xs), any(xs) of truths -/
def boolsOf : List D → Option (List Bool)
  | [] => some []
  | .bool i :: r => (boolsOf r).map (i :: ·)
  | _ :: _ => none
theorem boolsOf_eq : ∀ {ds : List D} {ns : List Bool}, boolsOf ds = some ns → ds = ns.map PyData.bool
  | [], ns, h => by simp [boolsOf] at h; subst h; rfl
  | .bool i :: r, ns, h => by
    simp only [boolsOf, Option.map_eq_some_iff] at h
    obtain ⟨ms, h1, rfl⟩ := h
    rw [boolsOf_eq h1]; rfl
theorem boolsOf_map (ns : List Bool) : boolsOf (ns.map PyData.bool) = some ns := by
  induction ns with
  | nil => rfl
  | cons n ns ih => simp [boolsOf, ih]
theorem RpA.toBools {K : PySem.W.Frag} {F : Hp} {ρ : Fps} : ∀ {vs : List V} {ns : List Bool}, RpA K F ρ vs (ns.map PyData.bool) → vs = ns.map V.bl
  | _, [], h => by cases h; rfl
  | _, n :: ns, h => by
    cases h with
    | cons h t => cases h; rw [RpA.toBools t]; rfl
@[simp] def pyAll (ds : List D) (g : G) : R D := match ds with
  | [.list xs] => match boolsOf xs with
    | some ns => .ok (.bool (ns.all id)) g
    | none => .stuck
  | _ => .stuck
@[simp] def pyAny (ds : List D) (g : G) : R D := match ds with
  | [.list xs] => match boolsOf xs with
    | some ns => .ok (.bool (ns.any id)) g
    | none => .stuck
  | _ => .stuck
end
end DL

namespace DL
open PySem L2
/-! ### slots that are set -/
theorem Rel.setA {K : PySem.W.Frag} {B : Base} {F : Hp} {ρ : Fps} {σ : St} {H : Hp} {ε : Env} {g : G} (I : Rel K B F ρ σ H ε g) {i : Nat} {x : V} {s : Sl} (r : SlR K B F ρ H (some (some x)) s)
    (n : s.owned = true → ∀ (j : Nat) (t : Sl) (a : Addr), j ≠ i → ε[j]? = some t → t.owned = true → x = .ref a → σ[j]? ≠ some (some (.ref a))) : Rel K B F ρ (σ.set i (some x)) H (ε.set i s) g := by
  refine ⟨I.gr, I.st, by rw [List.length_set, List.length_set]; exact I.len, fun j t e => ?_, fun j k t u a ne ej ek oj ok hj => ?_⟩
  · by_cases z : i = j
    · subst z
      by_cases hl : i < ε.length
      · rw [List.getElem?_set_self hl] at e
        cases e
        rw [List.getElem?_set_self (by rw [I.len]; exact hl)]
        exact r
      · rw [List.getElem?_eq_none (by simpa using hl)] at e; cases e
    · rw [List.getElem?_set_ne z] at e ⊢
      exact I.sl j t e
  · by_cases zj : i = j
    · subst zj
      by_cases zk : i = k
      · exact absurd zk ne
      · rw [List.getElem?_set_ne zk] at ek ⊢
        by_cases hl : i < ε.length
        · rw [List.getElem?_set_self hl] at ej
          cases ej
          rw [List.getElem?_set_self (by rw [I.len]; exact hl)] at hj
          exact n oj k u a (Ne.symm zk) ek ok (by cases hj; rfl)
        · rw [List.getElem?_eq_none (by simpa using hl)] at ej; cases ej
    · rw [List.getElem?_set_ne zj] at ej hj
      by_cases zk : i = k
      · subst zk
        by_cases hl : i < ε.length
        · rw [List.getElem?_set_self hl] at ek
          cases ek
          rw [List.getElem?_set_self (by rw [I.len]; exact hl)]
          intro q
          cases q
          exact n ok j t a (Ne.symm zj) ej oj rfl hj
        · rw [List.getElem?_eq_none (by simpa using hl)] at ek; cases ek
      · rw [List.getElem?_set_ne zk] at ek ⊢
        exact I.inj j k t u a ne ej ek oj ok hj
theorem Rel.setV {K : PySem.W.Frag} {B : Base} {F : Hp} {ρ : Fps} {σ : St} {H : Hp} {ε : Env} {g : G} (I : Rel K B F ρ σ H ε g) {i : Nat} {x : V} {d : D} (r : Rp K F ρ x d) : Rel K B F ρ (σ.set i (some x)) H (ε.set i (.va d)) g :=
  I.setA ⟨x, rfl, r⟩ fun z => nomatch z

section
variable {X : Cx} {B : Base} {W : WX}
/-! ### targets -/
inductive Pat where
  | nm (i : Nat)
  | tp (ps : List Pat)
mutual
def gP (K : PySem.W.Frag) : Pat → TG
  | .nm i => gName i
  | .tp ps => gTup K ps.length (gPs K ps)
def gPs (K : PySem.W.Frag) : List Pat → TGs
  | [] => gNil
  | p :: ps => gCons (gP K p) (gPs K ps)
end
mutual
@[simp] def Pat.put : Pat → D → Env → Option Env
  | .nm i, d, ε => some (ε.set i (.va d))
  | .tp ps, .tuple ds, ε => Pat.puts ps ds ε
  | .tp _, _, _ => none
@[simp] def Pat.puts : List Pat → List D → Env → Option Env
  | [], [], ε => some ε
  | p :: ps, d :: ds, ε => match Pat.put p d ε with
    | some ε1 => Pat.puts ps ds ε1
    | none => none
  | _, _, _ => none
end
mutual
def Pat.slots : Pat → List Nat
  | .nm i => [i]
  | .tp ps => Pat.slotsA ps
def Pat.slotsA : List Pat → List Nat
  | [] => []
  | p :: ps => Pat.slots p ++ Pat.slotsA ps
end
theorem wipe_set {σ : St} {i : Nat} {x : Option V} : ∀ {vs : List Nat}, i ∈ vs → wipe (σ.set i x) vs = wipe σ vs
  | v :: vs, h => by
    unfold wipe
    by_cases z : i ∈ vs
    · rw [wipe_set z]
    · have e : v = i := by
        rcases List.mem_cons.mp h with e | e
        · exact e.symm
        · exact absurd e z
      subst e
      have : ∀ ws : List Nat, v ∉ ws → wipe (σ.set v x) ws = (wipe σ ws).set v x := by
        intro ws
        induction ws with
        | nil => intro _; rfl
        | cons w ws ih =>
          intro hw
          simp only [List.mem_cons, not_or] at hw
          unfold wipe
          rw [ih hw.2, List.set_comm _ _ hw.1]
      rw [this vs z, List.set_set]
mutual
theorem gP_run {K : PySem.W.Frag} {B : Base} {F : Hp} {ρ : Fps} {H : Hp} {g : G} {Q : St → Hp → Prop} : ∀ (p : Pat) (v : V) (d : D) (σ : St) (ε ε' : Env), Rel K B F ρ σ H ε g → Rp K F ρ v d → p.put d ε = some ε' →
    (∀ σ', Rel K B F ρ σ' H ε' g → (∀ vs, (∀ i ∈ p.slots, i ∈ vs) → wipe σ' vs = wipe σ vs) → Q σ' H) → gP K p v σ H Q
  | .nm i, v, d, σ, ε, ε', I, r, e, k => by
    simp only [Pat.put, Option.some.injEq] at e
    subst e
    exact k _ (I.setV r) fun vs h => wipe_set (h i (by simp [Pat.slots]))
  | .tp ps, v, d, σ, ε, ε', I, r, e, k => by
    cases d with
    | tuple ds =>
      cases r with
      | tup hs ra =>
        simp only [Pat.put] at e
        refine ⟨_, _, rfl, sqT_mono I.gr.le hs, ?_, gPs_run ps _ _ σ ε ε' I ra e fun σ' I' w => k σ' I' fun vs h => w vs (by simpa [Pat.slots] using h)⟩
        rw [ra.length]
        exact puts_len ps ds ε ε' e
    | _ => simp [Pat.put] at e
theorem gPs_run {K : PySem.W.Frag} {B : Base} {F : Hp} {ρ : Fps} {H : Hp} {g : G} {Q : St → Hp → Prop} : ∀ (ps : List Pat) (v : List V) (d : List D) (σ : St) (ε ε' : Env), Rel K B F ρ σ H ε g → RpA K F ρ v d → Pat.puts ps d ε = some ε' →
    (∀ σ', Rel K B F ρ σ' H ε' g → (∀ vs, (∀ i ∈ Pat.slotsA ps, i ∈ vs) → wipe σ' vs = wipe σ vs) → Q σ' H) → gPs K ps v σ H Q
  | [], v, d, σ, ε, ε', I, r, e, k => by
    cases r with
    | nil =>
      simp only [Pat.puts, Option.some.injEq] at e
      subst e
      exact ⟨rfl, k _ I fun _ _ => rfl⟩
    | cons _ _ => simp [Pat.puts] at e
  | p :: ps, v, d, σ, ε, ε', I, r, e, k => by
    cases r with
    | nil => simp [Pat.puts] at e
    | @cons v vs d ds h t =>
      simp only [Pat.puts] at e
      split at e
      · rename_i ε1 e1
        refine ⟨v, vs, rfl, gP_run p v d σ ε ε1 I h e1 fun σ1 I1 w1 => gPs_run ps vs ds σ1 ε1 ε' I1 t e fun σ2 I2 w2 => k σ2 I2 fun ws hw => ?_⟩
        rw [w2 ws fun i hi => hw i (by simp [Pat.slotsA, hi]), w1 ws fun i hi => hw i (by simp [Pat.slotsA, hi])]
      · cases e
theorem puts_len : ∀ (ps : List Pat) (ds : List D) (ε ε' : Env), Pat.puts ps ds ε = some ε' → ds.length = ps.length
  | [], [], _, _, _ => rfl
  | [], _ :: _, _, _, e => by simp [Pat.puts] at e
  | _ :: _, [], _, _, e => by simp [Pat.puts] at e
  | p :: ps, d :: ds, ε, ε', e => by
    simp only [Pat.puts] at e
    split at e
    · rw [List.length_cons, List.length_cons, puts_len ps ds _ _ e]
    · cases e
end
theorem p_nm (i : Nat) {x : Str} {pos : Pos} (hN : X.N.Nodup) (hi : X.N[i]? = some x) (hx : Loc X.env.scope x) (hf : X.fn x = true ∨ X.env.scope.names.lookup x = some .local := by first | exact .inl rfl | exact .inr rfl | assumption) : PG X (.Name x pos) (gP X.K (.nm i)) := pg_name hN hi hx hf
theorem ps_nilP : PGs X [] (gPs X.K []) := pgs_nil
theorem ps_consP {e : Expr} {es : List Expr} {p : Pat} {ps : List Pat} (h1 : PG X e (gP X.K p)) (h2 : PGs X es (gPs X.K ps)) (hs : (assignEach (e :: es) X.env).map (·.2) = assign e X.env :: (assignEach es X.env).map (·.2) := by rfl) : PGs X (e :: es) (gPs X.K (p :: ps)) := pgs_cons h1 h2 hs

/-! ### statements -/
@[simp] def sSeq (s t : SF) : SF := fun ε g => match s ε g with
  | .nx ε g => t ε g
  | r => r
@[simp] def sNil : SF := fun ε g => .nx ε g
theorem s_nil : PSs X [] (tS (cn X B W) sNil) := PSs.imp pss_nil fun D σ H ⟨F, ρ, ε, g, I, w⟩ => w σ F ρ H I (Same.refl _) (List.prefix_refl _)
theorem WpS.mono {c : Cn} {F : Hp} {ρ : Fps} {r : RS} {E E' : Ends} (h : WpS c F ρ r E) (h1 : ∀ σ H, E.nx σ H → E'.nx σ H) (h2 : ∀ v H, E.rt v H → E'.rt v H) (h3 : ∀ σ H, E.bk σ H → E'.bk σ H) (h4 : ∀ σ H, E.ct σ H → E'.ct σ H) : WpS c F ρ r E' := by
  cases r with
  | nx ε g => exact fun σ F ρ H I a b => h1 _ _ (h σ F ρ H I a b)
  | ret d g => exact fun v F ρ H s q p => h2 _ _ (h v F ρ H s q p)
  | exc x ε g => exact h
  | brk ε g => exact fun σ F ρ H I a b => h3 _ _ (h σ F ρ H I a b)
  | cnt ε g => exact fun σ F ρ H I a b => h4 _ _ (h σ F ρ H I a b)
  | stuck => exact h
theorem s_cons {st : Stmt} {rest : List Stmt} {s t : SF} (h1 : PS X st (tS (cn X B W) s)) (h2 : PSs X rest (tS (cn X B W) t)) : PSs X (st :: rest) (tS (cn X B W) (sSeq s t)) := by
  refine PSs.imp (pss_cons h1 h2) fun D σ H ⟨F, ρ, ε, g, I, w⟩ => ⟨F, ρ, ε, g, I, ?_⟩
  unfold sSeq at w
  cases e : s ε g with
  | nx ε1 g1 => rw [e] at w; exact fun σ' F' ρ' H' I' a b => ⟨F', ρ', ε1, g1, I', w.later a b⟩
  | ret d g1 => rw [e] at w; exact w
  | exc x ε1 g1 => rw [e] at w; exact w
  | brk ε1 g1 => rw [e] at w; exact w
  | cnt ε1 g1 => rw [e] at w; exact w
  | stuck => rw [e] at w; exact w
theorem s_one {st : Stmt} {s : SF} (h1 : PS X st (tS (cn X B W) s)) : PSs X [st] (tS (cn X B W) s) := pss_one h1
/-- an own list is kept for good from here on -/
@[simp] def sFz (i : Nat) (s : SF) : SF := fun ε g => match ε[i]? with
  | some (.ow ds) => s (ε.set i (.va (.list ds))) g
  | _ => s ε g
theorem freeze {K : PySem.W.Frag} {B : Base} {F : Hp} {ρ : Fps} {H : Hp} {g : G} {a : Addr} {vs : List V} (q : GRel F ρ H g) (st : Step B F ρ H) (h1 : H a = some (.lst vs)) (h3 : F a = none) (h4 : B.H a = none) (h5 : a ∉ ρ.flatten) :
    Step B (upd F a (.lst vs)) ρ H ∧ GRel (upd F a (.lst vs)) ρ H g := by
  refine ⟨⟨fun b u e => ?_, st.r, fun b hb => ?_, st.rn, st.hn, st.th⟩, ⟨fun b u e => ?_, q.len, fun n o e => (let ⟨as, k1, k2⟩ := q.go n o e; ⟨as, k1, k2.frame (same_new h3) fun _ _ => rfl⟩), q.nd, fun b hb => ?_⟩⟩
  · rw [upd_ne (ne_of_none (st.f _ _ e) h3)]; exact st.f _ _ e
  · by_cases z : b = a
    · subst z; exact .inr h4
    · rw [upd_ne z] at hb; exact st.fn b hb
  · by_cases z : b = a
    · subst z; rw [upd_same] at e; rw [h1]; exact e
    · rw [upd_ne z] at e; exact q.le _ _ e
  · rw [upd_ne (fun z : b = a => h5 (z ▸ hb))]; exact q.nf b hb
theorem s_fz (i : Nat) {sts : List Stmt} {s : SF} (h : PSs X sts (tS (cn X B W) s)) : PSs X sts (tS (cn X B W) (sFz i s)) := by
  refine PSs.imp h fun D σ H ⟨F, ρ, ε, g, I, w⟩ => ?_
  unfold sFz at w
  split at w
  · rename_i ds e
    obtain ⟨a, vs, e1, h1, h2, h3, h4, h5⟩ := I.sl i _ e
    obtain ⟨st, q⟩ := freeze (K := X.K) I.gr I.st h1 h3 h4 h5
    refine ⟨upd F a (.lst vs), ρ, _, g, ⟨q, st, by rw [List.length_set]; exact I.len, fun j t ej => ?_, fun j k t u b ne ej ek oj ok hj => ?_⟩, w.later (same_new h3) (List.prefix_refl _)⟩
    · have fm : Same F (upd F a (.lst vs)) := same_new h3
      by_cases z : i = j
      · subst z
        rw [List.getElem?_set_self (List.getElem?_eq_some_iff.mp e).1] at ej
        cases ej
        exact ⟨_, e1, .lst upd_same (h2.mono fm (List.prefix_refl _))⟩
      · rw [List.getElem?_set_ne z] at ej
        have k := I.sl j t ej
        cases t with
        | un => trivial
        | va d => obtain ⟨v, k1, k2⟩ := k; exact ⟨v, k1, k2.mono fm (List.prefix_refl _)⟩
        | ow es =>
          obtain ⟨b, ws, k1, k2, k3, k4, k5, k6⟩ := k
          have nb : b ≠ a := fun z' => I.inj i j _ _ a z e ej rfl rfl e1 (z' ▸ k1)
          exact ⟨b, ws, k1, k2, k3.mono fm (List.prefix_refl _), by rw [upd_ne nb]; exact k4, k5, k6⟩
        | od es =>
          obtain ⟨b, ws, k1, k2, k3, k4, k5, k6⟩ := k
          have nb : b ≠ a := fun z' => I.inj i j _ _ a z e ej rfl rfl e1 (z' ▸ k1)
          exact ⟨b, ws, k1, k2, k3.mono fm (List.prefix_refl _), by rw [upd_ne nb]; exact k4, k5, k6⟩
    · by_cases zj : i = j
      · subst zj
        rw [List.getElem?_set_self (List.getElem?_eq_some_iff.mp e).1] at ej
        cases ej
        cases oj
      · by_cases zk : i = k
        · subst zk
          rw [List.getElem?_set_self (List.getElem?_eq_some_iff.mp e).1] at ek
          cases ek
          cases ok
        · rw [List.getElem?_set_ne zj] at ej
          rw [List.getElem?_set_ne zk] at ek
          exact I.inj j k t u b ne ej ek oj ok hj
  · exact ⟨F, ρ, ε, g, I, w⟩
/-- x = e -/
@[simp] def sSet (i : Nat) (f : EF D) : SF := fun ε g => (f ε g).toS ε fun d g => .nx (ε.set i (.va d)) g
theorem s_asg (i : Nat) {st : Stmt} {f : EF D} (h : PS X st (tAsg (tD (cn X B W) f) (gName i))) : PS X st (tS (cn X B W) (sSet i f)) := by
  refine PS.imp h fun D σ H ⟨F, ρ, ε, g, I, w⟩ => ⟨F, ρ, ε, g, I, ?_⟩
  exact Wp.toS I w fun v d F1 ρ1 H1 g1 I1 s1 p1 w1 => w1 _ F1 ρ1 H1 (I1.setV p1) (Same.refl _) (List.prefix_refl _)
theorem s_set (i : Nat) {x : Str} {e : Expr} {f : EF D} {pos pos' : Pos} (hN : X.N.Nodup) (hi : X.N[i]? = some x) (hx : Loc X.env.scope x) (he : PE X e (tD (cn X B W) f)) (hs : swapsWith e (some (.Name x pos')) pos.line X.env = pure false := by rfl) (hf : X.fn x = true ∨ X.env.scope.names.lookup x = some .local := by first | exact .inl rfl | exact .inr rfl | assumption) :
    PS X (.Assign [.Name x pos'] e pos) (tS (cn X B W) (sSet i f)) := s_asg i (ps_set hN hi hx he hs hf)
/-- x = a new list, x's own -/
@[simp] def sSetO (i : Nat) (f : EF (List D)) : SF := fun ε g => (f ε g).toS ε fun d g => .nx (ε.set i (.ow d)) g
theorem s_asgO (i : Nat) {st : Stmt} {f : EF (List D)} (h : PS X st (tAsg (tF (cn X B W) f) (gName i))) : PS X st (tS (cn X B W) (sSetO i f)) := by
  refine PS.imp h fun D σ H ⟨F, ρ, ε, g, I, w⟩ => ⟨F, ρ, ε, g, I, ?_⟩
  refine Wp.toS I w fun v d F1 ρ1 H1 g1 I1 s1 p1 w1 => w1 _ F1 ρ1 H1 ?_ (Same.refl _) (List.prefix_refl _)
  obtain ⟨⟨a, vs, rfl, h1, h2, h3, h4, h5⟩, fr⟩ := p1
  refine I1.setA ⟨a, vs, rfl, h1, h2, h3, h4, h5⟩ fun _ j t b _ ej oj eb hj => ?_
  cases eb
  have k := I.sl j t ej
  cases t with
  | un => cases oj
  | va _ => cases oj
  | ow es =>
    obtain ⟨c, ws, k1, k2, _⟩ := k
    rw [hj] at k1
    cases k1
    rw [fr _ rfl] at k2
    cases k2
  | od es =>
    obtain ⟨c, ws, k1, k2, _⟩ := k
    rw [hj] at k1
    cases k1
    rw [fr _ rfl] at k2
    cases k2
theorem s_setO (i : Nat) {x : Str} {e : Expr} {f : EF (List D)} {pos pos' : Pos} (hN : X.N.Nodup) (hi : X.N[i]? = some x) (hx : Loc X.env.scope x) (he : PE X e (tF (cn X B W) f)) (hs : swapsWith e (some (.Name x pos')) pos.line X.env = pure false := by rfl) (hf : X.fn x = true ∨ X.env.scope.names.lookup x = some .local := by first | exact .inl rfl | exact .inr rfl | assumption) :
    PS X (.Assign [.Name x pos'] e pos) (tS (cn X B W) (sSetO i f)) := s_asgO i (ps_set hN hi hx he hs hf)
/-- a, b, .. = e -/
@[simp] def sPat (p : Pat) (f : EF D) : SF := fun ε g => (f ε g).toS ε fun d g => match p.put d ε with
  | some ε' => .nx ε' g
  | none => .stuck
theorem s_pat {tg e : Expr} {p : Pat} {f : EF D} {pos : Pos} (he : PE X e (tD (cn X B W) f)) (hg : PG X tg (gP X.K p)) (hs : swapsWithSole [tg] e pos.line X.env = pure false := by rfl) (hw : swappedStores [tg] e X.env = pure none := by rfl) (h1 : (assignEach [tg] X.env).map (·.2) = [assign tg X.env] := by rfl) :
    PS X (.Assign [tg] e pos) (tS (cn X B W) (sPat p f)) := by
  refine PS.imp (ps_asg he hg hs hw h1) fun D σ H ⟨F, ρ, ε, g, I, w⟩ => ⟨F, ρ, ε, g, I, ?_⟩
  refine Wp.toS I w fun v d F1 ρ1 H1 g1 I1 s1 p1 w1 => ?_
  split at w1
  · rename_i ε' e
    exact gP_run p v d σ ε ε' I1 p1 e fun σ' I' _ => w1 _ F1 ρ1 H1 I' (Same.refl _) (List.prefix_refl _)
  · exact w1.elim
/-- a, b = e1, e2 -/
@[simp] def sPar (i j : Nat) (fs : EF (List D)) : SF := fun ε g => (fs ε g).toS ε fun ds g => match ds with
  | [d, e] => .nx ((ε.set i (.va d)).set j (.va e)) g
  | _ => .stuck
theorem s_parI (i j : Nat) {st : Stmt} {fs : EF (List D)} (h : PS X st (tPar i j (tA (cn X B W) fs))) : PS X st (tS (cn X B W) (sPar i j fs)) := by
  refine PS.imp h fun D σ H ⟨F, ρ, ε, g, I, w⟩ => ⟨F, ρ, ε, g, I, ?_⟩
  refine Wp.toS I w fun v d F1 ρ1 H1 g1 I1 s1 p1 w1 => ?_
  split at w1
  · rename_i d e
    cases p1 with
    | cons h t =>
      cases t with
      | cons h2 t =>
        cases t
        exact ⟨_, _, rfl, w1 _ F1 ρ1 H1 ((I1.setV h).setV h2) (Same.refl _) (List.prefix_refl _)⟩
  · exact w1.elim
/-- e alone -/
@[simp] def sEx {α : Type} (f : EF α) : SF := fun ε g => (f ε g).toS ε fun _ g => .nx ε g
theorem s_ex {e : Expr} {f : EF D} {pos : Pos} (he : PE X e (tD (cn X B W) f)) (hs : swapsWith e none pos.line X.env = pure false := by rfl) : PS X (.Expr e pos) (tS (cn X B W) (sEx f)) := by
  refine PS.imp (ps_expr he hs) fun D σ H ⟨F, ρ, ε, g, I, w⟩ => ⟨F, ρ, ε, g, I, ?_⟩
  exact Wp.toS I w fun v d F1 ρ1 H1 g1 I1 s1 p1 w1 => w1 _ F1 ρ1 H1 I1 (Same.refl _) (List.prefix_refl _)
/-- return e -/
@[simp] def sRt (f : EF D) : SF := fun ε g => (f ε g).toS ε fun d g => .ret d g
theorem s_ret {e : Expr} {f : EF D} {pos : Pos} (he : PE X e (tT (cn X B W) f)) : PS X (.Return (some e) pos) (tS (cn X B W) (sRt f)) := by
  refine PS.imp (ps_ret he) fun D σ H ⟨F, ρ, ε, g, I, w⟩ => ⟨F, ρ, ε, g, I, ?_⟩
  refine Wp.toS I w fun v d F1 ρ1 H1 g1 I1 s1 p1 w1 => ?_
  rcases p1 with p1 | ⟨i, ds, e1, e2, rfl⟩
  · exact w1 _ F1 ρ1 H1 I1.st I1.gr p1
  · obtain ⟨a, vs, e3, h1, h2, h3, h4, h5⟩ := I1.sl i _ e1
    rw [e2] at e3
    cases e3
    obtain ⟨st, q⟩ := freeze (K := X.K) I1.gr I1.st h1 h3 h4 h5
    exact w1 _ _ ρ1 H1 st q (.lst upd_same (h2.mono (same_new h3) (List.prefix_refl _)))
@[simp] def sRtN : SF := fun _ g => .ret .none g
theorem s_retN {pos : Pos} : PS X (.Return none pos) (tS (cn X B W) sRtN) := PS.imp ps_retN fun D σ H ⟨F, ρ, ε, g, I, w⟩ => w .non F ρ H I.st I.gr .non
/-- if -/
@[simp] def sIf (f : EF Bool) (s t : SF) : SF := fun ε g => (f ε g).toS ε fun k g => if k = true then s ε g else t ε g
theorem s_if {c : Expr} {a b : List Stmt} {f : EF Bool} {s t : SF} {pos : Pos} (hc : PT X c (tB (cn X B W) f)) (ha : PSs X a (tS (cn X B W) s)) (hb : PSs X b (tS (cn X B W) t)) : PS X (.If c a b pos) (tS (cn X B W) (sIf f s t)) := by
  refine PS.imp (ps_if hc ha hb) fun D σ H ⟨F, ρ, ε, g, I, w⟩ => ⟨F, ρ, ε, g, I, ?_⟩
  refine Wp.toS I w fun v d F1 ρ1 H1 g1 I1 s1 p1 w1 => ?_
  subst p1
  cases v with
  | true =>
    rw [if_pos rfl]
    rw [if_pos rfl] at w1
    exact ⟨F1, ρ1, ε, g1, I1, w1⟩
  | false =>
    rw [if_neg Bool.false_ne_true]
    rw [if_neg Bool.false_ne_true] at w1
    exact ⟨F1, ρ1, ε, g1, I1, w1⟩
@[simp] def sBrk : SF := fun ε g => .brk ε g
@[simp] def sCnt : SF := fun ε g => .cnt ε g
theorem s_brk {pos : Pos} : PS X (.Break pos) (tS (cn X B W) sBrk) := PS.imp ps_break fun D σ H ⟨F, ρ, ε, g, I, w⟩ => w σ F ρ H I (Same.refl _) (List.prefix_refl _)
theorem s_cnt {pos : Pos} : PS X (.Continue pos) (tS (cn X B W) sCnt) := PS.imp ps_continue fun D σ H ⟨F, ρ, ε, g, I, w⟩ => w σ F ρ H I (Same.refl _) (List.prefix_refl _)
theorem s_pass {pos : Pos} : PS X (.Pass pos) (tS (cn X B W) sNil) := PS.imp ps_pass fun D σ H ⟨F, ρ, ε, g, I, w⟩ => w σ F ρ H I (Same.refl _) (List.prefix_refl _)
theorem s_doc {x j pos pos'} : PS X (.Expr (.Constant (.str x) j pos) pos') (tS (cn X B W) sNil) := PS.imp ps_doc fun D σ H ⟨F, ρ, ε, g, I, w⟩ => w σ F ρ H I (Same.refl _) (List.prefix_refl _)

/-! xs[i] = e, xs.append(e): xs an own list -/
theorem Rel.write {K : PySem.W.Frag} {B : Base} {F : Hp} {ρ : Fps} {σ : St} {H : Hp} {ε : Env} {g : G} (I : Rel K B F ρ σ H ε g) {i : Nat} {a : Addr} {ds es : List D} {ws : List V} (e : ε[i]? = some (.ow ds)) (e1 : σ[i]? = some (some (.ref a))) (r : RpA K F ρ ws es) :
    Rel K B F ρ σ (upd H a (.lst ws)) (ε.set i (.ow es)) g := by
  obtain ⟨a', vs, e1', h1, h2, h3, h4, h5⟩ := I.sl i _ e
  rw [e1] at e1'
  cases e1'
  have st : Step B F ρ (upd H a (.lst ws)) := ⟨I.st.f, I.st.r, I.st.fn, I.st.rn, fun b o hb hn => by
    rw [upd_ne (ne_of_none hb h4)]; exact I.st.hn b o hb hn, fun b hb => by
    by_cases z : b = a
    · subst z; rw [upd_same]; simp
    · rw [upd_ne z]; exact I.st.th b hb⟩
  refine ⟨⟨fun b u hb => ?_, I.gr.len, fun n o hn => ?_, I.gr.nd, I.gr.nf⟩, st, by rw [List.length_set]; exact I.len, fun j t ej => ?_, fun j k t u b ne ej ek oj ok hj => ?_⟩
  · rw [upd_ne (ne_of_none hb h3)]; exact I.gr.le _ _ hb
  · obtain ⟨as, k1, k2⟩ := I.gr.go n o hn
    refine ⟨as, k1, k2.frame (Same.refl _) fun b hb => upd_ne fun z => ?_⟩
    subst z
    exact h5 (List.mem_flatten.mpr ⟨as, List.mem_of_getElem? k1, hb⟩)
  · by_cases z : i = j
    · subst z
      rw [List.getElem?_set_self (List.getElem?_eq_some_iff.mp e).1] at ej
      cases ej
      exact ⟨a, ws, e1, upd_same, r, h3, h4, h5⟩
    · rw [List.getElem?_set_ne z] at ej
      have k := I.sl j t ej
      cases t with
      | un => trivial
      | va d => exact k
      | ow es =>
        obtain ⟨b, ws, k1, k2, k3⟩ := k
        have nb : b ≠ a := fun z' => I.inj i j _ _ a z e ej rfl rfl e1 (z' ▸ k1)
        exact ⟨b, ws, k1, by rw [upd_ne nb]; exact k2, k3⟩
      | od es =>
        obtain ⟨b, ws, k1, k2, k3⟩ := k
        have nb : b ≠ a := fun z' => I.inj i j _ _ a z e ej rfl rfl e1 (z' ▸ k1)
        exact ⟨b, ws, k1, by rw [upd_ne nb]; exact k2, k3⟩
  · have back : ∀ (j : Nat) (t : Sl), (ε.set i (.ow es))[j]? = some t → t.owned = true → ∃ t', ε[j]? = some t' ∧ t'.owned = true := fun j t ej oj => by
      by_cases z : i = j
      · subst z; exact ⟨_, e, rfl⟩
      · rw [List.getElem?_set_ne z] at ej; exact ⟨t, ej, oj⟩
    obtain ⟨t', ej', oj'⟩ := back j t ej oj
    obtain ⟨u', ek', ok'⟩ := back k u ek ok
    exact I.inj j k t' u' b ne ej' ek' oj' ok' hj
@[simp] def sStr (i : Nat) (fi fe : EF D) : SF := fun ε g => match ε[i]? with
  | some (.ow ds) => (fe ε g).toS ε fun d g => (fi ε g).toS ε fun k g => match k with
    | .int k => match ixN ds.length k with
      | some j => .nx (ε.set i (.ow (ds.set j d))) g
      | none => .stuck
    | _ => .stuck
  | _ => .stuck
theorem s_str (i : Nat) {x : Str} {ei e : Expr} {fi fe : EF D} {p1 p2 pos : Pos} (hi : PE X ei (tT (cn X B W) fi)) (he : PE X e (tD (cn X B W) fe))
    (hN : X.N[i]? = some x := by rfl) (hv : Vis X.env.scope x := by first | exact Or.inl rfl | exact Or.inr (Or.inl rfl) | exact Or.inr (Or.inr rfl)) (hd : (x == ("__debug__" : Str)) = false := by decide) (hcd : (x == ("__classdict__" : Str)) = false := by decide)
    (hs : swapsWithSole [.Subscript (.Name x p1) ei p2] e pos.line X.env = pure false := by rfl) (hw : swappedStores [.Subscript (.Name x p1) ei p2] e X.env = pure none := by rfl)
    (ha : ∀ v, assign (.Subscript (.Name x p1) ei p2) X.env v = (do
      let ov ← holding [v] (eval (.Name x p1) X.env)
      let iv ← holding [v, ov] (eval ei X.env)
      standAt p2
      holding [v, ov, iv] (setItem ov iv v)
      release [v, ov, iv] []) := by intro _; rfl)
    (h1 : (assignEach [.Subscript (.Name x p1) ei p2] X.env).map (·.2) = [assign (.Subscript (.Name x p1) ei p2) X.env] := by rfl) :
    PS X (.Assign [.Subscript (.Name x p1) ei p2] e pos) (tS (cn X B W) (sStr i fi fe)) := by
  refine PS.imp (ps_asg he (pg_sub (pv i hN hv hd hcd) hi set_list ha) hs hw h1) fun D σ H ⟨F, ρ, ε, g, I, w⟩ => ⟨F, ρ, ε, g, I, ?_⟩
  unfold sStr at w
  split at w
  · rename_i ds e
    refine Wp.toS I w fun v d F1 ρ1 H1 g1 I1 s1 p1 w1 => ?_
    obtain ⟨a, vs, e1, h1, h2, _⟩ := I1.sl i _ e
    refine ⟨_, e1, F1, ρ1, ε, g1, I1, Wp.toS I1 w1 fun u k F2 ρ2 H2 g2 I2 s2 p2 w2 => ?_⟩
    split at w2
    · split at w2
      · rename_i j hj
        cases p2.int
        obtain ⟨a', vs', e1', k1, k2, _⟩ := I2.sl i _ e
        rw [e1] at e1'
        cases e1'
        refine ⟨a, vs', _, j, rfl, rfl, k1, by rw [k2.length]; exact hj, w2 _ _ _ _ (I2.write e e1 (k2.set (Rp.mono s2.f s2.r p1) j)) (Same.refl _) (List.prefix_refl _)⟩
      · exact w2.elim
    · exact w2.elim
  · exact w.elim
/-- xs.append(e) -/
@[simp] def sApp (i : Nat) (fe : EF D) : SF := fun ε g => match ε[i]? with
  | some (.ow ds) => (fe ε g).toS ε fun d g => if ds.length < cap then .nx (ε.set i (.ow (ds ++ [d]))) g else .stuck
  | _ => .stuck
theorem s_app (i : Nat) {x : Str} {e : Expr} {fe : EF D} {p1 apos cpos pos : Pos} (he : PE X e (tD (cn X B W) fe)) (hN : X.N[i]? = some x := by rfl) (hv : Vis X.env.scope x := by first | exact Or.inl rfl | exact Or.inr (Or.inl rfl) | exact Or.inr (Or.inr rfl))
    (hd : (x == ("__debug__" : Str)) = false := by decide) (hcd : (x == ("__classdict__" : Str)) = false := by decide)
    (hbase : attributeBase (.Name x p1) "append" X.env (eval (.Name x p1) X.env) = eval (.Name x p1) X.env := by rfl)
    (hfew : ((backTo cpos (starEach [e] X.env)).all (fun x => !x.1) && (backToKw cpos (keywordEach [] X.env)).all (fun x => x.1.isSome)
      && decide (([e] : List Expr).length + ([] : List Keyword).length + (if ([] : List Keyword).isEmpty then 0 else 1) < 30)) = true := by rfl)
    (hline : (apos.endLine == cpos.line) = true := by rfl) (hs : starEach [e] X.env = (false, eval e X.env) :: starEach [] X.env := by rfl) (hplain : (backTo cpos (starEach [] X.env)).any (·.1) = false := by rfl)
    (hsw : swapsWith (.Call (.Attribute (.Name x p1) "append" apos) [e] [] cpos) none pos.line X.env = pure false := by rfl) :
    PS X (.Expr (.Call (.Attribute (.Name x p1) "append" apos) [e] [] cpos) pos) (tS (cn X B W) (sApp i fe)) := by
  refine PS.imp (ps_expr (pe_bm PySem.F.plainAttrs_list PySem.F.slot_list_append PySem.F.type_list_append mt_append (pv i hN hv hd hcd) (pa_cons he pa_nil hs) hbase hfew hline hs hplain) hsw) fun D σ H ⟨F, ρ, ε, g, I, w⟩ => ?_
  unfold sApp at w
  split at w
  · rename_i ds e
    obtain ⟨a, vs, e1, h1, h2, _⟩ := I.sl i _ e
    refine ⟨_, e1, .inl ⟨rfl, _, SqL.of h1⟩, F, ρ, ε, g, I, Wp.toS I w fun v d F1 ρ1 H1 g1 I1 s1 p1 w1 => ?_⟩
    split at w1
    · rename_i hz
      obtain ⟨a', vs', e1', k1, k2, _⟩ := I1.sl i _ e
      rw [e1] at e1'
      cases e1'
      exact ⟨a, vs', v, rfl, rfl, k1, by rw [k2.length]; exact cap_lt (Nat.le_of_lt hz), w1 _ _ _ _ (I1.write e e1 (k2.append (.cons p1 .nil))) (Same.refl _) (List.prefix_refl _)⟩
    · exact w1.elim
  · exact w.elim

/-! ### loops -/
/-- what is walked: the items, kept for good -/
structure WkD (K : PySem.W.Frag) (F : Hp) (ρ : Fps) (J : It) (its : List D) : Prop where
  ex : ∃ (Gd : Hp → Prop) (Y : Nat → Hp → V → Hp → Prop), Walk J its.length Gd Y ∧ (∀ H, Same F H → Gd H) ∧
    ∀ i H x H', i < its.length → Y i H x H' → ∃ d, its[i]? = some d ∧ ((H' = H ∧ Rp K F ρ x d) ∨ ∃ T o, x = .ref T ∧ H T = none ∧ H' = upd H T o ∧ ∀ F', Same F F' → F' T = some o → Rp K F' ρ x d)
def tI (c : Cn) (f : EF (List D)) : TI := fun σ H R => ∃ F ρ ε g, Rel c.K c.B F ρ σ H ε g ∧ Wp c.K c.mg c.W σ ⟨F, ρ, H⟩ (fun F' ρ' _ J its => WkD c.K F' ρ' J its) (f ε g) R
/-- one turn's item into a world -/
theorem item_in {K : PySem.W.Frag} {B : Base} {F F0 : Hp} {ρ ρ0 : Fps} {σ : St} {H H' : Hp} {ε : Env} {g : G} {x : V} {d : D} (I : Rel K B F ρ σ H ε g) (f : Same F0 F) (r : ρ0 <+: ρ)
    (y : (H' = H ∧ Rp K F0 ρ0 x d) ∨ ∃ T o, x = .ref T ∧ H T = none ∧ H' = upd H T o ∧ ∀ F', Same F0 F' → F' T = some o → Rp K F' ρ0 x d) : ∃ F', Same F F' ∧ Rel K B F' ρ σ H' ε g ∧ Rp K F' ρ x d ∧ Step ⟨F, ρ, H⟩ F' ρ H' := by
  rcases y with ⟨rfl, p⟩ | ⟨T, o, rfl, hT, rfl, p⟩
  · exact ⟨F, Same.refl _, I, p.mono f r, Step.refl _ _ _⟩
  · obtain ⟨s, q⟩ := step_new (o := o) I.gr hT
    exact ⟨upd F T o, s.f, I.step s q, (p _ (f.trans s.f) upd_same).mono (Same.refl _) r, s⟩
def forD (p : Pat) (body : SF) : List D → Env → G → RS
  | [], ε, g => .nx ε g
  | d :: r, ε, g => match p.put d ε with
    | none => .stuck
    | some ε1 => match body ε1 g with
      | .nx ε2 g2 => forD p body r ε2 g2
      | .cnt ε2 g2 => forD p body r ε2 g2
      | .brk ε2 g2 => .nx ε2 g2
      | q => q
@[simp] def sFor (p : Pat) (src : EF (List D)) (body : SF) : SF := fun ε g => (src ε g).toS ε fun its g => forD p body its ε g
theorem s_for {tg iter : Expr} {body : List Stmt} {p : Pat} {src : EF (List D)} {s : SF} {pos : Pos} (hp : PassesOwn (model X.prog X.w) X.A X.env X.xe) (hc : X.calm = true) (hi : PI X tg iter (tI (cn X B W) src)) (hg : PG X tg (gP X.K p)) (hb : PSs X body (tS (cn X B W) s))
    (hs : ∀ x, foldedSetIterable iter X.env x = pure x := by intro _; rfl) : PS X (.For tg iter body [] pos) (tS (cn X B W) (sFor p src s)) := by
  refine PS.imp (ps_for hp hc hi hg hb hs) fun D σ H ⟨F, ρ, ε, g, I, w⟩ => ⟨F, ρ, ε, g, I, ?_⟩
  refine Wp.toS I w fun J its F1 ρ1 H1 g1 I1 s1 p1 w1 => ?_
  obtain ⟨Gd, Y, wk, hG, hY⟩ := p1.ex
  refine for_it wk (fun i σ H => ∃ F ρ ε g, Rel X.K B F ρ σ H ε g ∧ Same F1 F ∧ ρ1 <+: ρ ∧ WpS (cn X B W) F ρ (forD p s (its.drop i) ε g) D) ⟨F1, ρ1, ε, g1, I1, Same.refl _, List.prefix_refl _, by rw [List.drop_zero]; exact w1⟩ (fun i σ H _ ⟨F, ρ, ε, g, I, f, _, _⟩ => hG H (f.trans I.gr.le)) ?_ ?_
  · rintro i x σ H H' hi ⟨F, ρ, ε, g, I, f, r, w⟩ y
    obtain ⟨d, hd, y⟩ := hY i H x H' hi y
    obtain ⟨F', f', I', p', _⟩ := item_in I f r y
    have ed : its.drop i = d :: its.drop (i + 1) := by
      rw [List.getElem?_eq_getElem hi] at hd
      cases hd
      exact List.drop_eq_getElem_cons hi
    rw [ed] at w
    unfold forD at w
    cases e : p.put d ε with
    | none => rw [e] at w; exact w.elim
    | some ε1 =>
      rw [e] at w
      simp only at w
      refine gP_run p x d σ ε ε1 I' p' e fun σ' I2 _ => ⟨F', ρ, ε1, g, I2, ?_⟩
      have w' := w.later f' (List.prefix_refl _)
      cases e2 : s ε1 g with
      | nx ε2 g2 =>
        rw [e2] at w'
        exact fun σ3 F3 ρ3 H3 I3 a b => ⟨F3, ρ3, ε2, g2, I3, (f.trans f').trans a, r.trans b, w'.later a b⟩
      | cnt ε2 g2 =>
        rw [e2] at w'
        exact fun σ3 F3 ρ3 H3 I3 a b => ⟨F3, ρ3, ε2, g2, I3, (f.trans f').trans a, r.trans b, w'.later a b⟩
      | brk ε2 g2 => rw [e2] at w'; exact w'
      | ret d g2 => rw [e2] at w'; exact w'
      | exc x ε2 g2 => rw [e2] at w'; exact w'
      | stuck => rw [e2] at w'; exact w'
  · rintro σ H ⟨F, ρ, ε, g, I, f, r, w⟩
    rw [List.drop_length] at w
    exact w σ F ρ H I (Same.refl _) (List.prefix_refl _)

/-! while -/
def whileD (c : EF Bool) (body : SF) : Nat → SF
  | 0, _, _ => .stuck
  | n + 1, ε, g => (c ε g).toS ε fun k g => if k = true then match body ε g with
      | .nx ε2 g2 => whileD c body n ε2 g2
      | .cnt ε2 g2 => whileD c body n ε2 g2
      | .brk ε2 g2 => .nx ε2 g2
      | q => q
    else .nx ε g
theorem s_while (n : Nat) {c : Expr} {body : List Stmt} {f : EF Bool} {s : SF} {pos : Pos} (hp : PassesOwn (model X.prog X.w) X.A X.env X.xe) (hc : PT X c (tB (cn X B W) f)) (hb : PSs X body (tS (cn X B W) s)) : PS X (.While c body [] pos) (tS (cn X B W) (whileD f s n)) := by
  refine PS.imp (ps_while hp hc hb) fun E σ H ⟨F, ρ, ε, g, I, w⟩ => ?_
  refine ⟨fun m σ H => ∃ F ρ ε g, Rel X.K B F ρ σ H ε g ∧ WpS (cn X B W) F ρ (whileD f s m ε g) E, ⟨n, F, ρ, ε, g, I, w⟩, ?_⟩
  rintro m σ H ⟨F, ρ, ε, g, I, w⟩
  cases m with
  | zero => exact w.elim
  | succ m =>
    refine ⟨F, ρ, ε, g, I, ?_⟩
    refine Wp.toS I w fun v d F1 ρ1 H1 g1 I1 s1 p1 w1 => ?_
    subst p1
    cases v with
    | false =>
      rw [if_neg Bool.false_ne_true]
      rw [if_neg Bool.false_ne_true] at w1
      exact w1 σ F1 ρ1 H1 I1 (Same.refl _) (List.prefix_refl _)
    | true =>
      rw [if_pos rfl]
      rw [if_pos rfl] at w1
      refine ⟨fun σ H => ∃ F ρ ε g, Rel X.K B F ρ σ H ε g ∧ WpS (cn X B W) F ρ (whileD f s m ε g) E, fun σ' H' h => ⟨m, Nat.lt_succ_self m, h⟩, F1, ρ1, ε, g1, I1, ?_⟩
      cases e2 : s ε g1 with
      | nx ε2 g2 =>
        rw [e2] at w1
        exact fun σ3 F3 ρ3 H3 I3 a b => ⟨F3, ρ3, ε2, g2, I3, w1.later a b⟩
      | cnt ε2 g2 =>
        rw [e2] at w1
        exact fun σ3 F3 ρ3 H3 I3 a b => ⟨F3, ρ3, ε2, g2, I3, w1.later a b⟩
      | brk ε2 g2 => rw [e2] at w1; exact w1
      | ret d g2 => rw [e2] at w1; exact w1
      | exc x ε2 g2 => rw [e2] at w1; exact w1
      | stuck => rw [e2] at w1; exact w1
end
end DL

namespace DL
open PySem L2
@[simp] def wipeE (ε : Env) : List Nat → Env
  | [] => ε
  | v :: vs => (wipeE ε vs).set v .un
theorem Rel.unset {K : PySem.W.Frag} {B : Base} {F : Hp} {ρ : Fps} {σ : St} {H : Hp} {ε : Env} {g : G} (I : Rel K B F ρ σ H ε g) (i : Nat) : Rel K B F ρ (σ.set i none) H (ε.set i .un) g := by
  refine ⟨I.gr, I.st, by rw [List.length_set, List.length_set]; exact I.len, fun j t e => ?_, fun j k t u a ne ej ek oj ok hj => ?_⟩
  · by_cases z : i = j
    · subst z
      by_cases hl : i < ε.length
      · rw [List.getElem?_set_self hl] at e
        cases e
        trivial
      · rw [List.getElem?_eq_none (by simpa using hl)] at e; cases e
    · rw [List.getElem?_set_ne z] at e ⊢
      exact I.sl j t e
  · have ow : ∀ (j : Nat) (t : Sl), (ε.set i .un)[j]? = some t → t.owned = true → i ≠ j := fun j t ej oj z => by
      subst z
      by_cases hl : i < ε.length
      · rw [List.getElem?_set_self hl] at ej; cases ej; cases oj
      · rw [List.getElem?_eq_none (by simpa using hl)] at ej; cases ej
    have zj := ow j t ej oj
    have zk := ow k u ek ok
    rw [List.getElem?_set_ne zj] at ej hj
    rw [List.getElem?_set_ne zk] at ek ⊢
    exact I.inj j k t u a ne ej ek oj ok hj
theorem Rel.wipe {K : PySem.W.Frag} {B : Base} {F : Hp} {ρ : Fps} {σ : St} {H : Hp} {ε : Env} {g : G} (I : Rel K B F ρ σ H ε g) : ∀ vs : List Nat, Rel K B F ρ (L2.wipe σ vs) H (wipeE ε vs) g
  | [] => I
  | v :: vs => (Rel.wipe I vs).unset v
theorem Rel.mut {K : PySem.W.Frag} {B : Base} {F : Hp} {ρ : Fps} {σ : St} {H : Hp} {ε : Env} {g : G} {p : Addr} {o : HO} (I : Rel K B F ρ σ H ε g) (hF : F p = none) (hB : B.H p = none) (hρ : p ∉ ρ.flatten) (hs : ∀ (j : Nat) (t : Sl), ε[j]? = some t → t.owned = true → σ[j]? ≠ some (some (.ref p))) :
    Rel K B F ρ σ (upd H p o) ε g := by
  have st : Step B F ρ (upd H p o) := ⟨I.st.f, I.st.r, I.st.fn, I.st.rn, fun b o hb hn => by
    rw [upd_ne (ne_of_none hb hB)]; exact I.st.hn b o hb hn, fun b hb => by
    by_cases z : b = p
    · subst z; rw [upd_same]; simp
    · rw [upd_ne z]; exact I.st.th b hb⟩
  refine ⟨⟨fun b u hb => ?_, I.gr.len, fun n o hn => ?_, I.gr.nd, I.gr.nf⟩, st, I.len, fun j t ej => ?_, I.inj⟩
  · rw [upd_ne (ne_of_none hb hF)]; exact I.gr.le _ _ hb
  · obtain ⟨as, k1, k2⟩ := I.gr.go n o hn
    refine ⟨as, k1, k2.frame (Same.refl _) fun b hb => upd_ne fun z => ?_⟩
    subst z
    exact hρ (List.mem_flatten.mpr ⟨as, List.mem_of_getElem? k1, hb⟩)
  · have k := I.sl j t ej
    cases t with
    | un => trivial
    | va d => exact k
    | ow es =>
      obtain ⟨b, ws, k1, k2, k3⟩ := k
      exact ⟨b, ws, k1, by rw [upd_ne (fun z : b = p => hs j _ ej rfl (z ▸ k1))]; exact k2, k3⟩
    | od es =>
      obtain ⟨b, ws, k1, k2, k3⟩ := k
      exact ⟨b, ws, k1, by rw [upd_ne (fun z : b = p => hs j _ ej rfl (z ▸ k1))]; exact k2, k3⟩
theorem Step.mut {b : Base} {F : Hp} {ρ : Fps} {H : Hp} {p : Addr} {o : HO} (s : Step b F ρ H) (hB : b.H p = none) : Step b F ρ (upd H p o) :=
  ⟨s.f, s.r, s.fn, s.rn, fun c u hb hn => by rw [upd_ne (ne_of_none hb hB)]; exact s.hn c u hb hn, fun c hb => by
    by_cases z : c = p
    · subst z; rw [upd_same]; simp
    · rw [upd_ne z]; exact s.th c hb⟩
abbrev WF : WX := fun _ _ _ _ => False
def lcD (vs : List Nat) (p : Pat) (tt : EF Bool) (te : EF D) (ε : Env) : List D → List D → G → R (List D)
  | [], acc, g => .ok acc g
  | d :: r, acc, g => match p.put d (wipeE ε vs) with
    | none => .stuck
    | some ε1 => match tt ε1 g with
      | .ok true g1 => match te ε1 g1 with
        | .ok y g2 => if acc.length < cap then lcD vs p tt te ε r (acc ++ [y]) g2 else .stuck
        | _ => .stuck
      | .ok false g1 => lcD vs p tt te ε r acc g1
      | _ => .stuck
@[simp] def fLc (vs : List Nat) (p : Pat) (src : EF (List D)) (tt : EF Bool) (te : EF D) : EF (List D) := fun ε g => (src ε g).bind fun its g => lcD vs p tt te ε its [] g
@[simp] def bYes : EF Bool := fun _ g => .ok true g
section
variable {X : Cx} {B : Base} {W : WX}
theorem PTs.imp {ifs : List Expr} {t t' : TT} (h : PTs X ifs t) (k : ∀ σ H Q, t' σ H Q → t σ H Q) : PTs X ifs t' := ⟨fun pins s σ H Q I q => h.run pins s σ H Q I (k σ H Q q)⟩
theorem ts_nil {W : WX} : PTs X [] (tB (cn X B W) bYes) := PTs.imp pts_nil fun σ H Q ⟨F, ρ, ε, g, I, w⟩ => w true F ρ H (Step.refl _ _ _) I.gr rfl
theorem ts_one {W : WX} {c : Expr} {f : EF Bool} (h : PT X c (tB (cn X B W) f)) : PTs X [c] (tB (cn X B W) f) := pts_one h
theorem lcD_noexc {vs : List Nat} {p : Pat} {tt : EF Bool} {te : EF D} {ε : Env} : ∀ (its acc : List D) (g : G) {x : Exn} {gz : G}, lcD vs p tt te ε its acc g ≠ .exc x gz
  | [], acc, g, x, gz => by unfold lcD; intro h; cases h
  | d :: r, acc, g, x, gz => by
    unfold lcD
    split
    · intro h; cases h
    · split
      · split
        · split
          · exact lcD_noexc _ _ _
          · intro h; cases h
        · intro h; cases h
      · exact lcD_noexc _ _ _
      · intro h; cases h
theorem wipe_wipe {σ : St} {vs : List Nat} : ∀ {ws : List Nat}, (∀ i ∈ ws, i ∈ vs) → L2.wipe (L2.wipe σ ws) vs = L2.wipe σ vs
  | [], _ => rfl
  | w :: ws, h => by
    show L2.wipe ((L2.wipe σ ws).set w none) vs = _
    rw [wipe_set (h w List.mem_cons_self)]
    exact wipe_wipe fun i hi => h i (List.mem_cons_of_mem _ hi)
theorem lc_run {wi : TI} {p : Pat} {src : EF (List D)} {tt : EF Bool} {te : EF D} {vs : List Nat} (hw : wi = tI (cn X B W) src) (hp : ∀ i ∈ p.slots, i ∈ vs) {σ : St} {H : Hp} {Q : VK} (h : tF (cn X B W) (fLc vs p src tt te) σ H Q) :
    tLc wi (gP X.K p) (tB (cn X B WF) tt) (tD (cn X B WF) te) vs σ H Q := by
  subst hw
  obtain ⟨F, ρ, ε, g, I, w⟩ := h
  refine ⟨F, ρ, ε, g, I, ?_⟩
  refine Wp.bind I w fun J its F1 ρ1 H1 g1 I1 s1 p1 w1 => ?_
  intro N hN
  obtain ⟨Gd, Y, wk, hG, hY⟩ := p1.ex
  have hN0 : H N = none := Classical.byContradiction fun z => s1.th N z hN
  have hNs : ∀ (j : Nat) (t : Sl), ε[j]? = some t → t.owned = true → σ[j]? ≠ some (some (.ref N)) := fun j t ej oj hj => by
    have k := I.sl j t ej
    cases t with
    | un => cases oj
    | va _ => cases oj
    | ow es =>
      obtain ⟨b, ws, k1, k2, k3⟩ := k
      rw [hj] at k1; cases k1; rw [hN0] at k2; cases k2
    | od es =>
      obtain ⟨b, ws, k1, k2, k3⟩ := k
      rw [hj] at k1; cases k1; rw [hN0] at k2; cases k2
  have hNB : B.H N = none := I.newB hN0
  have key : ∀ {Fa Fb : Hp} {ρa ρb : Fps} {Ha Hb : Hp} {o : HO}, Step ⟨Fa, ρa, Ha⟩ Fb ρb Hb → Ha N = some o → Fa N = none → N ∉ ρa.flatten → Hb N = some o ∧ Fb N = none ∧ N ∉ ρb.flatten := fun {Fa Fb ρa ρb Ha Hb o} t h1 h2 h3 => by
    refine ⟨t.hn N o h1 h3, ?_, fun q => ?_⟩
    · refine Classical.byContradiction fun q => ?_
      rcases t.fn N q with z | z
      · exact z h2
      · have z : Ha N = none := z
        rw [h1] at z; cases z
    · rcases t.rn N q with z | z
      · exact h3 z
      · have z : Ha N = none := z
        rw [h1] at z; cases z
  refine lc_it wk (fun i H' => ∃ F' ρ' g' acc vacc, Rel X.K B F' ρ' σ H' ε g' ∧ Step ⟨F1, ρ1, H1⟩ F' ρ' H' ∧ H' N = some (.lst vacc) ∧ RpA X.K F' ρ' vacc acc ∧ F' N = none ∧ N ∉ ρ'.flatten ∧
      ∃ ds gz, lcD vs p tt te ε (its.drop i) acc g' = .ok ds gz ∧ ∀ v F2 ρ2 H2, Step ⟨F1, ρ1, H1⟩ F2 ρ2 H2 → GRel F2 ρ2 H2 gz → PF (cn X B W) F2 ρ2 H2 v ds ∧ (∀ a, v = .ref a → H a = none) → Q v H2) ?_ ?_ ?_ ?_
  · obtain ⟨st, gr⟩ := step_tmp (o := .lst []) I1.gr hN
    refine ⟨F1, ρ1, g1, [], [], I1.step st gr, st, upd_same, .nil, I1.gr.le.free hN, fun z => I1.gr.there N z hN, ?_⟩
    rw [List.drop_zero]
    cases e : lcD vs p tt te ε its [] g1 with
    | ok ds gz =>
      rw [e] at w1
      exact ⟨ds, gz, rfl, w1⟩
    | exc x gz => exact absurd e (lcD_noexc its [] g1)
    | stuck => rw [e] at w1; exact w1.elim
  · rintro i H' _ ⟨F', ρ', g', acc, vacc, I', st, _⟩
    exact hG H' (st.f.trans I'.gr.le)
  · rintro i x H' H'' hi ⟨F', ρ', g', acc, vacc, I', st, h1, h2, h3, h4, ds, gz, e, k⟩ y
    obtain ⟨d, hd, y⟩ := hY i H' x H'' hi y
    obtain ⟨F'', f'', I'', p'', st''⟩ := item_in I' st.f st.r y
    have ed : its.drop i = d :: its.drop (i + 1) := by
      rw [List.getElem?_eq_getElem hi] at hd
      cases hd
      exact List.drop_eq_getElem_cons hi
    rw [ed] at e
    unfold lcD at e
    cases e1 : p.put d (wipeE ε vs) with
    | none => rw [e1] at e; cases e
    | some ε1 =>
      rw [e1] at e
      simp only at e
      refine gP_run p x d (L2.wipe σ vs) (wipeE ε vs) ε1 (I''.wipe vs) p'' e1 fun σ2 I2 hw => ⟨(hw vs hp).trans (wipe_wipe fun i hi => hi), F'', ρ', ε1, g', I2, ?_⟩
      cases e2 : tt ε1 g' with
      | exc x gx => rw [e2] at e; cases e
      | stuck => rw [e2] at e; cases e
      | ok b g2 =>
        rw [e2] at e
        intro v F3 ρ3 H3 s3 q3 hv
        subst hv
        obtain ⟨k1, k2, k3⟩ := key (st''.trans s3) h1 h3 h4
        cases v with
        | false =>
          rw [if_neg Bool.false_ne_true]
          exact ⟨F3, ρ3, g2, acc, vacc, I''.step s3 q3, st.trans (st''.trans s3), k1, h2.mono (st''.trans s3).f (st''.trans s3).r, k2, k3, ds, gz, e, k⟩
        | true =>
          rw [if_pos rfl]
          simp only at e
          refine ⟨F3, ρ3, ε1, g2, I2.step s3 q3, ?_⟩
          cases e3 : te ε1 g2 with
          | exc x gx => rw [e3] at e; cases e
          | stuck => rw [e3] at e; cases e
          | ok yd g3 =>
            rw [e3] at e
            simp only at e
            split at e
            · rename_i hz
              intro yv F4 ρ4 H4 s4 q4 py
              have sx := st''.trans (s3.trans s4)
              obtain ⟨m1, m2, m3⟩ := key sx h1 h3 h4
              have h2' := h2.mono sx.f sx.r
              refine ⟨vacc, m1, cap_lt (Nat.le_of_lt (by rw [h2.length]; exact hz)), F4, ρ4, g3, acc ++ [yd], vacc ++ [yv], (I''.step (s3.trans s4) q4).mut m2 hNB m3 hNs, (st.trans sx).mut hN, upd_same, h2'.append (.cons py .nil), m2, m3, ds, gz, e, k⟩
            · cases e
  · rintro H' ⟨F', ρ', g', acc, vacc, I', st, h1, h2, h3, h4, ds, gz, e, k⟩
    rw [List.drop_length] at e
    cases e
    exact k _ F' ρ' H' st I'.gr ⟨⟨N, vacc, rfl, h1, h2, h3, hNB, h4⟩, fun a e => by cases e; exact hN0⟩
theorem f_lc {elt tg iter : Expr} {ifs : List Expr} {scope : Scope} {own : List (Str × Nat)} {pos : Pos} {p : Pat} {src : EF (List D)} {tt : EF Bool} {te : EF D} (hc : X.calm = true) (hN : X.N.Nodup) (hi : PI X tg iter (tI (cn X B W) src)) (ok : BlkOk X.N X.env.scope scope own)
    (hp : ∀ i ∈ p.slots, i ∈ own.map (·.2))
    (hg : ∀ (s : Shared) (H : Hp) (C : Addr) (cl : List (Str × Addr)) (fp : List Addr), PG (X.blk s H scope (compEnvC scope cl C X.env) fp) tg (gP X.K p)) (ht : ∀ (s : Shared) (H : Hp) (C : Addr) (cl : List (Str × Addr)) (fp : List Addr), PTs (X.blk s H scope (compEnvC scope cl C X.env) fp) ifs (tB (cn X B WF) tt))
    (he : ∀ (s : Shared) (H : Hp) (C : Addr) (cl : List (Str × Addr)) (fp : List Addr), PE (X.blk s H scope (compEnvC scope cl C X.env) fp) elt (tD (cn X B WF) te)) (hs : ∀ x, foldedSetIterable iter X.env x = pure x := by intro _; rfl) :
    PE X (.ListComp elt [⟨tg, iter, ifs, 0⟩] scope pos) (tF (cn X B W) (fLc (own.map (·.2)) p src tt te)) :=
  PE.imp (pe_lc hc hN hi ok hg ht he hs) fun σ H Q h => lc_run rfl hp h
theorem s_setLc (i : Nat) {y : Str} {py : Pos} {elt tg iter : Expr} {ifs : List Expr} {scope : Scope} {own : List (Str × Nat)} {pos spos : Pos} {p : Pat} {src : EF (List D)} {tt : EF Bool} {te : EF D} (hc : X.calm = true) (hN : X.N.Nodup) (hy : X.N[i]? = some y) (hyl : X.env.scope.names.lookup y = some .local)
    (hsw : swapsWith (.ListComp elt [⟨tg, iter, ifs, 0⟩] scope pos) (some (.Name y py)) spos.line X.env = pure true) (hi : PI X tg iter (tI (cn X B W) src)) (ok : BlkOk X.N X.env.scope scope own)
    (hp : ∀ i ∈ p.slots, i ∈ own.map (·.2))
    (hg : ∀ (s : Shared) (H : Hp) (C : Addr) (cl : List (Str × Addr)) (fp : List Addr), PG (X.blk s H scope (compEnvC scope cl C X.env) fp) tg (gP X.K p)) (ht : ∀ (s : Shared) (H : Hp) (C : Addr) (cl : List (Str × Addr)) (fp : List Addr), PTs (X.blk s H scope (compEnvC scope cl C X.env) fp) ifs (tB (cn X B WF) tt))
    (he : ∀ (s : Shared) (H : Hp) (C : Addr) (cl : List (Str × Addr)) (fp : List Addr), PE (X.blk s H scope (compEnvC scope cl C X.env) fp) elt (tD (cn X B WF) te)) (hs : ∀ x, foldedSetIterable iter X.env x = pure x := by intro _; rfl) :
    PS X (.Assign [.Name y py] (.ListComp elt [⟨tg, iter, ifs, 0⟩] scope pos) spos) (tS (cn X B W) (sSetO i (fLc (own.map (·.2)) p src tt te))) :=
  s_asgO i (PS.imp (ps_setLc hc hN hy hyl hsw hi ok hg ht he hs) fun E σ H h => lc_run rfl hp h)
end
end DL

namespace DL
open PySem L2
/-! ### defs -/
@[simp] def RS.fin : RS → R D
  | .nx _ g => .ok .none g
  | .ret d g => .ok d g
  | .exc x _ g => .exc x g
  | _ => .stuck
@[simp] def runF (n : Nat) (s : SF) (ds : List D) (g : G) : R D := (s (ds.map Sl.va ++ List.replicate (n - ds.length) Sl.un) g).fin
theorem fin_seq {s t : SF} {ε ε' : Env} {g g' : G} {r : R D} (h : s ε g = .nx ε' g') (k : (t ε' g').fin = r) : (sSeq s t ε g).fin = r := by
  simp only [sSeq, h]
  exact k
theorem fin_if {c : EF Bool} {s t : SF} {ε : Env} {g g' : G} {b : Bool} {r : R D} (h : c ε g = .ok b g') (k : (if b = true then s ε g' else t ε g').fin = r) : (sIf c s t ε g).fin = r := by
  simp only [sIf, h, R.toS]
  exact k
def spF (K : PySem.W.Frag) (mg : Str → Option Value) (n : Nat) (φ : List D → G → R D) : Sp := fun vs H Q E => vs.length = n ∧ ∃ F ρ ds g, GRel F ρ H g ∧ RpA K F ρ vs ds ∧
  Wp K mg (fun cls d _ H => E cls d H) [] ⟨F, ρ, H⟩ (fun F' ρ' _ v d => Rp K F' ρ' v d) (φ ds g) Q
theorem rel_start {K : PySem.W.Frag} {F : Hp} {ρ : Fps} {H : Hp} {g : G} {N : List Str} {vs : List V} {ds : List D} (q : GRel F ρ H g) (r : RpA K F ρ vs ds) : Rel K ⟨F, ρ, H⟩ F ρ (L2.start N vs) H (ds.map Sl.va ++ List.replicate (N.length - ds.length) Sl.un) g := by
  have hl := r.length
  have hva : ∀ (i : Nat) (s : Sl), (ds.map Sl.va ++ List.replicate (N.length - ds.length) Sl.un)[i]? = some s → (∃ d, s = .va d ∧ ds[i]? = some d) ∨ s = .un := fun i s e => by
    by_cases hi : i < ds.length
    · rw [List.getElem?_append_left (by rw [List.length_map]; exact hi), List.getElem?_map] at e
      cases h : ds[i]? with
      | none => rw [h] at e; cases e
      | some d => rw [h] at e; cases e; exact .inl ⟨d, rfl, rfl⟩
    · rw [List.getElem?_append_right (by rw [List.length_map]; omega), List.getElem?_replicate] at e
      split at e
      · cases e; exact .inr rfl
      · cases e
  refine ⟨q, Step.refl _ _ _, ?_, fun i s e => ?_, fun i j s t a ne ei ej oi oj => ?_⟩
  · unfold L2.start
    rw [List.length_append, List.length_append, List.length_map, List.length_map, List.length_replicate, List.length_replicate, hl]
  · rcases hva i s e with ⟨d, rfl, hd⟩ | rfl
    · obtain ⟨v, hv, p⟩ := r.get' hd
      refine ⟨v, ?_, p⟩
      unfold L2.start
      rw [List.getElem?_append_left (by rw [List.length_map]; exact (List.getElem?_eq_some_iff.mp hv).1), List.getElem?_map, hv]
      rfl
    · trivial
  · rcases hva i s ei with ⟨d, rfl, _⟩ | rfl
    · cases oi
    · cases oi
section
variable {P : Program} {w : World} {K : PySem.W.Frag} {mg : Str → Option Value} {base : Heap}
theorem fn_D {x qual : Str} {st : Stmt} {f : Addr} {fd : FuncData} {N ps : List Str} {k : Nat} {sd : SF} (F : Fun K x qual st f fd) (S : FnScope N ps (defScope st))
    (walk : ∀ (cdv : Value) (A : Around) (outer : List PySem.Env) (s : Shared) (H : Hp) (E : XK), Room k (A.deeper (PyProof.Rows.envOfC qual (defScope st) s.heap.objs.size f cdv)) → ∀ B : Base,
      PSs (cxOf (L2.CX P w) P w K mg base N qual (defScope st) f cdv A outer s H E) (defBody st) (tS ⟨K, mg, B, fun cls d _ H => E cls d H⟩ sd)) :
    FnOk P w K mg base (L2.CX P w) (k + 1) f fd ps (spF K mg ps.length (runF N.length sd)) := by
  refine F.okX S (fun vs H Q E h => h.1) (fun cdv A outer s H vs Q E hr h => ?_)
  obtain ⟨hl, F0, ρ, ds, g, q, r, wp⟩ := h
  refine ⟨_, walk cdv A outer s H E hr ⟨F0, ρ, H⟩, F0, ρ, _, g, rel_start q r, ?_⟩
  unfold runF at wp
  cases e : sd (ds.map Sl.va ++ List.replicate (N.length - ds.length) Sl.un) g with
  | nx ε g1 => rw [e] at wp; exact fun σ' F' ρ' H' I _ _ => wp .non F' ρ' H' I.st I.gr .non
  | ret d g1 => rw [e] at wp; exact fun v F' ρ' H' s q p => wp v F' ρ' H' s q p
  | exc x ε g1 => rw [e] at wp; exact fun cls dd σ' F' ρ' H' I _ _ p => wp cls dd F' ρ' H' I.st I.gr p
  | brk ε g1 => rw [e] at wp; exact wp.elim
  | cnt ε g1 => rw [e] at wp; exact wp.elim
  | stuck => rw [e] at wp; exact wp.elim
end
section
variable {X : Cx} {B : Base} {W : WX}
@[simp] def dCallF (n : Nat) (φ : List D → G → R D) (fs : EF (List D)) : EF D := fun ε g => (fs ε g).bind fun ds g => if ds.length = n then φ ds g else .stuck
theorem Wp.slots {K : PySem.W.Frag} {mg : Str → Option Value} {W W' : WX} {σ σ' : St} {b : Base} {α β : Type} {P : Hp → Fps → Hp → β → α → Prop} {r : R α} {Q : β → Hp → Prop} (h : Wp K mg W σ b P r Q) (e : ∀ cls d H, W cls d σ H → W' cls d σ' H) : Wp K mg W' σ' b P r Q := by
  cases r with
  | ok d g1 => exact h
  | exc x g => exact fun cls dd F' ρ' H' s q p => e _ _ _ (h cls dd F' ρ' H' s q p)
  | stuck => exact h
theorem d_call {e : Expr} {n : Nat} {φ : List D → G → R D} {fs : EF (List D)} (p : PE X e (tCallS (spF X.K X.mg n φ) (WE W) (tA (cn X B W) fs))) : PE X e (tD (cn X B W) (dCallF n φ fs)) := by
  refine PE.imp p fun σ H Q ⟨F, ρ, ε, g, I, w⟩ => ⟨F, ρ, ε, g, I, ?_⟩
  refine Wp.bind I w fun vs ds F1 ρ1 H1 g1 I1 s1 p1 w1 => ?_
  split at w1
  · rename_i hl
    exact ⟨p1.length.trans hl, F1, ρ1, ds, g1, I1.gr, p1, w1.slots fun _ _ _ h => h⟩
  · exact w1.elim
/-- f() -/
theorem d_call0 {e : Expr} {n : Nat} {φ : List D → G → R D} (p : PE X e (tCall (spF X.K X.mg n φ) [] (fun cls d H => ∀ σ, W cls d σ H) tNil)) (he : ∀ cls d σ H, W cls d σ H → ∀ σ', W cls d σ' H) : PE X e (tD (cn X B W) (dCallF n φ fNil)) := by
  refine PE.imp p fun σ H Q ⟨F, ρ, ε, g, I, w⟩ => ?_
  unfold dCallF fNil at w
  rw [bind_ok] at w
  show spF X.K X.mg n φ ([] ++ []) H Q _
  split at w
  · rename_i hl
    exact ⟨hl, F, ρ, [], g, I.gr, .nil, w.slots fun cls d H h => he cls d σ H h⟩
  · exact w.elim
/-! raise -/
@[simp] def sRaise (x : Str) : SF := fun ε g => .exc ⟨x, []⟩ ε g
theorem s_raise {x : Str} {C : Addr} {st : Stmt} (gC : X.mg x = some (.ref C)) (p : PS X st (fun _ σ H => W (.ref C) none σ H)) : PS X st (tS (cn X B W) (sRaise x)) :=
  PS.imp p fun E σ H ⟨F, ρ, ε, g, I, w⟩ => w (.ref C) none σ F ρ H I (Same.refl _) (List.prefix_refl _) ⟨C, rfl, gC, .inl ⟨rfl, rfl⟩⟩

/-! isinstance -/
inductive Ty where
  | int | bool | str | tuple | list | dict
def Ty.nm : Ty → String
  | .int => "int" | .bool => "bool" | .str => "str" | .tuple => "tuple" | .list => "list" | .dict => "dict"
def tyOf : D → Option String
  | .none => some "NoneType" | .bool _ => some "bool" | .int _ => some "int" | .str _ => some "str" | .tuple _ => some "tuple" | .list _ => some "list"
  | .dict ((.list _, _) :: _) => none
  | .dict _ => some "dict"
@[simp] def isB : Ty → D → Option Bool
  | .int, .int _ => some true
  | .int, .bool _ => some true
  | .bool, .bool _ => some true
  | .str, .str _ => some true
  | .tuple, .tuple _ => some true
  | .list, .list _ => some true
  | _, .dict ((.list _, _) :: _) => none
  | .dict, .dict _ => some true
  | _, _ => some false
theorem isB_kit {t : Ty} {d : D} {b : Bool} (h : isB t d = some b) : ∃ n, tyOf d = some n ∧ kitB n t.nm = some b := by
  have fin : ∀ n, tyOf d = some n → kitB n t.nm = some b → ∃ n, tyOf d = some n ∧ kitB n t.nm = some b := fun n h1 h2 => ⟨n, h1, h2⟩
  cases d with
  | dict kvs =>
    unfold tyOf
    cases kvs with
    | nil => cases t <;> simp only [isB, Option.some.injEq] at h <;> subst h <;> exact ⟨_, rfl, by decide +kernel⟩
    | cons kv r =>
      obtain ⟨k, v⟩ := kv
      cases k with
      | list _ => cases t <;> simp [isB] at h
      | _ => cases t <;> simp only [isB, Option.some.injEq] at h <;> subst h <;> exact ⟨_, rfl, by decide +kernel⟩
  | _ => cases t <;> simp only [isB, Option.some.injEq] at h <;> subst h <;> exact ⟨_, rfl, by decide +kernel⟩
@[simp] def pyIsi (t : Ty) (d : D) (g : G) : R D := match isB t d with
  | some b => .ok (.bool b) g
  | none => .stuck
theorem RpT.ty {F : Hp} {ρ : Fps} {σ : St} {H : Hp} {ε : Env} {g : G} {v : V} {d : D} {n : String} (I : Rel X.K B F ρ σ H ε g) (h : RpT X.K F ρ H σ ε v d) (e : tyOf d = some n) : TyX X.K H v (.type n) := by
  rcases h with h | ⟨i, ds', e1, e2, ed⟩
  · cases h with
    | non => cases e; exact .base .non
    | bl b => cases e; exact .base (.bl b)
    | int i => cases e; exact .base (.int i)
    | str x => cases e; exact .base (.str x)
    | lst h t => cases e; exact .base (.lst (I.gr.le _ _ h))
    | scr h => simp [DL.scr, tyOf] at e
    | tup h t =>
      cases e
      rcases h with (h | ⟨o, h⟩) | ⟨o, its, n, h1, h2, h3, _⟩
      · exact .base (.tup (I.gr.le _ _ h))
      · exact .fTuple (I.gr.le _ _ h)
      · exact .kTuple h1 h2
    | dic h t =>
      have : n = "dict" := by
        unfold tyOf at e
        split at e
        all_goals first | (cases e; rfl) | (simp at *)
      subst this
      exact .base (.dK (I.gr.le _ _ h))
    | gob h => simp [gref, tyOf] at e
  · subst ed
    cases e
    obtain ⟨a, vs, e3, h1, h2, _⟩ := I.sl i _ e1
    rw [e2] at e3
    cases e3
    exact .base (.lst h1)
theorem d_isi (t : Ty) {e : Expr} {fa : EF D} (p : PE X e (tCB (rIsi X.K) (tCons (tT (cn X B W) fa) (tCons (tC (.ty t.nm)) tNil)))) : PE X e (tD (cn X B W) (dUn (pyIsi t) fa)) := by
  refine PE.imp p fun σ H Q ⟨F, ρ, ε, g, I, w⟩ => ⟨F, ρ, ε, g, I, ?_⟩
  refine Wp.bind I w fun v1 d1 F1 ρ1 H1 g1 I1 s1 p1 w1 => ?_
  unfold pyIsi at w1
  split at w1
  · rename_i b hb
    obtain ⟨n, h1, h2⟩ := isB_kit hb
    exact ⟨v1, .ty t.nm, .type n, .type t.nm, b, rfl, .ty _, RpT.ty I1 p1 h1, kit_ty h2, Wp.now (c := cn X B W) I1 w1 (.bl b)⟩
  · exact w1.elim

/-! ### what is walked -/
theorem PI.or {tg e : Expr} {t t' : TI} (h : PI X tg e t) (h' : PI X tg e t') : PI X tg e (fun σ H R => t σ H R ∨ t' σ H R) := ⟨fun pins s σ H R I q => q.elim (h.run pins s σ H R I) (h'.run pins s σ H R I)⟩
theorem PI.imp {tg e : Expr} {t t' : TI} (h : PI X tg e t) (k : ∀ σ H R, t' σ H R → t σ H R) : PI X tg e t' := ⟨fun pins s σ H R I q => h.run pins s σ H R I (k σ H R q)⟩
theorem wk_list {K : PySem.W.Frag} {F : Hp} {ρ : Fps} {a : Addr} {vs : List V} {ds : List D} (h : SqL K F a vs) (r : RpA K F ρ vs ds) : WkD K F ρ (Itl K a) ds := by
  refine ⟨_, _, (r.length ▸ walk_list), fun H e => e.seq h, fun i H x H' hi y => ?_⟩
  obtain ⟨e1, e2⟩ := y
  obtain ⟨d, e3, e4⟩ := r.get e2
  exact ⟨d, e3, .inl ⟨e1, e4⟩⟩
theorem wk_tup {K : PySem.W.Frag} {F : Hp} {ρ : Fps} {a : Addr} {vs : List V} {ds : List D} (h : SqT K F a vs) (r : RpA K F ρ vs ds) : WkD K F ρ (Itt K a) ds := by
  refine ⟨_, _, (r.length ▸ walk_tup), fun H e => sqT_mono e h, fun i H x H' hi y => ?_⟩
  obtain ⟨e1, e2⟩ := y
  obtain ⟨d, e3, e4⟩ := r.get e2
  exact ⟨d, e3, .inl ⟨e1, e4⟩⟩
def signs (z : Str) : List D := z.cps.toList.map fun c => PyData.str ⟨#[c]⟩
theorem wk_str {K : PySem.W.Frag} {F : Hp} {ρ : Fps} {z : Str} : WkD K F ρ (Its z) (signs z) := by
  have hl : (signs z).length = z.cps.size := by unfold signs; rw [List.length_map, Array.length_toList]
  refine ⟨_, _, (hl ▸ walk_str), fun H e => trivial, fun i H x H' hi y => ?_⟩
  obtain ⟨e1, c, e2, e3⟩ := y
  refine ⟨.str ⟨#[c]⟩, ?_, .inl ⟨e1, e3 ▸ .str _⟩⟩
  unfold signs
  rw [List.getElem?_map, Array.getElem?_toList, e2]
  rfl
@[simp] def pySeq (d : D) (g : G) : R (List D) := match d with
  | .list ds => .ok ds g
  | .tuple ds => .ok ds g
  | .str z => .ok (signs z) g
  | .dict [(.list [], .list ds)] => match intsOf ds with
    | some ns => .ok (ns.map PyData.int) g
    | none => .stuck
  | _ => .stuck
@[simp] def iSeq (f : EF D) : EF (List D) := fun ε g => (f ε g).bind pySeq
theorem Rp.lstF {K : PySem.W.Frag} {F : Hp} {ρ : Fps} {v : V} {ds : List D} (h : Rp K F ρ v (.list ds)) : ∃ a vs, v = .ref a ∧ F a = some (.lst vs) ∧ RpA K F ρ vs ds := by
  cases h with
  | lst h t => exact ⟨_, _, rfl, h, t⟩
theorem Rp.tupF {K : PySem.W.Frag} {F : Hp} {ρ : Fps} {v : V} {ds : List D} (h : Rp K F ρ v (.tuple ds)) : ∃ a vs, v = .ref a ∧ SqT K F a vs ∧ RpA K F ρ vs ds := by
  cases h with
  | tup h t => exact ⟨_, _, rfl, h, t⟩
theorem Rp.scrF {K : PySem.W.Frag} {F : Hp} {ρ : Fps} {v : V} {ns : List Int} (h : Rp K F ρ v (DL.scr ns)) : ∃ a, v = .ref a ∧ SqL K F a (ns.map V.int) := by
  generalize hd : DL.scr ns = d at h
  cases h with
  | @scr a ms h =>
    have e : ns = ms := by
      simp only [DL.scr, PyData.dict.injEq, List.cons.injEq, Prod.mk.injEq, PyData.list.injEq, and_true, true_and] at hd
      exact (List.map_inj_right (fun a b e => by cases e; rfl)).mp hd
    subst e
    exact ⟨_, rfl, h⟩
  | gob h => simp [DL.scr, gref] at hd
  | dic h t =>
    exfalso
    simp only [DL.scr, PyData.dict.injEq] at hd
    subst hd
    cases t
  | _ => simp [DL.scr] at hd
theorem i_seq {tg e : Expr} {f : EF D} (h : PE X e (tD (cn X B W) f)) : PI X tg e (tI (cn X B W) (iSeq f)) := by
  refine PI.imp (PI.or (pi_list h) (PI.or (pi_tup h) (pi_str h))) fun σ H R ⟨F, ρ, ε, g, I, w⟩ => ?_
  unfold iSeq at w
  cases e : f ε g with
  | stuck => rw [e] at w; exact w.elim
  | exc x g1 =>
    rw [e] at w
    exact .inl ⟨F, ρ, ε, g, I, by rw [e]; exact w⟩
  | ok d g1 =>
    rw [e, bind_ok] at w
    unfold pySeq at w
    split at w
    · refine .inl ⟨F, ρ, ε, g, I, ?_⟩
      rw [e]
      intro v F1 ρ1 H1 s q p
      obtain ⟨a, vs, rfl, h1, r⟩ := Rp.lstF p
      exact ⟨a, rfl, ⟨vs, SqL.of (q.le _ _ h1)⟩, w _ F1 ρ1 H1 s q (wk_list (SqL.of h1) r)⟩
    · refine .inr (.inl ⟨F, ρ, ε, g, I, ?_⟩)
      rw [e]
      intro v F1 ρ1 H1 s q p
      obtain ⟨a, vs, rfl, h1, r⟩ := Rp.tupF p
      exact ⟨a, rfl, ⟨vs, sqT_mono q.le h1⟩, w _ F1 ρ1 H1 s q (wk_tup h1 r)⟩
    · refine .inr (.inr ⟨F, ρ, ε, g, I, ?_⟩)
      rw [e]
      intro v F1 ρ1 H1 s q p
      cases p
      exact ⟨_, rfl, w _ F1 ρ1 H1 s q wk_str⟩
    · split at w
      · rename_i ds ns en
        have en := intsOf_eq en
        subst en
        refine .inl ⟨F, ρ, ε, g, I, ?_⟩
        rw [e]
        intro v F1 ρ1 H1 s q p
        obtain ⟨a, rfl, h1⟩ := Rp.scrF (ns := ns) p
        exact ⟨a, rfl, ⟨_, q.le.seq h1⟩, w _ F1 ρ1 H1 s q (wk_list h1 (RpA.ints ns))⟩
      · exact w.elim
    · exact w.elim
/-- ints lo, lo + 1, .., n of them -/
def rgD (lo : Int) (n : Nat) : List D := (List.range n).map fun i => PyData.int (lo + (i : Nat))
theorem wk_rng {K : PySem.W.Frag} {F : Hp} {ρ : Fps} {lo : Int} {n : Nat} : WkD K F ρ (Itr lo n) (rgD lo n) := by
  have hl : (rgD lo n).length = n := by unfold rgD; rw [List.length_map, List.length_range]
  refine ⟨_, _, (show Walk (Itr lo n) (rgD lo n).length _ _ by rw [hl]; exact walk_range), fun H e => trivial, fun i H x H' hi y => ?_⟩
  obtain ⟨e1, e2⟩ := y
  refine ⟨.int (lo + (i : Nat)), ?_, .inl ⟨e1, e2 ▸ .int _⟩⟩
  unfold rgD
  rw [List.getElem?_map, List.getElem?_range (by rw [hl] at hi; exact hi)]
  rfl
@[simp] def okRg (i : Int) : Bool := decide (-(2 ^ 62) ≤ i ∧ i < 2 ^ 62)
@[simp] def pyRng1 (ds : List D) (g : G) : R (List D) := match ds with
  | [.int j] => if okRg j = true then .ok (rgD 0 j.toNat) g else .stuck
  | _ => .stuck
@[simp] def pyRng2 (ds : List D) (g : G) : R (List D) := match ds with
  | [.int i, .int j] => if (okRg i && okRg j) = true then .ok (rgD i (j - i).toNat) g else .stuck
  | _ => .stuck
@[simp] def iFn (h : List D → G → R (List D)) (fs : EF (List D)) : EF (List D) := fun ε g => (fs ε g).bind h
theorem i_rng1 {tg e : Expr} {fs : EF (List D)} (h : PI X tg e (iRng1 (tTA (cn X B W) fs))) : PI X tg e (tI (cn X B W) (iFn pyRng1 fs)) := by
  refine PI.imp h fun σ H R ⟨F, ρ, ε, g, I, w⟩ => ⟨F, ρ, ε, g, I, ?_⟩
  refine Wp.bind I w fun vs ds F1 ρ1 H1 g1 I1 s1 p1 w1 => ?_
  unfold pyRng1 at w1
  split at w1
  · split at w1
    · rename_i j hj
      have hj := of_decide_eq_true hj
      obtain ⟨v, rfl, r⟩ := p1.one
      cases r.int
      exact ⟨j, rfl, hj.1, hj.2, w1 _ F1 ρ1 H1 (Step.refl _ _ _) I1.gr wk_rng⟩
    · exact w1.elim
  · exact w1.elim
theorem i_rng2 {tg e : Expr} {fs : EF (List D)} (h : PI X tg e (iRng2 (tTA (cn X B W) fs))) : PI X tg e (tI (cn X B W) (iFn pyRng2 fs)) := by
  refine PI.imp h fun σ H R ⟨F, ρ, ε, g, I, w⟩ => ⟨F, ρ, ε, g, I, ?_⟩
  refine Wp.bind I w fun vs ds F1 ρ1 H1 g1 I1 s1 p1 w1 => ?_
  unfold pyRng2 at w1
  split at w1
  · split at w1
    · rename_i i j hj
      obtain ⟨hi, hj⟩ := (Bool.and_eq_true _ _).mp hj
      have hi := of_decide_eq_true hi
      have hj := of_decide_eq_true hj
      obtain ⟨v, u, rfl, r, r2⟩ := p1.two
      cases r.int
      cases r2.int
      exact ⟨i, j, rfl, ⟨hi.1, hi.2, hj.1, hj.2⟩, w1 _ F1 ρ1 H1 (Step.refl _ _ _) I1.gr wk_rng⟩
    · exact w1.elim
  · exact w1.elim
/-- enumerate of a list -/
def enD (ds : List D) : List D := ds.zipIdx.map fun p => PyData.tuple [.int (p.2 : Nat), p.1]
theorem wk_en {K : PySem.W.Frag} {F : Hp} {ρ : Fps} {a : Addr} {vs : List V} {ds : List D} (h : SqL K F a vs) (r : RpA K F ρ vs ds) : WkD K F ρ (Ite K a) (enD ds) := by
  have hl : (enD ds).length = vs.length := by unfold enD; rw [List.length_map, List.length_zipIdx, r.length]
  refine ⟨_, _, (show Walk (Ite K a) (enD ds).length _ _ by rw [hl]; exact walk_enum), fun H e => e.seq h, fun i H x H' hi y => ?_⟩
  obtain ⟨T, u, v, rfl, hT, rfl, e1, e2⟩ := y
  cases e1
  obtain ⟨d, e3, e4⟩ := r.get e2
  refine ⟨.tuple [.int (i : Nat), d], ?_, .inr ⟨T, _, rfl, hT, rfl, fun F' f e => .tup (SqT.of e) (.cons (.int _) (.cons (e4.mono f (List.prefix_refl _)) .nil))⟩⟩
  unfold enD
  rw [List.getElem?_map, List.getElem?_zipIdx, e3]
  simp
@[simp] def pyEn (ds : List D) (g : G) : R (List D) := match ds with
  | [.list ds] => .ok (enD ds) g
  | [.dict [(.list [], .list ds)]] => match intsOf ds with
    | some ns => .ok (enD (ns.map PyData.int)) g
    | none => .stuck
  | _ => .stuck
theorem i_en {tg e : Expr} {fs : EF (List D)} (h : PI X tg e (iEnum X.K (tA (cn X B W) fs))) : PI X tg e (tI (cn X B W) (iFn pyEn fs)) := by
  refine PI.imp h fun σ H R ⟨F, ρ, ε, g, I, w⟩ => ⟨F, ρ, ε, g, I, ?_⟩
  refine Wp.bind I w fun vs ds F1 ρ1 H1 g1 I1 s1 p1 w1 => ?_
  unfold pyEn at w1
  split at w1
  · cases p1 with
    | cons h t =>
      cases t
      obtain ⟨a, us, rfl, h1, r⟩ := Rp.lstF h
      exact ⟨a, us, rfl, SqL.of (I1.gr.le _ _ h1), w1 _ F1 ρ1 H1 (Step.refl _ _ _) I1.gr (wk_en (SqL.of h1) r)⟩
  · split at w1
    · rename_i ds ns e
      have e := intsOf_eq e
      subst e
      cases p1 with
      | cons h t =>
        cases t
        obtain ⟨a, rfl, h1⟩ := Rp.scrF (ns := ns) h
        exact ⟨a, _, rfl, I1.gr.le.seq h1, w1 _ F1 ρ1 H1 (Step.refl _ _ _) I1.gr (wk_en h1 (RpA.ints ns))⟩
    · exact w1.elim
  · exact w1.elim
end
end DL

namespace DL
open PySem L2
theorem bb_len : bootBuiltins "len" = some (.builtin "len") := by decide +kernel
theorem bb_sum : bootBuiltins "sum" = some (.builtin "sum") := by decide +kernel
theorem bb_all : bootBuiltins "all" = some (.builtin "all") := by decide +kernel
theorem bb_any : bootBuiltins "any" = some (.builtin "any") := by decide +kernel
theorem bb_isinstance : bootBuiltins "isinstance" = some (.builtin "isinstance") := by decide +kernel
theorem bb_repr : bootBuiltins "repr" = some (.builtin "repr") := by decide +kernel
theorem bb_min : bootBuiltins "min" = some (.builtin "min") := by decide +kernel
theorem bb_max : bootBuiltins "max" = some (.builtin "max") := by decide +kernel
theorem bb_abs : bootBuiltins "abs" = some (.builtin "abs") := by decide +kernel
theorem bb_sorted : bootBuiltins "sorted" = some (.builtin "sorted") := by decide +kernel
theorem bb_int : bootBuiltins "int" = some (.type "int") := by decide +kernel
theorem bb_bool : bootBuiltins "bool" = some (.type "bool") := by decide +kernel
theorem bb_str : bootBuiltins "str" = some (.type "str") := by decide +kernel
theorem bb_list : bootBuiltins "list" = some (.type "list") := by decide +kernel
theorem bb_tuple : bootBuiltins "tuple" = some (.type "tuple") := by decide +kernel
theorem bb_dict : bootBuiltins "dict" = some (.type "dict") := by decide +kernel
section
variable {X : Cx} {B : Base} {W : WX}
theorem cd_all : CallD X B W (rAll X.K) pyAll := by
  intro F ρ σ H ε g vs ds Q I p w
  unfold pyAll at w
  split at w
  · split at w
    · rename_i h
      obtain ⟨v, rfl, r⟩ := p.one
      obtain ⟨a, ws, rfl, h1, r1⟩ := r.lst I
      rw [boolsOf_eq h] at r1
      exact ⟨a, _, rfl, SqL.of (by rw [h1, r1.toBools]), Wp.now (c := cn X B W) I w (.bl _)⟩
    · exact w.elim
  · exact w.elim
theorem cd_any : CallD X B W (rAny X.K) pyAny := by
  intro F ρ σ H ε g vs ds Q I p w
  unfold pyAny at w
  split at w
  · split at w
    · rename_i h
      obtain ⟨v, rfl, r⟩ := p.one
      obtain ⟨a, ws, rfl, h1, r1⟩ := r.lst I
      rw [boolsOf_eq h] at r1
      exact ⟨a, _, rfl, SqL.of (by rw [h1, r1.toBools]), Wp.now (c := cn X B W) I w (.bl _)⟩
    · exact w.elim
  · exact w.elim
/-! list(range(..)) -/
theorem rp_rg {K : PySem.W.Frag} {F : Hp} {ρ : Fps} (a b : Int) : RpA K F ρ (rgV a b) (rgD a (b - a).toNat) := by
  unfold rgV rgD
  generalize (List.range (b - a).toNat) = l
  induction l with
  | nil => exact .nil
  | cons i l ih => exact .cons (.int _) ih
@[simp] def fLrg1 (fa : EF D) : EF (List D) := fun ε g => (fa ε g).bind fun d g => match d with
  | .int j => if j ≤ 1000000 ∧ -1000000 ≤ j then .ok (rgD 0 j.toNat) g else .stuck
  | _ => .stuck
@[simp] def fLrg2 (fa fb : EF D) : EF (List D) := fun ε g => (fa ε g).bind fun d g => (fb ε g).bind fun e g => match d, e with
  | .int i, .int j => if (j ≤ 1000000 ∧ -1000000 ≤ j) ∧ i ≤ 1000000 ∧ -1000000 ≤ i then .ok (rgD i (j - i).toNat) g else .stuck
  | _, _ => .stuck
theorem f_lrg1 {e : Expr} {fa : EF D} (p : PE X e (tLstRg (tRg1 (tT (cn X B W) fa)))) : PE X e (tF (cn X B W) (fLrg1 fa)) := by
  refine PE.imp p fun σ H Q ⟨F, ρ, ε, g, I, w⟩ => ⟨F, ρ, ε, g, I, ?_⟩
  refine Wp.bind I w fun v d F1 ρ1 H1 g1 I1 s1 p1 w1 => ?_
  split at w1
  · split at w1
    · rename_i j hj
      cases p1.int
      refine ⟨j, rfl, ⟨by omega, by omega, by omega, by omega, by omega⟩, fun q hq => ?_⟩
      exact Wp.newF (c := cn X B W) I1 s1 w1 hq (by have := rp_rg (K := X.K) (F := F1) (ρ := ρ1) 0 j; rw [Int.sub_zero] at this; exact this)
    · exact w1.elim
  · exact w1.elim
theorem f_lrg2 {e : Expr} {fa fb : EF D} (p : PE X e (tLstRg (tRg2 (tT (cn X B W) fa) (tT (cn X B W) fb)))) : PE X e (tF (cn X B W) (fLrg2 fa fb)) := by
  refine PE.imp p fun σ H Q ⟨F, ρ, ε, g, I, w⟩ => ⟨F, ρ, ε, g, I, ?_⟩
  refine Wp.bind I w fun v d F1 ρ1 H1 g1 I1 s1 p1 w1 => ⟨F1, ρ1, ε, g1, I1, ?_⟩
  refine Wp.bind I1 w1 fun u e F2 ρ2 H2 g2 I2 s2 p2 w2 => ?_
  split at w2
  · split at w2
    · rename_i i j hj
      cases p1.int
      cases p2.int
      refine ⟨i, j, rfl, rfl, ⟨by omega, by omega, by omega, by omega, by omega⟩, fun q hq => ?_⟩
      exact Wp.newF (c := cn X B W) I2 (s1.trans s2) w2 hq (rp_rg i j)
    · exact w2.elim
  · exact w2.elim
end
end DL

namespace PR
open PySem L2 DL
def sd_law_folded : SF :=
    (sSeq (sSetO 1 (fLc [2] (.nm 2) (iFn pyRng1 (fCons (dC (.int 64)) fNil)) bYes (dBin pyAdd (dC (.int 17)) (tVr 2))))
    (sSeq (sFor (.tp [(.nm 2), (.nm 3)]) (iFn pyEn (fCons (dVar 0) fNil)) (sStr 1 (dBin pyMod (tVr 2) (dC (.int 64))) (dBin pyMod (dBin pyAdd (dBin pyMulI (dBin pyIx (tVr 1) (dBin pyMod (tVr 2) (dC (.int 64)))) (dC (.int 48271))) (tVr 3)) (dC (.int 2147483647)))))
    (sSeq (sFor (.nm 2) (iFn pyRng2 (fCons (dC (.int 1)) (fCons (dC (.int 64)) fNil))) (sStr 1 (tVr 2) (dBin pyMod (dBin pyAdd (dBin pyIx (tVr 1) (tVr 2)) (dBin pyMulI (dBin pyIx (tVr 1) (dBin pySub (tVr 2) (dC (.int 1)))) (dC (.int 16807)))) (dC (.int 2147483647)))))
    (sRt (tVr 1)))))
def φ_law_folded : List D → G → R D := runF 4 sd_law_folded
def sd_law_mixed : SF :=
    (sSeq (sSet 2 (dBin pyAdd (dBin pyAdd (dBin pyMod (dBin pyMulI (dBin pyMulI (tVr 0) (dBin pyAdd (dC (.int 1)) (dBin pyMulI (dC (.int 2)) (tVr 1)))) (dC (.int 48271))) (dC (.int 2147483647))) (dBin pyMulI (dBin pyMulI (dC (.int 7919)) (tVr 1)) (tVr 1))) (dBin pyMulI (dC (.int 104729)) (tVr 1))))
    (sRt (dBin pyDiv (dBin pyMod (dBin pyMulI (tVr 2) (dC (.int 69621))) (dC (.int 2147483629))) (dC (.int 7)))))
def φ_law_mixed : List D → G → R D := runF 3 sd_law_mixed
/-- the law's own mixing -/
def mixI (c k : Int) : Int := ((c * (1 + 2 * k) * 48271 % 2147483647 + 7919 * k * k + 104729 * k) * 69621 % 2147483629) / 7
theorem mix_bd (c k : Int) : 0 ≤ mixI c k ∧ mixI c k < 306783376 := by
  unfold mixI
  generalize (c * (1 + 2 * k) * 48271 % 2147483647 + 7919 * k * k + 104729 * k) * 69621 = z
  omega
theorem small_of {i : Int} (h : -(2 ^ 63) ≤ i ∧ i ≤ 2 ^ 63) : small i = true := by
  unfold small
  exact decide_eq_true (by omega)
theorem small_lit {i : Int} (h : decide (-(2 ^ 64) < i ∧ i < 2 ^ 64) = true) : small i = true := h
theorem mixed_ok {c k : Int} {g : G} (hc : -(2 ^ 60) ≤ c ∧ c ≤ 2 ^ 60) (hk : 0 ≤ k ∧ k ≤ 2 ^ 60) : φ_law_mixed [.int c, .int k] g = .ok (.int (mixI c k)) g := by
  have sc : small c = true := small_of (by omega)
  have sk : small k = true := small_of (by omega)
  have s1 : small 48271 = true := by decide
  have s2 : small 2 = true := by decide
  have s3 : small 7919 = true := by decide
  have s4 : small 104729 = true := by decide
  have s5 : small 69621 = true := by decide
  simp [φ_law_mixed, runF, sd_law_mixed, sSeq, sSet, sRt, dBin, tVr, dC, R.toS, R.bind, pyAdd, pyMulI, pyMod, pyDiv, sc, sk, s1, s2, s3, s4, s5, mixI]
/-! ### loops -/
@[simp] theorem rgD_len (lo : Int) (n : Nat) : (rgD lo n).length = n := by unfold rgD; rw [List.length_map, List.length_range]
theorem forD_inv {p : Pat} {body : SF} (P : DL.Env → G → Prop) : ∀ (its : List D) {ε : DL.Env} {g : G}, P ε g → (∀ d ∈ its, ∀ ε g, P ε g → ∃ ε1, p.put d ε = some ε1 ∧ ∃ ε2 g2, body ε1 g = .nx ε2 g2 ∧ P ε2 g2) → ∃ ε' g', forD p body its ε g = .nx ε' g' ∧ P ε' g'
  | [], ε, g, h, _ => ⟨ε, g, rfl, h⟩
  | d :: r, ε, g, h, hs => by
    obtain ⟨ε1, e1, ε2, g2, e2, h2⟩ := hs d List.mem_cons_self ε g h
    obtain ⟨ε3, g3, e3, h3⟩ := forD_inv P r h2 fun d' hd => hs d' (List.mem_cons_of_mem _ hd)
    refine ⟨ε3, g3, ?_, h3⟩
    unfold forD
    rw [e1]
    simp only
    rw [e2]
    exact e3
theorem atI_map {α β : Type} (f : α → β) (xs : List α) (i : Int) : atI (xs.map f) i = (atI xs i).map f := by
  unfold atI
  rw [List.length_map]
  cases ixN xs.length i with
  | none => rfl
  | some j => simp
theorem ixN_ok {n : Nat} {i : Int} (h : 0 ≤ i) (h2 : i < n) : ixN n i = some i.toNat := by
  unfold ixN
  rw [if_pos h, if_pos h2]
theorem atI_ok {α : Type} {xs : List α} {i : Int} (h : 0 ≤ i) (h2 : i < xs.length) : ∃ x, atI xs i = some x ∧ x ∈ xs ∧ xs[i.toNat]? = some x := by
  unfold atI
  rw [ixN_ok h h2]
  have hl : i.toNat < xs.length := by omega
  exact ⟨xs[i.toNat], by simp [hl], List.getElem_mem hl, by simp [hl]⟩
/-! ### the law's machine -/
def VC (cs : List Int) : Prop := cs.length = 64 ∧ ∀ c ∈ cs, 0 ≤ c ∧ c < 2147483647
theorem VC.set {cs : List Int} (h : VC cs) (i : Nat) {x : Int} (hx : 0 ≤ x ∧ x < 2147483647) : VC (cs.set i x) :=
  ⟨by rw [List.length_set]; exact h.1, fun c hc => by
    rcases List.mem_or_eq_of_mem_set hc with h1 | h1
    · exact h.2 c h1
    · rw [h1]; exact hx⟩
theorem VC.small {cs : List Int} (h : VC cs) {c : Int} (hc : c ∈ cs) : DL.small c = true := small_of (by have := h.2 c hc; omega)
def fEnv (s : D) (ε : DL.Env) : Prop := ∃ cs x y, ε = [.va s, .ow (cs.map PyData.int), x, y] ∧ VC cs
theorem folded_ok (ns : List Int) (g : G) : ∃ cs, φ_law_folded [scr ns] g = .ok (.list (cs.map PyData.int)) g ∧ VC cs := by
  have s1 : DL.small 48271 = true := by decide
  have s2 : DL.small 16807 = true := by decide
  -- the first list
  have e0 : (sSetO 1 (fLc [2] (.nm 2) (iFn pyRng1 (fCons (dC (.int 64)) fNil)) bYes (dBin pyAdd (dC (.int 17)) (tVr 2)))) [.va (scr ns), .un, .un, .un] g = .nx [.va (scr ns), .ow (((List.range 64).map fun i : Nat => (17 : Int) + i).map PyData.int), .un, .un] g := by rfl
  have v0 : VC ((List.range 64).map fun i : Nat => (17 : Int) + i) := ⟨by simp, fun c hc => by
    simp only [List.mem_map, List.mem_range] at hc
    obtain ⟨i, hi, rfl⟩ := hc
    omega⟩
  generalize ((List.range 64).map fun i : Nat => (17 : Int) + i) = cs0 at e0 v0
  -- the script's turns
  obtain ⟨ε1, g1, e1, h1⟩ := forD_inv (p := .tp [(.nm 2), (.nm 3)]) (body := sStr 1 (dBin pyMod (tVr 2) (dC (.int 64))) (dBin pyMod (dBin pyAdd (dBin pyMulI (dBin pyIx (tVr 1) (dBin pyMod (tVr 2) (dC (.int 64)))) (dC (.int 48271))) (tVr 3)) (dC (.int 2147483647))))
    (fun ε g' => fEnv (scr ns) ε ∧ g' = g) (enD (ns.map PyData.int)) (ε := [.va (scr ns), .ow (cs0.map PyData.int), .un, .un]) (g := g) ⟨⟨cs0, .un, .un, rfl, v0⟩, rfl⟩ (by
      rintro d hd ε g' ⟨⟨cs, x, y, rfl, v⟩, rfl⟩
      unfold enD at hd
      simp only [List.mem_map] at hd
      obtain ⟨⟨d', k⟩, hk, rfl⟩ := hd
      have hm := (List.mem_zipIdx' hk).2
      have : d' ∈ ns.map PyData.int := by rw [hm]; exact List.getElem_mem _
      obtain ⟨n, _, rfl⟩ := List.mem_map.mp this
      refine ⟨_, rfl, ?_⟩
      obtain ⟨c, q1, q2, q3⟩ := atI_ok (xs := cs) (i := (k : Int) % 64) (by omega) (by rw [v.1]; omega)
      have q4 := ixN_ok (n := 64) (i := (k : Int) % 64) (by omega) (by omega)
      refine ⟨[.va (scr ns), .ow ((cs.set ((k : Int) % 64).toNat ((c * 48271 + n) % 2147483647)).map PyData.int), .va (.int k), .va (.int n)], g', ?_, ⟨_, _, _, rfl, v.set _ (by omega)⟩, rfl⟩
      simp [sStr, dBin, tVr, dC, R.toS, R.bind, pyAdd, pyMulI, pyMod, pyIx, atI_map, q1, s1, v.1, q4, List.map_set])
  obtain ⟨⟨cs1, x, y, rfl, v1⟩, rfl⟩ := h1
  -- all sixty-four
  obtain ⟨ε2, g2, e2, h2⟩ := forD_inv (p := .nm 2) (body := sStr 1 (tVr 2) (dBin pyMod (dBin pyAdd (dBin pyIx (tVr 1) (tVr 2)) (dBin pyMulI (dBin pyIx (tVr 1) (dBin pySub (tVr 2) (dC (.int 1)))) (dC (.int 16807)))) (dC (.int 2147483647))))
    (fun ε g' => fEnv (scr ns) ε ∧ g' = g1) (rgD 1 63) (ε := [.va (scr ns), .ow (cs1.map PyData.int), x, y]) (g := g1) ⟨⟨cs1, _, _, rfl, v1⟩, rfl⟩ (by
      rintro d hd ε g' ⟨⟨cs, x, y, rfl, v⟩, rfl⟩
      unfold rgD at hd
      simp only [List.mem_map, List.mem_range] at hd
      obtain ⟨k, hk, rfl⟩ := hd
      refine ⟨_, rfl, ?_⟩
      obtain ⟨c, q1, q2, q3⟩ := atI_ok (xs := cs) (i := 1 + (k : Int)) (by omega) (by rw [v.1]; omega)
      obtain ⟨c', r1, r2, r3⟩ := atI_ok (xs := cs) (i := 1 + (k : Int) - 1) (by omega) (by rw [v.1]; omega)
      have q4 := ixN_ok (n := 64) (i := 1 + (k : Int)) (by omega) (by omega)
      refine ⟨[.va (scr ns), .ow ((cs.set (1 + (k : Int)).toNat ((c + c' * 16807) % 2147483647)).map PyData.int), .va (.int (1 + k)), y], g', ?_, ⟨_, _, _, rfl, v.set _ (by omega)⟩, rfl⟩
      simp [sStr, dBin, tVr, dC, R.toS, R.bind, pyAdd, pySub, pyMulI, pyMod, pyIx, atI_map, q1, r1, s2, v.1, q4, List.map_set])
  obtain ⟨⟨cs2, x2, y2, rfl, v2⟩, rfl⟩ := h2
  refine ⟨cs2, ?_, v2⟩
  have e1' : sFor (.tp [(.nm 2), (.nm 3)]) (iFn pyEn (fCons (dVar 0) fNil)) (sStr 1 (dBin pyMod (tVr 2) (dC (.int 64))) (dBin pyMod (dBin pyAdd (dBin pyMulI (dBin pyIx (tVr 1) (dBin pyMod (tVr 2) (dC (.int 64)))) (dC (.int 48271))) (tVr 3)) (dC (.int 2147483647)))) [.va (scr ns), .ow (cs0.map PyData.int), .un, .un] g2 = .nx [.va (scr ns), .ow (cs1.map PyData.int), x, y] g2 := by
    rw [← e1]
    simp [sFor, iFn, fCons, fNil, dVar, R.bind, R.toS, pyEn, scr, intsOf_map]
  have e2' : sFor (.nm 2) (iFn pyRng2 (fCons (dC (.int 1)) (fCons (dC (.int 64)) fNil))) (sStr 1 (tVr 2) (dBin pyMod (dBin pyAdd (dBin pyIx (tVr 1) (tVr 2)) (dBin pyMulI (dBin pyIx (tVr 1) (dBin pySub (tVr 2) (dC (.int 1)))) (dC (.int 16807)))) (dC (.int 2147483647)))) [.va (scr ns), .ow (cs1.map PyData.int), x, y] g2 = .nx [.va (scr ns), .ow (cs2.map PyData.int), x2, y2] g2 := by
    rw [← e2]
    rfl
  unfold φ_law_folded runF sd_law_folded
  exact fin_seq e0 (fin_seq e1' (fin_seq e2' rfl))
def lefts (ns : List Int) : List Int := ns.map fun c => if 10 ^ 18 ≤ c then c else 0
theorem lcD_map {vs : List Nat} {p : Pat} {tt : EF Bool} {te : EF D} {ε : DL.Env} {g : G} (f : D → D) : ∀ (its acc : List D), acc.length + its.length ≤ cap → (∀ d ∈ its, ∃ ε1, p.put d (wipeE ε vs) = some ε1 ∧ tt ε1 g = .ok true g ∧ te ε1 g = .ok (f d) g) → lcD vs p tt te ε its acc g = .ok (acc ++ its.map f) g
  | [], acc, _, _ => by simp [lcD]
  | d :: r, acc, hz, h => by
    obtain ⟨ε1, h1, h2, h3⟩ := h d List.mem_cons_self
    unfold lcD
    rw [h1]
    simp only
    rw [h2]
    simp only
    rw [h3]
    simp only
    rw [List.length_cons] at hz
    rw [if_pos (show acc.length < cap by omega)]
    rw [lcD_map f r (acc ++ [f d]) (by rw [List.length_append, List.length_singleton]; omega) fun d' hd => h d' (List.mem_cons_of_mem _ hd)]
    simp
theorem left_ok (ns : List Int) (g : G) (hz : ns.length ≤ cap) : (fLc [2] (.nm 2) (iSeq (dVar 0)) bYes (dIf (asB (dBin pyGe (tVr 2) (dBin pyPow (dC (.int 10)) (dC (.int 18))))) (dVar 2) (dC (.int 0)))) [.va (scr ns), .un, .un] g = .ok ((lefts ns).map PyData.int) g := by
  unfold fLc
  have e : iSeq (dVar 0) [.va (scr ns), .un, .un] g = .ok (ns.map PyData.int) g := by simp [iSeq, dVar, R.bind, pySeq, scr, intsOf_map]
  rw [e, bind_ok]
  rw [lcD_map (fun d => match d with | .int c => .int (if 10 ^ 18 ≤ c then c else 0) | _ => d) _ [] (by simpa using hz)]
  · simp [lefts]
  · intro d hd
    obtain ⟨c, _, rfl⟩ := List.mem_map.mp hd
    refine ⟨_, rfl, rfl, ?_⟩
    by_cases h : 1000000000000000000 ≤ c
    · simp [dIf, asB, dBin, tVr, dC, dVar, R.bind, pyGe, pyPow, wipeE, h]
    · simp [dIf, asB, dBin, tVr, dC, dVar, R.bind, pyGe, pyPow, wipeE, h]
def φ_law_begun : List D → G → R D
  | [.dict [(.list [], .list ds)]], g => match intsOf ds with
    | some ns => match φ_law_folded [scr ns] g with
      | .ok (.list cs) g1 => match intsOf cs with
        | some cs => if ns.length ≤ cap then .ok (gref g1.length) (g1 ++ [.mach cs (lefts ns) 0]) else .stuck
        | none => .stuck
      | _ => .stuck
    | none => .stuck
  | _, _ => .stuck
/-- what a draw asks -/
def okDraw (cells left : List Int) (pos many : Int) : Bool := decide (cells.length = 64) && cells.all (fun c => decide (0 ≤ c ∧ c < 2147483647)) && left.all (fun c => decide (0 ≤ c)) && decide (left.length ≤ 1000) && decide (0 ≤ pos ∧ pos < 2 ^ 50) && decide (0 < many ∧ many < 1073741824)
def leftAt (left : List Int) (pos : Int) : Int := left.getD (pos % left.length).toNat 0
def mixAll (cells : List Int) (pos : Int) : Int := mixI (mixI (cells.getD (pos % 64).toNat 0 + 31 * (pos / 64)) pos) (pos + 7)
def φ_law_draw : List D → G → R D
  | [.dict [(.list [], .int n)], .int many], g => match g[n.toNat]? with
    | some (.mach cells left pos) => if (decide (0 ≤ n) && okDraw cells left pos many) = true then
        if left ≠ [] ∧ 0 < leftAt left pos then .ok (.int (leftAt left pos % many)) (g.set n.toNat (.mach cells (left.set (pos % left.length).toNat (leftAt left pos / many)) (pos + 1)))
        else .ok (.int (mixAll cells pos % many)) (g.set n.toNat (.mach cells left (pos + 1)))
      else .stuck
    | none => .stuck
  | _, _ => .stuck
theorem Rp.gobF {K : PySem.W.Frag} {F : Hp} {ρ : Fps} {v : V} {n : Int} (h : Rp K F ρ v (.dict [(.list [], .int n)])) : ∃ (m : Nat) (a : Addr), n = (m : Int) ∧ v = .ref a ∧ gAt ρ m a := by
  generalize hd : (PyData.dict [(.list [], .int n)]) = d at h
  cases h with
  | @gob m a h =>
    simp only [gref, PyData.dict.injEq, List.cons.injEq, Prod.mk.injEq, PyData.int.injEq, and_true, true_and] at hd
    exact ⟨m, a, hd, rfl, h⟩
  | scr h => simp [DL.scr] at hd
  | dic h t =>
    exfalso
    simp only [PyData.dict.injEq] at hd
    subst hd
    cases t
  | _ => simp at hd
theorem flat_disj : ∀ {ρ : Fps} {i j : Nat} {as bs : List Addr} {a : Addr}, ρ.flatten.Nodup → ρ[i]? = some as → ρ[j]? = some bs → i ≠ j → a ∈ as → a ∉ bs
  | [], _, _, _, _, _, _, h, _, _, _ => by simp at h
  | x :: ρ, 0, 0, _, _, _, _, _, _, h, _ => absurd rfl h
  | x :: ρ, 0, j + 1, as, bs, a, nd, h1, h2, _, ha => fun hb => by
    simp only [List.getElem?_cons_zero, Option.some.injEq] at h1
    subst h1
    rw [List.flatten_cons, List.nodup_append] at nd
    exact nd.2.2 a ha a (List.mem_flatten.mpr ⟨bs, List.mem_of_getElem? (by simpa using h2), hb⟩) rfl
  | x :: ρ, i + 1, 0, as, bs, a, nd, h1, h2, _, ha => fun hb => by
    simp only [List.getElem?_cons_zero, Option.some.injEq] at h2
    subst h2
    rw [List.flatten_cons, List.nodup_append] at nd
    exact nd.2.2 a hb a (List.mem_flatten.mpr ⟨as, List.mem_of_getElem? (by simpa using h1), ha⟩) rfl
  | x :: ρ, i + 1, j + 1, as, bs, a, nd, h1, h2, h3, ha => by
    rw [List.flatten_cons, List.nodup_append] at nd
    exact flat_disj (i := i) (j := j) nd.2.1 (by simpa using h1) (by simpa using h2) (by omega) ha
theorem _root_.DL.GRel.upd1 {F : Hp} {ρ : Fps} {H H' : Hp} {g : G} {m : Nat} {o o' : GO} {as : List Addr} (q : GRel F ρ H g) (hm : ρ[m]? = some as) (ho : g[m]? = some o) (he : ∀ a, a ∉ as → H a ≠ none → H' a = H a) (hn : GoR F H' as o') :
    DL.Step ⟨F, ρ, H⟩ F ρ H' ∧ GRel F ρ H' (g.set m o') := by
  have hin : ∀ a ∈ as, a ∈ ρ.flatten := fun a ha => List.mem_flatten.mpr ⟨as, List.mem_of_getElem? hm, ha⟩
  refine ⟨⟨Same.refl _, List.prefix_refl _, fun a h => .inl h, fun a h => .inl h, fun a u h n => ?_, fun a h => ?_⟩, ⟨fun b u e => ?_, by rw [List.length_set]; exact q.len, fun n u e => ?_, q.nd, q.nf⟩⟩
  · rw [he a (fun z => n (hin a z)) (by rw [show H a = _ from h]; simp)]; exact h
  · by_cases z : a ∈ as
    · exact hn.there a z
    · rw [he a z h]; exact h
  · have hb := q.le _ _ e
    rw [he b (fun z => by rw [q.nf b (hin b z)] at e; cases e) (by rw [hb]; simp)]; exact hb
  · by_cases z : m = n
    · subst z
      rw [List.getElem?_set_self (List.getElem?_eq_some_iff.mp ho).1] at e
      cases e
      exact ⟨as, hm, hn⟩
    · rw [List.getElem?_set_ne z] at e
      obtain ⟨bs, h1, h2⟩ := q.go n u e
      exact ⟨bs, h1, h2.frame (Same.refl _) fun a ha => he a (flat_disj q.nd h1 hm (Ne.symm z) ha) (h2.there a ha)⟩
/-- the machine's dict -/
def md (c l : Addr) (pos : Int) : List (Key × V) := [(Sum.inr "cells", .ref c), (Sum.inr "left", .ref l), (Sum.inr "at", .int pos)]
theorem md_at {H : Hp} {p c l : Addr} {pos : Int} (h : H p = some (.dK (md c l pos))) : DGet H p (.str "at") (some (.int pos)) := DGet.k (k := Sum.inr "at") h
theorem md_left {H : Hp} {p c l : Addr} {pos : Int} (h : H p = some (.dK (md c l pos))) : DGet H p (.str "left") (some (.ref l)) := DGet.k (k := Sum.inr "left") h
theorem md_cells {H : Hp} {p c l : Addr} {pos : Int} (h : H p = some (.dK (md c l pos))) : DGet H p (.str "cells") (some (.ref c)) := DGet.k (k := Sum.inr "cells") h
theorem md_put (c l : Addr) (pos x : Int) : putK (md c l pos) (Sum.inr "at") (V.int x) = md c l x := rfl
theorem dp_ints {K : PySem.W.Frag} {H : Hp} : ∀ ns : List Int, DpAll K H (ns.map V.int) (ns.map PyData.int)
  | [] => .nil
  | n :: ns => .cons (.int n) (dp_ints ns)
theorem canLay_ints : ∀ ns : List Int, PyData.canLayAll0 (ns.map PyData.int) = true
  | [] => rfl
  | n :: ns => by rw [List.map_cons, PyData.canLayAll0, canLay_ints ns]; rfl
theorem depth_ints : ∀ ns : List Int, PyData.depthAll (ns.map PyData.int) ≤ 1
  | [] => by simp [PyData.depthAll]
  | n :: ns => by
    have := depth_ints ns
    simp only [List.map_cons, PyData.depthAll, PyData.depth]
    omega
theorem shaped_ints (ns : List Int) : SeqAt.shaped (.list (ns.map PyData.int)) = true := by
  unfold SeqAt.shaped
  rw [PyData.canLay0, canLay_ints, Bool.true_and]
  have := depth_ints ns
  exact decide_eq_true (by simp only [PyData.depth]; omega)
theorem eqv_ints_nil {ns : List Int} (h : ns ≠ []) : PyData.eqv (.list (ns.map PyData.int)) (.list []) = false := by
  cases ns with
  | nil => exact absurd rfl h
  | cons n ns => rfl
theorem itT {c : Bool} {A B : Prop} (h : c = true) (a : A) : if c = true then A else B := by rw [if_pos h]; exact a
theorem itF {c : Bool} {A B : Prop} (h : c = false) (b : B) : if c = true then A else B := by rw [if_neg (by rw [h]; exact Bool.false_ne_true)]; exact b
end PR

namespace DL
open PySem L2
def spLaw (K : PySem.W.Frag) : Sp := fun vs H Q _ => ∃ (a : Addr) (ns : List Int), vs = [.ref a] ∧ SqL K H a (ns.map V.int) ∧ ns.length ≤ 63 ∧ ∀ H', Q (.bl true) H'
theorem law_sp {K : PySem.W.Frag} {mg : Str → Option Value} {φ : List D → G → R D} (h : ∀ ns : List Int, ns.length ≤ 63 → ∃ g, φ [scr ns] [] = .ok (.bool true) g) {vs : List V} {H : Hp} {Q : VK} {E : XK} (s : spLaw K vs H Q E) : spF K mg 1 φ vs H Q E := by
  obtain ⟨a, ns, rfl, hS, hl, k⟩ := s
  obtain ⟨g, e⟩ := h ns hl
  refine ⟨rfl, H, [], [scr ns], [], ⟨Same.refl _, rfl, fun n o e => by simp at e, List.nodup_nil, fun a ha => by simp at ha⟩, .cons (.scr hS) .nil, ?_⟩
  rw [e]
  intro v F' ρ' H' _ _ p
  cases p
  exact k H'
theorem no_cx {P : Program} {w : World} {H : Hp} {s s' : Shared} {e : Value} (h : L2.CX P w [] H s (fun _ _ _ => False) e s') : False := by
  obtain ⟨_, _, _, _, _, _, _, _, _, _, _, _, z⟩ := h
  exact z
end DL

namespace PR
open PySem L2 DL
/-- the one machine of a law, behind at most b draws -/
def MOk (b : Int) (g : G) : Prop := ∃ cells left pos, g = [.mach cells left pos] ∧ VC cells ∧ (∀ c ∈ left, 0 ≤ c) ∧ left.length ≤ 1000 ∧ 0 ≤ pos ∧ pos ≤ b
theorem MOk.mono {b b' : Int} {g : G} (h : MOk b g) (e : b ≤ b') : MOk b' g := by
  obtain ⟨c, l, p, h1, h2, h3, h4, h5, h6⟩ := h
  exact ⟨c, l, p, h1, h2, h3, h4, h5, by omega⟩
theorem draw_ok {b : Int} {g : G} {many : Int} (h : MOk b g) (hb : b ≤ 2 ^ 49) (hm : 0 < many) (hm2 : many < 1073741824) :
    ∃ r g', φ_law_draw [gref 0, .int many] g = .ok (.int r) g' ∧ 0 ≤ r ∧ r < many ∧ MOk (b + 1) g' := by
  obtain ⟨cells, left, pos, rfl, v, hl, hz, hp, hb2⟩ := h
  have ok : okDraw cells left pos many = true := by
    simp only [okDraw, Bool.and_eq_true, decide_eq_true_eq, List.all_eq_true]
    exact ⟨⟨⟨⟨⟨v.1, v.2⟩, hl⟩, hz⟩, by omega⟩, hm, hm2⟩
  have e : φ_law_draw [gref 0, .int many] [.mach cells left pos] = if left ≠ [] ∧ 0 < leftAt left pos then .ok (.int (leftAt left pos % many)) [.mach cells (left.set (pos % left.length).toNat (leftAt left pos / many)) (pos + 1)]
        else .ok (.int (mixAll cells pos % many)) [.mach cells left (pos + 1)] := by
    simp only [gref, φ_law_draw]
    simp [ok]
  rw [e]
  split
  · rename_i hc
    refine ⟨_, _, rfl, Int.emod_nonneg _ (by omega), Int.emod_lt_of_pos _ hm, cells, _, _, rfl, v, fun c hcm => ?_, by rw [List.length_set]; exact hz, by omega, by omega⟩
    rcases List.mem_or_eq_of_mem_set hcm with h1 | h1
    · exact hl c h1
    · rw [h1]; exact Int.ediv_nonneg (by omega) (by omega)
  · exact ⟨_, _, rfl, Int.emod_nonneg _ (by omega), Int.emod_lt_of_pos _ hm, cells, _, _, rfl, v, hl, hz, by omega, by omega⟩
theorem begun_ok (ns : List Int) (h : ns.length ≤ 63) : ∃ g, φ_law_begun [scr ns] [] = .ok (gref 0) g ∧ MOk 0 g := by
  obtain ⟨cs, e, v⟩ := folded_ok ns []
  refine ⟨[.mach cs (lefts ns) 0], ?_, cs, _, _, rfl, v, fun c hc => ?_, ?_, by omega, by omega⟩
  · have hl : ns.length ≤ cap := by unfold cap; omega
    simp only [scr] at e
    simp [φ_law_begun, scr, intsOf_map, e, hl]
  · unfold lefts at hc
    obtain ⟨x, _, rfl⟩ := List.mem_map.mp hc
    split <;> omega
  · unfold lefts; rw [List.length_map]; omega
/-- a comprehension whose turns draw -/
theorem lcD_gen {vs : List Nat} {p : Pat} {tt : EF Bool} {te : EF D} {ε : DL.Env} (P : D → D → Prop) (J : Int → G → Prop) (c : Int) : ∀ (its acc : List D) (b : Int) (g : G), J b g → acc.length + its.length ≤ cap →
    (∀ d ∈ its, ∀ b' g, b ≤ b' → b' ≤ b + c * its.length → J b' g → ∃ ε1 y g', p.put d (wipeE ε vs) = some ε1 ∧ tt ε1 g = .ok true g ∧ te ε1 g = .ok y g' ∧ P d y ∧ J (b' + c) g') → 0 ≤ c →
    ∃ ys g', lcD vs p tt te ε its acc g = .ok (acc ++ ys) g' ∧ Paired P its ys ∧ J (b + c * its.length) g'
  | [], acc, b, g, h, _, _, _ => ⟨[], g, by simp [lcD], .nil, by simpa using h⟩
  | d :: r, acc, b, g, h, hz, hs, hc => by
    have hlen : (List.length (d :: r) : Int) = r.length + 1 := by simp
    have hcr : 0 ≤ c * (r.length : Int) := Int.mul_nonneg hc (by omega)
    have hexp : c * (List.length (d :: r) : Int) = c * r.length + c := by rw [hlen, Int.mul_add, Int.mul_one]
    obtain ⟨ε1, y, g1, e1, e2, e3, py, h1⟩ := hs d List.mem_cons_self b g (Int.le_refl _) (by omega) h
    rw [List.length_cons] at hz
    obtain ⟨ys, g2, e4, h4, h5⟩ := lcD_gen P J c r (acc ++ [y]) (b + c) g1 h1 (by rw [List.length_append, List.length_singleton]; omega)
      (fun d' hd b' g hb1 hb2 hj => hs d' (List.mem_cons_of_mem _ hd) b' g (by omega) (by omega) hj) hc
    refine ⟨y :: ys, g2, ?_, .cons py h4, ?_⟩
    · unfold lcD
      rw [e1]
      simp only
      rw [e2]
      simp only
      rw [e3]
      simp only
      rw [if_pos (show acc.length < cap by omega), e4]
      simp
    · rw [hexp, show b + (c * r.length + c) = b + c + c * r.length by omega]
      exact h5
end PR

namespace K04
open PySem L2 DL PR
def top (i : Nat) : Stmt := PySem.Challenge.pw_pennyroll_k04_halves.main.body.getD i (.Pass ⟨0, 0, 0, 0⟩)
abbrev s_law_folded : Stmt := top 12
abbrev s_law_begun : Stmt := top 14
abbrev s_law_mixed : Stmt := top 11
abbrev s_law_draw : Stmt := top 13
abbrev s_law_sum : Stmt := top 15
abbrev s_is_whole : Stmt := top 5
abbrev s_need_sum : Stmt := top 8
abbrev s_half : Stmt := top 9
abbrev s_law_right : Stmt := top 16
abbrev s_law : Stmt := top 17
theorem sc_law_folded : FnScope ["_law_script", "_law_found", "_law_k", "_law_cell"] ["_law_script"] (defScope s_law_folded) := ⟨rfl, rfl, rfl, by decide +kernel, rfl, by decide +kernel, by decide +kernel⟩
theorem sc_law_begun : FnScope ["_law_script", "_law_m", "_law_cell"] ["_law_script"] (defScope s_law_begun) := ⟨rfl, rfl, rfl, by decide +kernel, rfl, by decide +kernel, by decide +kernel⟩
theorem sc_law_mixed : FnScope ["_law_cell", "_law_k", "_law_number"] ["_law_cell", "_law_k"] (defScope s_law_mixed) := ⟨rfl, rfl, rfl, by decide +kernel, rfl, by decide +kernel, by decide +kernel⟩
theorem sc_law_draw : FnScope ["_law_m", "_law_many", "_law_k", "_law_at", "_law_cell"] ["_law_m", "_law_many"] (defScope s_law_draw) := ⟨rfl, rfl, rfl, by decide +kernel, rfl, by decide +kernel, by decide +kernel⟩
theorem sc_law_sum : FnScope ["_law_m"] ["_law_m"] (defScope s_law_sum) := ⟨rfl, rfl, rfl, by decide +kernel, rfl, by decide +kernel, by decide +kernel⟩
theorem sc_is_whole : FnScope ["thing", "least", "most"] ["thing", "least", "most"] (defScope s_is_whole) := ⟨rfl, rfl, rfl, by decide +kernel, rfl, by decide +kernel, by decide +kernel⟩
theorem sc_need_sum : FnScope ["thing"] ["thing"] (defScope s_need_sum) := ⟨rfl, rfl, rfl, by decide +kernel, rfl, by decide +kernel, by decide +kernel⟩
theorem sc_half : FnScope ["part", "number"] ["part", "number"] (defScope s_half) := ⟨rfl, rfl, rfl, by decide +kernel, rfl, by decide +kernel, by decide +kernel⟩
theorem sc_law_right : FnScope ["_law_part", "_law_found", "_law_first", "_law_one"] ["_law_part"] (defScope s_law_right) := ⟨rfl, rfl, rfl, by decide +kernel, rfl, by decide +kernel, by decide +kernel⟩
theorem sc_law : FnScope ["_law_script", "_law_m", "_law_some", "_law_part", "_law_more", "_law_turn", "_law_k"] ["_law_script"] (defScope s_law) := ⟨rfl, rfl, rfl, by decide +kernel, rfl, by decide +kernel, by decide +kernel⟩
def sd_law_sum : SF :=
    (sRt (dBin pyIx (fz (fLst (fCons (dC (.int 0)) (fCons (dCallF 2 φ_law_draw (fCons (dVar 0) (fCons (dC (.int 10)) fNil))) (fCons (dCallF 2 φ_law_draw (fCons (dVar 0) (fCons (dC (.int 1000)) fNil))) (fCons (dCallF 2 φ_law_draw (fCons (dVar 0) (fCons (dBin pyPow (dC (.int 10)) (dC (.int 6))) fNil))) (fCons (dBin pySub (dBin pyPow (dC (.int 10)) (dC (.int 9))) (dCallF 2 φ_law_draw (fCons (dVar 0) (fCons (dC (.int 5)) fNil)))) fNil))))))) (dCallF 2 φ_law_draw (fCons (dVar 0) (fCons (dC (.int 5)) fNil)))))
def φ_law_sum : List D → G → R D := runF 1 sd_law_sum
def sd_is_whole : SF :=
    (sRt (dAnd (dUn (pyIsi .int) (tVr 0)) (dAnd (dNot (dUn (pyIsi .bool) (tVr 0))) (dChn pyLe pyLe (tVr 1) (tVr 0) (tVr 2)))))
def φ_is_whole : List D → G → R D := runF 3 sd_is_whole
def sd_need_sum : SF :=
    (sIf (bNot (asB (dCallF 3 φ_is_whole (fCons (dVar 0) (fCons (dC (.int 0)) (fCons (dC (.int 1000000000)) fNil)))))) (sRaise "BadSum") sNil)
def φ_need_sum : List D → G → R D := runF 1 sd_need_sum
def sd_half : SF :=
    (sSeq (sEx (dCallF 1 φ_need_sum (fCons (dVar 0) fNil)))
    (sSeq (sIf (bNot (asB (dCallF 3 φ_is_whole (fCons (dVar 1) (fCons (dC (.int 1)) (fCons (dC (.int 2)) fNil)))))) (sRaise "BadHalf") sNil)
    (sRt (dIf (asB (dBin pyEq (tVr 1) (dC (.int 1)))) (dBin pySub (tVr 0) (dBin pyDiv (tVr 0) (dC (.int 2)))) (dBin pyDiv (tVr 0) (dC (.int 2)))))))
def φ_half : List D → G → R D := runF 2 sd_half
def sd_law_right : SF :=
    (sSeq (sSet 1 (fz (fLst (fCons (dCallF 2 φ_half (fCons (dVar 0) (fCons (dC (.int 1)) fNil))) (fCons (dCallF 2 φ_half (fCons (dVar 0) (fCons (dC (.int 2)) fNil))) fNil)))))
    (sSeq (sSet 2 (dC (.int 0)))
    (sSeq (whileD (bAnd (asB (dBin pyLt (dBin pyAdd (tVr 2) (tVr 2)) (tVr 0))) (asB (dBin pyLt (tVr 0) (dC (.int 40))))) (sSet 2 (dBin pyAdd (tVr 2) (dC (.int 1)))) 1000000)
    (sSeq (sIf (bAnd (asB (dBin pyLt (tVr 0) (dC (.int 40)))) (asB (dBin pyNe (tVr 1) (fz (fLst (fCons (dVar 2) (fCons (dBin pySub (tVr 0) (tVr 2)) fNil))))))) (sRt (dC (.bool false))) sNil)
    (sSeq (sIf (asB (dBin pyNe (fz (fLc [3] (.nm 3) (iSeq (dVar 1)) bYes (dAnd (dUn (pyIsi .int) (tVr 3)) (dNot (dUn (pyIsi .bool) (tVr 3)))))) (fz (fLst (fCons (dC (.bool true)) (fCons (dC (.bool true)) fNil)))))) (sRt (dC (.bool false))) sNil)
    (sRt (dAnd (dBin pyEq (dCall pySum (fCons (tVr 1) fNil)) (tVr 0)) (dAnd (dChn pyLe pyLe (dC (.int 0)) (dBin pySub (dBin pyIx (tVr 1) (dC (.int 0))) (dBin pyIx (tVr 1) (dC (.int 1)))) (dC (.int 1))) (dBin pyEq (dBin pySub (dBin pyIx (tVr 1) (dC (.int 0))) (dBin pyIx (tVr 1) (dC (.int 1)))) (dBin pyMod (tVr 0) (dC (.int 2))))))))))))
def φ_law_right : List D → G → R D := runF 4 sd_law_right
def sd_law : SF :=
    (sSeq (sSet 1 (dCallF 1 φ_law_begun (fCons (dVar 0) fNil)))
    (sSeq (sSet 2 (dBin pyAdd (fz (fLrg1 (dC (.int 40)))) (fz (fLst (fCons (dBin pyPow (dC (.int 10)) (dC (.int 9))) (fCons (dBin pySub (dBin pyPow (dC (.int 10)) (dC (.int 9))) (dC (.int 1))) (fCons (dC (.int 99)) (fCons (dC (.int 100)) (fCons (dC (.int 101)) (fCons (dC (.int 12345)) (fCons (dBin pySub (dBin pyPow (dC (.int 10)) (dC (.int 9))) (dC (.int 2))) fNil)))))))))))
    (sSeq (sSet 2 (dBin pyAdd (dBin pyAdd (tVr 2) (fz (fLc [5] (.nm 5) (iFn pyRng1 (fCons (dC (.int 20)) fNil)) bYes (dCallF 2 φ_law_draw (fCons (dVar 1) (fCons (dBin pyAdd (dBin pyPow (dC (.int 10)) (dC (.int 9))) (dC (.int 1))) fNil)))))) (fz (fLc [5] (.nm 5) (iFn pyRng1 (fCons (dC (.int 20)) fNil)) bYes (dCallF 1 φ_law_sum (fCons (dVar 1) fNil))))))
    (sSeq (sIf (bNot (asB (dCall pyAll (fCons (fz (fLc [3] (.nm 3) (iSeq (dVar 2)) bYes (dCallF 1 φ_law_right (fCons (dVar 3) fNil)))) fNil)))) (sRt (dC (.bool false))) sNil)
    (sSeq (sFor (.nm 3) (iSeq (dVar 2)) (sIf (asB (dBin pyLt (tVr 3) (dBin pyPow (dC (.int 10)) (dC (.int 9))))) (sSeq (sSetO 4 (fLc [6] (.nm 6) (iSeq (dTup (fCons (dC (.int 1)) (fCons (dC (.int 2)) fNil)))) bYes (dBin pySub (dCallF 2 φ_half (fCons (dBin pyAdd (tVr 3) (dC (.int 1))) (fCons (dVar 6) fNil))) (dCallF 2 φ_half (fCons (dVar 3) (fCons (dVar 6) fNil))))))
    (sIf (asB (dBin pyNe (tVr 4) (fz (fLst (fCons (dBin pySub (dC (.int 1)) (dBin pyMod (tVr 3) (dC (.int 2)))) (fCons (dBin pyMod (tVr 3) (dC (.int 2))) fNil)))))) (sRt (dC (.bool false))) sNil)) sNil))
    (sRt (dC (.bool true))))))))
def φ_law : List D → G → R D := runF 7 sd_law
end K04

namespace K04
open PySem L2 DL PR
theorem whole_ok (i a b : Int) (g : G) : φ_is_whole [.int i, .int a, .int b] g = .ok (.bool (decide (a ≤ i ∧ i ≤ b))) g := by
  by_cases h : a ≤ i <;> by_cases h2 : i ≤ b <;> simp [φ_is_whole, sd_is_whole, h, h2]
theorem half1_ok (p : Int) (g : G) (h : 0 ≤ p ∧ p ≤ 1000000000) : φ_half [.int p, .int 1] g = .ok (.int (p - p / 2)) g := by
  simp [φ_half, sd_half, φ_need_sum, sd_need_sum, whole_ok, h]
theorem half2_ok (p : Int) (g : G) (h : 0 ≤ p ∧ p ≤ 1000000000) : φ_half [.int p, .int 2] g = .ok (.int (p / 2)) g := by
  simp [φ_half, sd_half, φ_need_sum, sd_need_sum, whole_ok, h]
theorem sum_ok {b : Int} {g : G} (h : MOk b g) (hb : b ≤ 2 ^ 48) : ∃ s g', φ_law_sum [gref 0] g = .ok (.int s) g' ∧ 0 ≤ s ∧ s ≤ 1000000000 ∧ MOk (b + 5) g' := by
  obtain ⟨r1, g1, e1, a1, b1, m1⟩ := draw_ok (many := 10) h (by omega) (by omega) (by omega)
  obtain ⟨r2, g2, e2, a2, b2, m2⟩ := draw_ok (many := 1000) m1 (by omega) (by omega) (by omega)
  obtain ⟨r3, g3, e3, a3, b3, m3⟩ := draw_ok (many := 1000000) m2 (by omega) (by omega) (by omega)
  obtain ⟨r4, g4, e4, a4, b4, m4⟩ := draw_ok (many := 5) m3 (by omega) (by omega) (by omega)
  obtain ⟨r5, g5, e5, a5, b5, m5⟩ := draw_ok (many := 5) m4 (by omega) (by omega) (by omega)
  obtain ⟨s, hs1, hs2, hs3⟩ := atI_ok (xs := [0, r1, r2, r3, 1000000000 - r4]) (i := r5) (by omega) (by simpa using b5)
  refine ⟨s, g5, ?_, ?_, ?_, m5.mono (by omega)⟩
  · have q := atI_map PyData.int [0, r1, r2, r3, 1000000000 - r4] r5
    rw [hs1] at q
    simp only [List.map_cons, List.map_nil, Option.map_some] at q
    simp [φ_law_sum, sd_law_sum, e1, e2, e3, e4, e5, q, cap]
  · simp only [List.mem_cons, List.not_mem_nil, or_false] at hs2
    omega
  · simp only [List.mem_cons, List.not_mem_nil, or_false] at hs2
    omega
theorem while_ok (p a : Int) (fl x : Sl) (g : G) (hp : 0 ≤ p) : ∀ (k n : Nat) (f : Int), 0 ≤ f → f + k = p - p / 2 → k < n → p < 40 →
    whileD (bAnd (asB (dBin pyLt (dBin pyAdd (tVr 2) (tVr 2)) (tVr 0))) (asB (dBin pyLt (tVr 0) (dC (.int 40))))) (sSet 2 (dBin pyAdd (tVr 2) (dC (.int 1)))) n [.va (.int p), fl, .va (.int f), x] g = .nx [.va (.int p), fl, .va (.int (p - p / 2)), x] g
  | 0, n + 1, f, h0, h, _, h4 => by
    have h1 : ¬ f + f < p := by omega
    have h2 : f = p - p / 2 := by omega
    simp [whileD, h1, h2.symm]
  | k + 1, n + 1, f, h0, h, hn, h4 => by
    have h1 : f + f < p := by omega
    have ih := while_ok p a fl x g hp k n (f + 1) (by omega) (by omega) (by omega) h4
    simp [whileD, h1, h4] at ih ⊢
    exact ih
theorem while_ok2 (p : Int) (fl x : Sl) (g : G) (n : Nat) (h : ¬ p < 40) :
    whileD (bAnd (asB (dBin pyLt (dBin pyAdd (tVr 2) (tVr 2)) (tVr 0))) (asB (dBin pyLt (tVr 0) (dC (.int 40))))) (sSet 2 (dBin pyAdd (tVr 2) (dC (.int 1)))) (n + 1) [.va (.int p), fl, .va (.int 0), x] g = .nx [.va (.int p), fl, .va (.int 0), x] g := by
  by_cases h2 : (0 : Int) < p <;> simp [whileD, h, h2]
theorem eq_two (a b : Int) : PyData.eqv (.list [.int a, .int b]) (.list [.int a, .int b]) = true := by simp [PyData.eqv, PyData.eqvAll]
theorem ok_two (a b : Int) : okEq (.list [.int a, .int b]) = true := by simp [okEq, pure0, pureA, SeqAt.shaped, PyData.canLay0, PyData.canLayAll0, PyData.depth, PyData.depthAll]
theorem right_ok (p : Int) (g : G) (h : 0 ≤ p ∧ p ≤ 1000000000) : φ_law_right [.int p] g = .ok (.bool true) g := by
  have h1 := half1_ok p g h
  have h2 := half2_ok p g h
  have hw : whileD (bAnd (asB (dBin pyLt (dBin pyAdd (tVr 2) (tVr 2)) (tVr 0))) (asB (dBin pyLt (tVr 0) (dC (.int 40))))) (sSet 2 (dBin pyAdd (tVr 2) (dC (.int 1)))) 1000000 [.va (.int p), .va (.list [.int (p - p / 2), .int (p / 2)]), .va (.int 0), .un] g
      = .nx [.va (.int p), .va (.list [.int (p - p / 2), .int (p / 2)]), .va (.int (if p < 40 then p - p / 2 else 0)), .un] g := by
    by_cases h4 : p < 40
    · rw [if_pos h4]
      exact while_ok p 0 _ _ g h.1 (p - p / 2).toNat 1000000 0 (by omega) (by omega) (by omega) h4
    · rw [if_neg h4]
      exact while_ok2 p _ _ g 999999 h4
  have e1 : p - (p - p / 2) = p / 2 := by omega
  have e2 : p - p / 2 + p / 2 = p := by omega
  have e3 : p - p / 2 - p / 2 = p % 2 := by omega
  have e4 : (0 ≤ p % 2) ∧ (p % 2 ≤ 1) := by omega
  have q1 := atI_map PyData.int [p - p / 2, p / 2] 0
  have q2 := atI_map PyData.int [p - p / 2, p / 2] 1
  simp only [List.map_cons, List.map_nil] at q1 q2
  have q3 : atI [p - p / 2, p / 2] 0 = some (p - p / 2) := rfl
  have q4 : atI [p - p / 2, p / 2] 1 = some (p / 2) := rfl
  rw [q3] at q1
  rw [q4] at q2
  have et : PyData.eqv (.list [.bool true, .bool true]) (.list [.bool true, .bool true]) = true := by simp [PyData.eqv, PyData.eqvAll]
  have ot : okEq (.list [.bool true, .bool true]) = true := by simp [okEq, pure0, pureA, SeqAt.shaped, PyData.canLay0, PyData.canLayAll0, PyData.depth, PyData.depthAll]
  by_cases h4 : p < 40
  · rw [if_pos h4] at hw
    simp [φ_law_right, sd_law_right, h1, h2, cap, hw, h4, lcD, eq_two, ok_two, e1, et, ot, intsOf, e2, q1, q2, e3, e4]
  · rw [if_neg h4] at hw
    simp [φ_law_right, sd_law_right, h1, h2, cap, hw, h4, lcD, eq_two, ok_two, e1, et, ot, intsOf, e2, q1, q2, e3, e4]
def In9 (d : D) : Prop := ∃ i : Int, d = .int i ∧ 0 ≤ i ∧ i ≤ 1000000000
theorem paired_right {α β : Type} {P : α → β → Prop} {Q : β → Prop} (h : ∀ a b, P a b → Q b) : ∀ {l : List α} {m : List β}, Paired P l m → ∀ b ∈ m, Q b
  | _, _, .nil, _, hb => by cases hb
  | _, _, .cons p t, b, hb => by
    rcases List.mem_cons.mp hb with e | e
    · rw [e]; exact h _ _ p
    · exact paired_right h t b e
theorem comp1_ok {b : Int} {g : G} (h : MOk b g) (hb : b ≤ 2 ^ 47) (x y z w s : Sl) : ∃ ys g', lcD [5] (.nm 5) bYes (dCallF 2 φ_law_draw (fCons (dVar 1) (fCons (dBin pyAdd (dBin pyPow (dC (.int 10)) (dC (.int 9))) (dC (.int 1))) fNil))) [s, .va (gref 0), x, y, z, .un, w] (rgD 0 20) [] g = .ok ys g' ∧ (∀ d ∈ ys, In9 d) ∧ ys.length = 20 ∧ MOk (b + 20) g' := by
  obtain ⟨ys, g', e, hp, m⟩ := lcD_gen (vs := [5]) (p := .nm 5) (tt := bYes) (te := dCallF 2 φ_law_draw (fCons (dVar 1) (fCons (dBin pyAdd (dBin pyPow (dC (.int 10)) (dC (.int 9))) (dC (.int 1))) fNil))) (ε := [s, .va (gref 0), x, y, z, .un, w]) (fun _ d => In9 d) MOk 1 (rgD 0 20) [] b g h (by simp [rgD, cap])
    (fun d hd b' g hb1 hb2 hj => by
      have : (rgD 0 20).length = 20 := by simp [rgD]
      rw [this] at hb2
      obtain ⟨r, g', e, h0, h1, m⟩ := draw_ok (many := 1000000001) hj (by omega) (by omega) (by omega)
      refine ⟨_, .int r, g', rfl, rfl, ?_, ⟨r, rfl, h0, by omega⟩, m⟩
      simp [e]) (by omega)
  have hl : (rgD 0 20).length = 20 := by simp [rgD]
  refine ⟨ys, g', by simpa using e, paired_right (Q := In9) (fun _ _ h => h) hp, ?_, ?_⟩
  · have := hp.length
    omega
  · rw [hl] at m
    exact m.mono (by omega)
theorem comp2_ok {b : Int} {g : G} (h : MOk b g) (hb : b ≤ 2 ^ 47) (x y z w s : Sl) : ∃ ys g', lcD [5] (.nm 5) bYes (dCallF 1 φ_law_sum (fCons (dVar 1) fNil)) [s, .va (gref 0), x, y, z, .un, w] (rgD 0 20) [] g = .ok ys g' ∧ (∀ d ∈ ys, In9 d) ∧ ys.length = 20 ∧ MOk (b + 100) g' := by
  obtain ⟨ys, g', e, hp, m⟩ := lcD_gen (vs := [5]) (p := .nm 5) (tt := bYes) (te := dCallF 1 φ_law_sum (fCons (dVar 1) fNil)) (ε := [s, .va (gref 0), x, y, z, .un, w]) (fun _ d => In9 d) MOk 5 (rgD 0 20) [] b g h (by simp [rgD, cap])
    (fun d hd b' g hb1 hb2 hj => by
      have : (rgD 0 20).length = 20 := by simp [rgD]
      rw [this] at hb2
      obtain ⟨r, g', e, h0, h1, m⟩ := sum_ok hj (by omega)
      refine ⟨_, .int r, g', rfl, rfl, ?_, ⟨r, rfl, h0, by omega⟩, m⟩
      simp [e]) (by omega)
  have hl : (rgD 0 20).length = 20 := by simp [rgD]
  refine ⟨ys, g', by simpa using e, paired_right (Q := In9) (fun _ _ h => h) hp, ?_, ?_⟩
  · have := hp.length
    omega
  · rw [hl] at m
    exact m.mono (by omega)
theorem law_true (ns : List Int) (h : ns.length ≤ 63) : ∃ g, φ_law [scr ns] [] = .ok (.bool true) g := by
  obtain ⟨g0, e0, m0⟩ := begun_ok ns h
  -- the first sums
  have hA : (∀ d ∈ rgD 0 40 ++ [.int 1000000000, .int 999999999, .int 99, .int 100, .int 101, .int 12345, .int 999999998], In9 d) ∧ (rgD 0 40 ++ [PyData.int 1000000000, .int 999999999, .int 99, .int 100, .int 101, .int 12345, .int 999999998]).length = 47 := by
    refine ⟨fun d hd => ?_, by simp⟩
    rcases List.mem_append.mp hd with hd | hd
    · unfold rgD at hd
      simp only [List.mem_map, List.mem_range] at hd
      obtain ⟨i, hi, rfl⟩ := hd
      exact ⟨_, rfl, by omega, by omega⟩
    · simp only [List.mem_cons, List.not_mem_nil, or_false] at hd
      rcases hd with rfl | rfl | rfl | rfl | rfl | rfl | rfl <;> exact ⟨_, rfl, by omega, by omega⟩
  generalize hL : rgD 0 40 ++ [PyData.int 1000000000, .int 999999999, .int 99, .int 100, .int 101, .int 12345, .int 999999998] = L at hA
  obtain ⟨inL, lL⟩ := hA
  obtain ⟨ys, g1, e1, in1, l1, m1⟩ := comp1_ok m0 (by omega) (.va (.list L)) .un .un .un (.va (scr ns))
  obtain ⟨zs, g2, e2, in2, l2, m2⟩ := comp2_ok m1 (by omega) (.va (.list L)) .un .un .un (.va (scr ns))
  have inAll : ∀ d ∈ L ++ ys ++ zs, In9 d := fun d hd => by
    rcases List.mem_append.mp hd with hd | hd
    · rcases List.mem_append.mp hd with hd | hd
      · exact inL d hd
      · exact in1 d hd
    · exact in2 d hd
  have lAll : (L ++ ys ++ zs).length = 87 := by simp [lL, l1, l2]
  generalize hAll : L ++ ys ++ zs = All at inAll lAll
  -- each is right
  have e3 : lcD [3] (.nm 3) bYes (dCallF 1 φ_law_right (fCons (dVar 3) fNil)) [.va (scr ns), .va (gref 0), .va (.list All), .un, .un, .un, .un] All [] g2 = .ok (All.map fun _ => PyData.bool true) g2 := by
    rw [lcD_map (fun _ => PyData.bool true) All [] (by simp [lAll, cap])]
    · simp
    · intro d hd
      obtain ⟨i, rfl, h0, h1⟩ := inAll d hd
      exact ⟨_, rfl, rfl, by simp [right_ok i g2 ⟨h0, h1⟩]⟩
  have e3' : boolsOf (All.map fun _ => PyData.bool true) = some (All.map fun _ => true) := by
    have := boolsOf_map (All.map fun _ => true)
    rw [List.map_map] at this
    exact this
  -- the turns
  obtain ⟨ε', g3, e4, _, rfl⟩ := forD_inv (p := .nm 3) (body := sIf (asB (dBin pyLt (tVr 3) (dBin pyPow (dC (.int 10)) (dC (.int 9))))) (sSeq (sSetO 4 (fLc [6] (.nm 6) (iSeq (dTup (fCons (dC (.int 1)) (fCons (dC (.int 2)) fNil)))) bYes (dBin pySub (dCallF 2 φ_half (fCons (dBin pyAdd (tVr 3) (dC (.int 1))) (fCons (dVar 6) fNil))) (dCallF 2 φ_half (fCons (dVar 3) (fCons (dVar 6) fNil))))))
    (sIf (asB (dBin pyNe (tVr 4) (fz (fLst (fCons (dBin pySub (dC (.int 1)) (dBin pyMod (tVr 3) (dC (.int 2)))) (fCons (dBin pyMod (tVr 3) (dC (.int 2))) fNil)))))) (sRt (dC (.bool false))) sNil)) sNil)
    (fun ε g' => (∃ x y, ε = [.va (scr ns), .va (gref 0), .va (.list All), x, y, .un, .un]) ∧ g' = g2) All (ε := [.va (scr ns), .va (gref 0), .va (.list All), .un, .un, .un, .un]) (g := g2) ⟨⟨_, _, rfl⟩, rfl⟩ (by
      rintro d hd ε g' ⟨⟨x, y, rfl⟩, rfl⟩
      obtain ⟨i, rfl, h0, h1⟩ := inAll d hd
      refine ⟨_, rfl, ?_⟩
      by_cases hi : i < 1000000000
      · have a1 := half1_ok (i + 1) g' (by omega)
        have a2 := half2_ok (i + 1) g' (by omega)
        have a3 := half1_ok i g' (by omega)
        have a4 := half2_ok i g' (by omega)
        have b1 : i + 1 - (i + 1) / 2 - (i - i / 2) = 1 - i % 2 := by omega
        have b2 : (i + 1) / 2 - i / 2 = i % 2 := by omega
        refine ⟨[.va (scr ns), .va (gref 0), .va (.list All), .va (.int i), .ow [.int (1 - i % 2), .int (i % 2)], .un, .un], g', by simp [hi, a1, a2, a3, a4, lcD, cap, b1, b2, eq_two, ok_two], ⟨_, _, rfl⟩, rfl⟩
      · exact ⟨[.va (scr ns), .va (gref 0), .va (.list All), .va (.int i), y, .un, .un], g', by simp [hi], ⟨_, _, rfl⟩, rfl⟩)
  refine ⟨g3, ?_⟩
  unfold φ_law runF sd_law
  refine fin_seq (ε' := [.va (scr ns), .va (gref 0), .un, .un, .un, .un, .un]) (g' := g0) (by simp [e0]) ?_
  refine fin_seq (ε' := [.va (scr ns), .va (gref 0), .va (.list L), .un, .un, .un, .un]) (g' := g0) (by rw [← hL]; simp [cap]) ?_
  refine fin_seq (ε' := [.va (scr ns), .va (gref 0), .va (.list All), .un, .un, .un, .un]) (g' := g3) (by simp [e1, e2, lL, l1, l2, cap, ← hAll]) ?_
  refine fin_seq (ε' := [.va (scr ns), .va (gref 0), .va (.list All), .un, .un, .un, .un]) (g' := g3) (by simp [e3, e3']) ?_
  refine fin_seq (ε' := ε') (g' := g3) (by simpa using e4) ?_
  rfl
end K04

namespace K04
open PySem L2 DL PR
structure Tx (K : PySem.W.Frag) (mg : Str → Option Value) where
  a_law_folded : Addr
  d_law_folded : FuncData
  F_law_folded : Fun K "_law_folded" "_law_folded" s_law_folded a_law_folded d_law_folded
  b_law_folded : Binds K d_law_folded ["_law_script"] []
  m_law_folded : mg "_law_folded" = some (.ref a_law_folded)
  a_law_begun : Addr
  d_law_begun : FuncData
  F_law_begun : Fun K "_law_begun" "_law_begun" s_law_begun a_law_begun d_law_begun
  b_law_begun : Binds K d_law_begun ["_law_script"] []
  m_law_begun : mg "_law_begun" = some (.ref a_law_begun)
  a_law_mixed : Addr
  d_law_mixed : FuncData
  F_law_mixed : Fun K "_law_mixed" "_law_mixed" s_law_mixed a_law_mixed d_law_mixed
  b_law_mixed : Binds K d_law_mixed ["_law_cell", "_law_k"] []
  m_law_mixed : mg "_law_mixed" = some (.ref a_law_mixed)
  a_law_draw : Addr
  d_law_draw : FuncData
  F_law_draw : Fun K "_law_draw" "_law_draw" s_law_draw a_law_draw d_law_draw
  b_law_draw : Binds K d_law_draw ["_law_m", "_law_many"] []
  m_law_draw : mg "_law_draw" = some (.ref a_law_draw)
  a_law_sum : Addr
  d_law_sum : FuncData
  F_law_sum : Fun K "_law_sum" "_law_sum" s_law_sum a_law_sum d_law_sum
  b_law_sum : Binds K d_law_sum ["_law_m"] []
  m_law_sum : mg "_law_sum" = some (.ref a_law_sum)
  a_is_whole : Addr
  d_is_whole : FuncData
  F_is_whole : Fun K "is_whole" "is_whole" s_is_whole a_is_whole d_is_whole
  b_is_whole : Binds K d_is_whole ["thing", "least", "most"] []
  m_is_whole : mg "is_whole" = some (.ref a_is_whole)
  a_need_sum : Addr
  d_need_sum : FuncData
  F_need_sum : Fun K "need_sum" "need_sum" s_need_sum a_need_sum d_need_sum
  b_need_sum : Binds K d_need_sum ["thing"] []
  m_need_sum : mg "need_sum" = some (.ref a_need_sum)
  a_half : Addr
  d_half : FuncData
  F_half : Fun K "half" "half" s_half a_half d_half
  b_half : Binds K d_half ["part", "number"] []
  m_half : mg "half" = some (.ref a_half)
  a_law_right : Addr
  d_law_right : FuncData
  F_law_right : Fun K "_law_right" "_law_right" s_law_right a_law_right d_law_right
  b_law_right : Binds K d_law_right ["_law_part"] []
  m_law_right : mg "_law_right" = some (.ref a_law_right)
  a_law : Addr
  d_law : FuncData
  F_law : Fun K "law" "law" s_law a_law d_law
  b_law : Binds K d_law ["_law_script"] []
  m_law : mg "law" = some (.ref a_law)
  C_BadHalf : Addr
  g_BadHalf : mg "BadHalf" = some (.ref C_BadHalf)
  x_BadHalf : PySem.W.excIn K C_BadHalf [.type "ValueError", .type "Exception", .type "BaseException", .type "object"] "ValueError.__new__" = true
  k_BadHalf : PySem.W.keepIn K (.ref C_BadHalf) = true
  s_BadHalf : PySem.W.subIn K (.ref C_BadHalf) (.type "BaseException") = some true
  t_BadHalf : PySem.W.typeIn K (.ref C_BadHalf) = some (.type "type")
  C_BadSum : Addr
  g_BadSum : mg "BadSum" = some (.ref C_BadSum)
  x_BadSum : PySem.W.excIn K C_BadSum [.type "ValueError", .type "Exception", .type "BaseException", .type "object"] "ValueError.__new__" = true
  k_BadSum : PySem.W.keepIn K (.ref C_BadSum) = true
  s_BadSum : PySem.W.subIn K (.ref C_BadSum) (.type "BaseException") = some true
  t_BadSum : PySem.W.typeIn K (.ref C_BadSum) = some (.type "type")
  t_MOST_SUM : Tok
  c_MOST_SUM : mg "MOST_SUM" = some (.int 1000000000 t_MOST_SUM)
  n_all : mg "all" = none
  n_bool : mg "bool" = none
  n_enumerate : mg "enumerate" = none
  n_int : mg "int" = none
  n_isinstance : mg "isinstance" = none
  n_len : mg "len" = none
  n_list : mg "list" = none
  n_range : mg "range" = none
  n_sum : mg "sum" = none
section
variable {P : Program} {w : World} {K : PySem.W.Frag} {mg : Str → Option Value} {base : Heap}
theorem ok_law_folded (T : Tx K mg) : FnOk P w K mg base (L2.CX P w) 2 T.a_law_folded T.d_law_folded ["_law_script"] (spF K mg 1 φ_law_folded) := by
  refine fn_D (N := ["_law_script", "_law_found", "_law_k", "_law_cell"]) (k := 1) T.F_law_folded sc_law_folded fun cdv A outer s H E hr B => ?_
  have hu := hr.units
  exact (s_cons (s_setLc (own := [("_law_k", 2)]) 1 rfl sc_law_folded.nd rfl rfl (sw_true rfl rfl rfl (by decide +kernel)) (i_rng1 (pi_range1 (by rfl) T.n_range (at_cons (t_of d_int) at_nil))) (blkOk_by (N := ["_law_script", "_law_found", "_law_k", "_law_cell"]) (sc := defScope s_law_folded) (by decide +kernel)) (by simp [Pat.slots, Pat.slotsA]) (fun _ _ _ _ _ => (p_nm 2 sc_law_folded.nd rfl (by first | exact .inl rfl | exact .inr rfl))) (fun _ _ _ _ _ => ts_nil) (fun _ _ _ _ _ => (d_add (t_of d_int) (t_var 2))))
    (s_cons (s_for (passes_of rfl) rfl (i_en (pi_enum (by rfl) T.n_enumerate (a_cons (d_var 0) a_nil))) (pg_tup rfl (ps_consP (p_nm 2 sc_law_folded.nd rfl (by first | exact .inl rfl | exact .inr rfl)) (ps_consP (p_nm 3 sc_law_folded.nd rfl (by first | exact .inl rfl | exact .inr rfl)) ps_nilP))) (s_one (s_str 1 (t_of (d_mod (t_var 2) (t_of d_int))) (d_mod (t_of (d_add (t_of (d_mulI (t_of (d_ix (t_var 1) (t_of (d_mod (t_var 2) (t_of d_int))))) (t_of d_int))) (t_var 3))) (t_of d_int)))))
    (s_cons (s_for (passes_of rfl) rfl (i_rng2 (pi_range2 (by rfl) T.n_range (at_cons (t_of d_int) (at_cons (t_of d_int) at_nil)))) (p_nm 2 sc_law_folded.nd rfl (by first | exact .inl rfl | exact .inr rfl)) (s_one (s_str 1 (t_var 2) (d_mod (t_of (d_add (t_of (d_ix (t_var 1) (t_var 2))) (t_of (d_mulI (t_of (d_ix (t_var 1) (t_of (d_sub (t_var 2) (t_of d_int))))) (t_of d_int))))) (t_of d_int)))))
    (s_one (s_ret (t_var 1))))))
theorem ok_law_begun (T : Tx K mg) : FnOk P w K mg base (L2.CX P w) 4 T.a_law_begun T.d_law_begun ["_law_script"] (spF K mg 1 φ_law_begun) := by
  refine T.F_law_begun.okX sc_law_begun (fun vs H Q E h => h.1) (fun cdv A outer s H vs Q E hr h => ?_)
  obtain ⟨hl, F0, ρ, ds, g, q, r, wp⟩ := h
  have hu := hr.units
  refine ⟨_, pss_cons (ps_set (i := 1) sc_law_begun.nd rfl (Or.inl rfl) (pe_disp
      (pps_cons pe_str (pe_callS (E := fun _ => E) (ok_law_folded T) (hr.mono (by decide)) (by rfl) T.m_law_folded T.F_law_folded.kp T.b_law_folded (fun σ => passAt (takes_of rfl rfl rfl rfl) σ) (pa_cons (pv 0) pa_nil))
      (pps_cons pe_str (pe_lst pa_nil) (pps_cons pe_str pe_int pps_nil))) (by rfl) (by rfl) (fun z => by cases z) (by decide)))
    (pss_cons (ps_dput (hu_of hr) (pv 1) pe_str
      (f_lc (B := ⟨F0, ρ, H⟩) (W := fun cls d _ H => E cls d H) (own := [("_law_cell", 2)]) rfl sc_law_begun.nd (i_seq (d_var 0)) (blkOk_by (N := ["_law_script", "_law_m", "_law_cell"]) (sc := defScope s_law_begun) (by decide +kernel)) (by simp [Pat.slots, Pat.slotsA])
        (fun _ _ _ _ _ => (p_nm 2 sc_law_begun.nd rfl (by first | exact .inl rfl | exact .inr rfl))) (fun _ _ _ _ _ => ts_nil)
        (fun _ _ _ _ _ => (d_if (b_ge (t_var 2) (t_of (d_pow (t_of d_int) (t_of d_int)))) (d_var 2) d_int))) rfl)
    (pss_one (ps_ret (pv 1)))), ?_⟩
  -- the reading
  unfold φ_law_begun at wp
  split at wp
  · split at wp
    · rename_i ns hns
      have hns := intsOf_eq hns
      subst hns
      obtain ⟨a, rfl, hS⟩ : ∃ a, vs = [.ref a] ∧ SqL K F0 a (ns.map V.int) := by
        cases r with
        | cons r0 rn =>
          cases rn
          obtain ⟨a, e, hS⟩ := Rp.scrF (ns := ns) r0
          exact ⟨a, by rw [e], hS⟩
      split at wp
      · rename_i csd g1 hfold
        split at wp
        · rename_i cs hcs
          have hcs := intsOf_eq hcs
          subst hcs
          split at wp
          · rename_i hcap
            intro p hp
            have hpF : F0 p = none := q.le.free hp
            have hpρ : p ∉ ρ.flatten := fun z => q.there p z hp
            obtain ⟨st0, q0⟩ := step_tmp (o := .dK []) q hp
            refine ⟨_, rfl, rfl, F0, ρ, [scr ns], g, q0, .cons (.scr hS) .nil, ?_⟩
            rw [hfold]
            intro v1 F1 ρ1 H1 s1 q1 p1
            obtain ⟨c, vs, rfl, hc, rc⟩ := Rp.lstF p1
            rw [rc.toInts] at hc
            have keyp : ∀ {Fa Fb : Hp} {ρa ρb : Fps} {Ha Hb : Hp} {x : Addr} {o : HO}, Step ⟨Fa, ρa, Ha⟩ Fb ρb Hb → Ha x = some o → Fa x = none → x ∉ ρa.flatten → Hb x = some o ∧ Fb x = none ∧ x ∉ ρb.flatten := fun {Fa Fb ρa ρb Ha Hb x o} t h1 h2 h3 => by
              refine ⟨t.hn x o h1 h3, ?_, fun z => ?_⟩
              · refine Classical.byContradiction fun z => ?_
                rcases t.fn x z with z | z
                · exact z h2
                · have z : Ha x = none := z
                  rw [h1] at z; cases z
              · rcases t.rn x z with z | z
                · exact h3 z
                · have z : Ha x = none := z
                  rw [h1] at z; cases z
            obtain ⟨k1, k2, k3⟩ := keyp s1 upd_same hpF hpρ
            refine ⟨by show 0 ≤ sizeLine; exact Nat.zero_le _, fun l0 hl0 => ?_⟩
            have npl : p ≠ l0 := fun z => by rw [← z, k1] at hl0; cases hl0
            obtain ⟨st1, q2⟩ := step_tmp (o := .lst []) q1 hl0
            refine ⟨by rw [upd_ne npl]; exact k1, [(Sum.inr "cells", .ref c), (Sum.inr "left", .ref l0), (Sum.inr "at", .int 0)], rfl, (by show 3 ≤ 15; decide), ?_⟩
            -- the comprehension
            have stB : Step ⟨F0, ρ, H⟩ F1 ρ1 (upd H1 l0 (.lst [])) := ((st0.trans s1).trans st1)
            have stB2 : Step ⟨F0, ρ, H⟩ F1 ρ1 (upd (upd H1 l0 (.lst [])) p (.dK (mergeK [] [(Sum.inr "cells", .ref c), (Sum.inr "left", .ref l0), (Sum.inr "at", .int 0)]))) := stB.mut hp
            have q3 : GRel F1 ρ1 (upd (upd H1 l0 (.lst [])) p (.dK (mergeK [] [(Sum.inr "cells", .ref c), (Sum.inr "left", .ref l0), (Sum.inr "at", .int 0)]))) g1 :=
              ⟨fun b u e => by rw [upd_ne (ne_of_none e k2)]; exact q2.le _ _ e, q2.len, fun n o e => (let ⟨as, m1, m2⟩ := q2.go n o e; ⟨as, m1, m2.frame (Same.refl _) fun b hb => upd_ne fun z => k3 (List.mem_flatten.mpr ⟨as, List.mem_of_getElem? m1, z ▸ hb⟩)⟩), q2.nd, q2.nf⟩
            have hcl : (fLc (([("_law_cell", 2)] : List (Str × Nat)).map (fun x => x.2)) (.nm 2) (iSeq (dVar 0)) bYes (dIf (asB (dBin pyGe (tVr 2) (dBin pyPow (dC (.int 10)) (dC (.int 18))))) (dVar 2) (dC (.int 0)))) [.va (scr ns), .un, .un] g1 = .ok ((lefts ns).map PyData.int) g1 := left_ok ns g1 hcap
            refine ⟨F1, ρ1, [.va (scr ns), .un, .un], g1, ⟨q3, stB2, rfl, fun i s e => ?_, fun i j s t b _ ei ej oi _ => ?_⟩, ?_⟩
            · match i, e with
              | 0, e => cases e; exact ⟨.ref a, rfl, .scr (stB2.f.seq hS)⟩
              | 1, e => cases e; trivial
              | 2, e => cases e; trivial
            · match i, ei with
              | 0, e => cases e; cases oi
              | 1, e => cases e; cases oi
              | 2, e => cases e; cases oi
            · rw [hcl]
              intro v2 F2 ρ2 H2 s2 q4 p2
              obtain ⟨⟨l, us, rfl, m1, m2, m3, m4, m5⟩, m6⟩ := p2
              have hH3 : (upd (upd H1 l0 (.lst [])) p (.dK (mergeK [] [(Sum.inr "cells", .ref c), (Sum.inr "left", .ref l0), (Sum.inr "at", .int 0)]))) p = some (.dK [(Sum.inr "cells", .ref c), (Sum.inr "left", .ref l0), (Sum.inr "at", .int 0)]) := upd_same
              obtain ⟨n1, n2, n3⟩ := keyp s2 hH3 k2 k3
              have nlp : l ≠ p := fun z => by rw [z, n1] at m1; cases m1
              refine ⟨_, rfl, p, _, rfl, .inl ⟨_, Sum.inr "left", n1, rfl, (by show 3 < sizeLine; decide), rfl⟩, ?_⟩
              refine ⟨_, rfl, ?_⟩
              have st3 := stB2.trans s2
              have hlH : H l = none := Classical.byContradiction fun z => stB2.th l z (m6 l rfl)
              refine wp (.ref p) F2 (ρ2 ++ [[p, l]]) _ ⟨st3.f, st3.r.trans (List.prefix_append _ _), st3.fn, fun b hb => ?_, fun b o hb hn => ?_, fun b hb => ?_⟩ ⟨fun b u e => ?_, ?_, fun n o e => ?_, ?_, fun b hb => ?_⟩ (.gob ⟨[l], ?_⟩)
              · rw [List.flatten_append, List.mem_append] at hb
                rcases hb with hb | hb
                · exact st3.rn b hb
                · simp only [List.flatten_cons, List.flatten_nil, List.append_nil, List.mem_cons, List.not_mem_nil, or_false] at hb
                  rcases hb with rfl | rfl
                  · exact .inr hp
                  · exact .inr hlH
              · rw [upd_ne (ne_of_none hb hp)]; exact st3.hn b o hb hn
              · by_cases z : b = p
                · subst z; rw [upd_same]; simp
                · rw [upd_ne z]; exact st3.th b hb
              · rw [upd_ne (ne_of_none e n2)]; exact q4.le _ _ e
              · rw [List.length_append, List.length_append, q4.len]; rfl
              · by_cases hn : n < g1.length
                · rw [List.getElem?_append_left hn] at e
                  obtain ⟨as, a1, a2⟩ := q4.go n o e
                  refine ⟨as, by rw [List.getElem?_append_left (by rw [← q4.len]; exact hn)]; exact a1, a2.frame (Same.refl _) fun b hb => upd_ne fun z => n3 (List.mem_flatten.mpr ⟨as, List.mem_of_getElem? a1, z ▸ hb⟩)⟩
                · rw [List.getElem?_append_right (by omega)] at e
                  have hz : n - g1.length = 0 := by
                    cases hh : n - g1.length with
                    | zero => rfl
                    | succ m => rw [hh] at e; simp at e
                  rw [hz] at e
                  cases e
                  refine ⟨[p, l], ?_, p, c, l, rfl, upd_same, ?_, ?_⟩
                  · have : n = ρ2.length := by rw [← q4.len]; omega
                    subst this
                    simp
                  · exact s2.f _ _ hc
                  · rw [upd_ne nlp, m1, m2.toInts]
              · rw [List.flatten_append, List.nodup_append]
                refine ⟨q4.nd, by simp [Ne.symm nlp], fun b hb c' hc' => ?_⟩
                simp only [List.flatten_cons, List.flatten_nil, List.append_nil, List.mem_cons, List.not_mem_nil, or_false] at hc'
                rcases hc' with rfl | rfl
                · exact fun z => n3 (z ▸ hb)
                · exact fun z => m5 (z ▸ hb)
              · rw [List.flatten_append, List.mem_append] at hb
                rcases hb with hb | hb
                · exact q4.nf b hb
                · simp only [List.flatten_cons, List.flatten_nil, List.append_nil, List.mem_cons, List.not_mem_nil, or_false] at hb
                  rcases hb with rfl | rfl
                  · exact n2
                  · exact m3
              · rw [List.getElem?_append_right (by rw [← q4.len]; exact Nat.le_refl _), ← q4.len, Nat.sub_self]
                rfl
          · exact wp.elim
        · exact wp.elim
      · exact wp.elim
    · exact wp.elim
  · exact wp.elim

theorem ok_law_mixed (T : Tx K mg) : FnOk P w K mg base (L2.CX P w) 2 T.a_law_mixed T.d_law_mixed ["_law_cell", "_law_k"] (spF K mg 2 φ_law_mixed) := by
  refine fn_D (N := ["_law_cell", "_law_k", "_law_number"]) (k := 1) T.F_law_mixed sc_law_mixed fun cdv A outer s H E hr B => ?_
  have hu := hr.units
  exact (s_cons (s_set 2 sc_law_mixed.nd rfl (by first | exact .inl rfl | exact .inr rfl) (d_add (t_of (d_add (t_of (d_mod (t_of (d_mulI (t_of (d_mulI (t_var 0) (t_of (d_add (t_of d_int) (t_of (d_mulI (t_of d_int) (t_var 1))))))) (t_of d_int))) (t_of d_int))) (t_of (d_mulI (t_of (d_mulI (t_of d_int) (t_var 1))) (t_var 1))))) (t_of (d_mulI (t_of d_int) (t_var 1)))))
    (s_one (s_ret (t_of (d_div (t_of (d_mod (t_of (d_mulI (t_var 2) (t_of d_int))) (t_of d_int))) (t_of d_int))))))
theorem ok_law_draw (T : Tx K mg) : FnOk P w K mg base (L2.CX P w) 3 T.a_law_draw T.d_law_draw ["_law_m", "_law_many"] (spF K mg 2 φ_law_draw) := by
  refine T.F_law_draw.okX sc_law_draw (fun vs H Q E h => h.1) (fun cdv A outer s H vs Q E hr h => ?_)
  obtain ⟨hl, F0, ρ, ds, g, q, r, wp⟩ := h
  have hu := hr.units
  have h1 := hu_of hr
  refine ⟨_, pss_cons (ps_set (i := 2) sc_law_draw.nd rfl (Or.inl rfl) (pe_dget h1 (pv 0) pe_str (fun _ _ => rfl)))
    (pss_cons (ps_dput h1 (pv 0) pe_str (pe_op op_add (pv 2) pe_int) rfl)
    (pss_cons (ps_if (pt_cmpR (op_neD hu) (pe_dget h1 (pv 0) pe_str (fun _ _ => rfl)) (pe_lst pa_nil) (nomark _))
      (pss_cons (ps_set (i := 3) sc_law_draw.nd rfl (Or.inl rfl) (pe_op op_mod (pv 2) (pe_callB call_len_seq (by rfl) T.n_len bb_len (pa_cons (pe_dget h1 (pv 0) pe_str (fun _ _ => rfl)) pa_nil))))
      (pss_cons (ps_set (i := 4) sc_law_draw.nd rfl (Or.inl rfl) (pe_ix ix_list (pe_dget h1 (pv 0) pe_str (fun _ _ => rfl)) (pv 3) (fun _ _ => rfl)))
      (pss_one (ps_if (pt_cmpR op_gt (pv 4) pe_int (nomark _))
        (pss_cons (ps_asg (pe_op op_fdiv (pv 4) (pv 1)) (pg_sub (pe_dget h1 (pv 0) pe_str (fun _ _ => rfl)) (pv 3) set_list))
        (pss_one (ps_ret (pe_op op_mod (pv 4) (pv 1))))) pss_nil)))) pss_nil)
    (pss_one (ps_ret (pe_op op_mod (pe_callS (E := fun _ => E) (ok_law_mixed T) (hr.mono (by decide)) (by rfl) T.m_law_mixed T.F_law_mixed.kp T.b_law_mixed (fun σ => passAt (takes_of rfl rfl rfl rfl) σ)
        (pa_cons (pe_callS (E := fun _ => E) (ok_law_mixed T) (hr.mono (by decide)) (by rfl) T.m_law_mixed T.F_law_mixed.kp T.b_law_mixed (fun σ => passAt (takes_of rfl rfl rfl rfl) σ)
          (pa_cons (pe_op op_add (pe_ix ix_list (pe_dget h1 (pv 0) pe_str (fun _ _ => rfl)) (pe_op op_mod (pv 2) pe_int) (fun _ _ => rfl)) (pe_op op_mul pe_int (pe_op op_fdiv (pv 2) pe_int))) (pa_cons (pv 2) pa_nil)))
        (pa_cons (pe_op op_add (pv 2) pe_int) pa_nil))) (pv 1)))))), ?_⟩
  unfold φ_law_draw at wp
  split at wp
  · rename_i n many
    split at wp
    · rename_i cells left pos hg
      split at wp
      · rename_i hok
        obtain ⟨m, p, hm, rfl, hat⟩ : ∃ (m : Nat) (p : Addr), n = (m : Int) ∧ vs = [.ref p, .int many] ∧ gAt ρ m p := by
          cases r with
          | cons r0 rn =>
            cases rn with
            | cons r1 rn =>
              cases rn
              cases r1
              obtain ⟨m, p, h1, h2, h3⟩ := Rp.gobF r0
              exact ⟨m, p, h1, by rw [h2], h3⟩
        subst hm
        rw [Int.toNat_natCast] at hg wp
        obtain ⟨as, has, pp, c, l, hasE, hP, hC, hL⟩ := q.go m _ hg
        obtain ⟨as', has'⟩ := hat
        rw [has] at has'
        cases has'
        cases hasE
        have hC' := q.le _ _ hC
        simp only [okDraw, Bool.and_eq_true, decide_eq_true_eq, List.all_eq_true] at hok
        obtain ⟨_, ⟨⟨⟨⟨hc64, hcr⟩, hlr⟩, hll⟩, hpos⟩, hmany⟩ := hok
        have npl : p ≠ l := ne_of hP hL (by intro z; cases z)
        have npc : p ≠ c := ne_of hP hC' (by intro z; cases z)
        have nlc : l ≠ c := fun z => by
          have : l ∈ ρ.flatten := List.mem_flatten.mpr ⟨_, List.mem_of_getElem? has, by simp⟩
          have := q.nf l this
          rw [z, hC] at this; cases this
        have hP1 : (upd H p (.dK (md c l (pos + 1)))) p = some (.dK (md c l (pos + 1))) := upd_same
        -- the ends
        have done : ∀ (Hx : Hp) (left' : List Int) (d : Int), (∀ a, a ≠ p → a ≠ l → H a ≠ none → Hx a = H a) → Hx p = some (.dK (md c l (pos + 1))) → Hx l = some (.lst (left'.map V.int)) →
            Wp K mg (fun cls d _ H => E cls d H) [] ⟨F0, ρ, H⟩ (fun F' ρ' _ v d => Rp K F' ρ' v d) (.ok (.int d) (g.set m (.mach cells left' (pos + 1)))) Q → Q (.int d) Hx := fun Hx left' d h1 h2 h3 wq => by
          obtain ⟨st, gr⟩ := q.upd1 (H' := Hx) (o' := .mach cells left' (pos + 1)) has hg (fun a ha hn => h1 a (fun z => ha (by simp [z])) (fun z => ha (by simp [z])) hn) ⟨p, c, l, rfl, h2, hC, h3⟩
          exact wq _ _ _ _ st gr (.int d)
        -- the mixed end
        have mixed_end : ∀ (Hx : Hp) (s3 s4 : Option V), (∀ a, a ≠ p → a ≠ l → H a ≠ none → Hx a = H a) → Hx p = some (.dK (md c l (pos + 1))) → Hx l = some (.lst (left.map V.int)) →
            Wp K mg (fun cls d _ H => E cls d H) [] ⟨F0, ρ, H⟩ (fun F' ρ' _ v d => Rp K F' ρ' v d) (.ok (.int (mixAll cells pos % many)) (g.set m (.mach cells left (pos + 1)))) Q →
            tRet (tOp (rI (fun _ j => 0 < j) fun i j => .int (i % j)) (tCallS (spF K mg 2 φ_law_mixed) (fun _ => E)
              (tCons (tCallS (spF K mg 2 φ_law_mixed) (fun _ => E) (tCons (tOp (rI0 fun i j => .int (i + j)) (tOp (rIxL K) (tDGet (tVar 0) (tC (.str "cells"))) (tOp (rI (fun _ j => 0 < j) fun i j => .int (i % j)) (tVar 2) (tC (.int 64)))) (tOp (rI CMul fun i j => .int (i * j)) (tC (.int 31)) (tOp (rI CDiv fun i j => .int (i / j)) (tVar 2) (tC (.int 64))))) (tCons (tVar 2) tNil)))
              (tCons (tOp (rI0 fun i j => .int (i + j)) (tVar 2) (tC (.int 7))) tNil))) (tVar 1)) { nx := fun _ H' => Q .non H', rt := Q } [some (.ref p), some (.int many), some (.int pos), s3, s4] Hx := fun Hx s3 s4 h1 h2 h3 wq => by
          obtain ⟨cv, e1, e2, e3⟩ := atI_ok (xs := cells) (i := pos % 64) (by omega) (by rw [hc64]; omega)
          have hcv := hcr cv e2
          have ecd : cells.getD (pos % 64).toNat 0 = cv := by rw [List.getD_eq_getElem?_getD, e3]; rfl
          have hcx : Hx c = some (.lst (cells.map V.int)) := by rw [h1 c (Ne.symm npc) (Ne.symm nlc) (by rw [hC']; simp)]; exact hC'
          obtain ⟨st, gr⟩ := q.upd1 (H' := Hx) (o' := .mach cells left (pos + 1)) has hg (fun a ha hn => h1 a (fun z => ha (by simp [z])) (fun z => ha (by simp [z])) hn) ⟨p, c, l, rfl, h2, hC, h3⟩
          have hb1 := mix_bd (cv + 31 * (pos / 64)) pos
          refine ⟨_, rfl, p, .ref c, rfl, md_cells h2, _, rfl, _, _, rfl, rfl, (by show (0 : Int) < 64; decide), c, _, _, .int cv, rfl, rfl, SqL.of hcx, (by rw [atI_map, e1]; rfl), _, rfl, _, _, rfl, rfl, ⟨by decide, by decide⟩, _, _, rfl, rfl, .inl (by decide), _, _, rfl, rfl, _, rfl, rfl, F0, ρ, [.int (cv + 31 * (pos / 64)), .int pos], _, gr, .cons (.int _) (.cons (.int _) .nil), ?_⟩
          rw [mixed_ok (by omega) (by omega)]
          intro v1 F1 ρ1 H1 st1 gr1 p1
          cases p1
          refine ⟨_, rfl, _, _, rfl, rfl, rfl, F1, ρ1, [.int (mixI (cv + 31 * (pos / 64)) pos), .int (pos + 7)], _, gr1, .cons (.int _) (.cons (.int _) .nil), ?_⟩
          rw [mixed_ok (by omega) (by omega)]
          intro v2 F2 ρ2 H2 st2 gr2 p2
          cases p2
          refine ⟨_, rfl, _, _, rfl, rfl, hmany.1, ?_⟩
          have ea : mixI (mixI (cv + 31 * (pos / 64)) pos) (pos + 7) % many = mixAll cells pos % many := by unfold mixAll; rw [ecd]
          show Q (.int (mixI (mixI (cv + 31 * (pos / 64)) pos) (pos + 7) % many)) H2
          rw [ea]
          exact wq _ F2 ρ2 H2 ((st.trans st1).trans st2) gr2 (.int _)
        -- _law_k = _law_m["at"]; _law_m["at"] = _law_k + 1
        refine ⟨_, rfl, p, .int pos, rfl, md_at hP, ?_⟩
        refine ⟨_, rfl, _, _, rfl, rfl, _, rfl, p, upd H p (.dK (md c l (pos + 1))), rfl, .inl ⟨_, Sum.inr "at", hP, rfl, (by show 3 < sizeLine; decide), rfl⟩, ?_⟩
        have hL1 : (upd H p (.dK (md c l (pos + 1)))) l = some (.lst (left.map V.int)) := by rw [upd_ne (Ne.symm npl)]; exact hL
        -- if _law_m["left"] != []
        refine ⟨_, rfl, p, .ref l, rfl, md_left hP1, (by show 0 ≤ sizeLine; exact Nat.zero_le _), fun z hz => ?_⟩
        have nzp : p ≠ z := ne_of_none hP1 hz
        have nzl : l ≠ z := ne_of_none hL1 hz
        have hPz : (upd (upd H p (.dK (md c l (pos + 1)))) z (.lst [])) p = some (.dK (md c l (pos + 1))) := by rw [upd_ne nzp]; exact hP1
        have hLz : (upd (upd H p (.dK (md c l (pos + 1)))) z (.lst [])) l = some (.lst (left.map V.int)) := by rw [upd_ne nzl]; exact hL1
        have hXz : ∀ a, a ≠ p → a ≠ l → H a ≠ none → (upd (upd H p (.dK (md c l (pos + 1)))) z (.lst [])) a = H a := fun a h1 h2 h3 => by
          by_cases e : a = z
          · subst e; rw [upd_ne h1] at hz; exact absurd hz h3
          · rw [upd_ne e, upd_ne h1]
        refine ⟨.list (left.map PyData.int), .list [], .lst (SqL.of hLz) (dp_ints left), .lst (SqL.of upd_same) .nil, shaped_ints left, rfl, _, rfl, ?_⟩
        by_cases hemp : left = []
        · subst hemp
          refine itF (show (!PyData.eqv (.list (([] : List Int).map PyData.int)) (.list [])) = false from rfl) ?_
          rw [if_neg (by simp)] at wp
          exact mixed_end _ none none hXz hPz hLz wp
        · refine itT (show (!PyData.eqv (.list (left.map PyData.int)) (.list [])) = true by rw [eqv_ints_nil hemp]; rfl) ?_
          have hlen : 0 < left.length := List.length_pos_iff.mpr hemp
          obtain ⟨lv, e1, e2, e3⟩ := atI_ok (xs := left) (i := pos % left.length) (Int.emod_nonneg _ (by omega)) (Int.emod_lt_of_pos _ (by omega))
          have elv : leftAt left pos = lv := by unfold leftAt; rw [List.getD_eq_getElem?_getD, e3]; rfl
          rw [elv] at wp
          refine ⟨_, rfl, _, rfl, p, .ref l, rfl, md_left hPz, l, _, rfl, .inl (SqL.of hLz), _, _, rfl, rfl, (by rw [List.length_map]; omega), ?_⟩
          refine ⟨_, rfl, p, .ref l, rfl, md_left hPz, _, rfl, l, _, _, .int lv, rfl, rfl, SqL.of hLz, (by rw [List.length_map, atI_map, e1]; rfl), ?_⟩
          refine ⟨_, rfl, _, _, rfl, rfl, _, rfl, ?_⟩
          by_cases hlv : 0 < lv
          · refine itT (decide_eq_true hlv) ?_
            rw [if_pos ⟨hemp, hlv⟩] at wp
            refine ⟨_, rfl, _, rfl, _, _, rfl, rfl, hmany, _, rfl, p, .ref l, rfl, md_left hPz, _, rfl, l, _, _, (pos % left.length).toNat, rfl, rfl, hLz, (by simp only [List.length_map]; exact ixN_ok (Int.emod_nonneg _ (by omega)) (Int.emod_lt_of_pos _ (by omega))), ?_⟩
            refine ⟨_, rfl, _, rfl, _, _, rfl, rfl, hmany.1, ?_⟩
            refine done _ (left.set (pos % left.length).toNat (lv / many)) _ (fun a h1 h2 h3 => by rw [upd_ne h2]; exact hXz a h1 h2 h3) (by rw [upd_ne npl]; exact hPz) (by rw [upd_same, List.map_set]) wp
          · refine itF (decide_eq_false hlv) ?_
            rw [if_neg (fun z => hlv z.2)] at wp
            exact mixed_end _ _ _ hXz hPz hLz wp
      · exact wp.elim
    · exact wp.elim
  · exact wp.elim

theorem ok_law_sum (T : Tx K mg) : FnOk P w K mg base (L2.CX P w) 4 T.a_law_sum T.d_law_sum ["_law_m"] (spF K mg 1 φ_law_sum) := by
  refine fn_D (N := ["_law_m"]) (k := 3) T.F_law_sum sc_law_sum fun cdv A outer s H E hr B => ?_
  have hu := hr.units
  exact (s_one (s_ret (t_of (d_ix (t_of (d_fz (f_lst (a_cons d_int (a_cons (d_call (pe_callS (ok_law_draw T) (hr.mono (by decide)) (by rfl) T.m_law_draw T.F_law_draw.kp T.b_law_draw (fun σ => passAt (takes_of rfl rfl rfl rfl) σ) (a_cons (d_var 0) (a_cons d_int a_nil)))) (a_cons (d_call (pe_callS (ok_law_draw T) (hr.mono (by decide)) (by rfl) T.m_law_draw T.F_law_draw.kp T.b_law_draw (fun σ => passAt (takes_of rfl rfl rfl rfl) σ) (a_cons (d_var 0) (a_cons d_int a_nil)))) (a_cons (d_call (pe_callS (ok_law_draw T) (hr.mono (by decide)) (by rfl) T.m_law_draw T.F_law_draw.kp T.b_law_draw (fun σ => passAt (takes_of rfl rfl rfl rfl) σ) (a_cons (d_var 0) (a_cons (d_pow (t_of d_int) (t_of d_int)) a_nil)))) (a_cons (d_sub (t_of (d_pow (t_of d_int) (t_of d_int))) (t_of (d_call (pe_callS (ok_law_draw T) (hr.mono (by decide)) (by rfl) T.m_law_draw T.F_law_draw.kp T.b_law_draw (fun σ => passAt (takes_of rfl rfl rfl rfl) σ) (a_cons (d_var 0) (a_cons d_int a_nil)))))) a_nil)))))))) (t_of (d_call (pe_callS (ok_law_draw T) (hr.mono (by decide)) (by rfl) T.m_law_draw T.F_law_draw.kp T.b_law_draw (fun σ => passAt (takes_of rfl rfl rfl rfl) σ) (a_cons (d_var 0) (a_cons d_int a_nil)))))))))
theorem ok_is_whole (T : Tx K mg) : FnOk P w K mg base (L2.CX P w) 2 T.a_is_whole T.d_is_whole ["thing", "least", "most"] (spF K mg 3 φ_is_whole) := by
  refine fn_D (N := ["thing", "least", "most"]) (k := 1) T.F_is_whole sc_is_whole fun cdv A outer s H E hr B => ?_
  have hu := hr.units
  exact (s_one (s_ret (t_of (d_and (d_isi .int (pe_callB call_isi (by rfl) T.n_isinstance bb_isinstance (pa_cons (t_var 0) (pa_cons (pe_bltn (by rfl) T.n_int bb_int rfl) pa_nil)))) (d_and (d_not (d_isi .bool (pe_callB call_isi (by rfl) T.n_isinstance bb_isinstance (pa_cons (t_var 0) (pa_cons (pe_bltn (by rfl) T.n_bool bb_bool rfl) pa_nil))))) (d_one (d_le_le (t_var 1) (t_var 0) (t_var 2))))))))
theorem ok_need_sum (T : Tx K mg) : FnOk P w K mg base (L2.CX P w) 3 T.a_need_sum T.d_need_sum ["thing"] (spF K mg 1 φ_need_sum) := by
  refine fn_D (N := ["thing"]) (k := 2) T.F_need_sum sc_need_sum fun cdv A outer s H E hr B => ?_
  have hu := hr.units
  exact (s_one (s_if (b_not (b_val (d_call (pe_callS (ok_is_whole T) (hr.mono (by decide)) (by rfl) T.m_is_whole T.F_is_whole.kp T.b_is_whole (fun σ => passAt (takes_of rfl rfl rfl rfl) σ) (a_cons (d_var 0) (a_cons d_int (a_cons (d_globI (by rfl) T.c_MOST_SUM) a_nil))))))) (s_one (s_raise T.g_BadSum (ps_raise rfl (takes_of rfl rfl rfl rfl) (pmk_own PySem.F.excBase_ValueError T.x_BadSum T.g_BadSum T.k_BadSum (raises_own T.s_BadSum T.t_BadSum) (by rfl))))) s_nil))
theorem ok_half (T : Tx K mg) : FnOk P w K mg base (L2.CX P w) 4 T.a_half T.d_half ["part", "number"] (spF K mg 2 φ_half) := by
  refine fn_D (N := ["part", "number"]) (k := 3) T.F_half sc_half fun cdv A outer s H E hr B => ?_
  have hu := hr.units
  exact (s_cons (s_ex (d_call (pe_callS (ok_need_sum T) (hr.mono (by decide)) (by rfl) T.m_need_sum T.F_need_sum.kp T.b_need_sum (fun σ => passAt (takes_of rfl rfl rfl rfl) σ) (a_cons (d_var 0) a_nil))))
    (s_cons (s_if (b_not (b_val (d_call (pe_callS (ok_is_whole T) (hr.mono (by decide)) (by rfl) T.m_is_whole T.F_is_whole.kp T.b_is_whole (fun σ => passAt (takes_of rfl rfl rfl rfl) σ) (a_cons (d_var 1) (a_cons d_int (a_cons d_int a_nil))))))) (s_one (s_raise T.g_BadHalf (ps_raise rfl (takes_of rfl rfl rfl rfl) (pmk_own PySem.F.excBase_ValueError T.x_BadHalf T.g_BadHalf T.k_BadHalf (raises_own T.s_BadHalf T.t_BadHalf) (by rfl))))) s_nil)
    (s_one (s_ret (t_of (d_if (b_eq hu (t_var 1) (t_of d_int)) (d_sub (t_var 0) (t_of (d_div (t_var 0) (t_of d_int)))) (d_div (t_var 0) (t_of d_int))))))))
theorem ok_law_right (T : Tx K mg) : FnOk P w K mg base (L2.CX P w) 5 T.a_law_right T.d_law_right ["_law_part"] (spF K mg 1 φ_law_right) := by
  refine fn_D (N := ["_law_part", "_law_found", "_law_first", "_law_one"]) (k := 4) T.F_law_right sc_law_right fun cdv A outer s H E hr B => ?_
  have hu := hr.units
  exact (s_cons (s_set 1 sc_law_right.nd rfl (by first | exact .inl rfl | exact .inr rfl) (d_fz (f_lst (a_cons (d_call (pe_callS (ok_half T) (hr.mono (by decide)) (by rfl) T.m_half T.F_half.kp T.b_half (fun σ => passAt (takes_of rfl rfl rfl rfl) σ) (a_cons (d_var 0) (a_cons d_int a_nil)))) (a_cons (d_call (pe_callS (ok_half T) (hr.mono (by decide)) (by rfl) T.m_half T.F_half.kp T.b_half (fun σ => passAt (takes_of rfl rfl rfl rfl) σ) (a_cons (d_var 0) (a_cons d_int a_nil)))) a_nil)))))
    (s_cons (s_set 2 sc_law_right.nd rfl (by first | exact .inl rfl | exact .inr rfl) d_int)
    (s_cons (s_while 1000000 (passes_of rfl) (PW.pt (w_and (b_lt (t_of (d_add (t_var 2) (t_var 2))) (t_var 0)) (w_and1 (b_lt (t_var 0) (t_of d_int))))) (s_one (s_set 2 sc_law_right.nd rfl (by first | exact .inl rfl | exact .inr rfl) (d_add (t_var 2) (t_of d_int)))))
    (s_cons (s_if (PW.pt (w_and (b_lt (t_var 0) (t_of d_int)) (w_and1 (b_ne hu (t_var 1) (t_of (d_fz (f_lst (a_cons (d_var 2) (a_cons (d_sub (t_var 0) (t_var 2)) a_nil))))))))) (s_one (s_ret (t_of d_bl))) s_nil)
    (s_cons (s_if (b_ne hu (t_of (d_fz (f_lc (own := [("_law_one", 3)]) rfl sc_law_right.nd (i_seq (d_var 1)) (blkOk_by (N := ["_law_part", "_law_found", "_law_first", "_law_one"]) (sc := defScope s_law_right) (by decide +kernel)) (by simp [Pat.slots, Pat.slotsA]) (fun _ _ _ _ _ => (p_nm 3 sc_law_right.nd rfl (by first | exact .inl rfl | exact .inr rfl))) (fun _ _ _ _ _ => ts_nil) (fun _ _ _ _ _ => (d_and (d_isi .int (pe_callB call_isi (by rfl) T.n_isinstance bb_isinstance (pa_cons (t_var 3) (pa_cons (pe_bltn (by rfl) T.n_int bb_int rfl) pa_nil)))) (d_one (d_not (d_isi .bool (pe_callB call_isi (by rfl) T.n_isinstance bb_isinstance (pa_cons (t_var 3) (pa_cons (pe_bltn (by rfl) T.n_bool bb_bool rfl) pa_nil))))))))))) (t_of (d_fz (f_lst (a_cons d_bl (a_cons d_bl a_nil)))))) (s_one (s_ret (t_of d_bl))) s_nil)
    (s_one (s_ret (t_of (d_and (d_eq hu (t_of (d_callB cd_sum (pe_callB (cr_sum rfl) (by rfl) T.n_sum bb_sum (at_cons (t_var 1) at_nil)))) (t_var 0)) (d_and (d_le_le (t_of d_int) (t_of (d_sub (t_of (d_ix (t_var 1) (t_of d_int))) (t_of (d_ix (t_var 1) (t_of d_int))))) (t_of d_int)) (d_one (d_eq hu (t_of (d_sub (t_of (d_ix (t_var 1) (t_of d_int))) (t_of (d_ix (t_var 1) (t_of d_int))))) (t_of (d_mod (t_var 0) (t_of d_int)))))))))))))))
theorem ok_law (T : Tx K mg) : FnOk P w K mg base (L2.CX P w) 6 T.a_law T.d_law ["_law_script"] (spF K mg 1 φ_law) := by
  refine fn_D (N := ["_law_script", "_law_m", "_law_some", "_law_part", "_law_more", "_law_turn", "_law_k"]) (k := 5) T.F_law sc_law fun cdv A outer s H E hr B => ?_
  have hu := hr.units
  exact (s_cons (s_set 1 sc_law.nd rfl (by first | exact .inl rfl | exact .inr rfl) (d_call (pe_callS (ok_law_begun T) (hr.mono (by decide)) (by rfl) T.m_law_begun T.F_law_begun.kp T.b_law_begun (fun σ => passAt (takes_of rfl rfl rfl rfl) σ) (a_cons (d_var 0) a_nil))))
    (s_cons (s_set 2 sc_law.nd rfl (by first | exact .inl rfl | exact .inr rfl) (d_add (t_of (d_fz (f_lrg1 (pe_listRg rfl (by rfl) T.n_list (prg_1 (by rfl) T.n_range (t_of d_int)))))) (t_of (d_fz (f_lst (a_cons (d_pow (t_of d_int) (t_of d_int)) (a_cons (d_sub (t_of (d_pow (t_of d_int) (t_of d_int))) (t_of d_int)) (a_cons d_int (a_cons d_int (a_cons d_int (a_cons d_int (a_cons (d_sub (t_of (d_pow (t_of d_int) (t_of d_int))) (t_of d_int)) a_nil))))))))))))
    (s_cons (s_set 2 sc_law.nd rfl (by first | exact .inl rfl | exact .inr rfl) (d_add (t_of (d_add (t_var 2) (t_of (d_fz (f_lc (own := [("_law_turn", 5)]) rfl sc_law.nd (i_rng1 (pi_range1 (by rfl) T.n_range (at_cons (t_of d_int) at_nil))) (blkOk_by (N := ["_law_script", "_law_m", "_law_some", "_law_part", "_law_more", "_law_turn", "_law_k"]) (sc := defScope s_law) (by decide +kernel)) (by simp [Pat.slots, Pat.slotsA]) (fun _ _ _ _ _ => (p_nm 5 sc_law.nd rfl (by first | exact .inl rfl | exact .inr rfl))) (fun _ _ _ _ _ => ts_nil) (fun _ _ _ _ _ => (d_call (pe_callS (ok_law_draw T) (hr.mono (by decide)) (by rfl) T.m_law_draw T.F_law_draw.kp T.b_law_draw (fun σ => passAt takes0 σ) (a_cons (d_var 1) (a_cons (d_add (t_of (d_pow (t_of d_int) (t_of d_int))) (t_of d_int)) a_nil)))))))))) (t_of (d_fz (f_lc (own := [("_law_turn", 5)]) rfl sc_law.nd (i_rng1 (pi_range1 (by rfl) T.n_range (at_cons (t_of d_int) at_nil))) (blkOk_by (N := ["_law_script", "_law_m", "_law_some", "_law_part", "_law_more", "_law_turn", "_law_k"]) (sc := defScope s_law) (by decide +kernel)) (by simp [Pat.slots, Pat.slotsA]) (fun _ _ _ _ _ => (p_nm 5 sc_law.nd rfl (by first | exact .inl rfl | exact .inr rfl))) (fun _ _ _ _ _ => ts_nil) (fun _ _ _ _ _ => (d_call (pe_callS (ok_law_sum T) (hr.mono (by decide)) (by rfl) T.m_law_sum T.F_law_sum.kp T.b_law_sum (fun σ => passAt takes0 σ) (a_cons (d_var 1) a_nil)))))))))
    (s_cons (s_if (b_not (b_val (d_callB cd_all (pe_callB (cr_all rfl) (by rfl) T.n_all bb_all (at_cons (t_of (d_fz (f_lc (own := [("_law_part", 3)]) rfl sc_law.nd (i_seq (d_var 2)) (blkOk_by (N := ["_law_script", "_law_m", "_law_some", "_law_part", "_law_more", "_law_turn", "_law_k"]) (sc := defScope s_law) (by decide +kernel)) (by simp [Pat.slots, Pat.slotsA]) (fun _ _ _ _ _ => (p_nm 3 sc_law.nd rfl (by first | exact .inl rfl | exact .inr rfl))) (fun _ _ _ _ _ => ts_nil) (fun _ _ _ _ _ => (d_call (pe_callS (ok_law_right T) (hr.mono (by decide)) (by rfl) T.m_law_right T.F_law_right.kp T.b_law_right (fun σ => passAt takes0 σ) (a_cons (d_var 3) a_nil))))))) at_nil))))) (s_one (s_ret (t_of d_bl))) s_nil)
    (s_cons (s_for (passes_of rfl) rfl (i_seq (d_var 2)) (p_nm 3 sc_law.nd rfl (by first | exact .inl rfl | exact .inr rfl)) (s_one (s_if (b_lt (t_var 3) (t_of (d_pow (t_of d_int) (t_of d_int)))) (s_cons (s_setLc (own := [("_law_k", 6)]) 4 rfl sc_law.nd rfl rfl (sw_true rfl rfl rfl (by decide +kernel)) (i_seq (d_tup (a_cons d_int (a_cons d_int a_nil)))) (blkOk_by (N := ["_law_script", "_law_m", "_law_some", "_law_part", "_law_more", "_law_turn", "_law_k"]) (sc := defScope s_law) (by decide +kernel)) (by simp [Pat.slots, Pat.slotsA]) (fun _ _ _ _ _ => (p_nm 6 sc_law.nd rfl (by first | exact .inl rfl | exact .inr rfl))) (fun _ _ _ _ _ => ts_nil) (fun _ _ _ _ _ => (d_sub (t_of (d_call (pe_callS (ok_half T) (hr.mono (by decide)) (by rfl) T.m_half T.F_half.kp T.b_half (fun σ => passAt takes0 σ) (a_cons (d_add (t_var 3) (t_of d_int)) (a_cons (d_var 6) a_nil))))) (t_of (d_call (pe_callS (ok_half T) (hr.mono (by decide)) (by rfl) T.m_half T.F_half.kp T.b_half (fun σ => passAt takes0 σ) (a_cons (d_var 3) (a_cons (d_var 6) a_nil))))))))
    (s_one (s_if (b_ne hu (t_var 4) (t_of (d_fz (f_lst (a_cons (d_sub (t_of d_int) (t_of (d_mod (t_var 3) (t_of d_int)))) (a_cons (d_mod (t_var 3) (t_of d_int)) a_nil)))))) (s_one (s_ret (t_of d_bl))) s_nil))) s_nil)))
    (s_one (s_ret (t_of d_bl))))))))
end
def tx_mk {K : PySem.W.Frag} {h : Heap} {mg : Str → Option Value} (X : K.In h) (G : h.Ns mainGlobals mg)
    {a1 : Addr} {od1 an1 : Option Addr} {sl1 : Array (Option Value)} {oc1 kV1 dc1 pm1 cd1 ct1 : Value}
    (A1 : PySem.W.nsIn K mainGlobals "_law_folded" = some (some (.ref a1)))
    (lk1 : K.lookup a1 = some ⟨oc1, od1, .func (PySem.W.fnOf "_law_folded" "_law_folded" (defArgs s_law_folded) (defBody s_law_folded) (defScope s_law_folded) .none kV1 dc1 pm1 an1 cd1 ct1), sl1⟩)
    (C1 : PySem.W.codeIn K cd1 "_law_folded" = true) (K1 : PySem.W.keepIn K (.ref a1) = true)
    {a2 : Addr} {od2 an2 : Option Addr} {sl2 : Array (Option Value)} {oc2 kV2 dc2 pm2 cd2 ct2 : Value}
    (A2 : PySem.W.nsIn K mainGlobals "_law_begun" = some (some (.ref a2)))
    (lk2 : K.lookup a2 = some ⟨oc2, od2, .func (PySem.W.fnOf "_law_begun" "_law_begun" (defArgs s_law_begun) (defBody s_law_begun) (defScope s_law_begun) .none kV2 dc2 pm2 an2 cd2 ct2), sl2⟩)
    (C2 : PySem.W.codeIn K cd2 "_law_begun" = true) (K2 : PySem.W.keepIn K (.ref a2) = true)
    {a3 : Addr} {od3 an3 : Option Addr} {sl3 : Array (Option Value)} {oc3 kV3 dc3 pm3 cd3 ct3 : Value}
    (A3 : PySem.W.nsIn K mainGlobals "_law_mixed" = some (some (.ref a3)))
    (lk3 : K.lookup a3 = some ⟨oc3, od3, .func (PySem.W.fnOf "_law_mixed" "_law_mixed" (defArgs s_law_mixed) (defBody s_law_mixed) (defScope s_law_mixed) .none kV3 dc3 pm3 an3 cd3 ct3), sl3⟩)
    (C3 : PySem.W.codeIn K cd3 "_law_mixed" = true) (K3 : PySem.W.keepIn K (.ref a3) = true)
    {a4 : Addr} {od4 an4 : Option Addr} {sl4 : Array (Option Value)} {oc4 kV4 dc4 pm4 cd4 ct4 : Value}
    (A4 : PySem.W.nsIn K mainGlobals "_law_draw" = some (some (.ref a4)))
    (lk4 : K.lookup a4 = some ⟨oc4, od4, .func (PySem.W.fnOf "_law_draw" "_law_draw" (defArgs s_law_draw) (defBody s_law_draw) (defScope s_law_draw) .none kV4 dc4 pm4 an4 cd4 ct4), sl4⟩)
    (C4 : PySem.W.codeIn K cd4 "_law_draw" = true) (K4 : PySem.W.keepIn K (.ref a4) = true)
    {a5 : Addr} {od5 an5 : Option Addr} {sl5 : Array (Option Value)} {oc5 kV5 dc5 pm5 cd5 ct5 : Value}
    (A5 : PySem.W.nsIn K mainGlobals "_law_sum" = some (some (.ref a5)))
    (lk5 : K.lookup a5 = some ⟨oc5, od5, .func (PySem.W.fnOf "_law_sum" "_law_sum" (defArgs s_law_sum) (defBody s_law_sum) (defScope s_law_sum) .none kV5 dc5 pm5 an5 cd5 ct5), sl5⟩)
    (C5 : PySem.W.codeIn K cd5 "_law_sum" = true) (K5 : PySem.W.keepIn K (.ref a5) = true)
    {a6 : Addr} {od6 an6 : Option Addr} {sl6 : Array (Option Value)} {oc6 kV6 dc6 pm6 cd6 ct6 : Value}
    (A6 : PySem.W.nsIn K mainGlobals "is_whole" = some (some (.ref a6)))
    (lk6 : K.lookup a6 = some ⟨oc6, od6, .func (PySem.W.fnOf "is_whole" "is_whole" (defArgs s_is_whole) (defBody s_is_whole) (defScope s_is_whole) .none kV6 dc6 pm6 an6 cd6 ct6), sl6⟩)
    (C6 : PySem.W.codeIn K cd6 "is_whole" = true) (K6 : PySem.W.keepIn K (.ref a6) = true)
    {a7 : Addr} {od7 an7 : Option Addr} {sl7 : Array (Option Value)} {oc7 kV7 dc7 pm7 cd7 ct7 : Value}
    (A7 : PySem.W.nsIn K mainGlobals "need_sum" = some (some (.ref a7)))
    (lk7 : K.lookup a7 = some ⟨oc7, od7, .func (PySem.W.fnOf "need_sum" "need_sum" (defArgs s_need_sum) (defBody s_need_sum) (defScope s_need_sum) .none kV7 dc7 pm7 an7 cd7 ct7), sl7⟩)
    (C7 : PySem.W.codeIn K cd7 "need_sum" = true) (K7 : PySem.W.keepIn K (.ref a7) = true)
    {a8 : Addr} {od8 an8 : Option Addr} {sl8 : Array (Option Value)} {oc8 kV8 dc8 pm8 cd8 ct8 : Value}
    (A8 : PySem.W.nsIn K mainGlobals "half" = some (some (.ref a8)))
    (lk8 : K.lookup a8 = some ⟨oc8, od8, .func (PySem.W.fnOf "half" "half" (defArgs s_half) (defBody s_half) (defScope s_half) .none kV8 dc8 pm8 an8 cd8 ct8), sl8⟩)
    (C8 : PySem.W.codeIn K cd8 "half" = true) (K8 : PySem.W.keepIn K (.ref a8) = true)
    {a9 : Addr} {od9 an9 : Option Addr} {sl9 : Array (Option Value)} {oc9 kV9 dc9 pm9 cd9 ct9 : Value}
    (A9 : PySem.W.nsIn K mainGlobals "_law_right" = some (some (.ref a9)))
    (lk9 : K.lookup a9 = some ⟨oc9, od9, .func (PySem.W.fnOf "_law_right" "_law_right" (defArgs s_law_right) (defBody s_law_right) (defScope s_law_right) .none kV9 dc9 pm9 an9 cd9 ct9), sl9⟩)
    (C9 : PySem.W.codeIn K cd9 "_law_right" = true) (K9 : PySem.W.keepIn K (.ref a9) = true)
    {a10 : Addr} {od10 an10 : Option Addr} {sl10 : Array (Option Value)} {oc10 kV10 dc10 pm10 cd10 ct10 : Value}
    (A10 : PySem.W.nsIn K mainGlobals "law" = some (some (.ref a10)))
    (lk10 : K.lookup a10 = some ⟨oc10, od10, .func (PySem.W.fnOf "law" "law" (defArgs s_law) (defBody s_law) (defScope s_law) .none kV10 dc10 pm10 an10 cd10 ct10), sl10⟩)
    (C10 : PySem.W.codeIn K cd10 "law" = true) (K10 : PySem.W.keepIn K (.ref a10) = true)
    {a11 : Addr} (A11 : PySem.W.nsIn K mainGlobals "BadHalf" = some (some (.ref a11))) (E11 : PySem.W.excIn K a11 [.type "ValueError", .type "Exception", .type "BaseException", .type "object"] "ValueError.__new__" = true) (K11 : PySem.W.keepIn K (.ref a11) = true) (S11 : PySem.W.subIn K (.ref a11) (.type "BaseException") = some true) (T11 : PySem.W.typeIn K (.ref a11) = some (.type "type"))
    {a12 : Addr} (A12 : PySem.W.nsIn K mainGlobals "BadSum" = some (some (.ref a12))) (E12 : PySem.W.excIn K a12 [.type "ValueError", .type "Exception", .type "BaseException", .type "object"] "ValueError.__new__" = true) (K12 : PySem.W.keepIn K (.ref a12) = true) (S12 : PySem.W.subIn K (.ref a12) (.type "BaseException") = some true) (T12 : PySem.W.typeIn K (.ref a12) = some (.type "type"))
    {t13 : Tok} (A13 : PySem.W.nsIn K mainGlobals "MOST_SUM" = some (some (.int 1000000000 t13)))
    (A14 : PySem.W.nsIn K mainGlobals "all" = some none)
    (A15 : PySem.W.nsIn K mainGlobals "bool" = some none)
    (A16 : PySem.W.nsIn K mainGlobals "enumerate" = some none)
    (A17 : PySem.W.nsIn K mainGlobals "int" = some none)
    (A18 : PySem.W.nsIn K mainGlobals "isinstance" = some none)
    (A19 : PySem.W.nsIn K mainGlobals "len" = some none)
    (A20 : PySem.W.nsIn K mainGlobals "list" = some none)
    (A21 : PySem.W.nsIn K mainGlobals "range" = some none)
    (A22 : PySem.W.nsIn K mainGlobals "sum" = some none)
    : Tx K mg where
  a_law_folded := a1
  d_law_folded := _
  F_law_folded := fun_mk (st := s_law_folded) lk1 C1 K1
  b_law_folded := (fun_mk (st := s_law_folded) lk1 C1 K1).binds (ps := ["_law_script"]) (fun _ _ _ _ _ _ us hl => match us, hl with | [_], _ => rfl)
  m_law_folded := PySem.W.mg_of X G A1
  a_law_begun := a2
  d_law_begun := _
  F_law_begun := fun_mk (st := s_law_begun) lk2 C2 K2
  b_law_begun := (fun_mk (st := s_law_begun) lk2 C2 K2).binds (ps := ["_law_script"]) (fun _ _ _ _ _ _ us hl => match us, hl with | [_], _ => rfl)
  m_law_begun := PySem.W.mg_of X G A2
  a_law_mixed := a3
  d_law_mixed := _
  F_law_mixed := fun_mk (st := s_law_mixed) lk3 C3 K3
  b_law_mixed := (fun_mk (st := s_law_mixed) lk3 C3 K3).binds (ps := ["_law_cell", "_law_k"]) (fun _ _ _ _ _ _ us hl => match us, hl with | [_, _], _ => rfl)
  m_law_mixed := PySem.W.mg_of X G A3
  a_law_draw := a4
  d_law_draw := _
  F_law_draw := fun_mk (st := s_law_draw) lk4 C4 K4
  b_law_draw := (fun_mk (st := s_law_draw) lk4 C4 K4).binds (ps := ["_law_m", "_law_many"]) (fun _ _ _ _ _ _ us hl => match us, hl with | [_, _], _ => rfl)
  m_law_draw := PySem.W.mg_of X G A4
  a_law_sum := a5
  d_law_sum := _
  F_law_sum := fun_mk (st := s_law_sum) lk5 C5 K5
  b_law_sum := (fun_mk (st := s_law_sum) lk5 C5 K5).binds (ps := ["_law_m"]) (fun _ _ _ _ _ _ us hl => match us, hl with | [_], _ => rfl)
  m_law_sum := PySem.W.mg_of X G A5
  a_is_whole := a6
  d_is_whole := _
  F_is_whole := fun_mk (st := s_is_whole) lk6 C6 K6
  b_is_whole := (fun_mk (st := s_is_whole) lk6 C6 K6).binds (ps := ["thing", "least", "most"]) (fun _ _ _ _ _ _ us hl => match us, hl with | [_, _, _], _ => rfl)
  m_is_whole := PySem.W.mg_of X G A6
  a_need_sum := a7
  d_need_sum := _
  F_need_sum := fun_mk (st := s_need_sum) lk7 C7 K7
  b_need_sum := (fun_mk (st := s_need_sum) lk7 C7 K7).binds (ps := ["thing"]) (fun _ _ _ _ _ _ us hl => match us, hl with | [_], _ => rfl)
  m_need_sum := PySem.W.mg_of X G A7
  a_half := a8
  d_half := _
  F_half := fun_mk (st := s_half) lk8 C8 K8
  b_half := (fun_mk (st := s_half) lk8 C8 K8).binds (ps := ["part", "number"]) (fun _ _ _ _ _ _ us hl => match us, hl with | [_, _], _ => rfl)
  m_half := PySem.W.mg_of X G A8
  a_law_right := a9
  d_law_right := _
  F_law_right := fun_mk (st := s_law_right) lk9 C9 K9
  b_law_right := (fun_mk (st := s_law_right) lk9 C9 K9).binds (ps := ["_law_part"]) (fun _ _ _ _ _ _ us hl => match us, hl with | [_], _ => rfl)
  m_law_right := PySem.W.mg_of X G A9
  a_law := a10
  d_law := _
  F_law := fun_mk (st := s_law) lk10 C10 K10
  b_law := (fun_mk (st := s_law) lk10 C10 K10).binds (ps := ["_law_script"]) (fun _ _ _ _ _ _ us hl => match us, hl with | [_], _ => rfl)
  m_law := PySem.W.mg_of X G A10
  C_BadHalf := a11
  g_BadHalf := PySem.W.mg_of X G A11
  x_BadHalf := E11
  k_BadHalf := K11
  s_BadHalf := S11
  t_BadHalf := T11
  C_BadSum := a12
  g_BadSum := PySem.W.mg_of X G A12
  x_BadSum := E12
  k_BadSum := K12
  s_BadSum := S12
  t_BadSum := T12
  t_MOST_SUM := t13
  c_MOST_SUM := PySem.W.mg_of X G A13
  n_all := PySem.W.mg_none_of X G A14
  n_bool := PySem.W.mg_none_of X G A15
  n_enumerate := PySem.W.mg_none_of X G A16
  n_int := PySem.W.mg_none_of X G A17
  n_isinstance := PySem.W.mg_none_of X G A18
  n_len := PySem.W.mg_none_of X G A19
  n_list := PySem.W.mg_none_of X G A20
  n_range := PySem.W.mg_none_of X G A21
  n_sum := PySem.W.mg_none_of X G A22
theorem all_mk {l : PySem.W.OpenLaw} {w : World} {K : PySem.W.Frag} {h : Heap} {mg : Str → Option Value} {fa : Addr} (X : K.In h) (G : h.Ns mainGlobals mg) (hfa : mg "law" = some (.ref fa))
    {a1 : Addr} {od1 an1 : Option Addr} {sl1 : Array (Option Value)} {oc1 kV1 dc1 pm1 cd1 ct1 : Value}
    (A1 : PySem.W.nsIn K mainGlobals "_law_folded" = some (some (.ref a1)))
    (lk1 : K.lookup a1 = some ⟨oc1, od1, .func (PySem.W.fnOf "_law_folded" "_law_folded" (defArgs s_law_folded) (defBody s_law_folded) (defScope s_law_folded) .none kV1 dc1 pm1 an1 cd1 ct1), sl1⟩)
    (C1 : PySem.W.codeIn K cd1 "_law_folded" = true) (K1 : PySem.W.keepIn K (.ref a1) = true)
    {a2 : Addr} {od2 an2 : Option Addr} {sl2 : Array (Option Value)} {oc2 kV2 dc2 pm2 cd2 ct2 : Value}
    (A2 : PySem.W.nsIn K mainGlobals "_law_begun" = some (some (.ref a2)))
    (lk2 : K.lookup a2 = some ⟨oc2, od2, .func (PySem.W.fnOf "_law_begun" "_law_begun" (defArgs s_law_begun) (defBody s_law_begun) (defScope s_law_begun) .none kV2 dc2 pm2 an2 cd2 ct2), sl2⟩)
    (C2 : PySem.W.codeIn K cd2 "_law_begun" = true) (K2 : PySem.W.keepIn K (.ref a2) = true)
    {a3 : Addr} {od3 an3 : Option Addr} {sl3 : Array (Option Value)} {oc3 kV3 dc3 pm3 cd3 ct3 : Value}
    (A3 : PySem.W.nsIn K mainGlobals "_law_mixed" = some (some (.ref a3)))
    (lk3 : K.lookup a3 = some ⟨oc3, od3, .func (PySem.W.fnOf "_law_mixed" "_law_mixed" (defArgs s_law_mixed) (defBody s_law_mixed) (defScope s_law_mixed) .none kV3 dc3 pm3 an3 cd3 ct3), sl3⟩)
    (C3 : PySem.W.codeIn K cd3 "_law_mixed" = true) (K3 : PySem.W.keepIn K (.ref a3) = true)
    {a4 : Addr} {od4 an4 : Option Addr} {sl4 : Array (Option Value)} {oc4 kV4 dc4 pm4 cd4 ct4 : Value}
    (A4 : PySem.W.nsIn K mainGlobals "_law_draw" = some (some (.ref a4)))
    (lk4 : K.lookup a4 = some ⟨oc4, od4, .func (PySem.W.fnOf "_law_draw" "_law_draw" (defArgs s_law_draw) (defBody s_law_draw) (defScope s_law_draw) .none kV4 dc4 pm4 an4 cd4 ct4), sl4⟩)
    (C4 : PySem.W.codeIn K cd4 "_law_draw" = true) (K4 : PySem.W.keepIn K (.ref a4) = true)
    {a5 : Addr} {od5 an5 : Option Addr} {sl5 : Array (Option Value)} {oc5 kV5 dc5 pm5 cd5 ct5 : Value}
    (A5 : PySem.W.nsIn K mainGlobals "_law_sum" = some (some (.ref a5)))
    (lk5 : K.lookup a5 = some ⟨oc5, od5, .func (PySem.W.fnOf "_law_sum" "_law_sum" (defArgs s_law_sum) (defBody s_law_sum) (defScope s_law_sum) .none kV5 dc5 pm5 an5 cd5 ct5), sl5⟩)
    (C5 : PySem.W.codeIn K cd5 "_law_sum" = true) (K5 : PySem.W.keepIn K (.ref a5) = true)
    {a6 : Addr} {od6 an6 : Option Addr} {sl6 : Array (Option Value)} {oc6 kV6 dc6 pm6 cd6 ct6 : Value}
    (A6 : PySem.W.nsIn K mainGlobals "is_whole" = some (some (.ref a6)))
    (lk6 : K.lookup a6 = some ⟨oc6, od6, .func (PySem.W.fnOf "is_whole" "is_whole" (defArgs s_is_whole) (defBody s_is_whole) (defScope s_is_whole) .none kV6 dc6 pm6 an6 cd6 ct6), sl6⟩)
    (C6 : PySem.W.codeIn K cd6 "is_whole" = true) (K6 : PySem.W.keepIn K (.ref a6) = true)
    {a7 : Addr} {od7 an7 : Option Addr} {sl7 : Array (Option Value)} {oc7 kV7 dc7 pm7 cd7 ct7 : Value}
    (A7 : PySem.W.nsIn K mainGlobals "need_sum" = some (some (.ref a7)))
    (lk7 : K.lookup a7 = some ⟨oc7, od7, .func (PySem.W.fnOf "need_sum" "need_sum" (defArgs s_need_sum) (defBody s_need_sum) (defScope s_need_sum) .none kV7 dc7 pm7 an7 cd7 ct7), sl7⟩)
    (C7 : PySem.W.codeIn K cd7 "need_sum" = true) (K7 : PySem.W.keepIn K (.ref a7) = true)
    {a8 : Addr} {od8 an8 : Option Addr} {sl8 : Array (Option Value)} {oc8 kV8 dc8 pm8 cd8 ct8 : Value}
    (A8 : PySem.W.nsIn K mainGlobals "half" = some (some (.ref a8)))
    (lk8 : K.lookup a8 = some ⟨oc8, od8, .func (PySem.W.fnOf "half" "half" (defArgs s_half) (defBody s_half) (defScope s_half) .none kV8 dc8 pm8 an8 cd8 ct8), sl8⟩)
    (C8 : PySem.W.codeIn K cd8 "half" = true) (K8 : PySem.W.keepIn K (.ref a8) = true)
    {a9 : Addr} {od9 an9 : Option Addr} {sl9 : Array (Option Value)} {oc9 kV9 dc9 pm9 cd9 ct9 : Value}
    (A9 : PySem.W.nsIn K mainGlobals "_law_right" = some (some (.ref a9)))
    (lk9 : K.lookup a9 = some ⟨oc9, od9, .func (PySem.W.fnOf "_law_right" "_law_right" (defArgs s_law_right) (defBody s_law_right) (defScope s_law_right) .none kV9 dc9 pm9 an9 cd9 ct9), sl9⟩)
    (C9 : PySem.W.codeIn K cd9 "_law_right" = true) (K9 : PySem.W.keepIn K (.ref a9) = true)
    {a10 : Addr} {od10 an10 : Option Addr} {sl10 : Array (Option Value)} {oc10 kV10 dc10 pm10 cd10 ct10 : Value}
    (A10 : PySem.W.nsIn K mainGlobals "law" = some (some (.ref a10)))
    (lk10 : K.lookup a10 = some ⟨oc10, od10, .func (PySem.W.fnOf "law" "law" (defArgs s_law) (defBody s_law) (defScope s_law) .none kV10 dc10 pm10 an10 cd10 ct10), sl10⟩)
    (C10 : PySem.W.codeIn K cd10 "law" = true) (K10 : PySem.W.keepIn K (.ref a10) = true)
    {a11 : Addr} (A11 : PySem.W.nsIn K mainGlobals "BadHalf" = some (some (.ref a11))) (E11 : PySem.W.excIn K a11 [.type "ValueError", .type "Exception", .type "BaseException", .type "object"] "ValueError.__new__" = true) (K11 : PySem.W.keepIn K (.ref a11) = true) (S11 : PySem.W.subIn K (.ref a11) (.type "BaseException") = some true) (T11 : PySem.W.typeIn K (.ref a11) = some (.type "type"))
    {a12 : Addr} (A12 : PySem.W.nsIn K mainGlobals "BadSum" = some (some (.ref a12))) (E12 : PySem.W.excIn K a12 [.type "ValueError", .type "Exception", .type "BaseException", .type "object"] "ValueError.__new__" = true) (K12 : PySem.W.keepIn K (.ref a12) = true) (S12 : PySem.W.subIn K (.ref a12) (.type "BaseException") = some true) (T12 : PySem.W.typeIn K (.ref a12) = some (.type "type"))
    {t13 : Tok} (A13 : PySem.W.nsIn K mainGlobals "MOST_SUM" = some (some (.int 1000000000 t13)))
    (A14 : PySem.W.nsIn K mainGlobals "all" = some none)
    (A15 : PySem.W.nsIn K mainGlobals "bool" = some none)
    (A16 : PySem.W.nsIn K mainGlobals "enumerate" = some none)
    (A17 : PySem.W.nsIn K mainGlobals "int" = some none)
    (A18 : PySem.W.nsIn K mainGlobals "isinstance" = some none)
    (A19 : PySem.W.nsIn K mainGlobals "len" = some none)
    (A20 : PySem.W.nsIn K mainGlobals "list" = some none)
    (A21 : PySem.W.nsIn K mainGlobals "range" = some none)
    (A22 : PySem.W.nsIn K mainGlobals "sum" = some none)
    : ∃ fd : FuncData, (∀ (s : Shared) (v : Value), BindsTo s fd ⟨[v], []⟩ [("_law_script", v)]) ∧ ∀ base : Heap, K.In base → base.Ns mainGlobals mg → FnOk l.prog w K mg base (L2.CX l.prog w) 6 fa fd ["_law_script"] (spLaw K) := by
  have e := hfa.symm.trans (PySem.W.mg_of X G A10)
  cases e
  exact ⟨PySem.W.fnOf "law" "law" (defArgs s_law) (defBody s_law) (defScope s_law) .none kV10 dc10 pm10 an10 cd10 ct10, fun s v => .of_eq rfl, fun base _ _ => (ok_law (tx_mk X G A1 lk1 C1 K1 A2 lk2 C2 K2 A3 lk3 C3 K3 A4 lk4 C4 K4 A5 lk5 C5 K5 A6 lk6 C6 K6 A7 lk7 C7 K7 A8 lk8 C8 K8 A9 lk9 C9 K9 A10 lk10 C10 K10 A11 E11 K11 S11 T11 A12 E12 K12 S12 T12 A13 A14 A15 A16 A17 A18 A19 A20 A21 A22)).imp fun vs H Q E h => law_sp law_true h⟩
end K04
open PySem PySem.W PyProof.Rows
set_option maxRecDepth 100000 in
set_option maxHeartbeats 0 in
theorem PySem.Challenge.cw_pennyroll_k04_halves_holds : PySem.Challenge.rw_pennyroll_k04_halves.Holds := by
  w_on; o_law; k_head; (case hw => w_witness2)
  k_fill
  refine L2.walk_of (l := PySem.Challenge.rw_pennyroll_k04_halves) (n := 63) (k := 6) (x := "_law_script") (CX := fun w => L2.CX PySem.Challenge.pw_pennyroll_k04_halves w) (sp := fun w => DL.spLaw _) rfl (by decide) rfl ⟨rfl, by decide, by decide⟩ (fun w h Y => PySem.W.kIn_of Y) ?F (fun _ H a ns hl _ hS => ⟨a, ns, rfl, hS, hl, fun _ => rfl⟩) (fun _ _ _ _ _ h => DL.no_cx h)
  case F =>
    intro w mg fa h KX G hmg
    refine' K04.all_mk KX G hmg ?A1 ?lk1 ?C1 ?K1 ?A2 ?lk2 ?C2 ?K2 ?A3 ?lk3 ?C3 ?K3 ?A4 ?lk4 ?C4 ?K4 ?A5 ?lk5 ?C5 ?K5 ?A6 ?lk6 ?C6 ?K6 ?A7 ?lk7 ?C7 ?K7 ?A8 ?lk8 ?C8 ?K8 ?A9 ?lk9 ?C9 ?K9 ?A10 ?lk10 ?C10 ?K10 ?A11 ?E11 ?K11 ?S11 ?T11 ?A12 ?E12 ?K12 ?S12 ?T12 ?A13 ?A14 ?A15 ?A16 ?A17 ?A18 ?A19 ?A20 ?A21 ?A22
    (case A1 => k_is)
    (case lk1 => k_is)
    (case C1 => k_is)
    (case K1 => k_is)
    (case A2 => k_is)
    (case lk2 => k_is)
    (case C2 => k_is)
    (case K2 => k_is)
    (case A3 => k_is)
    (case lk3 => k_is)
    (case C3 => k_is)
    (case K3 => k_is)
    (case A4 => k_is)
    (case lk4 => k_is)
    (case C4 => k_is)
    (case K4 => k_is)
    (case A5 => k_is)
    (case lk5 => k_is)
    (case C5 => k_is)
    (case K5 => k_is)
    (case A6 => k_is)
    (case lk6 => k_is)
    (case C6 => k_is)
    (case K6 => k_is)
    (case A7 => k_is)
    (case lk7 => k_is)
    (case C7 => k_is)
    (case K7 => k_is)
    (case A8 => k_is)
    (case lk8 => k_is)
    (case C8 => k_is)
    (case K8 => k_is)
    (case A9 => k_is)
    (case lk9 => k_is)
    (case C9 => k_is)
    (case K9 => k_is)
    (case A10 => k_is)
    (case lk10 => k_is)
    (case C10 => k_is)
    (case K10 => k_is)
    (case A11 => k_is)
    (case E11 => k_exc)
    (case K11 => k_is)
    (case S11 => k_is)
    (case T11 => k_is)
    (case A12 => k_is)
    (case E12 => k_exc)
    (case K12 => k_is)
    (case S12 => k_is)
    (case T12 => k_is)
    (case A13 => k_is)
    (case A14 => k_is)
    (case A15 => k_is)
    (case A16 => k_is)
    (case A17 => k_is)
    (case A18 => k_is)
    (case A19 => k_is)
    (case A20 => k_is)
    (case A21 => k_is)
    (case A22 => k_is)

