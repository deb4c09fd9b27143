import PyProof.Rows.All
import Wide.All
import OpenK.AllK
import Wide.FinOn
import HandS.ForMost
import HandS.Evl
import HandS.TupAny
import HandS.TupMul
import HandS.Deep
import HandS.Style
import HandS.Flt
import HandS.More
import HandS.Iter
import HandS.Comp
import HandS.IsInst
import PySem.Challenge.RW_betweenanytwosteps_k60_whole_rings_word
set_option Elab.async false
set_option linter.all false
set_option maxRecDepth 100000
set_option maxHeartbeats 4000000
/-! Dn1: deep data D, trees S, how the heap bears them (Rep, Tr), the state relation SR and its steps. -/
namespace Dn
open PySem PySem.Spec PyProof.Rows L2
open Evl (Ex)

/-- frozen data -/
inductive D where
  | non | bl (b : Bool) | int (i : Int) | str (x : Str)
  | tup (l : List D) | wtu (l : List D) | lst (l : List D) | scr (l : List D) | dic (l : List (D × D)) | obj (c : Nat) (l : List D)
  deriving Inhabited
/-- a tree of cells that may still change; f: frozen; r: read only; w: borrowed; u: nothing -/
inductive S where
  | f (d : D) | l (xs : List S) | m (kvs : List (D × S)) | o (c : Nat) (xs : List S) | r (s : S) | w (s : S) | u
  deriving Inhabited

/-- what the rules ask of the text's own classes -/
structure Tb where
  K : PySem.W.Frag
  cls : Nat → Option (Addr × List Str)
  exc : Nat → Option (Addr × List Str)

def kD : Key → D
  | .inl i => .int i
  | .inr x => .str x
def tkD (k : List Key) : D := .tup (k.map kD)

/-- a dict stands at a: its keys, its values -/
def DicO (o : HO) (ks : List D) (vs : List V) : Prop :=
  (∃ kvs, o = .dK kvs ∧ ks = kvs.map (fun p => kD p.1) ∧ vs = kvs.map (·.2)) ∨
  (∃ kvs, o = .dT kvs ∧ ks = kvs.map (fun p => tkD p.1) ∧ vs = kvs.map (·.2))

mutual
inductive Rep (T : Tb) (F : Hp) : V → D → Prop
  | non : Rep T F .non .non
  | bl (b : Bool) : Rep T F (.bl b) (.bl b)
  | int (i : Int) : Rep T F (.int i) (.int i)
  | str (x : Str) : Rep T F (.str x) (.str x)
  | tup {a : Addr} {xs : List V} {ds : List D} : F a = some (.tup xs) → RepAll T F xs ds → Rep T F (.ref a) (.tup ds)
  | wtu {a : Addr} {xs : List V} {ds : List D} : SqT T.K F a xs → RepAll T F xs ds → Rep T F (.ref a) (.wtu ds)
  | lst {a : Addr} {xs : List V} {ds : List D} : F a = some (.lst xs) → RepAll T F xs ds → Rep T F (.ref a) (.lst ds)
  | scr {a : Addr} {xs : List V} {ds : List D} : SqL T.K F a xs → RepAll T F xs ds → Rep T F (.ref a) (.scr ds)
  | dic {a : Addr} {o : HO} {ks : List D} {vs : List V} {kvs : List (D × D)} : Rd F a o → DicO o ks vs → ks = kvs.map (·.1) → RepAll T F vs (kvs.map (·.2)) → Rep T F (.ref a) (.dic kvs)
  | obj {a C dx : Addr} {fs : List (Str × V)} {c : Nat} {ns : List Str} {ds : List D} : F a = some (.ins C dx fs) → T.cls c = some (C, ns) → fs.map (·.1) = ns.take fs.length → RepAll T F (fs.map (·.2)) ds → Rep T F (.ref a) (.obj c ds)
inductive RepAll (T : Tb) (F : Hp) : List V → List D → Prop
  | nil : RepAll T F [] []
  | cons {v : V} {vs : List V} {d : D} {ds : List D} : Rep T F v d → RepAll T F vs ds → RepAll T F (v :: vs) (d :: ds)
end

mutual
inductive Tr (T : Tb) (F H : Hp) : V → S → List Addr → Prop
  | f {v : V} {d : D} : Rep T F v d → Tr T F H v (.f d) []
  | l {p : Addr} {xs : List V} {ss : List S} {fp : List Addr} : H p = some (.lst xs) → TrAll T F H xs ss fp → Tr T F H (.ref p) (.l ss) (p :: fp)
  | m {p : Addr} {o : HO} {ks : List D} {vs : List V} {kvs : List (D × S)} {fp : List Addr} : H p = some o → DicO o ks vs → ks = kvs.map (·.1) → TrAll T F H vs (kvs.map (·.2)) fp → Tr T F H (.ref p) (.m kvs) (p :: fp)
  | o {p C dx : Addr} {fs : List (Str × V)} {c : Nat} {ns : List Str} {ss : List S} {fp : List Addr} : H p = some (.ins C dx fs) → T.cls c = some (C, ns) → fs.map (·.1) = ns.take fs.length → TrAll T F H (fs.map (·.2)) ss fp → Tr T F H (.ref p) (.o c ss) (p :: fp)
inductive TrAll (T : Tb) (F H : Hp) : List V → List S → List Addr → Prop
  | nil : TrAll T F H [] [] []
  | cons {v : V} {vs : List V} {s : S} {ss : List S} {f g : List Addr} : Tr T F H v s f → TrAll T F H vs ss g → TrAll T F H (v :: vs) (s :: ss) (f ++ g)
end

section
variable {T : Tb} {F F' H H' : Hp}
theorem ex_rd {a : Addr} {u : HO} (e : Ex F F') (h : Rd F a u) : Rd F' a u := Evl.ex_rd e h
mutual
theorem Rep.mono (e : Ex F F') : ∀ {v : V} {d : D}, Rep T F v d → Rep T F' v d
  | _, _, .non => .non
  | _, _, .bl b => .bl b
  | _, _, .int i => .int i
  | _, _, .str x => .str x
  | _, _, .tup h r => .tup (e _ _ h) (RepAll.mono e r)
  | _, _, .wtu h r => .wtu (Evl.ex_t e h) (RepAll.mono e r)
  | _, _, .lst h r => .lst (e _ _ h) (RepAll.mono e r)
  | _, _, .scr h r => .scr (Evl.ex_l e h) (RepAll.mono e r)
  | _, _, .dic h d k r => .dic (ex_rd e h) d k (RepAll.mono e r)
  | _, _, .obj h c n r => .obj (e _ _ h) c n (RepAll.mono e r)
theorem RepAll.mono (e : Ex F F') : ∀ {vs : List V} {ds : List D}, RepAll T F vs ds → RepAll T F' vs ds
  | _, _, .nil => .nil
  | _, _, .cons h r => .cons (Rep.mono e h) (RepAll.mono e r)
end
mutual
/-- the cells of the tree stand, the frozen ones stay -/
theorem Tr.keep (e : Ex F F') : ∀ {v : V} {s : S} {f : List Addr}, Tr T F H v s f → (∀ a ∈ f, H' a = H a) → Tr T F' H' v s f
  | _, _, _, .f h, _ => .f (h.mono e)
  | _, _, _, .l h r, k => .l ((k _ (List.mem_cons_self ..)).trans h) (TrAll.keep e r fun a ha => k a (List.mem_cons_of_mem _ ha))
  | _, _, _, .m h d q r, k => .m ((k _ (List.mem_cons_self ..)).trans h) d q (TrAll.keep e r fun a ha => k a (List.mem_cons_of_mem _ ha))
  | _, _, _, .o h c n r, k => .o ((k _ (List.mem_cons_self ..)).trans h) c n (TrAll.keep e r fun a ha => k a (List.mem_cons_of_mem _ ha))
theorem TrAll.keep (e : Ex F F') : ∀ {vs : List V} {ss : List S} {f : List Addr}, TrAll T F H vs ss f → (∀ a ∈ f, H' a = H a) → TrAll T F' H' vs ss f
  | _, _, _, .nil, _ => .nil
  | _, _, _, .cons h r, k => .cons (Tr.keep e h fun a ha => k a (List.mem_append_left _ ha)) (TrAll.keep e r fun a ha => k a (List.mem_append_right _ ha))
end
mutual
theorem Tr.tracked : ∀ {v : V} {s : S} {f : List Addr}, Tr T F H v s f → ∀ a ∈ f, ∃ o, H a = some o
  | _, _, _, .f _, a, ha => nomatch ha
  | _, _, _, .l h r, a, ha => by
    rcases List.mem_cons.mp ha with e | ha
    · subst e; exact ⟨_, h⟩
    · exact TrAll.tracked r a ha
  | _, _, _, .m h _ _ r, a, ha => by
    rcases List.mem_cons.mp ha with e | ha
    · subst e; exact ⟨_, h⟩
    · exact TrAll.tracked r a ha
  | _, _, _, .o h _ _ r, a, ha => by
    rcases List.mem_cons.mp ha with e | ha
    · subst e; exact ⟨_, h⟩
    · exact TrAll.tracked r a ha
theorem TrAll.tracked : ∀ {vs : List V} {ss : List S} {f : List Addr}, TrAll T F H vs ss f → ∀ a ∈ f, ∃ o, H a = some o
  | _, _, _, .nil, a, ha => nomatch ha
  | _, _, _, .cons h r, a, ha => by
    rcases List.mem_append.mp ha with ha | ha
    · exact Tr.tracked h a ha
    · exact TrAll.tracked r a ha
end
theorem Tr.ext (e : Ex F F') (k : Ex H H') {v : V} {s : S} {f : List Addr} (h : Tr T F H v s f) : Tr T F' H' v s f :=
  h.keep e fun a ha => by
    obtain ⟨o, q⟩ := h.tracked a ha
    rw [q]; exact k a o q
theorem TrAll.ext (e : Ex F F') (k : Ex H H') {v : List V} {s : List S} {f : List Addr} (h : TrAll T F H v s f) : TrAll T F' H' v s f :=
  h.keep e fun a ha => by
    obtain ⟨o, q⟩ := h.tracked a ha
    rw [q]; exact k a o q
theorem TrAll.len : ∀ {vs : List V} {ss : List S} {f : List Addr}, TrAll T F H vs ss f → vs.length = ss.length
  | _, _, _, .nil => rfl
  | _, _, _, .cons _ r => by rw [List.length_cons, List.length_cons, TrAll.len r]
theorem RepAll.len : ∀ {vs : List V} {ss : List D}, RepAll T F vs ss → vs.length = ss.length
  | _, _, .nil => rfl
  | _, _, .cons _ r => by rw [List.length_cons, List.length_cons, RepAll.len r]
theorem RepAll.get : ∀ {vs : List V} {ds : List D} {i : Nat} {d : D}, RepAll T F vs ds → ds[i]? = some d → ∃ v, vs[i]? = some v ∧ Rep T F v d
  | _, _, i, d, .nil, e => by simp at e
  | _, _, 0, d, .cons h r, e => by
    simp at e; subst e; exact ⟨_, rfl, h⟩
  | _, _, i + 1, d, .cons h r, e => by
    obtain ⟨v, q1, q2⟩ := RepAll.get (i := i) r (by simpa using e)
    exact ⟨v, by simpa using q1, q2⟩
theorem TrAll.get : ∀ {vs : List V} {ds : List S} {f : List Addr} {i : Nat} {d : S}, TrAll T F H vs ds f → ds[i]? = some d → ∃ v g, vs[i]? = some v ∧ Tr T F H v d g ∧ (∀ a ∈ g, a ∈ f) ∧ (f.Nodup → g.Nodup)
  | _, _, _, i, d, .nil, e => by simp at e
  | _, _, _, 0, d, .cons h r, e => by
    simp at e; subst e; exact ⟨_, _, rfl, h, fun a ha => List.mem_append_left _ ha, fun hn => (List.nodup_append.mp hn).1⟩
  | _, _, _, i + 1, d, .cons h r, e => by
    obtain ⟨v, g, q1, q2, q3, q4⟩ := TrAll.get (i := i) r (by simpa using e)
    exact ⟨v, g, by simpa using q1, q2, fun a ha => List.mem_append_right _ (q3 a ha), fun hn => q4 (List.nodup_append.mp hn).2.1⟩
/-- frozen items, as trees -/
theorem RepAll.tr : ∀ {vs : List V} {ds : List D}, RepAll T F vs ds → TrAll T F H vs (ds.map .f) []
  | _, _, .nil => .nil
  | _, _, .cons h r => TrAll.cons (f := []) (g := []) (.f h) (RepAll.tr r)
end

/-! ### freezing -/
mutual
def S.frz : S → D
  | .f d => d
  | .l xs => .lst (S.frzL xs)
  | .m kvs => .dic (S.frzM kvs)
  | .o c xs => .obj c (S.frzL xs)
  | .r s => s.frz
  | .w s => s.frz
  | .u => .non
def S.frzL : List S → List D
  | [] => []
  | x :: xs => x.frz :: S.frzL xs
def S.frzM : List (D × S) → List (D × D)
  | [] => []
  | (k, x) :: xs => (k, x.frz) :: S.frzM xs
end
theorem frzM_keys : ∀ l : List (D × S), (S.frzM l).map (·.1) = l.map (·.1)
  | [] => rfl
  | (k, x) :: r => by simp only [S.frzM, List.map_cons, frzM_keys r]
theorem frzM_vals : ∀ l : List (D × S), (S.frzM l).map (·.2) = S.frzL (l.map (·.2))
  | [] => rfl
  | (k, x) :: r => by simp only [S.frzM, List.map_cons, S.frzL, frzM_vals r]
@[simp] theorem frzL_map_f : ∀ l : List D, S.frzL (l.map .f) = l
  | [] => rfl
  | x :: r => by simp only [List.map_cons, S.frzL, S.frz, frzL_map_f r]
theorem frzL_map {α : Type} (g : α → D) : ∀ l : List α, S.frzL (l.map fun a => .f (g a)) = l.map g
  | [] => rfl
  | x :: r => by simp only [List.map_cons, S.frzL, S.frz, frzL_map g r]

section
variable {T : Tb} {F F' H : Hp}
mutual
theorem Tr.freeze (e : Ex F F') : ∀ {v : V} {s : S} {f : List Addr}, Tr T F H v s f → (∀ a ∈ f, F' a = H a) → Rep T F' v s.frz
  | _, _, _, .f h, _ => h.mono e
  | _, _, _, .l h r, k => .lst ((k _ (List.mem_cons_self ..)).trans h) (TrAll.freeze e r fun a ha => k a (List.mem_cons_of_mem _ ha))
  | _, _, _, .m (kvs := kvs) h d q r, k => .dic (.inl ((k _ (List.mem_cons_self ..)).trans h)) d (q.trans (frzM_keys kvs).symm) (by
      rw [frzM_vals]
      exact TrAll.freeze e r fun a ha => k a (List.mem_cons_of_mem _ ha))
  | _, _, _, .o h c n r, k => .obj ((k _ (List.mem_cons_self ..)).trans h) c n (TrAll.freeze e r fun a ha => k a (List.mem_cons_of_mem _ ha))
theorem TrAll.freeze (e : Ex F F') : ∀ {vs : List V} {ss : List S} {f : List Addr}, TrAll T F H vs ss f → (∀ a ∈ f, F' a = H a) → RepAll T F' vs (S.frzL ss)
  | _, _, _, .nil, _ => .nil
  | _, _, _, .cons h r, k => .cons (Tr.freeze e h fun a ha => k a (List.mem_append_left _ ha)) (TrAll.freeze e r fun a ha => k a (List.mem_append_right _ ha))
end
end

/-! ### steps -/
/-- what a stretch of the run may do: O: the cells that are owned ahead, O' behind -/
structure Step (O : Addr → Prop) (F H : Hp) (O' : Addr → Prop) (F' H' : Hp) : Prop where
  ex : Ex F F'
  fr : ∀ a o, H a = some o → ¬ O a → H' a = some o
  gr : ∀ a o, F' a = some o → F a = none → H a = none ∨ O a
  ow : ∀ a, O' a → O a ∨ H a = none

section
variable {O O1 O2 P : Addr → Prop} {F F1 F2 H H1 H2 : Hp}
theorem Step.refl (O : Addr → Prop) (F H : Hp) : Step O F H O F H := ⟨Ex.refl F, fun _ _ h _ => h, fun a o h n => (by rw [h] at n; cases n), fun _ h => .inl h⟩
theorem Step.back (x : Step O F H O1 F1 H1) {a : Addr} (h : H1 a = none) : H a = none ∨ O a := by
  by_cases ho : O a
  · exact .inr ho
  · cases q : H a with
    | none => exact .inl rfl
    | some o => rw [x.fr a o q ho] at h; cases h
theorem Step.trans (x : Step O F H O1 F1 H1) (y : Step O1 F1 H1 O2 F2 H2) : Step O F H O2 F2 H2 := by
  refine ⟨x.ex.trans y.ex, fun a o h n => y.fr a o (x.fr a o h n) fun o1 => ?_, fun a o h n => ?_, fun a h => ?_⟩
  · rcases x.ow a o1 with z | z
    · exact n z
    · rw [h] at z; cases z
  · cases q : F1 a with
    | some o1 => exact x.gr a o1 q n
    | none =>
      rcases y.gr a o h q with z | z
      · exact x.back z
      · exact (x.ow a z).symm
  · rcases y.ow a h with z | z
    · exact x.ow a z
    · exact (x.back z).symm
/-- more is owned -/
theorem Step.more (x : Step O F H O1 F1 H1) (P : Addr → Prop) : Step (fun a => P a ∨ O a) F H (fun a => P a ∨ O1 a) F1 H1 :=
  ⟨x.ex, fun a o h n => x.fr a o h fun z => n (.inr z), fun a o h n => (x.gr a o h n).imp id .inr, fun a h => h.elim (fun z => .inl (.inl z)) fun z => (x.ow a z).imp .inr id⟩
theorem Step.mono (x : Step O F H O1 F1 H1) (h : ∀ a, O2 a → O1 a) : Step O F H O2 F1 H1 := ⟨x.ex, x.fr, x.gr, fun a z => x.ow a (h a z)⟩
theorem Step.wide (x : Step O F H O1 F1 H1) (h : ∀ a, O a → P a) : Step P F H O1 F1 H1 :=
  ⟨x.ex, fun a o q n => x.fr a o q fun z => n (h a z), fun a o q n => (x.gr a o q n).imp id (h a), fun a z => (x.ow a z).imp (h a) id⟩
theorem Step.cong (x : Step O F H O1 F1 H1) (h : ∀ a, P a ↔ O a) : Step P F H O1 F1 H1 := x.wide fun a z => (h a).mpr z
end

/-! ### the state -/
abbrev Env := List S
abbrev SV := L2.St
abbrev Fp := Nat → List Addr
def own (fp : Fp) (a : Addr) : Prop := ∃ i, a ∈ fp i
/-- what is fixed while a def runs: where the borrowed things stand, the cells of what is only read; the entry -/
structure Gh where
  v : Nat → V
  ρ : Nat → List Addr
  O : Addr → Prop
  F : Hp
  H : Hp
/-- the slot i holds s; β: where the borrowed ones stand -/
def SlotOk (T : Tb) (β : Gh) (fp : Fp) (σ : SV) (F H : Hp) (i : Nat) : S → Prop
  | .u => fp i = []
  | .r s => fp i = [] ∧ σ[i]? = some (some (β.v i)) ∧ Tr T F H (β.v i) s (β.ρ i) ∧ ∀ a ∈ β.ρ i, ¬ β.O a ∧ ∃ o, β.H a = some o
  | .w s => σ[i]? = some (some (β.v i)) ∧ Tr T F H (β.v i) s (fp i)
  | s => ∃ v, σ[i]? = some (some v) ∧ Tr T F H v s (fp i)
structure SR (T : Tb) (β : Gh) (fp : Fp) (σ : SV) (env : Env) (F H : Hp) : Prop where
  ex : Ex F H
  len : σ.length = env.length
  slot : ∀ (i : Nat) s, env[i]? = some s → SlotOk T β fp σ F H i s
  out : ∀ i, env.length ≤ i → fp i = []
  nd : ∀ i, (fp i).Nodup
  dj : ∀ (i j : Nat) a, a ∈ fp i → a ∈ fp j → i = j
  nF : ∀ i, ∀ a ∈ fp i, F a = none
  st : Step β.O β.F β.H (own fp) F H
section
variable {T : Tb} {β : Gh} {fp fp' : Fp} {σ : SV} {env : Env} {F F' H H' : Hp} {v : V} {s : S} {f : List Addr} {O O' : Addr → Prop}
/-- a tree that is not owned by those who step stays -/
theorem Tr.step (h : Tr T F H v s f) (x : Step O F H O' F' H') (n : ∀ a ∈ f, ¬ O a) : Tr T F' H' v s f :=
  h.keep x.ex fun a ha => by
    obtain ⟨o, q⟩ := h.tracked a ha
    rw [q]; exact x.fr a o q (n a ha)
theorem TrAll.step {v : List V} {s : List S} (h : TrAll T F H v s f) (x : Step O F H O' F' H') (n : ∀ a ∈ f, ¬ O a) : TrAll T F' H' v s f :=
  h.keep x.ex fun a ha => by
    obtain ⟨o, q⟩ := h.tracked a ha
    rw [q]; exact x.fr a o q (n a ha)
theorem SR.tracked (R : SR T β fp σ env F H) {a : Addr} (h : own fp a) : ∃ o, H a = some o := by
  obtain ⟨i, hi⟩ := h
  cases q : env[i]? with
  | none => rw [R.out i (List.getElem?_eq_none_iff.mp q)] at hi; cases hi
  | some s =>
    have k := R.slot i s q
    cases s with
    | u => have k : fp i = [] := k; rw [k] at hi; cases hi
    | r s => rw [k.1] at hi; cases hi
    | w s => exact k.2.tracked a hi
    | f d => obtain ⟨v, _, t⟩ := k; exact t.tracked a hi
    | l d => obtain ⟨v, _, t⟩ := k; exact t.tracked a hi
    | m d => obtain ⟨v, _, t⟩ := k; exact t.tracked a hi
    | o c d => obtain ⟨v, _, t⟩ := k; exact t.tracked a hi
theorem SR.nFo (R : SR T β fp σ env F H) {a : Addr} (h : own fp a) : F a = none := by
  obtain ⟨i, hi⟩ := h
  exact R.nF i a hi
/-- what is new only -/
structure Grow (F H F' H' : Hp) : Prop where
  exF : Ex F F'
  exH : Ex H H'
  le : Ex F' H'
  gr : ∀ a o, F' a = some o → F a = none → H a = none
theorem Grow.refl (e : Ex F H) : Grow F H F H := ⟨Ex.refl F, Ex.refl H, e, fun a o h n => (by rw [h] at n; cases n)⟩
theorem Grow.trans {F1 H1 : Hp} (x : Grow F H F1 H1) (y : Grow F1 H1 F' H') : Grow F H F' H' := by
  refine ⟨x.exF.trans y.exF, x.exH.trans y.exH, y.le, fun a o h n => ?_⟩
  cases q : F1 a with
  | some o1 => exact x.gr a o1 q n
  | none => exact Evl.fresh_back x.exH (y.gr a o h q)
theorem Grow.step (x : Grow F H F' H') (O : Addr → Prop) : Step O F H O F' H' := ⟨x.exF, fun a o h _ => x.exH a o h, fun a o h n => .inl (x.gr a o h n), fun _ h => .inl h⟩
theorem SlotOk.grow {i : Nat} (h : SlotOk T β fp σ F H i s) (x : Ex F F') (y : Ex H H') : SlotOk T β fp σ F' H' i s := by
  cases s with
  | u => exact h
  | r s => obtain ⟨a, b, c, d⟩ := h; exact ⟨a, b, c.ext x y, d⟩
  | w s => exact ⟨h.1, h.2.ext x y⟩
  | f d => obtain ⟨v, a, b⟩ := h; exact ⟨v, a, b.ext x y⟩
  | l d => obtain ⟨v, a, b⟩ := h; exact ⟨v, a, b.ext x y⟩
  | m d => obtain ⟨v, a, b⟩ := h; exact ⟨v, a, b.ext x y⟩
  | o c d => obtain ⟨v, a, b⟩ := h; exact ⟨v, a, b.ext x y⟩
theorem SR.grow (R : SR T β fp σ env F H) (x : Grow F H F' H') : SR T β fp σ env F' H' :=
  ⟨x.le, R.len, fun i s e => (R.slot i s e).grow x.exF x.exH, R.out, R.nd, R.dj, (fun i a ha => by
    cases q : F' a with
    | none => rfl
    | some o =>
      obtain ⟨u, hu⟩ := R.tracked ⟨i, ha⟩
      rw [x.gr a o q (R.nF i a ha)] at hu; cases hu), R.st.trans (x.step _)⟩
/-- what is only read is not owned -/
theorem SR.apart (R : SR T β fp σ env F H) {a : Addr} (h : ¬ β.O a ∧ ∃ o, β.H a = some o) : ¬ own fp a := fun z => by
  obtain ⟨n, o, ho⟩ := h
  rcases R.st.ow a z with q | q
  · exact n q
  · rw [ho] at q; cases q
end
end Dn

/-! Dn2: results, judgements of expressions: views DK, values DE, tests DT, argument lists DA. -/
namespace Dn
open PySem PySem.Spec PyProof.Rows L2
open Evl (Ex)

/-- the classes of the text: C address and field names, by number -/
structure CT where
  cls : Nat → Option (Addr × List Str)
  exc : Nat → Option (Addr × List Str)
abbrev Tx (X : Cx) (C : CT) : Tb := ⟨X.K, C.cls, C.exc⟩

inductive Res (α : Type) where
  | ok (a : α) (env : Env) | exc (c : Nat) (ds : List D) (env : Env) | bad
def Res.bind {α γ : Type} (x : Res α) (k : α → Env → Res γ) : Res γ :=
  match x with
  | .ok a env => k a env
  | .exc c ds env => .exc c ds env
  | .bad => .bad
@[simp] theorem Res.bind_ok {α γ : Type} (a : α) (env : Env) (k : α → Env → Res γ) : (Res.ok a env).bind k = k a env := rfl
@[simp] theorem Res.bind_exc {α γ : Type} (c : Nat) (ds : List D) (env : Env) (k : α → Env → Res γ) : (Res.exc c ds env : Res α).bind k = .exc c ds env := rfl
@[simp] theorem Res.bind_bad {α γ : Type} (k : α → Env → Res γ) : (Res.bad : Res α).bind k = .bad := rfl
def Res.of {α : Type} (o : Option α) (env : Env) : Res α :=
  match o with
  | some a => .ok a env
  | none => .bad
@[simp] theorem Res.of_some {α : Type} (a : α) (env : Env) : Res.of (some a) env = .ok a env := rfl
@[simp] theorem Res.of_none {α : Type} (env : Env) : (Res.of none env : Res α) = .bad := rfl

abbrev WXT := Value → Option Addr → SV → Hp → Prop
/-- an exception of the class c with the fields ds has been raised: its class, its dict -/
def ExcAt (T : Tb) (F H : Hp) (c : Nat) (ds : List D) (cls : Value) (d : Option Addr) : Prop :=
  ∃ (C : Addr) (ns : List Str), T.exc c = some (C, ns) ∧ cls = .ref C ∧
    ((ns = [] ∧ ds = [] ∧ d = none) ∨ ∃ (a : Addr) (fs : List (Str × V)), d = some a ∧ H a = some (.xd fs) ∧ fs.map (·.1) = ns ∧ RepAll T F (fs.map (·.2)) ds)

/-- f: the cells of a value that nobody else holds -/
structure Tmp (b : Gh) (fp : Fp) (F : Hp) (f : List Addr) : Prop where
  nd : f.Nodup
  no : ∀ a ∈ f, ¬ own fp a
  nF : ∀ a ∈ f, F a = none
  ow : ∀ a ∈ f, b.O a ∨ b.H a = none
theorem Tmp.nil {b : Gh} {fp : Fp} {F : Hp} : Tmp b fp F [] := ⟨List.nodup_nil, (fun _ h => nomatch h), (fun _ h => nomatch h), (fun _ h => nomatch h)⟩

/-- what must follow of an outcome; R says what α's values stand for -/
def GoodR {α β : Type} (T : Tb) (W : WXT) (b : Gh) (O : Addr → Prop) (σ : SV) (F H : Hp) (R : Hp → Hp → β → α → List Addr → Prop) (o : Res α) (Q : β → Hp → Prop) : Prop :=
  match o with
  | .ok a env' => ∀ fp' F' H' x f, SR T b fp' σ env' F' H' → Step O F H (fun a => a ∈ f ∨ own fp' a) F' H' → R F' H' x a f → Tmp b fp' F' f → Q x H'
  | .exc c ds env' => ∀ fp' F' H' cls d, SR T b fp' σ env' F' H' → Step O F H (own fp') F' H' → ExcAt T F' H' c ds cls d → W cls d σ H'
  | .bad => False
abbrev GoodE (T : Tb) (W : WXT) (b : Gh) (O : Addr → Prop) (σ : SV) (F H : Hp) (o : Res S) (Q : VK) : Prop := GoodR T W b O σ F H (fun F H v s f => Tr T F H v s f) o Q
abbrev GoodA (T : Tb) (W : WXT) (b : Gh) (O : Addr → Prop) (σ : SV) (F H : Hp) (o : Res (List S)) (Q : List V → Hp → Prop) : Prop := GoodR T W b O σ F H (fun F H v s f => TrAll T F H v s f) o Q
abbrev GoodT (T : Tb) (W : WXT) (b : Gh) (O : Addr → Prop) (σ : SV) (F H : Hp) (o : Res Bool) (Q : Bool → Hp → Prop) : Prop := GoodR T W b O σ F H (fun _ _ v s f => v = s ∧ f = []) o Q

/-- the state has gone on: p are the cells that are held meanwhile -/
theorem GoodR.later {α β : Type} {T : Tb} {W : WXT} {b : Gh} {O : Addr → Prop} {σ : SV} {F H F1 H1 : Hp} {fp1 : Fp} {R : Hp → Hp → β → α → List Addr → Prop} {o : Res α} {Q : β → Hp → Prop} (h : GoodR T W b O σ F H R o Q)
    (x : Step O F H (own fp1) F1 H1) : GoodR T W b (own fp1) σ F1 H1 R o Q := by
  cases o with
  | ok a env' => exact fun fp' F' H' y f r st ra tm => h fp' F' H' y f r (x.trans st) ra tm
  | exc c ds env' => exact fun fp' F' H' cls d r st ex => h fp' F' H' cls d r (x.trans st) ex
  | bad => exact h

section
variable (T : Tb)
/-- the readings' meaning -/
def SndK (t : TE) (g : Env → Option S) : Prop :=
  ∀ (b : Gh) (fp : Fp) (σ : SV) (env : Env) (F H : Hp), SR T b fp σ env F H → ∀ s, g env = some s → ∀ Q : VK, (∀ v F' H' f, Grow F H F' H' → Tr T F' H' v s f → Q v H') → t σ H Q
def SndE (W : WXT) (t : TE) (g : Env → Res S) : Prop :=
  ∀ (b : Gh) (fp : Fp) (σ : SV) (env : Env) (F H : Hp), SR T b fp σ env F H → ∀ Q : VK, GoodE T W b (own fp) σ F H (g env) Q → t σ H Q
def SndA (W : WXT) (t : TA) (g : Env → Res (List S)) : Prop :=
  ∀ (b : Gh) (fp : Fp) (σ : SV) (env : Env) (F H : Hp), SR T b fp σ env F H → ∀ Q : List V → Hp → Prop, GoodA T W b (own fp) σ F H (g env) Q → t σ H Q
def SndT (W : WXT) (t : TT) (g : Env → Res Bool) : Prop :=
  ∀ (b : Gh) (fp : Fp) (σ : SV) (env : Env) (F H : Hp), SR T b fp σ env F H → ∀ Q : Bool → Hp → Prop, GoodT T W b (own fp) σ F H (g env) Q → t σ H Q
end
def DK (X : Cx) (C : CT) (e : Expr) (g : Env → Option S) : Prop := ∃ t, PE X e t ∧ SndK (Tx X C) t g
def DE (X : Cx) (C : CT) (W : WXT) (e : Expr) (g : Env → Res S) : Prop := ∃ t, PE X e t ∧ SndE (Tx X C) W t g
def DA (X : Cx) (C : CT) (W : WXT) (es : List Expr) (g : Env → Res (List S)) : Prop := ∃ t, PA X es t ∧ SndA (Tx X C) W t g
def DT (X : Cx) (C : CT) (W : WXT) (e : Expr) (g : Env → Res Bool) : Prop := ∃ t, PT X e t ∧ SndT (Tx X C) W t g
def DW (X : Cx) (C : CT) (W : WXT) (e : Expr) (g : Env → Res Bool) : Prop := ∃ t, PW X e t ∧ SndT (Tx X C) W t g

/-! ### bringing outcomes together -/
section
variable {T : Tb} {W : WXT} {b : Gh} {O : Addr → Prop} {σ : SV} {F H : Hp}
/-- first x, then k -/
theorem GoodR.bind {α β γ δ : Type} {R : Hp → Hp → β → α → List Addr → Prop} {R' : Hp → Hp → δ → γ → List Addr → Prop} {x : Res α} {k : α → Env → Res γ} {Q : δ → Hp → Prop} {Q1 : β → Hp → Prop} (h : GoodR T W b O σ F H R' (x.bind k) Q)
    (f : ∀ a env' fp' F' H' y g, SR T b fp' σ env' F' H' → Step O F H (fun a => a ∈ g ∨ own fp' a) F' H' → R F' H' y a g → Tmp b fp' F' g → GoodR T W b O σ F H R' (k a env') Q → Q1 y H') : GoodR T W b O σ F H R x Q1 := by
  cases x with
  | ok a env' => exact fun fp' F' H' y g r st ra tm => f a env' fp' F' H' y g r st ra tm h
  | exc c ds env' => exact h
  | bad => exact h
/-- the first value is held while the second is reckoned -/
theorem GoodR.held {α δ γ β : Type} {R : Hp → Hp → β → α → List Addr → Prop} {R' : Hp → Hp → δ → γ → List Addr → Prop} {fp1 : Fp} {F1 H1 : Hp} {f : List Addr} {y : Res α} {k : α → Env → Res γ} {Q : δ → Hp → Prop} {Q1 : β → Hp → Prop} (h : GoodR T W b O σ F H R' (y.bind k) Q)
    (st : Step O F H (fun a => a ∈ f ∨ own fp1 a) F1 H1) (tm : Tmp b fp1 F1 f) (tr : ∀ a ∈ f, ∃ o, H1 a = some o)
    (g : ∀ a env' fp' F' H' z f2, SR T b fp' σ env' F' H' → Step (own fp1) F1 H1 (fun a => a ∈ f2 ∨ own fp' a) F' H' → Step O F H (fun a => a ∈ f ++ f2 ∨ own fp' a) F' H' → R F' H' z a f2 → Tmp b fp' F' f2 → Tmp b fp' F' (f ++ f2) → (∀ a ∈ f, ¬ own fp1 a) →
      GoodR T W b O σ F H R' (k a env') Q → Q1 z H') : GoodR T W b (own fp1) σ F1 H1 R y Q1 := by
  have out : ∀ {fp' : Fp} {F' H' : Hp} {f2 : List Addr}, Step (own fp1) F1 H1 (fun a => a ∈ f2 ∨ own fp' a) F' H' → ∀ a ∈ f, ¬ (a ∈ f2 ∨ own fp' a) ∧ F' a = none := fun {fp' F' H' f2} s a ha => by
    obtain ⟨o, ho⟩ := tr a ha
    have nb : ¬ (a ∈ f2 ∨ own fp' a) := fun z => by
      rcases s.ow a z with q | q
      · exact tm.no a ha q
      · rw [ho] at q; cases q
    refine ⟨nb, ?_⟩
    cases q : F' a with
    | none => rfl
    | some u =>
      rcases s.gr a u q (tm.nF a ha) with q | q
      · rw [ho] at q; cases q
      · exact absurd q (tm.no a ha)
  cases y with
  | ok a env' =>
    intro fp' F' H' z f2 r s ra tm2
    have s' : Step O F H (fun a => a ∈ f ++ f2 ∨ own fp' a) F' H' := by
      refine (st.trans (s.more fun a => a ∈ f)).mono fun a z => ?_
      rcases z with z | z
      · rcases List.mem_append.mp z with z | z
        · exact .inl z
        · exact .inr (.inl z)
      · exact .inr (.inr z)
    refine g a env' fp' F' H' z f2 r s s' ra tm2 ⟨List.nodup_append.mpr ⟨tm.nd, tm2.nd, fun x hx y hy e => ?_⟩, fun a ha => ?_, fun a ha => ?_, fun a ha => ?_⟩ tm.no h
    · subst e
      exact (out s x hx).1 (.inl hy)
    · rcases List.mem_append.mp ha with ha | ha
      · exact fun z => (out s a ha).1 (.inr z)
      · exact tm2.no a ha
    · rcases List.mem_append.mp ha with ha | ha
      · exact (out s a ha).2
      · exact tm2.nF a ha
    · rcases List.mem_append.mp ha with ha | ha
      · exact tm.ow a ha
      · exact tm2.ow a ha
  | exc c ds env' =>
    intro fp' F' H' cls d r s ex
    have h' : GoodR T W b O σ F H R' (Res.exc c ds env') Q := h
    refine h' fp' F' H' cls d r ?_ ex
    exact (st.trans (s.more fun a => a ∈ f)).mono fun a z => .inr z
  | bad => exact h
end
end Dn

/-! Dn3: expressions: names, constants, operators, comparisons, tests, argument lists, built-in calls. -/
namespace Dn
open PySem PySem.Spec PyProof.Rows L2
open Evl (Ex)

section
variable {T : Tb} {b : Gh} {fp fp' : Fp} {σ : SV} {env : Env} {F F' H H' F0 H0 : Hp} {f : List Addr} {O P : Addr → Prop}
theorem Step.fresh (st : Step O F0 H0 P F H) (G : Grow F H F' H') (hf : ∀ a ∈ f, H a = none) (hp : ∀ a, own fp a → P a) : Step O F0 H0 (fun a => a ∈ f ∨ own fp a) F' H' := by
  have s2 := st.trans (G.step P)
  refine ⟨s2.ex, s2.fr, s2.gr, fun a z => ?_⟩
  rcases z with z | z
  · exact (st.back (hf a z)).symm
  · exact s2.ow a (hp a z)
theorem Step.add {P' : Addr → Prop} (st : Step O F0 H0 P F H) (G : Grow F H F' H') (hp : ∀ a, P' a → P a ∨ H a = none) : Step O F0 H0 P' F' H' := by
  have s2 := st.trans (G.step P)
  refine ⟨s2.ex, s2.fr, s2.gr, fun a z => ?_⟩
  rcases hp a z with z | z
  · exact s2.ow a z
  · exact (st.back z).symm
theorem Tmp.fresh (R : SR T b fp σ env F H) (hf : ∀ a ∈ f, H a = none ∧ F' a = none) (nd : f.Nodup) : Tmp b fp F' f :=
  ⟨nd, (fun a ha z => by
    obtain ⟨o, ho⟩ := R.tracked z
    rw [(hf a ha).1] at ho; cases ho), fun a ha => (hf a ha).2, fun a ha => (R.st.back (hf a ha).1).symm⟩
theorem Step.toOwn (st : Step O F H (fun a => a ∈ f ∨ own fp a) F' H') : Step O F H (own fp) F' H' := st.mono fun _ z => .inr z
theorem Step.toF (st : Step O F H (own fp) F' H') : Step O F H (fun a => a ∈ ([] : List Addr) ∨ own fp a) F' H' := st.mono fun a z => z.elim (fun q => nomatch q) id
end

/-! ### freezing what is held -/
/-- F and the cells f -/
def addF (F H : Hp) (f : List Addr) : Hp := fun a => if a ∈ f then H a else F a
section
variable {T : Tb} {b : Gh} {fp : Fp} {σ : SV} {env : Env} {F H F0 H0 : Hp} {f : List Addr} {O : Addr → Prop}
theorem addF_in {a : Addr} (h : a ∈ f) : addF F H f a = H a := if_pos h
theorem addF_out {a : Addr} (h : a ∉ f) : addF F H f a = F a := if_neg h
theorem ex_addF (n : ∀ a ∈ f, F a = none) : Ex F (addF F H f) := fun a o h => by
  rw [addF_out fun z => by rw [n a z] at h; cases h]; exact h
theorem addF_ex (e : Ex F H) : Ex (addF F H f) H := fun a o h => by
  by_cases z : a ∈ f
  · rw [addF_in z] at h; exact h
  · rw [addF_out z] at h; exact e a o h
theorem SR.freeze (R : SR T b fp σ env F H) (t : Tmp b fp F f) : SR T b fp σ env (addF F H f) H :=
  ⟨addF_ex R.ex, R.len, fun i s e => (R.slot i s e).grow (ex_addF t.nF) (Ex.refl H), R.out, R.nd, R.dj, (fun i a ha => by
    rw [addF_out fun z => t.no a z ⟨i, ha⟩]; exact R.nF i a ha), R.st.ex.trans (ex_addF t.nF), R.st.fr, fun a o h n => (by
    by_cases z : a ∈ f
    · exact (t.ow a z).symm
    · rw [addF_out z] at h; exact R.st.gr a o h n), R.st.ow⟩
theorem Step.freeze (st : Step O F0 H0 (fun a => a ∈ f ∨ own fp a) F H) (t : Tmp b fp F f) : Step O F0 H0 (own fp) (addF F H f) H := by
  refine ⟨st.ex.trans (ex_addF t.nF), st.fr, fun a o h n => ?_, fun a z => st.ow a (.inr z)⟩
  by_cases z : a ∈ f
  · exact (st.ow a (.inl z)).symm
  · rw [addF_out z] at h; exact st.gr a o h n
theorem Tr.frozen {v : V} {s : S} (tr : Tr T F H v s f) (t : ∀ a ∈ f, F a = none) : Rep T (addF F H f) v s.frz := tr.freeze (ex_addF t) fun a h => addF_in h
theorem TrAll.frozen {v : List V} {s : List S} (tr : TrAll T F H v s f) (t : ∀ a ∈ f, F a = none) : RepAll T (addF F H f) v (S.frzL s) := tr.freeze (ex_addF t) fun a h => addF_in h
end

/-! ### conversions -/
def vK (g : Env → Option S) : Env → Res S := fun env =>
  match g env with
  | some (.f d) => .ok (.f d) env
  | _ => .bad
section
variable {X : Cx} {C : CT} {W : WXT}
theorem de_of {e : Expr} {g : Env → Option S} (h : DK X C e g) : DE X C W e (vK g) := by
  obtain ⟨t, ht, hs⟩ := h
  refine ⟨t, ht, fun b fp σ env F H R Q hg => ?_⟩
  have hg' : GoodE (Tx X C) W b (own fp) σ F H (match g env with | some (.f d) => .ok (.f d) env | _ => .bad) Q := hg
  cases q : g env with
  | none => rw [q] at hg'; exact False.elim hg'
  | some s =>
    rw [q] at hg'
    cases s with
    | f d =>
      refine hs b fp σ env F H R _ q Q fun v F' H' f G tr => ?_
      have hf : f = [] := by cases tr; rfl
      subst hf
      exact hg' fp F' H' v [] (R.grow G) (G.step _).toF tr Tmp.nil
    | _ => exact False.elim hg'
end

/-! ### names and constants -/
def rootS : S → Option S
  | .r s => some s
  | .w s => some s
  | .u => none
  | s => some s
def kVar (i : Nat) : Env → Option S := fun env => (env[i]?).bind rootS
def kC (d : D) : Env → Option S := fun _ => some (.f d)
theorem slot_root {T : Tb} {b : Gh} {fp : Fp} {σ : SV} {F H : Hp} {i : Nat} {s s' : S} (h : SlotOk T b fp σ F H i s) (e : rootS s = some s') : ∃ v f, σ[i]? = some (some v) ∧ Tr T F H v s' f := by
  cases s with
  | u => cases e
  | r s => cases e; exact ⟨_, _, h.2.1, h.2.2.1⟩
  | w s => cases e; exact ⟨_, _, h.1, h.2⟩
  | f d => cases e; obtain ⟨v, a, t⟩ := h; exact ⟨v, _, a, t⟩
  | l d => cases e; obtain ⟨v, a, t⟩ := h; exact ⟨v, _, a, t⟩
  | m d => cases e; obtain ⟨v, a, t⟩ := h; exact ⟨v, _, a, t⟩
  | o c d => cases e; obtain ⟨v, a, t⟩ := h; exact ⟨v, _, a, t⟩
theorem SR.root {T : Tb} {b : Gh} {fp : Fp} {σ : SV} {env : Env} {F H : Hp} (R : SR T b fp σ env F H) {i : Nat} {s : S} (e : kVar i env = some s) : ∃ v f, σ[i]? = some (some v) ∧ Tr T F H v s f := by
  unfold kVar at e
  cases q : env[i]? with
  | none => rw [q] at e; cases e
  | some x => rw [q] at e; exact slot_root (R.slot i x q) e
section
variable {X : Cx} {C : CT} {W : WXT}
theorem dk_var (i : Nat) {x : Str} {pos : Pos} (hN : X.N[i]? = some x := by rfl) (hv : Vis X.env.scope x := by first | exact Or.inl rfl | exact Or.inr (Or.inl rfl) | exact Or.inr (Or.inr rfl)) (hd : (x == ("__debug__" : Str)) = false := by decide)
    (hcd : (x == ("__classdict__" : Str)) = false := by decide) : DK X C (.Name x pos) (kVar i) :=
  ⟨_, pe_var hN hv hd hcd, fun b fp σ env F H R s e Q q => by
    obtain ⟨v, f, h1, h2⟩ := R.root e
    exact ⟨v, h1, q v F H f (Grow.refl R.ex) h2⟩⟩
theorem dk_const {e : Expr} {v : V} {d : D} (h : PE X e (tC v)) (r : ∀ F, Rep (Tx X C) F v d) : DK X C e (kC d) :=
  ⟨_, h, fun b fp σ env F H R s e Q q => by
    cases e
    exact q v F H [] (Grow.refl R.ex) (.f (r F))⟩
theorem dk_int {i j pos} : DK X C (.Constant (.int i) j pos) (kC (.int i)) := dk_const pe_int fun _ => .int i
theorem dk_bl {b j pos} : DK X C (.Constant (.bool b) j pos) (kC (.bl b)) := dk_const pe_bl fun _ => .bl b
theorem dk_non {j pos} : DK X C (.Constant .none j pos) (kC .non) := dk_const pe_non fun _ => .non
theorem dk_str {x j pos} : DK X C (.Constant (.str x) j pos) (kC (.str x)) := dk_const pe_str fun _ => .str x
theorem dk_glob {x : Str} {v : V} {u : Value} {d : D} {pos : Pos} (hg : Gl X x) (hm : X.mg x = some u) (r : RelV v u) (hr : ∀ F, Rep (Tx X C) F v d) (hd : (x == ("__debug__" : Str)) = false := by decide) : DK X C (.Name x pos) (kC d) := dk_const (pe_glob hg hm r hd) hr
end

/-! ### operators -/
/-- a two-place reading: what it makes of two trees, always new -/
def OpN (T : Tb) (r : R2) (g : S → S → Option S) : Prop :=
  ∀ (F H : Hp) (v w : V) (s1 s2 : S) (f1 f2 : List Addr) (s : S), Ex F H → Tr T F H v s1 f1 → Tr T F H w s2 f2 → g s1 s2 = some s → ∀ Q : VK,
    (∀ z F' H' f, Grow F H F' H' → Tr T F' H' z s f → (∀ a ∈ f, H a = none ∧ F' a = none) → f.Nodup → Q z H') → r v w H Q
/-- .. which may be a part of the first one -/
def OpV (T : Tb) (r : R2) (g : S → S → Option S) : Prop :=
  ∀ (F H : Hp) (v w : V) (s1 s2 : S) (f1 f2 : List Addr) (s : S), Ex F H → Tr T F H v s1 f1 → Tr T F H w s2 f2 → g s1 s2 = some s → ∀ Q : VK,
    (∀ z f, Tr T F H z s f → (∀ a ∈ f, a ∈ f1) → Q z H) → r v w H Q
def kOp2 (g : S → S → Option S) (ga gb : Env → Option S) : Env → Option S := fun env => (ga env).bind fun x => (gb env).bind fun y => g x y
def eOp2 (g : S → S → Option S) (fa fb : Env → Res S) : Env → Res S := fun env => (fa env).bind fun x e1 => (fb e1).bind fun y e2 => .of (g x y) e2
def eOp2K (g : S → S → Option S) (ga gb : Env → Option S) : Env → Res S := fun env => .of (kOp2 g ga gb env) env
section
variable {T : Tb} {W : WXT} {r : R2} {g : S → S → Option S} {ta tb : TE} {ga gb : Env → Option S} {fa fb : Env → Res S}
theorem kOp2_some {env : Env} {s : S} (e : kOp2 g ga gb env = some s) : ∃ x y, ga env = some x ∧ gb env = some y ∧ g x y = some s := by
  unfold kOp2 at e
  cases qa : ga env with
  | none => rw [qa] at e; cases e
  | some x =>
    rw [qa] at e
    cases qb : gb env with
    | none => rw [qb] at e; cases e
    | some y => rw [qb] at e; exact ⟨x, y, rfl, rfl, e⟩
theorem snd_kOp2 (hg : OpN T r g) (ha : SndK T ta ga) (hb : SndK T tb gb) : SndK T (tOp r ta tb) (kOp2 g ga gb) := fun b fp σ env F H R s e Q q => by
  obtain ⟨x, y, ea, eb, eg⟩ := kOp2_some e
  refine ha b fp σ env F H R x ea _ fun v F1 H1 f1 G1 t1 => ?_
  refine hb b fp σ env F1 H1 (R.grow G1) y eb _ fun w F2 H2 f2 G2 t2 => ?_
  exact hg F2 H2 v w x y f1 f2 s G2.le (t1.ext G2.exF G2.exH) t2 eg Q fun z F3 H3 f G3 t3 _ _ => q z F3 H3 f ((G1.trans G2).trans G3) t3
theorem snd_kOpV (hg : OpV T r g) (ha : SndK T ta ga) (hb : SndK T tb gb) : SndK T (tOp r ta tb) (kOp2 g ga gb) := fun b fp σ env F H R s e Q q => by
  obtain ⟨x, y, ea, eb, eg⟩ := kOp2_some e
  refine ha b fp σ env F H R x ea _ fun v F1 H1 f1 G1 t1 => ?_
  refine hb b fp σ env F1 H1 (R.grow G1) y eb _ fun w F2 H2 f2 G2 t2 => ?_
  exact hg F2 H2 v w x y f1 f2 s G2.le (t1.ext G2.exF G2.exH) t2 eg Q fun z f t3 _ => q z F2 H2 f (G1.trans G2) t3
/-- a new thing made behind views -/
theorem snd_eOp2K (hg : OpN T r g) (ha : SndK T ta ga) (hb : SndK T tb gb) : SndE T W (tOp r ta tb) (eOp2K g ga gb) := fun b fp σ env F H R Q q => by
  have q' : GoodE T W b (own fp) σ F H (.of (kOp2 g ga gb env) env) Q := q
  cases e : kOp2 g ga gb env with
  | none => rw [e] at q'; exact False.elim q'
  | some s =>
    rw [e] at q'
    obtain ⟨x, y, ea, eb, eg⟩ := kOp2_some e
    refine ha b fp σ env F H R x ea _ fun v F1 H1 f1 G1 t1 => ?_
    refine hb b fp σ env F1 H1 (R.grow G1) y eb _ fun w F2 H2 f2 G2 t2 => ?_
    have R2 := (R.grow G1).grow G2
    refine hg F2 H2 v w x y f1 f2 s G2.le (t1.ext G2.exF G2.exH) t2 eg Q fun z F3 H3 f G3 t3 fr nd => ?_
    exact q' fp F3 H3 z f (R2.grow G3) ((((G1.trans G2).step (own fp))).fresh G3 (fun a h => (fr a h).1) fun a z => z) t3 (Tmp.fresh R2 fr nd)
theorem snd_eOp2 (hg : OpN T r g) (ha : SndE T W ta fa) (hb : SndE T W tb fb) : SndE T W (tOp r ta tb) (eOp2 g fa fb) := fun b fp σ env F H R Q q => by
  refine ha b fp σ env F H R _ (GoodR.bind q fun x e1 fp1 F1 H1 v f1 R1 st1 t1 tm1 q1 => ?_)
  refine hb b fp1 σ e1 F1 H1 R1 _ (GoodR.held q1 st1 tm1 (fun a h => t1.tracked a h) fun y e2 fp2 F2 H2 w f2 R2 st2 st t2 tm2 tm no q2 => ?_)
  cases eg : g x y with
  | none => rw [eg] at q2; exact False.elim q2
  | some s =>
    rw [eg] at q2
    refine hg F2 H2 v w x y f1 f2 s R2.ex (t1.step st2 no) t2 eg Q fun z F3 H3 f G3 t3 fr nd => ?_
    exact q2 fp2 F3 H3 z f (R2.grow G3) (st.fresh G3 (fun a h => (fr a h).1) fun a z => .inr z) t3 (Tmp.fresh R2 fr nd)
end
section
variable {X : Cx} {C : CT} {W : WXT} {r : R2} {g : S → S → Option S} {a b : Expr} {ga gb : Env → Option S} {fa fb : Env → Res S} {pos : Pos}
theorem dk_op {op : Operator} (ho : OpR X (binaryOp op) r) (hg : OpN (Tx X C) r g) (ha : DK X C a ga) (hb : DK X C b gb) : DK X C (.BinOp a op b pos) (kOp2 g ga gb) := by
  obtain ⟨ta, pa, sa⟩ := ha
  obtain ⟨tb, pb, sb⟩ := hb
  exact ⟨_, pe_op ho pa pb, snd_kOp2 hg sa sb⟩
theorem de_op {op : Operator} (ho : OpR X (binaryOp op) r) (hg : OpN (Tx X C) r g) (ha : DE X C W a fa) (hb : DE X C W b fb) : DE X C W (.BinOp a op b pos) (eOp2 g fa fb) := by
  obtain ⟨ta, pa, sa⟩ := ha
  obtain ⟨tb, pb, sb⟩ := hb
  exact ⟨_, pe_op ho pa pb, snd_eOp2 hg sa sb⟩
theorem de_opK {op : Operator} (ho : OpR X (binaryOp op) r) (hg : OpN (Tx X C) r g) (ha : DK X C a ga) (hb : DK X C b gb) : DE X C W (.BinOp a op b pos) (eOp2K g ga gb) := by
  obtain ⟨ta, pa, sa⟩ := ha
  obtain ⟨tb, pb, sb⟩ := hb
  exact ⟨_, pe_op ho pa pb, snd_eOp2K hg sa sb⟩
theorem dk_cmp {op : CmpOp} (ho : OpR X (compareOp op) r) (hg : OpN (Tx X C) r g) (ha : DK X C a ga) (hb : DK X C b gb) (hm : behindInMarks op b = false) : DK X C (.Compare a [op] [b] pos) (kOp2 g ga gb) := by
  obtain ⟨ta, pa, sa⟩ := ha
  obtain ⟨tb, pb, sb⟩ := hb
  exact ⟨_, pe_cmpR ho pa pb hm, snd_kOp2 hg sa sb⟩
theorem de_cmp {op : CmpOp} (ho : OpR X (compareOp op) r) (hg : OpN (Tx X C) r g) (ha : DE X C W a fa) (hb : DE X C W b fb) (hm : behindInMarks op b = false) : DE X C W (.Compare a [op] [b] pos) (eOp2 g fa fb) := by
  obtain ⟨ta, pa, sa⟩ := ha
  obtain ⟨tb, pb, sb⟩ := hb
  exact ⟨_, pe_cmpR ho pa pb hm, snd_eOp2 hg sa sb⟩
end

/-! ### tests -/
def blS : S → Option Bool
  | .f (.bl c) => some c
  | _ => none
def tE (f : Env → Res S) : Env → Res Bool := fun env => (f env).bind fun s e => .of (blS s) e
def tK (g : Env → Option S) : Env → Res Bool := fun env => .of ((g env).bind blS) env
section
variable {T : Tb} {W : WXT} {t : TE} {f : Env → Res S} {g : Env → Option S}
theorem blS_some {s : S} {c : Bool} (e : blS s = some c) : s = .f (.bl c) := by
  cases s with
  | f d => cases d <;> first | cases e; rfl | cases e
  | _ => cases e
theorem Tr.bl {F H : Hp} {v : V} {c : Bool} {f : List Addr} (h : Tr T F H v (.f (.bl c)) f) : v = .bl c ∧ f = [] := by
  cases h with
  | f h => cases h; exact ⟨rfl, rfl⟩
theorem Tr.int {F H : Hp} {v : V} {c : Int} {f : List Addr} (h : Tr T F H v (.f (.int c)) f) : v = .int c ∧ f = [] := by
  cases h with
  | f h => cases h; exact ⟨rfl, rfl⟩
theorem Tr.str {F H : Hp} {v : V} {c : Str} {f : List Addr} (h : Tr T F H v (.f (.str c)) f) : v = .str c ∧ f = [] := by
  cases h with
  | f h => cases h; exact ⟨rfl, rfl⟩
theorem Tr.non {F H : Hp} {v : V} {f : List Addr} (h : Tr T F H v (.f .non) f) : v = .non ∧ f = [] := by
  cases h with
  | f h => cases h; exact ⟨rfl, rfl⟩
theorem snd_tE (h : SndE T W t f) : SndT T W (tB t) (tE f) := fun b fp σ env F H R Q q => by
  refine h b fp σ env F H R _ (GoodR.bind q fun s e1 fp1 F1 H1 v f1 R1 st1 t1 tm1 q1 => ?_)
  cases e : blS s with
  | none => rw [e] at q1; exact False.elim q1
  | some c =>
    rw [e] at q1
    have := blS_some e
    subst this
    obtain ⟨rfl, rfl⟩ := t1.bl
    exact ⟨c, rfl, q1 fp1 F1 H1 c [] R1 st1 ⟨rfl, rfl⟩ Tmp.nil⟩
theorem snd_tK (h : SndK T t g) : SndT T W (tB t) (tK g) := fun b fp σ env F H R Q q => by
  have q' : GoodT T W b (own fp) σ F H (.of ((g env).bind blS) env) Q := q
  cases e : g env with
  | none => rw [e] at q'; exact False.elim q'
  | some s =>
    rw [e] at q'
    cases e2 : blS s with
    | none =>
      have q2 : GoodT T W b (own fp) σ F H (.of (blS s) env) Q := q'
      rw [e2] at q2; exact False.elim q2
    | some c =>
      have q2 : GoodT T W b (own fp) σ F H (.of (blS s) env) Q := q'
      rw [e2] at q2
      have := blS_some e2
      subst this
      refine h b fp σ env F H R _ e _ fun v F' H' f G tr => ?_
      obtain ⟨rfl, rfl⟩ := tr.bl
      exact ⟨c, rfl, q2 fp F' H' c [] (R.grow G) (G.step _).toF ⟨rfl, rfl⟩ Tmp.nil⟩
end
section
variable {X : Cx} {C : CT} {W : WXT} {r : R2} {g : S → S → Option S} {a b : Expr} {ga gb : Env → Option S} {fa fb : Env → Res S} {pos : Pos}
theorem dt_cmp {op : CmpOp} (ho : OpR X (compareOp op) r) (hg : OpN (Tx X C) r g) (ha : DE X C W a fa) (hb : DE X C W b fb) (hm : behindInMarks op b = false) : DT X C W (.Compare a [op] [b] pos) (tE (eOp2 g fa fb)) := by
  obtain ⟨ta, pa, sa⟩ := ha
  obtain ⟨tb, pb, sb⟩ := hb
  exact ⟨_, pt_cmpR ho pa pb hm, snd_tE (snd_eOp2 hg sa sb)⟩
theorem dt_cmpK {op : CmpOp} (ho : OpR X (compareOp op) r) (hg : OpN (Tx X C) r g) (ha : DK X C a ga) (hb : DK X C b gb) (hm : behindInMarks op b = false) : DT X C W (.Compare a [op] [b] pos) (tK (kOp2 g ga gb)) := by
  obtain ⟨ta, pa, sa⟩ := ha
  obtain ⟨tb, pb, sb⟩ := hb
  exact ⟨_, pt_cmpR ho pa pb hm, snd_tK (snd_kOp2 hg sa sb)⟩
/-- a call, a name .. that is True or False -/
theorem dt_val (h : DE X C W a fa) (he : ∀ whole, isTrue a X.env whole = (do let v ← whole; standAt a.pos; holding [v] (truthy v)) := by intro _; rfl) : DT X C W a (tE fa) := by
  obtain ⟨ta, pa, sa⟩ := h
  exact ⟨_, pt_val pa he, snd_tE sa⟩
theorem dt_valK (h : DK X C a ga) (he : ∀ whole, isTrue a X.env whole = (do let v ← whole; standAt a.pos; holding [v] (truthy v)) := by intro _; rfl) : DT X C W a (tK ga) := by
  obtain ⟨ta, pa, sa⟩ := h
  exact ⟨_, pt_val pa he, snd_tK sa⟩
end
def tAndD (f g : Env → Res Bool) : Env → Res Bool := fun env => (f env).bind fun c e => if c = true then g e else .ok false e
def tOrD (f g : Env → Res Bool) : Env → Res Bool := fun env => (f env).bind fun c e => if c = true then .ok true e else g e
def tNotD (f : Env → Res Bool) : Env → Res Bool := fun env => (f env).bind fun c e => .ok (!c) e
def eIf (c : Env → Res Bool) (f g : Env → Res S) : Env → Res S := fun env => (c env).bind fun k e => if k = true then f e else g e
section
variable {T : Tb} {W : WXT} {t u : TT} {f g : Env → Res Bool}
theorem snd_and (h : SndT T W t f) (k : SndT T W u g) : SndT T W (tAnd t u) (tAndD f g) := fun b fp σ env F H R Q q => by
  refine h b fp σ env F H R _ (GoodR.bind q fun s e1 fp1 F1 H1 v f1 R1 st1 t1 tm1 q1 => ?_)
  obtain ⟨rfl, rfl⟩ := t1
  cases v with
  | true =>
    rw [if_pos rfl] at q1 ⊢
    exact k b fp1 σ e1 F1 H1 R1 Q (q1.later st1.toOwn)
  | false =>
    rw [if_neg Bool.false_ne_true] at q1 ⊢
    exact q1 fp1 F1 H1 false [] R1 st1 ⟨rfl, rfl⟩ Tmp.nil
theorem snd_or (h : SndT T W t f) (k : SndT T W u g) : SndT T W (tOr t u) (tOrD f g) := fun b fp σ env F H R Q q => by
  refine h b fp σ env F H R _ (GoodR.bind q fun s e1 fp1 F1 H1 v f1 R1 st1 t1 tm1 q1 => ?_)
  obtain ⟨rfl, rfl⟩ := t1
  cases v with
  | false =>
    rw [if_neg Bool.false_ne_true] at q1 ⊢
    exact k b fp1 σ e1 F1 H1 R1 Q (q1.later st1.toOwn)
  | true =>
    rw [if_pos rfl] at q1 ⊢
    exact q1 fp1 F1 H1 true [] R1 st1 ⟨rfl, rfl⟩ Tmp.nil
theorem snd_not (h : SndT T W t f) : SndT T W (tNot t) (tNotD f) := fun b fp σ env F H R Q q => by
  refine h b fp σ env F H R _ (GoodR.bind q fun s e1 fp1 F1 H1 v f1 R1 st1 t1 tm1 q1 => ?_)
  obtain ⟨rfl, rfl⟩ := t1
  exact q1 fp1 F1 H1 (!v) [] R1 st1 ⟨rfl, rfl⟩ Tmp.nil
theorem snd_if {ta tb : TE} {fa fb : Env → Res S} (h : SndT T W t f) (ha : SndE T W ta fa) (hb : SndE T W tb fb) : SndE T W (tIf t ta tb) (eIf f fa fb) := fun b fp σ env F H R Q q => by
  refine h b fp σ env F H R _ (GoodR.bind q fun s e1 fp1 F1 H1 v f1 R1 st1 t1 tm1 q1 => ?_)
  obtain ⟨rfl, rfl⟩ := t1
  cases v with
  | true =>
    rw [if_pos rfl] at q1 ⊢
    exact ha b fp1 σ e1 F1 H1 R1 Q (q1.later st1.toOwn)
  | false =>
    rw [if_neg Bool.false_ne_true] at q1 ⊢
    exact hb b fp1 σ e1 F1 H1 R1 Q (q1.later st1.toOwn)
end
section
variable {X : Cx} {C : CT} {W : WXT} {a c : Expr} {bs : List Expr} {b : Expr} {f g : Env → Res Bool} {fa fb : Env → Res S} {pos : Pos}
theorem dw_pt (h : DW X C W a f) : DT X C W a f := by obtain ⟨t, p, s⟩ := h; exact ⟨t, p.pt, s⟩
theorem dw_and1 (h : DT X C W a f) : DW X C W (.BoolOp .And [a] pos) f := by obtain ⟨t, p, s⟩ := h; exact ⟨t, pw_and1 p, s⟩
theorem dw_or1 (h : DT X C W a f) : DW X C W (.BoolOp .Or [a] pos) f := by obtain ⟨t, p, s⟩ := h; exact ⟨t, pw_or1 p, s⟩
theorem dw_and (h : DT X C W a f) (k : DW X C W (.BoolOp .And (b :: bs) pos) g) : DW X C W (.BoolOp .And (a :: b :: bs) pos) (tAndD f g) := by
  obtain ⟨t, p, s⟩ := h
  obtain ⟨u, p2, s2⟩ := k
  exact ⟨_, pw_and p p2, snd_and s s2⟩
theorem dw_or (h : DT X C W a f) (k : DW X C W (.BoolOp .Or (b :: bs) pos) g) : DW X C W (.BoolOp .Or (a :: b :: bs) pos) (tOrD f g) := by
  obtain ⟨t, p, s⟩ := h
  obtain ⟨u, p2, s2⟩ := k
  exact ⟨_, pw_or p p2, snd_or s s2⟩
theorem dt_not (h : DT X C W a f) : DT X C W (.UnaryOp .Not a pos) (tNotD f) := by obtain ⟨t, p, s⟩ := h; exact ⟨_, pt_not p, snd_not s⟩
theorem de_if (hc : DT X C W c f) (ha : DE X C W a fa) (hb : DE X C W b fb) : DE X C W (.IfExp c a b pos) (eIf f fa fb) := by
  obtain ⟨t, p, s⟩ := hc
  obtain ⟨ta, pa, sa⟩ := ha
  obtain ⟨tb, pb, sb⟩ := hb
  exact ⟨_, pe_ifExp p pa pb, snd_if s sa sb⟩
end
end Dn

/-! Dn4: the operators by trees. -/
namespace Dn
open PySem PySem.Spec PyProof.Rows L2
open Evl (Ex)

def fzs : List S → Option (List D)
  | [] => some []
  | .f d :: r => (fzs r).map (d :: ·)
  | _ => none
/-- a list with frozen items -/
def S.dl : S → Option (List D)
  | .f (.lst ds) => some ds
  | .f (.scr ds) => some ds
  | .l ss => fzs ss
  | _ => none
def S.dlc : S → Option (List D)
  | .f (.lst ds) => some ds
  | .l ss => fzs ss
  | _ => none
def S.dt : S → Option (List D)
  | .f (.tup ds) => some ds
  | _ => none
@[simp] theorem fzs_map : ∀ ds : List D, fzs (ds.map .f) = some ds
  | [] => rfl
  | d :: r => by simp [fzs, fzs_map r]
theorem fzs_mapf {α : Type} (g : α → D) : ∀ l : List α, fzs (l.map fun a => S.f (g a)) = some (l.map g)
  | [] => rfl
  | d :: r => by simp [fzs, fzs_mapf g r]
section
variable {T : Tb} {F H : Hp} {v : V} {s : S} {f : List Addr}
theorem fzs_rep : ∀ {xs : List V} {ss : List S} {fp : List Addr} {ds : List D}, TrAll T F H xs ss fp → fzs ss = some ds → RepAll T F xs ds ∧ fp = []
  | _, _, _, _, .nil, e => by cases e; exact ⟨.nil, rfl⟩
  | _, _, _, _, .cons (s := s) (ss := ss) h r, e => by
    cases s with
    | f d =>
      simp only [fzs] at e
      cases q : fzs ss with
      | none => rw [q] at e; cases e
      | some ds' =>
        rw [q] at e; cases e
        obtain ⟨h1, h2⟩ := fzs_rep r q
        cases h with
        | f h => exact ⟨.cons h h1, by rw [h2]; rfl⟩
    | _ => cases e
theorem Tr.dlc {ds : List D} (h : Tr T F H v s f) (e : s.dlc = some ds) (ex : Ex F H) : ∃ a xs, v = .ref a ∧ H a = some (.lst xs) ∧ RepAll T F xs ds := by
  cases h with
  | f h =>
    cases h with
    | lst h1 h2 => cases e; exact ⟨_, _, rfl, ex _ _ h1, h2⟩
    | _ => cases e
  | l h1 h2 => exact ⟨_, _, rfl, h1, (fzs_rep h2 e).1⟩
  | m _ _ _ _ => cases e
  | o _ _ _ _ => cases e
theorem Tr.dl {ds : List D} (h : Tr T F H v s f) (e : s.dl = some ds) (ex : Ex F H) : ∃ a xs, v = .ref a ∧ SqL T.K H a xs ∧ RepAll T F xs ds := by
  cases h with
  | f h =>
    cases h with
    | lst h1 h2 => cases e; exact ⟨_, _, rfl, .of (ex _ _ h1), h2⟩
    | scr h1 h2 => cases e; exact ⟨_, _, rfl, Evl.ex_l ex h1, h2⟩
    | _ => cases e
  | l h1 h2 => exact ⟨_, _, rfl, .of h1, (fzs_rep h2 e).1⟩
  | m _ _ _ _ => cases e
  | o _ _ _ _ => cases e
theorem Tr.dt {ds : List D} (h : Tr T F H v s f) (e : s.dt = some ds) : ∃ a xs, v = .ref a ∧ F a = some (.tup xs) ∧ RepAll T F xs ds := by
  cases h with
  | f h =>
    cases h with
    | tup h1 h2 => cases e; exact ⟨_, _, rfl, h1, h2⟩
    | _ => cases e
  | l _ _ => cases e
  | m _ _ _ _ => cases e
  | o _ _ _ _ => cases e
theorem RepAll.app : ∀ {xs ys : List V} {ds es : List D}, RepAll T F xs ds → RepAll T F ys es → RepAll T F (xs ++ ys) (ds ++ es)
  | _, _, _, _, .nil, k => k
  | _, _, _, _, .cons h r, k => .cons h (RepAll.app r k)
theorem RepAll.drop : ∀ (n : Nat) {xs : List V} {ds : List D}, RepAll T F xs ds → RepAll T F (xs.drop n) (ds.drop n)
  | 0, _, _, h => h
  | _ + 1, _, _, .nil => .nil
  | n + 1, _, _, .cons _ r => RepAll.drop n r
theorem RepAll.take : ∀ (n : Nat) {xs : List V} {ds : List D}, RepAll T F xs ds → RepAll T F (xs.take n) (ds.take n)
  | 0, _, _, _ => .nil
  | _ + 1, _, _, .nil => .nil
  | n + 1, _, _, .cons h r => .cons h (RepAll.take n r)
theorem RepAll.rep {xs : List V} {ds : List D} (h : RepAll T F xs ds) : ∀ k : Nat, RepAll T F (List.replicate k xs).flatten (List.replicate k ds).flatten
  | 0 => .nil
  | k + 1 => by rw [List.replicate_succ, List.replicate_succ, List.flatten_cons, List.flatten_cons]; exact h.app (RepAll.rep h k)
theorem RepAll.rev {xs : List V} {ds : List D} (h : RepAll T F xs ds) : RepAll T F xs.reverse ds.reverse := by
  induction h using RepAll.rec (motive_1 := fun _ _ _ => True) with
  | nil => exact .nil
  | cons h r _ ih => rw [List.reverse_cons, List.reverse_cons]; exact ih.app (.cons h .nil)
  | _ => trivial
/-- a new list, a new tuple -/
theorem newL {xs : List V} {ds : List D} {p : Addr} (h : RepAll T F xs ds) (ex : Ex F H) (hp : H p = none) :
    Grow F H F (upd H p (.lst xs)) ∧ Tr T F (upd H p (.lst xs)) (.ref p) (.l (ds.map .f)) [p] ∧ (∀ a ∈ [p], H a = none ∧ F a = none) ∧ [p].Nodup :=
  ⟨⟨Ex.refl F, Evl.Ex.new hp, ex.trans (Evl.Ex.new hp), fun a o h n => (by rw [h] at n; cases n)⟩, .l (fp := []) upd_same h.tr, fun a ha => (by
    have : a = p := by simpa using ha
    subst this
    exact ⟨hp, Evl.fresh_back ex hp⟩), by simp⟩
theorem newT {xs : List V} {ds : List D} {p : Addr} (h : RepAll T F xs ds) (ex : Ex F H) (hp : H p = none) :
    Grow F H (upd F p (.tup xs)) (upd H p (.tup xs)) ∧ Tr T (upd F p (.tup xs)) (upd H p (.tup xs)) (.ref p) (.f (.tup ds)) [] := by
  have fp := Evl.fresh_back ex hp
  refine ⟨⟨Evl.Ex.new fp, Evl.Ex.new hp, fun a o h => ?_, fun a o h n => ?_⟩, .f (.tup upd_same (h.mono (Evl.Ex.new fp)))⟩
  · by_cases e : a = p
    · subst e; rw [upd_same] at h ⊢; exact h
    · rw [upd_ne e] at h ⊢; exact ex a o h
  · by_cases e : a = p
    · subst e; exact hp
    · rw [upd_ne e] at h; rw [h] at n; cases n
end
/-- a scalar comes out -/
theorem out0 {T : Tb} {F H : Hp} {z : V} {d : D} {Q : VK} (ex : Ex F H) (r : Rep T F z d) (q : ∀ z F' H' f, Grow F H F' H' → Tr T F' H' z (.f d) f → (∀ a ∈ f, H a = none ∧ F' a = none) → f.Nodup → Q z H') : Q z H :=
  q z F H [] (Grow.refl ex) (.f r) (fun _ h => nomatch h) List.nodup_nil

/-! ### arithmetic -/
def gII (h : Int → Int → D) (a b : S) : Option S :=
  match a, b with
  | .f (.int i), .f (.int j) => some (.f (h i j))
  | _, _ => none
def gIIc (c : Int → Int → Bool) (h : Int → Int → D) (a b : S) : Option S :=
  match a, b with
  | .f (.int i), .f (.int j) => if c i j then some (.f (h i j)) else none
  | _, _ => none
theorem gII_some {h : Int → Int → D} {a b s : S} (e : gII h a b = some s) : ∃ i j, a = .f (.int i) ∧ b = .f (.int j) ∧ s = .f (h i j) := by
  unfold gII at e
  split at e
  · cases e; exact ⟨_, _, rfl, rfl, rfl⟩
  · cases e
theorem gIIc_some {c : Int → Int → Bool} {h : Int → Int → D} {a b s : S} (e : gIIc c h a b = some s) : ∃ i j, a = .f (.int i) ∧ b = .f (.int j) ∧ c i j = true ∧ s = .f (h i j) := by
  unfold gIIc at e
  split at e
  · split at e
    · rename_i hc; cases e; exact ⟨_, _, rfl, rfl, hc, rfl⟩
    · cases e
  · cases e
section
variable {T : Tb}
theorem opn_I0 {g : Int → Int → V} {h : Int → Int → D} (hr : ∀ i j F, Rep T F (g i j) (h i j)) : OpN T (rI0 g) (gII h) := by
  intro F H v w s1 s2 f1 f2 s ex t1 t2 e Q q
  obtain ⟨i, j, rfl, rfl, rfl⟩ := gII_some e
  obtain ⟨rfl, _⟩ := t1.int
  obtain ⟨rfl, _⟩ := t2.int
  exact ⟨i, j, rfl, rfl, out0 ex (hr i j F) q⟩
theorem opn_I {C : Int → Int → Prop} {c : Int → Int → Bool} {g : Int → Int → V} {h : Int → Int → D} (hc : ∀ i j, c i j = true → C i j) (hr : ∀ i j F, Rep T F (g i j) (h i j)) : OpN T (rI C g) (gIIc c h) := by
  intro F H v w s1 s2 f1 f2 s ex t1 t2 e Q q
  obtain ⟨i, j, rfl, rfl, k, rfl⟩ := gIIc_some e
  obtain ⟨rfl, _⟩ := t1.int
  obtain ⟨rfl, _⟩ := t2.int
  exact ⟨i, j, rfl, rfl, hc i j k, out0 ex (hr i j F) q⟩
theorem opn_or {r r' : R2} {g g' : S → S → Option S} (h : OpN T r g) (h' : OpN T r' g') : OpN T (fun x y H Q => r x y H Q ∨ r' x y H Q) (fun a b => (g a b).or (g' a b)) := by
  intro F H v w s1 s2 f1 f2 s ex t1 t2 e Q q
  cases k : g s1 s2 with
  | some z =>
    simp only [k, Option.some_or] at e
    exact .inl (h F H v w s1 s2 f1 f2 s ex t1 t2 (k.trans e) Q q)
  | none =>
    simp only [k, Option.none_or] at e
    exact .inr (h' F H v w s1 s2 f1 f2 s ex t1 t2 e Q q)
end
abbrev subS : S → S → Option S := gII fun i j => .int (i - j)
def mulOk (i j : Int) : Bool := decide (i.natAbs < 18446744073709551616) || decide (j.natAbs < 18446744073709551616)
abbrev mulS : S → S → Option S := gIIc mulOk fun i j => .int (i * j)
def divOk (_ j : Int) : Bool := decide (j ≠ 0 ∧ j.natAbs < 1073741824)
abbrev divS : S → S → Option S := gIIc divOk fun i j => .int (i.fdiv j)
def modOk (_ j : Int) : Bool := decide (j ≠ 0)
abbrev modS : S → S → Option S := gIIc modOk fun i j => .int (i.fmod j)
def powOk (i j : Int) : Bool := decide (0 ≤ j ∧ j ≤ 1000000 ∧ i.natAbs < 2 ^ 64)
abbrev powS : S → S → Option S := gIIc powOk fun i j => .int (i ^ j.toNat)
abbrev addI : S → S → Option S := gII fun i j => .int (i + j)
def addT (a b : S) : Option S :=
  match a, b with
  | .f (.str x), .f (.str y) => if x.length + y.length ≤ sizeLine then some (.f (.str (x ++ y))) else none
  | _, _ => none
def catL (a b : S) : Option S :=
  match a.dlc, b.dlc with
  | some xs, some ys => if xs.length + ys.length ≤ sizeLine then some (.l ((xs ++ ys).map .f)) else none
  | _, _ => none
def catT (a b : S) : Option S :=
  match a.dt, b.dt with
  | some xs, some ys => if xs.length + ys.length ≤ sizeLine then some (.f (.tup (xs ++ ys))) else none
  | _, _ => none
def addS (a b : S) : Option S := (addI a b).or ((addT a b).or ((catL a b).or (catT a b)))
def repL (a b : S) : Option S :=
  match a.dlc, b with
  | some xs, .f (.int k) => if k.natAbs < 9223372036854775808 ∧ xs.length * k.toNat ≤ sizeLine then some (.l ((List.replicate k.toNat xs).flatten.map .f)) else none
  | _, _ => none
def repT (a b : S) : Option S :=
  match a.dt, b with
  | some xs, .f (.int k) => if xs ≠ [] ∧ 2 ≤ k ∧ k ≤ 1000 ∧ xs.length ≤ 1000 then some (.f (.tup (List.replicate k.toNat xs).flatten)) else none
  | _, _ => none
def rAddT : R2 := fun x y H Q => ∃ i j, x = .str i ∧ y = .str j ∧ i.length + j.length ≤ sizeLine ∧ Q (.str (i ++ j)) H
def rAddU (K : PySem.W.Frag) : R2 := fun x y H Q => rI0 (fun i j => .int (i + j)) x y H Q ∨ (fun x y H Q => rAddT x y H Q ∨ (fun x y H Q => rCat x y H Q ∨ rCatA K x y H Q) x y H Q) x y H Q
section
variable {T : Tb}
theorem opn_addT : OpN T rAddT addT := by
  intro F H v w s1 s2 f1 f2 s ex t1 t2 e Q q
  unfold addT at e
  split at e
  · split at e
    · rename_i x y hz
      cases e
      obtain ⟨rfl, _⟩ := t1.str
      obtain ⟨rfl, _⟩ := t2.str
      exact ⟨_, _, rfl, rfl, hz, out0 ex (.str _) q⟩
    · cases e
  · cases e
theorem opn_catL : OpN T rCat catL := by
  intro F H v w s1 s2 f1 f2 s ex t1 t2 e Q q
  unfold catL at e
  split at e
  · rename_i xs ys h1 h2
    split at e
    · rename_i hz
      cases e
      obtain ⟨a, us, rfl, ha, r1⟩ := t1.dlc h1 ex
      obtain ⟨b, ws, rfl, hb, r2⟩ := t2.dlc h2 ex
      refine ⟨a, b, us, ws, rfl, rfl, ha, hb, by rw [r1.len, r2.len]; exact hz, fun p hp => ?_⟩
      obtain ⟨G, t, fr, nd⟩ := newL (r1.app r2) ex hp
      exact q _ _ _ _ G t fr nd
    · cases e
  · cases e
theorem rep_nil_iff {F : Hp} {xs : List V} {ds : List D} (r : RepAll T F xs ds) : xs = [] ↔ ds = [] := by
  cases r with
  | nil => simp
  | cons _ _ => simp
theorem opn_catT : OpN T (rCatA T.K) catT := by
  intro F H v w s1 s2 f1 f2 s ex t1 t2 e Q q
  unfold catT at e
  split at e
  · rename_i xs ys h1 h2
    split at e
    · rename_i hz
      cases e
      obtain ⟨a, us, rfl, ha, r1⟩ := t1.dt h1
      obtain ⟨b, ws, rfl, hb, r2⟩ := t2.dt h2
      refine ⟨a, b, us, ws, rfl, rfl, .of (ex _ _ ha), .of (ex _ _ hb), by rw [r1.len, r2.len]; exact hz, fun z => ?_, fun _ z => ?_, fun _ _ p hp => ?_⟩
      · have := (rep_nil_iff r1).mp z
        subst this
        exact out0 ex (.tup hb (by simpa using r2)) q
      · have := (rep_nil_iff r2).mp z
        subst this
        exact out0 ex (.tup ha (by simpa using r1)) q
      · obtain ⟨G, t⟩ := newT (r1.app r2) ex hp
        exact q _ _ _ _ G t (fun _ h => nomatch h) List.nodup_nil
    · cases e
  · cases e
theorem opn_add : OpN T (rAddU T.K) addS := opn_or (opn_I0 fun _ _ _ => .int _) (opn_or opn_addT (opn_or opn_catL opn_catT))
theorem opn_repL : OpN T rRep repL := by
  intro F H v w s1 s2 f1 f2 s ex t1 t2 e Q q
  unfold repL at e
  split at e
  · rename_i xs k h1
    split at e
    · rename_i hz
      cases e
      obtain ⟨a, us, rfl, ha, r1⟩ := t1.dlc h1 ex
      obtain ⟨rfl, _⟩ := t2.int
      refine ⟨a, k, us, rfl, rfl, ha, by omega, by omega, by rw [r1.len]; exact hz.2, fun p hp => ?_⟩
      obtain ⟨G, t, fr, nd⟩ := newL (r1.rep k.toNat) ex hp
      exact q _ _ _ _ G t fr nd
    · cases e
  · cases e
theorem opn_repT : OpN T (rRepT T.K) repT := by
  intro F H v w s1 s2 f1 f2 s ex t1 t2 e Q q
  unfold repT at e
  split at e
  · rename_i xs k h1
    split at e
    · rename_i hz
      cases e
      obtain ⟨a, us, rfl, ha, r1⟩ := t1.dt h1
      obtain ⟨rfl, _⟩ := t2.int
      refine ⟨a, k, us, rfl, rfl, .of (ex _ _ ha), fun z => hz.1 ((rep_nil_iff r1).mp z), hz.2.1, hz.2.2.1, by rw [r1.len]; exact hz.2.2.2, fun p hp => ?_⟩
      obtain ⟨G, t⟩ := newT (r1.rep k.toNat) ex hp
      exact q _ _ _ _ G t (fun _ h => nomatch h) List.nodup_nil
    · cases e
  · cases e
theorem opn_sub : OpN T (rI0 fun i j => .int (i - j)) subS := opn_I0 fun _ _ _ => .int _
theorem opn_mul : OpN T (rI CMul fun i j => .int (i * j)) mulS := opn_I (fun i j h => by
  unfold mulOk at h
  rcases Bool.or_eq_true_iff.mp h with h | h
  · exact .inl (by have := of_decide_eq_true h; constructor <;> omega)
  · exact .inr (by have := of_decide_eq_true h; constructor <;> omega)) fun _ _ _ => .int _
theorem opn_div : OpN T (rI CDivN fun i j => .int (i.fdiv j)) divS := opn_I (fun i j h => show j ≠ 0 ∧ j.natAbs < 1073741824 from of_decide_eq_true h) fun _ _ _ => .int _
theorem opn_mod : OpN T (rI (fun _ j => j ≠ 0) fun i j => .int (i.fmod j)) modS := opn_I (fun i j h => of_decide_eq_true h) fun _ _ _ => .int _
theorem opn_pow : OpN T (rI CPow fun i j => .int (i ^ j.toNat)) powS := opn_I (fun i j h => show 0 ≤ j ∧ j ≤ 1000000 ∧ i.natAbs < 2 ^ 64 from of_decide_eq_true h) fun _ _ _ => .int _
/-- ints compared -/
abbrev ltS : S → S → Option S := gII fun i j => .bl (decide (i < j))
abbrev leS : S → S → Option S := gII fun i j => .bl (decide (i ≤ j))
abbrev gtS : S → S → Option S := gII fun i j => .bl (decide (j < i))
abbrev geS : S → S → Option S := gII fun i j => .bl (decide (j ≤ i))
theorem opn_lt : OpN T (rI0 fun i j => .bl (decide (i < j))) ltS := opn_I0 fun _ _ _ => .bl _
theorem opn_le : OpN T (rI0 fun i j => .bl (decide (i ≤ j))) leS := opn_I0 fun _ _ _ => .bl _
theorem opn_gt : OpN T (rI0 fun i j => .bl (decide (j < i))) gtS := opn_I0 fun _ _ _ => .bl _
theorem opn_ge : OpN T (rI0 fun i j => .bl (decide (j ≤ i))) geS := opn_I0 fun _ _ _ => .bl _
end
section
variable {X : Cx}
theorem op_addU : OpR X (binaryOp .Add) (rAddU X.K) := op_add.or (op_add_str.or (op_cat.or op_catA))
end
def negS (a : S) : Option S :=
  match a with
  | .f (.int i) => some (.f (.int (-i)))
  | _ => none

/-! ### equality -/
mutual
def D.toP : D → Option PyData
  | .non => some .none
  | .bl b => some (.bool b)
  | .int i => some (.int i)
  | .str x => some (.str x)
  | .tup l => (D.toPL l).map .tuple
  | .wtu l => (D.toPL l).map .tuple
  | .lst l => (D.toPL l).map .list
  | .scr l => (D.toPL l).map .list
  | .dic _ => none
  | .obj _ _ => none
def D.toPL : List D → Option (List PyData)
  | [] => some []
  | x :: r => match x.toP, D.toPL r with
    | some a, some b => some (a :: b)
    | _, _ => none
end
def S.toP (s : S) : Option PyData :=
  match s with
  | .f d => d.toP
  | s => match s.dl with
    | some ds => (D.toPL ds).map .list
    | none => none
section
variable {T : Tb} {F H : Hp}
mutual
theorem Rep.dp (ex : Ex F H) : ∀ {v : V} {d : D} {p : PyData}, Rep T F v d → d.toP = some p → Dp T.K H v p
  | _, _, _, .non, e => by cases e; exact .non
  | _, _, _, .bl b, e => by cases e; exact .bl b
  | _, _, _, .int b, e => by cases e; exact .int b
  | _, _, _, .str b, e => by cases e; exact .str b
  | _, .tup ds, _, .tup h r, e => by
    simp only [D.toP] at e
    cases q : D.toPL ds with
    | none => rw [q] at e; cases e
    | some ps => rw [q] at e; cases e; exact .tup (.of (ex _ _ h)) (RepAll.dp ex r q)
  | _, .wtu ds, _, .wtu h r, e => by
    simp only [D.toP] at e
    cases q : D.toPL ds with
    | none => rw [q] at e; cases e
    | some ps => rw [q] at e; cases e; exact .tup (Evl.ex_t ex h) (RepAll.dp ex r q)
  | _, .lst ds, _, .lst h r, e => by
    simp only [D.toP] at e
    cases q : D.toPL ds with
    | none => rw [q] at e; cases e
    | some ps => rw [q] at e; cases e; exact .lst (.of (ex _ _ h)) (RepAll.dp ex r q)
  | _, .scr ds, _, .scr h r, e => by
    simp only [D.toP] at e
    cases q : D.toPL ds with
    | none => rw [q] at e; cases e
    | some ps => rw [q] at e; cases e; exact .lst (Evl.ex_l ex h) (RepAll.dp ex r q)
  | _, _, _, .dic _ _ _ _, e => by cases e
  | _, _, _, .obj _ _ _ _, e => by cases e
theorem RepAll.dp (ex : Ex F H) : ∀ {v : List V} {d : List D} {p : List PyData}, RepAll T F v d → D.toPL d = some p → DpAll T.K H v p
  | _, _, _, .nil, e => by cases e; exact .nil
  | _, _, _, .cons (d := d) (ds := ds) h r, e => by
    simp only [D.toPL] at e
    cases q : d.toP with
    | none => rw [q] at e; cases e
    | some a =>
      cases q2 : D.toPL ds with
      | none => rw [q, q2] at e; cases e
      | some b => rw [q, q2] at e; cases e; exact .cons (Rep.dp ex h q) (RepAll.dp ex r q2)
end
theorem Tr.dp {v : V} {s : S} {f : List Addr} {p : PyData} (h : Tr T F H v s f) (ex : Ex F H) (e : s.toP = some p) : Dp T.K H v p := by
  cases s with
  | f d => cases h with | f h => exact h.dp ex e
  | l ss =>
    have e' : (match S.dl (.l ss) with | some ds => (D.toPL ds).map PyData.list | none => none) = some p := e
    cases q : S.dl (.l ss) with
    | none => rw [q] at e'; cases e'
    | some ds =>
      rw [q] at e'
      obtain ⟨a, xs, rfl, hs, r⟩ := h.dl q ex
      have e2 : (D.toPL ds).map PyData.list = some p := e'
      cases q2 : D.toPL ds with
      | none => rw [q2] at e2; cases e2
      | some ps => rw [q2] at e2; cases e2; exact .lst hs (r.dp ex q2)
  | _ => cases e
end
def eqP (a b : S) : Option Bool :=
  match a, b with
  | .f (.int i), .f (.int j) => some (decide (i = j))
  | .f (.str x), .f (.str y) => some (decide (x = y))
  | a, b => match a.toP, b.toP with
    | some x, some y => if SeqAt.shaped x && SeqAt.shaped y then some (PyData.eqv x y) else none
    | _, _ => none
def eqS (a b : S) : Option S := (eqP a b).map fun c => .f (.bl c)
def neS (a b : S) : Option S := (eqP a b).map fun c => .f (.bl (!c))
def rEqU (K : PySem.W.Frag) : R2 := fun x y H Q => rEq x y H Q ∨ rEqD K x y H Q
def rNeU (K : PySem.W.Frag) : R2 := fun x y H Q => rNe x y H Q ∨ rNeD K x y H Q
theorem op_eqU {X : Cx} (hu : X.A.units + 64 < cLine) : OpR X (compareOp .Eq) (rEqU X.K) := op_eq.or (op_eqD hu)
theorem op_neU {X : Cx} (hu : X.A.units + 64 < cLine) : OpR X (compareOp .NotEq) (rNeU X.K) := op_ne.or (op_neD hu)
theorem eqP_some {a b : S} {c : Bool} (e : eqP a b = some c) : (∃ i j, a = .f (.int i) ∧ b = .f (.int j) ∧ c = decide (i = j)) ∨ (∃ i j, a = .f (.str i) ∧ b = .f (.str j) ∧ c = decide (i = j)) ∨
    ∃ x y, a.toP = some x ∧ b.toP = some y ∧ SeqAt.shaped x = true ∧ SeqAt.shaped y = true ∧ c = PyData.eqv x y := by
  unfold eqP at e
  split at e
  · cases e; exact .inl ⟨_, _, rfl, rfl, rfl⟩
  · cases e; exact .inr (.inl ⟨_, _, rfl, rfl, rfl⟩)
  · split at e
    · rename_i x y h1 h2
      split at e
      · rename_i h
        cases e
        have := Bool.and_eq_true_iff.mp h
        exact .inr (.inr ⟨x, y, h1, h2, this.1, this.2, rfl⟩)
      · cases e
    · cases e
section
variable {T : Tb}
theorem opn_eq : OpN T (rEqU T.K) eqS := by
  intro F H v w s1 s2 f1 f2 s ex t1 t2 e Q q
  unfold eqS at e
  cases k : eqP s1 s2 with
  | none => rw [k] at e; cases e
  | some c =>
    rw [k] at e; cases e
    rcases eqP_some k with ⟨i, j, rfl, rfl, rfl⟩ | ⟨i, j, rfl, rfl, rfl⟩ | ⟨x, y, h1, h2, h3, h4, rfl⟩
    · obtain ⟨rfl, _⟩ := t1.int
      obtain ⟨rfl, _⟩ := t2.int
      refine .inl ⟨rfl, ?_⟩
      have : decide (V.int i = V.int j) = decide (i = j) := by simp
      rw [this]
      exact out0 ex (.bl _) q
    · obtain ⟨rfl, _⟩ := t1.str
      obtain ⟨rfl, _⟩ := t2.str
      refine .inl ⟨rfl, ?_⟩
      have : decide (V.str i = V.str j) = decide (i = j) := by simp
      rw [this]
      exact out0 ex (.bl _) q
    · exact .inr ⟨x, y, t1.dp ex h1, t2.dp ex h2, h3, h4, out0 ex (.bl _) q⟩
theorem opn_ne : OpN T (rNeU T.K) neS := by
  intro F H v w s1 s2 f1 f2 s ex t1 t2 e Q q
  unfold neS at e
  cases k : eqP s1 s2 with
  | none => rw [k] at e; cases e
  | some c =>
    rw [k] at e; cases e
    rcases eqP_some k with ⟨i, j, rfl, rfl, rfl⟩ | ⟨i, j, rfl, rfl, rfl⟩ | ⟨x, y, h1, h2, h3, h4, rfl⟩
    · obtain ⟨rfl, _⟩ := t1.int
      obtain ⟨rfl, _⟩ := t2.int
      refine .inl ⟨rfl, ?_⟩
      have : decide (V.int i = V.int j) = decide (i = j) := by simp
      rw [this]
      exact out0 ex (.bl _) q
    · obtain ⟨rfl, _⟩ := t1.str
      obtain ⟨rfl, _⟩ := t2.str
      refine .inl ⟨rfl, ?_⟩
      have : decide (V.str i = V.str j) = decide (i = j) := by simp
      rw [this]
      exact out0 ex (.bl _) q
    · exact .inr ⟨x, y, t1.dp ex h1, t2.dp ex h2, h3, h4, out0 ex (.bl _) q⟩
end

/-! ### is None, is True -/
def isNS (a b : S) : Option S :=
  match b with
  | .f .non => match a with
    | .f .non => some (.f (.bl true))
    | .f _ => some (.f (.bl false))
    | .l _ => some (.f (.bl false))
    | .m _ => some (.f (.bl false))
    | .o _ _ => some (.f (.bl false))
    | _ => none
  | .f (.bl y) => match a with
    | .f (.bl x) => some (.f (.bl (decide (x = y))))
    | _ => none
  | _ => none
def notS (a : Option S) : Option S :=
  match a with
  | some (.f (.bl c)) => some (.f (.bl (!c)))
  | _ => none
def notNS (a b : S) : Option S := notS (isNS a b)
def rIsNB : R2 := fun x y H Q => (y = .non ∧ Q (.bl (decide (x = .non))) H) ∨ rIsB x y H Q
def rNotNB : R2 := fun x y H Q => (y = .non ∧ Q (.bl (!decide (x = .non))) H) ∨ rNotB x y H Q
theorem op_isNB {X : Cx} : OpR X (compareOp .Is) rIsNB := op_isN.or op_isBl
theorem op_notNB {X : Cx} : OpR X (compareOp .IsNot) rNotNB := op_notN.or op_notBl
theorem isNS_some {T : Tb} {F H : Hp} {v w : V} {a b s : S} {f1 f2 : List Addr} (t1 : Tr T F H v a f1) (t2 : Tr T F H w b f2) (e : isNS a b = some s) : ∃ c, s = .f (.bl c) ∧ ((w = .non ∧ c = decide (v = .non)) ∨ ∃ x y, v = .bl x ∧ w = .bl y ∧ c = decide (x = y)) := by
  cases b with
  | f d =>
    cases d with
    | non =>
      obtain ⟨rfl, _⟩ := t2.non
      cases t1 with
      | f r => cases r <;> (cases e; exact ⟨_, rfl, .inl ⟨rfl, by simp⟩⟩)
      | l _ _ => cases e; exact ⟨_, rfl, .inl ⟨rfl, by simp⟩⟩
      | m _ _ _ _ => cases e; exact ⟨_, rfl, .inl ⟨rfl, by simp⟩⟩
      | o _ _ _ _ => cases e; exact ⟨_, rfl, .inl ⟨rfl, by simp⟩⟩
    | bl y =>
      obtain ⟨rfl, _⟩ := t2.bl
      cases t1 with
      | f r => cases r <;> first | (cases e; exact ⟨_, rfl, .inr ⟨_, _, rfl, rfl, rfl⟩⟩) | cases e
      | _ => cases e
    | _ => cases e
  | _ => cases e
section
variable {T : Tb}
theorem opn_is : OpN T rIsNB isNS := by
  intro F H v w s1 s2 f1 f2 s ex t1 t2 e Q q
  obtain ⟨c, rfl, h⟩ := isNS_some t1 t2 e
  rcases h with ⟨rfl, rfl⟩ | ⟨x, y, rfl, rfl, rfl⟩
  · exact .inl ⟨rfl, out0 ex (.bl _) q⟩
  · exact .inr ⟨x, y, rfl, rfl, out0 ex (.bl _) q⟩
theorem opn_isnot : OpN T rNotNB notNS := by
  intro F H v w s1 s2 f1 f2 s ex t1 t2 e Q q
  unfold notNS at e
  cases k : isNS s1 s2 with
  | none => rw [k] at e; cases e
  | some z =>
    obtain ⟨c, rfl, h⟩ := isNS_some t1 t2 k
    rw [k] at e; cases e
    rcases h with ⟨rfl, rfl⟩ | ⟨x, y, rfl, rfl, rfl⟩
    · exact .inl ⟨rfl, out0 ex (.bl _) q⟩
    · exact .inr ⟨x, y, rfl, rfl, out0 ex (.bl _) q⟩
end
end Dn

/-! Dn5: subscripts, slices, argument lists, displays, built-in calls, chains. -/
namespace Dn
open PySem PySem.Spec PyProof.Rows L2
open Evl (Ex)

/-! ### subscripts -/
def S.it : S → Option (List S)
  | .f (.lst ds) => some (ds.map .f)
  | .f (.scr ds) => some (ds.map .f)
  | .f (.tup ds) => some (ds.map .f)
  | .f (.wtu ds) => some (ds.map .f)
  | .l ss => some ss
  | _ => none
def ixI (a : S) (i : Int) : Option S :=
  match a with
  | .f (.str z) => if z.length ≤ sizeLine then (atI z.cps.toList i).map fun c => .f (.str ⟨#[c]⟩) else none
  | a => a.it.bind fun ss => atI ss i
def ixS (a b : S) : Option S :=
  match b with
  | .f (.int i) => ixI a i
  | _ => none
section
variable {T : Tb} {F H : Hp} {v : V} {s : S} {f : List Addr}
theorem Tr.it {ss : List S} (h : Tr T F H v s f) (e : s.it = some ss) (ex : Ex F H) : ∃ a xs g, v = .ref a ∧ (SqL T.K H a xs ∨ SqT T.K H a xs) ∧ TrAll T F H xs ss g ∧ ∀ x ∈ g, x ∈ f := by
  cases h with
  | f h =>
    cases h with
    | lst h1 h2 => cases e; exact ⟨_, _, [], rfl, .inl (.of (ex _ _ h1)), h2.tr, fun _ z => nomatch z⟩
    | scr h1 h2 => cases e; exact ⟨_, _, [], rfl, .inl (Evl.ex_l ex h1), h2.tr, fun _ z => nomatch z⟩
    | tup h1 h2 => cases e; exact ⟨_, _, [], rfl, .inr (.of (ex _ _ h1)), h2.tr, fun _ z => nomatch z⟩
    | wtu h1 h2 => cases e; exact ⟨_, _, [], rfl, .inr (Evl.ex_t ex h1), h2.tr, fun _ z => nomatch z⟩
    | _ => cases e
  | l h1 h2 => cases e; exact ⟨_, _, _, rfl, .inl (.of h1), h2, fun x z => List.mem_cons_of_mem _ z⟩
  | m _ _ _ _ => cases e
  | o _ _ _ _ => cases e
theorem atI_of {xs : List V} {ss : List S} {g : List Addr} {i : Int} {z : S} (t : TrAll T F H xs ss g) (e : atI ss i = some z) : ∃ v f, atI xs i = some v ∧ Tr T F H v z f ∧ ∀ a ∈ f, a ∈ g := by
  unfold atI at e ⊢
  rw [t.len]
  cases q : ixN ss.length i with
  | none => rw [q] at e; cases e
  | some j =>
    rw [q] at e
    obtain ⟨v, f, h1, h2, h3, _⟩ := t.get (show ss[j]? = some z from e)
    exact ⟨v, f, h1, h2, h3⟩
theorem opv_ix : OpV T (rIx T.K) ixS := by
  intro F H v w s1 s2 f1 f2 s ex t1 t2 e Q q
  unfold ixS at e
  split at e
  · rename_i i
    obtain ⟨rfl, _⟩ := t2.int
    unfold ixI at e
    split at e
    · rename_i z
      obtain ⟨rfl, _⟩ := t1.str
      split at e
      · rename_i hz
        cases k : atI z.cps.toList i with
        | none => rw [k] at e; cases e
        | some c =>
          rw [k] at e; cases e
          exact .inr (.inr ⟨z, i, c, rfl, rfl, hz, k, q _ [] (.f (.str _)) (fun _ z => nomatch z)⟩)
      · cases e
    · cases k : s1.it with
      | none => rw [k] at e; cases e
      | some ss =>
        rw [k] at e
        obtain ⟨a, xs, g, rfl, hs, tr, hg⟩ := t1.it k ex
        obtain ⟨u, f, h1, h2, h3⟩ := atI_of tr e
        rcases hs with hs | hs
        · exact .inl ⟨a, xs, i, u, rfl, rfl, hs, h1, q u f h2 fun x z => hg x (h3 x z)⟩
        · exact .inr (.inl ⟨a, xs, i, u, rfl, rfl, hs, h1, q u f h2 fun x z => hg x (h3 x z)⟩)
  · cases e
end
def frzO (o : Option S) : Option S :=
  match o with
  | some (.f d) => some (.f d)
  | _ => none
theorem frzO_some {o : Option S} {s : S} (e : frzO o = some s) : ∃ d, o = some (.f d) ∧ s = .f d := by
  unfold frzO at e
  split at e
  · cases e; exact ⟨_, rfl, rfl⟩
  · cases e
/-- x[e], x a name -/
def eIxV (i : Nat) (fb : Env → Res S) : Env → Res S := fun env =>
  match kVar i env with
  | none => .bad
  | some _ => (fb env).bind fun y e2 => .of (frzO ((kVar i e2).bind fun x => ixS x y)) e2
def eIx (fa fb : Env → Res S) : Env → Res S := fun env => (fa env).bind fun x e1 => (fb e1).bind fun y e2 => .of (frzO (ixS x y)) e2
section
variable {X : Cx} {C : CT} {W : WXT} {a b : Expr} {ga gb : Env → Option S} {fa fb : Env → Res S} {pos : Pos}
theorem dk_ix (ha : DK X C a ga) (hb : DK X C b gb) (hs : PlainIx b := by exact fun _ _ => rfl) : DK X C (.Subscript a b pos) (kOp2 ixS ga gb) := by
  obtain ⟨ta, pa, sa⟩ := ha
  obtain ⟨tb, pb, sb⟩ := hb
  exact ⟨_, pe_ix ix_seq pa pb hs, snd_kOpV opv_ix sa sb⟩
theorem de_ixV (i : Nat) {x : Str} {p : Pos} (hb : DE X C W b fb) (hN : X.N[i]? = some x := by rfl) (hv : Vis X.env.scope x := by first | exact Or.inl rfl | exact Or.inr (Or.inl rfl) | exact Or.inr (Or.inr rfl)) (hd : (x == ("__debug__" : Str)) = false := by decide)
    (hcd : (x == ("__classdict__" : Str)) = false := by decide) (hs : PlainIx b := by exact fun _ _ => rfl) : DE X C W (.Subscript (.Name x p) b pos) (eIxV i fb) := by
  obtain ⟨tb, pb, sb⟩ := hb
  refine ⟨_, pe_ix ix_seq (pe_var (i := i) hN hv hd hcd) pb hs, fun bb fp σ env F H R Q q => ?_⟩
  have q' : GoodE (Tx X C) W bb (own fp) σ F H (match kVar i env with | none => .bad | some _ => (fb env).bind fun y e2 => .of (frzO ((kVar i e2).bind fun x => ixS x y)) e2) Q := q
  cases e0 : kVar i env with
  | none => rw [e0] at q'; exact False.elim q'
  | some s0 =>
    rw [e0] at q'
    obtain ⟨v, _, hv, _⟩ := R.root e0
    refine ⟨v, hv, sb bb fp σ env F H R _ (GoodR.bind q' fun y e2 fp2 F2 H2 w f2 R2 st2 t2 tm2 q2 => ?_)⟩
    cases e : frzO ((kVar i e2).bind fun x => ixS x y) with
    | none => rw [e] at q2; exact False.elim q2
    | some s =>
      rw [e] at q2
      obtain ⟨d, e1, rfl⟩ := frzO_some e
      cases e3 : kVar i e2 with
      | none => rw [e3] at e1; cases e1
      | some x' =>
        rw [e3] at e1
        obtain ⟨v', g, h1, h2⟩ := R2.root e3
        rw [hv] at h1
        have := Option.some.inj (Option.some.inj h1)
        subst this
        refine opv_ix F2 H2 v w x' y g f2 (.f d) R2.ex h2 t2 e1 Q fun z f tz _ => ?_
        have hf : f = [] := by cases tz; rfl
        subst hf
        exact q2 fp2 F2 H2 z [] R2 (st2.mono fun a z => z.elim (fun k => nomatch k) .inr) tz Tmp.nil
theorem de_ix (ha : DE X C W a fa) (hb : DE X C W b fb) (hs : PlainIx b := by exact fun _ _ => rfl) : DE X C W (.Subscript a b pos) (eIx fa fb) := by
  obtain ⟨ta, pa, sa⟩ := ha
  obtain ⟨tb, pb, sb⟩ := hb
  refine ⟨_, pe_ix ix_seq pa pb hs, fun bb fp σ env F H R Q q => ?_⟩
  refine sa bb fp σ env F H R _ (GoodR.bind q fun x e1 fp1 F1 H1 v f1 R1 st1 t1 tm1 q1 => ?_)
  refine sb bb fp1 σ e1 F1 H1 R1 _ (GoodR.held q1 st1 tm1 (fun a h => t1.tracked a h) fun y e2 fp2 F2 H2 w f2 R2 st2 st t2 tm2 tm no q2 => ?_)
  cases e : frzO (ixS x y) with
  | none => rw [e] at q2; exact False.elim q2
  | some s =>
    rw [e] at q2
    obtain ⟨d, e1, rfl⟩ := frzO_some e
    refine opv_ix F2 H2 v w x y f1 f2 (.f d) R2.ex (t1.step st2 no) t2 e1 Q fun z f tz _ => ?_
    have hf : f = [] := by cases tz; rfl
    subst hf
    exact q2 fp2 F2 H2 z [] R2 (st.mono fun a z => z.elim (fun k => nomatch k) .inr) tz Tmp.nil
end

/-! ### slices -/
def cutD {α : Type} (xs : List α) (lo hi : Option Int) : List α := (xs.drop (HT.sIx xs.length 0 lo)).take (HT.sIx xs.length xs.length hi - HT.sIx xs.length 0 lo)
def slS (a : S) (lo hi : Option Int) : Option S :=
  match a with
  | .f (.str z) => if z.length ≤ sizeLine then some (.f (.str (cutS z lo hi))) else none
  | .f (.tup ds) => some (.f (.tup (cutD ds lo hi)))
  | a => a.dl.map fun ds => .l ((cutD ds lo hi).map .f)
def rSlU (K : PySem.W.Frag) : V → Option Int → Option Int → Hp → VK → Prop := fun x lo hi H Q => rSlS x lo hi H Q ∨ (fun x lo hi H Q => rSlA K x lo hi H Q ∨ rSlL K x lo hi H Q) x lo hi H Q
theorem sl_U {X : Cx} : SlR X (rSlU X.K) := sl_str.or (sl_tupA.or sl_list)
theorem whole_cut {α : Type} {xs : List α} {lo hi : Option Int} (h : HT.sIx xs.length 0 lo = 0 ∧ HT.sIx xs.length xs.length hi = xs.length) : cutD xs lo hi = xs := by
  unfold cutD
  rw [h.1, h.2]
  simp
theorem opn_sl {T : Tb} {F H : Hp} {v : V} {s s' : S} {f : List Addr} {lo hi : Option Int} (ex : Ex F H) (t : Tr T F H v s f) (e : slS s lo hi = some s') {Q : VK} (q : ∀ z F' H' f, Grow F H F' H' → Tr T F' H' z s' f → (∀ a ∈ f, H a = none ∧ F' a = none) → f.Nodup → Q z H') : rSlU T.K v lo hi H Q := by
  unfold slS at e
  split at e
  · rename_i z
    obtain ⟨rfl, _⟩ := t.str
    split at e
    · rename_i hz; cases e
      exact .inl ⟨z, rfl, hz, out0 ex (.str _) q⟩
    · cases e
  · rename_i ds
    cases e
    obtain ⟨a, xs, rfl, ha, r⟩ := t.dt rfl
    refine .inr (.inl ⟨a, xs, rfl, .of (ex _ _ ha), fun hw => ?_, fun hw p hp => ?_⟩)
    · have hw' := hw
      rw [r.len] at hw'
      rw [whole_cut hw'] at q
      exact out0 ex (.tup ha r) q
    · have rr : RepAll T F (cutV xs lo hi) (cutD ds lo hi) := by
        unfold cutV cutD
        rw [r.len]
        exact (r.drop _).take _
      obtain ⟨G, t⟩ := newT rr ex hp
      exact q _ _ _ _ G t (fun _ h => nomatch h) List.nodup_nil
  · cases k : s.dl with
    | none => rw [k] at e; cases e
    | some ds =>
      rw [k] at e; cases e
      obtain ⟨a, xs, rfl, ha, r⟩ := t.dl k ex
      refine .inr (.inr ⟨a, xs, rfl, ha, fun p hp => ?_⟩)
      have rr : RepAll T F (cutV xs lo hi) (cutD ds lo hi) := by
        unfold cutV cutD
        rw [r.len]
        exact (r.drop _).take _
      obtain ⟨G, t, fr, nd⟩ := newL rr ex hp
      exact q _ _ _ _ G t fr nd
/-- a bound -/
def SndO (T : Tb) (t : TO) (g : Env → Option (Option Int)) : Prop :=
  ∀ (b : Gh) (fp : Fp) (σ : SV) (env : Env) (F H : Hp), SR T b fp σ env F H → ∀ s, g env = some s → ∀ Q : Option Int → Hp → Prop, (∀ F' H', Grow F H F' H' → Q s H') → t σ H Q
def DO (X : Cx) (C : CT) (e : Option Expr) (g : Env → Option (Option Int)) : Prop := ∃ t, PO X e t ∧ SndO (Tx X C) t g
def intS : S → Option Int
  | .f (.int i) => some i
  | _ => none
theorem intS_some {s : S} {i : Int} (e : intS s = some i) : s = .f (.int i) := by
  cases s with
  | f d => cases d <;> first | (cases e; rfl) | cases e
  | _ => cases e
def kPart (g : Env → Option S) : Env → Option (Option Int) := fun env => (g env).bind fun s => (intS s).map some
def kNoPart : Env → Option (Option Int) := fun _ => some none
def kSl (g : Env → Option S) (l h : Env → Option (Option Int)) : Env → Option S := fun env => (g env).bind fun s => (l env).bind fun lo => (h env).bind fun hi => slS s lo hi
def eK (g : Env → Option S) : Env → Res S := fun env => .of (g env) env
section
variable {X : Cx} {C : CT} {W : WXT} {a b : Expr} {ga gb : Env → Option S} {pos p2 : Pos} {lo hi : Option Expr} {gl gh : Env → Option (Option Int)}
theorem do_none : DO X C none kNoPart := ⟨_, po_none, fun b fp σ env F H R s e Q q => by cases e; exact q F H (Grow.refl R.ex)⟩
theorem do_some (h : DK X C a ga) : DO X C (some a) (kPart ga) := by
  obtain ⟨t, p, s⟩ := h
  refine ⟨_, po_some p, fun b fp σ env F H R o e Q q => ?_⟩
  unfold kPart at e
  cases k : ga env with
  | none => rw [k] at e; cases e
  | some x =>
    rw [k] at e
    cases k2 : intS x with
    | none => have e' : (intS x).map some = some o := e; rw [k2] at e'; cases e'
    | some i =>
      have e' : (intS x).map some = some o := e
      rw [k2] at e'; cases e'
      have := intS_some k2
      subst this
      refine s b fp σ env F H R _ k _ fun v F' H' f G tr => ?_
      obtain ⟨rfl, _⟩ := tr.int
      exact ⟨i, rfl, q F' H' G⟩
theorem snd_sl {T : Tb} {ta : TE} {tl th : TO} (ha : SndK T ta ga) (hl : SndO T tl gl) (hh : SndO T th gh) (b : Gh) (fp : Fp) (σ : SV) (env : Env) (F H : Hp) (R : SR T b fp σ env F H) (s : S) (e : kSl ga gl gh env = some s) (Q : VK)
    (q : ∀ z F1 H1 F' H' f, Grow F H F1 H1 → Grow F1 H1 F' H' → Tr T F' H' z s f → (∀ a ∈ f, H1 a = none ∧ F' a = none) → f.Nodup → Q z H') : tSl (rSlU T.K) ta tl th σ H Q := by
  unfold kSl at e
  cases k : ga env with
  | none => rw [k] at e; cases e
  | some x =>
    rw [k] at e
    have e : ((gl env).bind fun lo => (gh env).bind fun hi => slS x lo hi) = some s := e
    cases k2 : gl env with
    | none => rw [k2] at e; cases e
    | some lo =>
      rw [k2] at e
      have e : ((gh env).bind fun hi => slS x lo hi) = some s := e
      cases k3 : gh env with
      | none => rw [k3] at e; cases e
      | some hi =>
        rw [k3] at e
        refine ha b fp σ env F H R x k _ fun v F1 H1 f1 G1 t1 => ?_
        refine hl b fp σ env F1 H1 (R.grow G1) lo k2 _ fun F2 H2 G2 => ?_
        refine hh b fp σ env F2 H2 ((R.grow G1).grow G2) hi k3 _ fun F3 H3 G3 => ?_
        have G23 := G2.trans G3
        exact opn_sl G3.le (t1.ext G23.exF G23.exH) e fun z F' H' f G t fr nd => q z F3 H3 F' H' f ((G1.trans G2).trans G3) G t fr nd
theorem dk_sl (ha : DK X C a ga) (hl : DO X C lo gl) (hh : DO X C hi gh) : DK X C (.Subscript a (.Slice lo hi none p2) pos) (kSl ga gl gh) := by
  obtain ⟨ta, pa, sa⟩ := ha
  obtain ⟨tl, pl, sl⟩ := hl
  obtain ⟨th, ph, sh⟩ := hh
  exact ⟨_, pe_slice sl_U pa pl ph, fun b fp σ env F H R s e Q q => snd_sl sa sl sh b fp σ env F H R s e Q fun z F1 H1 F' H' f G1 G2 t _ _ => q z F' H' f (G1.trans G2) t⟩
theorem de_sl (ha : DK X C a ga) (hl : DO X C lo gl) (hh : DO X C hi gh) : DE X C W (.Subscript a (.Slice lo hi none p2) pos) (eK (kSl ga gl gh)) := by
  obtain ⟨ta, pa, sa⟩ := ha
  obtain ⟨tl, pl, sl⟩ := hl
  obtain ⟨th, ph, sh⟩ := hh
  refine ⟨_, pe_slice sl_U pa pl ph, fun b fp σ env F H R Q q => ?_⟩
  have q' : GoodE (Tx X C) W b (own fp) σ F H (.of (kSl ga gl gh env) env) Q := q
  cases e : kSl ga gl gh env with
  | none => rw [e] at q'; exact False.elim q'
  | some s =>
    rw [e] at q'
    refine snd_sl sa sl sh b fp σ env F H R s e Q fun z F1 H1 F' H' f G1 G2 t fr nd => ?_
    have R1 := R.grow G1
    exact q' fp F' H' z f (R1.grow G2) ((G1.step (own fp)).fresh G2 (fun a h => (fr a h).1) fun a z => z) t (Tmp.fresh R1 fr nd)
end

/-! ### argument lists -/
def kNil : Env → Option (List S) := fun _ => some []
def kCons (g : Env → Option S) (h : Env → Option (List S)) : Env → Option (List S) := fun env => (g env).bind fun x => (h env).map (x :: ·)
def eNil : Env → Res (List S) := fun env => .ok [] env
def eCons (f : Env → Res S) (g : Env → Res (List S)) : Env → Res (List S) := fun env => (f env).bind fun x e1 => (g e1).bind fun xs e2 => .ok (x :: xs) e2
def SndL (T : Tb) (t : TA) (g : Env → Option (List S)) : Prop :=
  ∀ (b : Gh) (fp : Fp) (σ : SV) (env : Env) (F H : Hp), SR T b fp σ env F H → ∀ ss, g env = some ss → ∀ Q : List V → Hp → Prop, (∀ vs F' H' f, Grow F H F' H' → TrAll T F' H' vs ss f → Q vs H') → t σ H Q
def DL (X : Cx) (C : CT) (es : List Expr) (g : Env → Option (List S)) : Prop := ∃ t, PA X es t ∧ SndL (Tx X C) t g
section
variable {X : Cx} {C : CT} {W : WXT} {e : Expr} {es : List Expr} {g : Env → Option S} {gs : Env → Option (List S)} {f : Env → Res S} {fs : Env → Res (List S)}
theorem dl_nil : DL X C [] kNil := ⟨_, pa_nil, fun b fp σ env F H R s e Q q => by cases e; exact q [] F H [] (Grow.refl R.ex) .nil⟩
theorem dl_cons (h : DK X C e g) (k : DL X C es gs) (hs : starEach (e :: es) X.env = (false, eval e X.env) :: starEach es X.env := by rfl) : DL X C (e :: es) (kCons g gs) := by
  obtain ⟨t, p, s⟩ := h
  obtain ⟨u, p2, s2⟩ := k
  refine ⟨_, pa_cons p p2 hs, fun b fp σ env F H R ss e Q q => ?_⟩
  unfold kCons at e
  cases k : g env with
  | none => rw [k] at e; cases e
  | some x =>
    rw [k] at e
    have e : (gs env).map (x :: ·) = some ss := e
    cases k2 : gs env with
    | none => rw [k2] at e; cases e
    | some xs =>
      rw [k2] at e; cases e
      refine s b fp σ env F H R x k _ fun v F1 H1 f1 G1 t1 => ?_
      refine s2 b fp σ env F1 H1 (R.grow G1) xs k2 _ fun vs F2 H2 f2 G2 t2 => ?_
      exact q _ F2 H2 _ (G1.trans G2) (.cons (t1.ext G2.exF G2.exH) t2)
theorem da_nil : DA X C W [] eNil := ⟨_, pa_nil, fun b fp σ env F H R Q q => q fp F H [] [] R (Step.refl _ F H).toF .nil Tmp.nil⟩
theorem da_cons (h : DE X C W e f) (k : DA X C W es fs) (hs : starEach (e :: es) X.env = (false, eval e X.env) :: starEach es X.env := by rfl) : DA X C W (e :: es) (eCons f fs) := by
  obtain ⟨t, p, s⟩ := h
  obtain ⟨u, p2, s2⟩ := k
  refine ⟨_, pa_cons p p2 hs, fun b fp σ env F H R Q q => ?_⟩
  refine s b fp σ env F H R _ (GoodR.bind q fun x e1 fp1 F1 H1 v f1 R1 st1 t1 tm1 q1 => ?_)
  refine s2 b fp1 σ e1 F1 H1 R1 _ (GoodR.held q1 st1 tm1 (fun a h => t1.tracked a h) fun xs e2 fp2 F2 H2 vs f2 R2 st2 st t2 tm2 tm no q2 => ?_)
  exact q2 fp2 F2 H2 (v :: vs) (f1 ++ f2) R2 st (.cons (t1.step st2 no) t2) tm
end

/-! ### displays -/
def eTup (fs : Env → Res (List S)) : Env → Res S := fun env => (fs env).bind fun ss e => if ss.length ≤ sizeLine then .ok (.f (.tup (S.frzL ss))) e else .bad
def eLst (fs : Env → Res (List S)) : Env → Res S := fun env => (fs env).bind fun ss e => if ss.length ≤ sizeLine then .ok (.l ss) e else .bad
def kTup (gs : Env → Option (List S)) : Env → Option S := fun env => (gs env).bind fun ss => (fzs ss).bind fun ds => if ds.length ≤ sizeLine then some (.f (.tup ds)) else none
section
variable {X : Cx} {C : CT} {W : WXT} {es : List Expr} {gs : Env → Option (List S)} {fs : Env → Res (List S)} {pos : Pos}
theorem de_tup {k} (h : DA X C W es fs) : DE X C W (.Tuple es k pos) (eTup fs) := by
  obtain ⟨t, p, s⟩ := h
  refine ⟨_, pe_tup p, fun b fp σ env F H R Q q => ?_⟩
  refine s b fp σ env F H R _ (GoodR.bind q fun ss e1 fp1 F1 H1 vs f1 R1 st1 t1 tm1 q1 => ?_)
  split at q1
  · rename_i hz
    refine ⟨by rw [t1.len]; exact hz, fun pp hp => ?_⟩
    have R2 := R1.freeze tm1
    have st2 := st1.freeze tm1
    obtain ⟨G, tr⟩ := newT (t1.frozen tm1.nF) R2.ex hp
    exact q1 fp1 _ _ _ [] (R2.grow G) (st2.trans (G.step _)).toF tr Tmp.nil
  · exact False.elim q1
theorem dk_tup {k} (h : DL X C es gs) : DK X C (.Tuple es k pos) (kTup gs) := by
  obtain ⟨t, p, s⟩ := h
  refine ⟨_, pe_tup p, fun b fp σ env F H R x e Q q => ?_⟩
  unfold kTup at e
  cases k : gs env with
  | none => rw [k] at e; cases e
  | some ss =>
    rw [k] at e
    have e : ((fzs ss).bind fun ds => if ds.length ≤ sizeLine then some (S.f (.tup ds)) else none) = some x := e
    cases k2 : fzs ss with
    | none => rw [k2] at e; cases e
    | some ds =>
      rw [k2] at e
      have e : (if ds.length ≤ sizeLine then some (S.f (.tup ds)) else none) = some x := e
      split at e
      · rename_i hz
        cases e
        refine s b fp σ env F H R ss k _ fun vs F1 H1 f1 G1 t1 => ?_
        obtain ⟨r, _⟩ := fzs_rep t1 k2
        refine ⟨by rw [r.len]; exact hz, fun pp hp => ?_⟩
        obtain ⟨G, tr⟩ := newT r G1.le hp
        exact q _ _ _ _ (G1.trans G) tr
      · cases e
theorem de_lst (h : DA X C W es fs) : DE X C W (.List es pos) (eLst fs) := by
  obtain ⟨t, p, s⟩ := h
  refine ⟨_, pe_lst p, fun b fp σ env F H R Q q => ?_⟩
  refine s b fp σ env F H R _ (GoodR.bind q fun ss e1 fp1 F1 H1 vs f1 R1 st1 t1 tm1 q1 => ?_)
  split at q1
  · rename_i hz
    refine ⟨by rw [t1.len]; exact hz, fun pp hp => ?_⟩
    have fpn := Evl.fresh_back R1.ex hp
    have G : Grow F1 H1 F1 (upd H1 pp (.lst vs)) := ⟨Ex.refl _, Evl.Ex.new hp, R1.ex.trans (Evl.Ex.new hp), fun a o h n => by rw [h] at n; cases n⟩
    have np : pp ∉ f1 := fun z => by
      obtain ⟨o, ho⟩ := t1.tracked pp z
      rw [hp] at ho; cases ho
    refine q1 fp1 F1 _ _ (pp :: f1) (R1.grow G) ?_ (.l upd_same (t1.ext (Ex.refl _) (Evl.Ex.new hp))) ⟨List.nodup_cons.mpr ⟨np, tm1.nd⟩, fun a ha z => ?_, fun a ha => ?_, fun a ha => ?_⟩
    · refine st1.add G fun a z => ?_
      rcases z with z | z
      · rcases List.mem_cons.mp z with z | z
        · subst z; exact .inr hp
        · exact .inl (.inl z)
      · exact .inl (.inr z)
    · rcases List.mem_cons.mp ha with e | ha
      · subst e
        obtain ⟨o, ho⟩ := R1.tracked z
        rw [hp] at ho; cases ho
      · exact tm1.no a ha z
    · rcases List.mem_cons.mp ha with e | ha
      · subst e; exact fpn
      · exact tm1.nF a ha
    · rcases List.mem_cons.mp ha with e | ha
      · subst e; exact (R1.st.back hp).symm
      · exact tm1.ow a ha
  · exact False.elim q1
end
end Dn

/-! Dn6: statements: blocks, assignments, if, loops, return. -/
namespace Dn
open PySem PySem.Spec PyProof.Rows L2
open Evl (Ex)

inductive SRes where
  | nx (env : Env) | rt (s : S) (env : Env) | bk (env : Env) | ct (env : Env) | exc (c : Nat) (ds : List D) (env : Env) | bad
def GoodS (T : Tb) (W : WXT) (b : Gh) (O : Addr → Prop) (F H : Hp) (o : SRes) (D : Ends) : Prop :=
  match o with
  | .nx env' => ∀ fp' σ' F' H', SR T b fp' σ' env' F' H' → Step O F H (own fp') F' H' → D.nx σ' H'
  | .bk env' => ∀ fp' σ' F' H', SR T b fp' σ' env' F' H' → Step O F H (own fp') F' H' → D.bk σ' H'
  | .ct env' => ∀ fp' σ' F' H', SR T b fp' σ' env' F' H' → Step O F H (own fp') F' H' → D.ct σ' H'
  | .rt s env' => ∀ fp' σ' F' H' v f, SR T b fp' σ' env' F' H' → Step O F H (fun a => a ∈ f ∨ own fp' a) F' H' → Tr T F' H' v s f → Tmp b fp' F' f → D.rt v H'
  | .exc c ds env' => ∀ fp' σ' F' H' cls d, SR T b fp' σ' env' F' H' → Step O F H (own fp') F' H' → ExcAt T F' H' c ds cls d → W cls d σ' H'
  | .bad => False
def SndS (T : Tb) (W : WXT) (t : TS) (g : Env → SRes) : Prop :=
  ∀ (b : Gh) (fp : Fp) (σ : SV) (env : Env) (F H : Hp), SR T b fp σ env F H → ∀ D : Ends, GoodS T W b (own fp) F H (g env) D → t D σ H
def DS (X : Cx) (C : CT) (W : WXT) (st : Stmt) (g : Env → SRes) : Prop := ∃ t, PS X st t ∧ SndS (Tx X C) W t g
def DSs (X : Cx) (C : CT) (W : WXT) (st : List Stmt) (g : Env → SRes) : Prop := ∃ t, PSs X st t ∧ SndS (Tx X C) W t g

theorem GoodS.later {T : Tb} {W : WXT} {b : Gh} {O : Addr → Prop} {F H F1 H1 : Hp} {fp1 : Fp} {o : SRes} {D : Ends} (h : GoodS T W b O F H o D) (x : Step O F H (own fp1) F1 H1) : GoodS T W b (own fp1) F1 H1 o D := by
  cases o with
  | nx env' => exact fun fp' σ' F' H' r st => h fp' σ' F' H' r (x.trans st)
  | bk env' => exact fun fp' σ' F' H' r st => h fp' σ' F' H' r (x.trans st)
  | ct env' => exact fun fp' σ' F' H' r st => h fp' σ' F' H' r (x.trans st)
  | rt s env' => exact fun fp' σ' F' H' v f r st => h fp' σ' F' H' v f r (x.trans st)
  | exc c ds env' => exact fun fp' σ' F' H' cls d r st => h fp' σ' F' H' cls d r (x.trans st)
  | bad => exact h

/-! ### blocks -/
def sNil : Env → SRes := fun env => .nx env
def SRes.then (o : SRes) (g : Env → SRes) : SRes :=
  match o with
  | .nx e => g e
  | o => o
def sSeq (f g : Env → SRes) : Env → SRes := fun env => (f env).then g
section
variable {T : Tb} {W : WXT} {t u : TS} {f g : Env → SRes}
theorem snd_seq (h : SndS T W t f) (k : SndS T W u g) : SndS T W (tSeq t u) (sSeq f g) := fun b fp σ env F H R D q => by
  refine h b fp σ env F H R { D with nx := u D } ?_
  have q' : GoodS T W b (own fp) F H ((f env).then g) D := q
  cases e : f env with
  | nx e1 =>
    rw [e] at q'
    exact fun fp' σ' F' H' r st => k b fp' σ' e1 F' H' r D (q'.later st)
  | bk e1 => rw [e] at q'; exact q'
  | ct e1 => rw [e] at q'; exact q'
  | rt s e1 => rw [e] at q'; exact q'
  | exc c ds e1 => rw [e] at q'; exact q'
  | bad => rw [e] at q'; exact q'
end
section
variable {X : Cx} {C : CT} {W : WXT} {st : Stmt} {rest : List Stmt} {f g : Env → SRes} {pos : Pos}
theorem dss_nil : DSs X C W [] sNil := ⟨_, pss_nil, fun b fp σ env F H R D q => q fp σ F H R (Step.refl _ F H)⟩
theorem dss_one (h : DS X C W st f) : DSs X C W [st] f := by obtain ⟨t, p, s⟩ := h; exact ⟨t, pss_one p, s⟩
theorem dss_cons (h : DS X C W st f) (k : DSs X C W rest g) : DSs X C W (st :: rest) (sSeq f g) := by
  obtain ⟨t, p, s⟩ := h
  obtain ⟨u, p2, s2⟩ := k
  exact ⟨_, pss_cons p p2, snd_seq s s2⟩
theorem ds_pass : DS X C W (.Pass pos) sNil := ⟨_, ps_pass, fun b fp σ env F H R D q => q fp σ F H R (Step.refl _ F H)⟩
def sBrk : Env → SRes := fun env => .bk env
def sCnt : Env → SRes := fun env => .ct env
theorem ds_break : DS X C W (.Break pos) sBrk := ⟨_, ps_break, fun b fp σ env F H R D q => q fp σ F H R (Step.refl _ F H)⟩
theorem ds_continue : DS X C W (.Continue pos) sCnt := ⟨_, ps_continue, fun b fp σ env F H R D q => q fp σ F H R (Step.refl _ F H)⟩
end

/-! ### the slots -/
def Fp.set (fp : Fp) (i : Nat) (f : List Addr) : Fp := fun j => if j = i then f else fp j
theorem Fp.set_same {fp : Fp} {i : Nat} {f : List Addr} : fp.set i f i = f := if_pos rfl
theorem Fp.set_ne {fp : Fp} {i j : Nat} {f : List Addr} (h : j ≠ i) : fp.set i f j = fp j := if_neg h
/-- what a value's slot holds: no mark -/
def plainS : S → Bool
  | .u => false
  | .r _ => false
  | .w _ => false
  | _ => true
theorem Tr.plain {T : Tb} {F H : Hp} {v : V} {s : S} {f : List Addr} (h : Tr T F H v s f) : plainS s = true := by cases h <;> rfl
theorem SlotOk.of {T : Tb} {b : Gh} {fp : Fp} {σ : SV} {F H : Hp} {i : Nat} {s : S} {v : V} (p : plainS s = true) (e : σ[i]? = some (some v)) (t : Tr T F H v s (fp i)) : SlotOk T b fp σ F H i s := by
  cases s with
  | f d => exact ⟨v, e, t⟩
  | l d => exact ⟨v, e, t⟩
  | m d => exact ⟨v, e, t⟩
  | o c d => exact ⟨v, e, t⟩
  | _ => cases p
theorem SlotOk.cong {T : Tb} {b : Gh} {fp fp' : Fp} {σ σ' : SV} {F H : Hp} {i : Nat} {s : S} (h : SlotOk T b fp σ F H i s) (e : σ'[i]? = σ[i]?) (k : fp' i = fp i) : SlotOk T b fp' σ' F H i s := by
  cases s with
  | u => exact k.trans h
  | r s => exact ⟨k.trans h.1, e.trans h.2.1, h.2.2⟩
  | w s => exact ⟨e.trans h.1, by rw [k]; exact h.2⟩
  | f d => obtain ⟨v, a, t⟩ := h; exact ⟨v, e.trans a, by rw [k]; exact t⟩
  | l d => obtain ⟨v, a, t⟩ := h; exact ⟨v, e.trans a, by rw [k]; exact t⟩
  | m d => obtain ⟨v, a, t⟩ := h; exact ⟨v, e.trans a, by rw [k]; exact t⟩
  | o c d => obtain ⟨v, a, t⟩ := h; exact ⟨v, e.trans a, by rw [k]; exact t⟩
section
variable {T : Tb} {b : Gh} {fp : Fp} {σ : SV} {env : Env} {F H F0 H0 : Hp} {v : V} {s : S} {f : List Addr} {i : Nat} {O : Addr → Prop}
theorem own_set (h : own (fp.set i f) a) : a ∈ f ∨ own fp a := by
  obtain ⟨j, hj⟩ := h
  by_cases e : j = i
  · subst e; rw [Fp.set_same] at hj; exact .inl hj
  · rw [Fp.set_ne e] at hj; exact .inr ⟨j, hj⟩
theorem Fp.set_nd (R : SR T b fp σ env F H) (t : Tmp b fp F f) : (∀ j, (fp.set i f j).Nodup) ∧ (∀ (j k : Nat) a, a ∈ fp.set i f j → a ∈ fp.set i f k → j = k) ∧ (∀ j, ∀ a ∈ fp.set i f j, F a = none) := by
  refine ⟨fun j => ?_, fun j k a hj hk => ?_, fun j a hj => ?_⟩
  · by_cases e : j = i
    · subst e; rw [Fp.set_same]; exact t.nd
    · rw [Fp.set_ne e]; exact R.nd j
  · by_cases e : j = i
    · by_cases e2 : k = i
      · rw [e, e2]
      · subst e
        rw [Fp.set_same] at hj
        rw [Fp.set_ne e2] at hk
        exact absurd ⟨k, hk⟩ (t.no a hj)
    · by_cases e2 : k = i
      · subst e2
        rw [Fp.set_same] at hk
        rw [Fp.set_ne e] at hj
        exact absurd ⟨j, hj⟩ (t.no a hk)
      · rw [Fp.set_ne e] at hj
        rw [Fp.set_ne e2] at hk
        exact R.dj j k a hj hk
  · by_cases e : j = i
    · subst e; rw [Fp.set_same] at hj; exact t.nF a hj
    · rw [Fp.set_ne e] at hj; exact R.nF j a hj
/-- a value is stored in a slot -/
theorem SR.store (R : SR T b fp σ env F H) (tr : Tr T F H v s f) (t : Tmp b fp F f) (hi : i < env.length) : SR T b (fp.set i f) (σ.set i (some v)) (env.set i s) F H := by
  obtain ⟨h1, h2, h3⟩ := Fp.set_nd (i := i) R t
  refine ⟨R.ex, by rw [List.length_set, List.length_set]; exact R.len, fun j s' e => ?_, fun j hj => ?_, h1, h2, h3, ⟨R.st.ex, R.st.fr, R.st.gr, fun a z => (own_set z).elim (t.ow a) (R.st.ow a)⟩⟩
  · by_cases q : j = i
    · subst q
      rw [List.getElem?_set_self hi] at e
      cases e
      exact SlotOk.of tr.plain (v := v) (by rw [List.getElem?_set_self (by rw [R.len]; exact hi)]) (by rw [Fp.set_same]; exact tr)
    · rw [List.getElem?_set_ne (Ne.symm q)] at e
      exact (R.slot j s' e).cong (by rw [List.getElem?_set_ne (Ne.symm q)]) (Fp.set_ne q)
  · rw [List.length_set] at hj
    rw [Fp.set_ne (by omega)]
    exact R.out j hj
theorem Step.store (st : Step O F0 H0 (fun a => a ∈ f ∨ own fp a) F H) : Step O F0 H0 (own (fp.set i f)) F H := st.mono fun a z => own_set z
/-- a slot's thing is forgotten -/
theorem SR.drop (R : SR T b fp σ env F H) (i : Nat) : SR T b (fp.set i []) σ (env.set i .u) F H := by
  obtain ⟨h1, h2, h3⟩ := Fp.set_nd (i := i) (f := []) R Tmp.nil
  refine ⟨R.ex, by rw [List.length_set]; exact R.len, fun j s' e => ?_, fun j hj => ?_, h1, h2, h3, ⟨R.st.ex, R.st.fr, R.st.gr, fun a z => (own_set z).elim (fun k => nomatch k) (R.st.ow a)⟩⟩
  · by_cases q : j = i
    · subst q
      have hl : j < env.length := by
        have := (List.getElem?_eq_some_iff.mp e).1
        simpa using this
      rw [List.getElem?_set_self hl] at e
      cases e
      exact Fp.set_same
    · rw [List.getElem?_set_ne (Ne.symm q)] at e
      exact (R.slot j s' e).cong rfl (Fp.set_ne q)
  · rw [List.length_set] at hj
    by_cases q : j = i
    · subst q; exact Fp.set_same
    · rw [Fp.set_ne q]; exact R.out j hj
end

/-! ### the small statements -/
def sSet (i : Nat) (f : Env → Res S) : Env → SRes := fun env =>
  match f env with
  | .ok s e => if i < e.length then .nx (e.set i s) else .bad
  | .exc c ds e => .exc c ds e
  | .bad => .bad
def sExpr (f : Env → Res S) : Env → SRes := fun env =>
  match f env with
  | .ok _ e => .nx e
  | .exc c ds e => .exc c ds e
  | .bad => .bad
def sRet (f : Env → Res S) : Env → SRes := fun env =>
  match f env with
  | .ok s e => .rt s e
  | .exc c ds e => .exc c ds e
  | .bad => .bad
def sIf (c : Env → Res Bool) (f g : Env → SRes) : Env → SRes := fun env =>
  match c env with
  | .ok k e => if k = true then f e else g e
  | .exc c ds e => .exc c ds e
  | .bad => .bad
section
variable {T : Tb} {W : WXT} {te : TE} {tc : TT} {t u : TS} {f : Env → Res S} {c : Env → Res Bool} {g h : Env → SRes}
theorem snd_set {i : Nat} (hf : SndE T W te f) : SndS T W (tAsg te (gName i)) (sSet i f) := fun b fp σ env F H R D q => by
  have q' : GoodS T W b (own fp) F H (match f env with | .ok s e => if i < e.length then SRes.nx (e.set i s) else .bad | .exc c ds e => .exc c ds e | .bad => .bad) D := q
  refine hf b fp σ env F H R _ ?_
  cases e : f env with
  | ok s e1 =>
    rw [e] at q'
    intro fp' F' H' v fc r st tr tm
    have q2 : GoodS T W b (own fp) F H (if i < e1.length then SRes.nx (e1.set i s) else .bad) D := q'
    split at q2
    · rename_i hi
      exact q2 _ _ F' H' (r.store tr tm hi) st.store
    · exact False.elim q2
  | exc c ds e1 => rw [e] at q'; exact fun fp' F' H' cls d r st ex => q' fp' σ F' H' cls d r st ex
  | bad => rw [e] at q'; exact q'
theorem snd_expr (hf : SndE T W te f) : SndS T W (tDrop te) (sExpr f) := fun b fp σ env F H R D q => by
  have q' : GoodS T W b (own fp) F H (match f env with | .ok _ e => SRes.nx e | .exc c ds e => .exc c ds e | .bad => .bad) D := q
  refine hf b fp σ env F H R _ ?_
  cases e : f env with
  | ok s e1 => rw [e] at q'; exact fun fp' F' H' v fc r st tr tm => q' fp' σ F' H' r st.toOwn
  | exc c ds e1 => rw [e] at q'; exact fun fp' F' H' cls d r st ex => q' fp' σ F' H' cls d r st ex
  | bad => rw [e] at q'; exact q'
theorem snd_ret (hf : SndE T W te f) : SndS T W (tRet te) (sRet f) := fun b fp σ env F H R D q => by
  have q' : GoodS T W b (own fp) F H (match f env with | .ok s e => SRes.rt s e | .exc c ds e => .exc c ds e | .bad => .bad) D := q
  refine hf b fp σ env F H R _ ?_
  cases e : f env with
  | ok s e1 => rw [e] at q'; exact fun fp' F' H' v fc r st tr tm => q' fp' σ F' H' v fc r st tr tm
  | exc c ds e1 => rw [e] at q'; exact fun fp' F' H' cls d r st ex => q' fp' σ F' H' cls d r st ex
  | bad => rw [e] at q'; exact q'
theorem snd_ifS (hc : SndT T W tc c) (hg : SndS T W t g) (hh : SndS T W u h) : SndS T W (tIfS tc t u) (sIf c g h) := fun b fp σ env F H R D q => by
  have q' : GoodS T W b (own fp) F H (match c env with | .ok k e => if k = true then g e else h e | .exc c ds e => .exc c ds e | .bad => .bad) D := q
  refine hc b fp σ env F H R _ ?_
  cases e : c env with
  | ok k e1 =>
    rw [e] at q'
    intro fp' F' H' k' fc r st tr tm
    obtain ⟨rfl, rfl⟩ := tr
    have q2 : GoodS T W b (own fp) F H (if k' = true then g e1 else h e1) D := q'
    cases k' with
    | true =>
      rw [if_pos rfl] at q2 ⊢
      exact hg b fp' σ e1 F' H' r D (q2.later st.toOwn)
    | false =>
      rw [if_neg Bool.false_ne_true] at q2 ⊢
      exact hh b fp' σ e1 F' H' r D (q2.later st.toOwn)
  | exc c ds e1 => rw [e] at q'; exact fun fp' F' H' cls d r st ex => q' fp' σ F' H' cls d r st ex
  | bad => rw [e] at q'; exact q'
end
section
variable {X : Cx} {C : CT} {W : WXT} {e c : Expr} {body orelse : List Stmt} {f : Env → Res S} {k : Env → Res Bool} {g h : Env → SRes} {pos : Pos}
theorem ds_set (i : Nat) {x : Str} {pos' : Pos} (hN : X.N.Nodup) (he : DE X C W e f) (hi : X.N[i]? = some x := by rfl) (hx : Loc X.env.scope x := by first | exact Or.inl rfl | exact Or.inr rfl) (hs : swapsWith e (some (.Name x pos')) pos.line X.env = pure false := by rfl)
    (hf : X.fn x = true ∨ X.env.scope.names.lookup x = some .local := by first | exact .inl rfl | exact .inr rfl | assumption) : DS X C W (.Assign [.Name x pos'] e pos) (sSet i f) := by
  obtain ⟨t, p, s⟩ := he
  exact ⟨_, ps_set hN hi hx p hs hf, snd_set s⟩
theorem ds_expr (he : DE X C W e f) (hs : swapsWith e none pos.line X.env = pure false := by rfl) : DS X C W (.Expr e pos) (sExpr f) := by
  obtain ⟨t, p, s⟩ := he
  exact ⟨_, ps_expr p hs, snd_expr s⟩
theorem ds_ret (he : DE X C W e f) : DS X C W (.Return (some e) pos) (sRet f) := by
  obtain ⟨t, p, s⟩ := he
  exact ⟨_, ps_ret p, snd_ret s⟩
def sRetN : Env → SRes := fun env => .rt (.f .non) env
theorem ds_retN : DS X C W (.Return none pos) sRetN := ⟨_, ps_retN, fun b fp σ env F H R D q => q fp σ F H .non [] R (Step.refl _ F H).toF (.f .non) Tmp.nil⟩
theorem ds_if (hc : DT X C W c k) (hg : DSs X C W body g) (hh : DSs X C W orelse h) : DS X C W (.If c body orelse pos) (sIf k g h) := by
  obtain ⟨t, p, s⟩ := hc
  obtain ⟨u, p2, s2⟩ := hg
  obtain ⟨w, p3, s3⟩ := hh
  exact ⟨_, ps_if p p2 p3, snd_ifS s s2 s3⟩
end

/-! ### while -/
def whileD (c : Env → Res Bool) (g : Env → SRes) : Nat → Env → SRes
  | 0, _ => .bad
  | n + 1, env => match c env with
    | .ok k e => if k = true then (match g e with
        | .nx e2 => whileD c g n e2
        | .ct e2 => whileD c g n e2
        | .bk e2 => .nx e2
        | o => o) else .nx e
    | .exc c ds e => .exc c ds e
    | .bad => .bad
section
variable {T : Tb} {W : WXT} {tc : TT} {t : TS} {c : Env → Res Bool} {g : Env → SRes}
theorem snd_while {n : Nat} (hc : SndT T W tc c) (hg : SndS T W t g) : SndS T W (tWhile tc t) (whileD c g n) := fun b fp σ env F H R D q => by
  refine ⟨fun m σ1 H1 => ∃ fp1 env1 F1, SR T b fp1 σ1 env1 F1 H1 ∧ GoodS T W b (own fp1) F1 H1 (whileD c g m env1) D, ⟨n, fp, env, F, R, q⟩, ?_⟩
  rintro m σ1 H1 ⟨fp1, env1, F1, R1, q1⟩
  cases m with
  | zero => exact False.elim q1
  | succ m =>
    have q' : GoodS T W b (own fp1) F1 H1 (match c env1 with | .ok k e => if k = true then (match g e with | .nx e2 => whileD c g m e2 | .ct e2 => whileD c g m e2 | .bk e2 => .nx e2 | o => o) else .nx e | .exc c ds e => .exc c ds e | .bad => .bad) D := q1
    refine hc b fp1 σ1 env1 F1 H1 R1 _ ?_
    cases e : c env1 with
    | ok k e1 =>
      rw [e] at q'
      intro fp' F' H' k' fc r st tr tm
      obtain ⟨rfl, rfl⟩ := tr
      have q2 : GoodS T W b (own fp1) F1 H1 (if k' = true then (match g e1 with | .nx e2 => whileD c g m e2 | .ct e2 => whileD c g m e2 | .bk e2 => .nx e2 | o => o) else .nx e1) D := q'
      cases k' with
      | false =>
        rw [if_neg Bool.false_ne_true] at q2 ⊢
        exact q2 fp' σ1 F' H' r st.toOwn
      | true =>
        rw [if_pos rfl] at q2 ⊢
        refine ⟨fun σ2 H2 => ∃ fp2 env2 F2, SR T b fp2 σ2 env2 F2 H2 ∧ GoodS T W b (own fp2) F2 H2 (whileD c g m env2) D, fun σ2 H2 w => ⟨m, Nat.lt_succ_self m, w⟩, ?_⟩
        refine hg b fp' σ1 e1 F' H' r _ ?_
        cases e2 : g e1 with
        | nx e3 => rw [e2] at q2; exact fun fp2 σ2 F2 H2 r2 s2 => ⟨fp2, e3, F2, r2, q2.later (st.toOwn.trans s2)⟩
        | ct e3 => rw [e2] at q2; exact fun fp2 σ2 F2 H2 r2 s2 => ⟨fp2, e3, F2, r2, q2.later (st.toOwn.trans s2)⟩
        | bk e3 => rw [e2] at q2; exact fun fp2 σ2 F2 H2 r2 s2 => q2 fp2 σ2 F2 H2 r2 (st.toOwn.trans s2)
        | rt s e3 => rw [e2] at q2; exact q2.later st.toOwn
        | exc c ds e3 => rw [e2] at q2; exact q2.later st.toOwn
        | bad => rw [e2] at q2; exact q2
    | exc c ds e1 => rw [e] at q'; exact fun fp' F' H' cls d r st ex => q' fp' σ1 F' H' cls d r st ex
    | bad => rw [e] at q'; exact q'
end
theorem ds_while {X : Cx} {C : CT} {W : WXT} {c : Expr} {body : List Stmt} {k : Env → Res Bool} {g : Env → SRes} {pos : Pos} (n : Nat) (hp : PassesOwn (model X.prog X.w) X.A X.env X.xe) (hc : DT X C W c k) (hg : DSs X C W body g) : DS X C W (.While c body [] pos) (whileD k g n) := by
  obtain ⟨t, p, s⟩ := hc
  obtain ⟨u, p2, s2⟩ := hg
  exact ⟨_, ps_while hp p p2, snd_while s s2⟩

/-! ### targets of frozen values -/
def SndG (T : Tb) (t : TG) (g : D → Env → Option Env) : Prop :=
  ∀ (b : Gh) (fp : Fp) (σ : SV) (env : Env) (F H : Hp), SR T b fp σ env F H → ∀ v d env', Rep T F v d → g d env = some env' → ∀ Q : SV → Hp → Prop,
    (∀ fp' σ' F' H', SR T b fp' σ' env' F' H' → Step (own fp) F H (own fp') F' H' → Q σ' H') → t v σ H Q
def SndGs (T : Tb) (t : TGs) (g : List D → Env → Option Env) : Prop :=
  ∀ (b : Gh) (fp : Fp) (σ : SV) (env : Env) (F H : Hp), SR T b fp σ env F H → ∀ vs ds env', RepAll T F vs ds → g ds env = some env' → ∀ Q : SV → Hp → Prop,
    (∀ fp' σ' F' H', SR T b fp' σ' env' F' H' → Step (own fp) F H (own fp') F' H' → Q σ' H') → t vs σ H Q
def DG (X : Cx) (C : CT) (tg : Expr) (g : D → Env → Option Env) : Prop := ∃ t, PG X tg t ∧ SndG (Tx X C) t g
def DGs (X : Cx) (C : CT) (tg : List Expr) (g : List D → Env → Option Env) : Prop := ∃ t, PGs X tg t ∧ SndGs (Tx X C) t g
def bName (i : Nat) : D → Env → Option Env := fun d env => if i < env.length then some (env.set i (.f d)) else none
def bsNil : List D → Env → Option Env := fun ds env => match ds with
  | [] => some env
  | _ => none
def bsCons (g : D → Env → Option Env) (h : List D → Env → Option Env) : List D → Env → Option Env := fun ds env => match ds with
  | d :: r => (g d env).bind (h r)
  | [] => none
def bTup (n : Nat) (h : List D → Env → Option Env) : D → Env → Option Env := fun d env => match d with
  | .tup ds => if ds.length = n then h ds env else none
  | _ => none
section
variable {X : Cx} {C : CT} {tg : Expr} {tgs : List Expr} {g : D → Env → Option Env} {h : List D → Env → Option Env} {pos : Pos}
theorem dg_name (i : Nat) {x : Str} (hN : X.N.Nodup) (hi : X.N[i]? = some x := by rfl) (hx : Loc X.env.scope x := by first | exact Or.inl rfl | exact Or.inr rfl)
    (hf : X.fn x = true ∨ X.env.scope.names.lookup x = some .local := by first | exact .inl rfl | exact .inr rfl | assumption) : DG X C (.Name x pos) (bName i) :=
  ⟨_, pg_name hN hi hx hf, fun b fp σ env F H R v d env' r e Q q => by
    unfold bName at e
    split at e
    · rename_i hl
      cases e
      exact q _ _ F H (R.store (.f r) Tmp.nil hl) (Step.refl (own fp) F H).toF.store
    · cases e⟩
theorem dgs_nil : DGs X C [] bsNil := ⟨_, pgs_nil, fun b fp σ env F H R vs ds env' r e Q q => by
  cases r with
  | nil => cases e; exact ⟨rfl, q fp σ F H R (Step.refl _ F H)⟩
  | cons _ _ => cases e⟩
theorem dgs_cons (h1 : DG X C tg g) (h2 : DGs X C tgs h) (hs : (assignEach (tg :: tgs) X.env).map (·.2) = assign tg X.env :: (assignEach tgs X.env).map (·.2) := by rfl) : DGs X C (tg :: tgs) (bsCons g h) := by
  obtain ⟨t, p, s⟩ := h1
  obtain ⟨u, p2, s2⟩ := h2
  refine ⟨_, pgs_cons p p2 hs, fun b fp σ env F H R vs ds env' r e Q q => ?_⟩
  cases r with
  | nil => cases e
  | cons r1 r2 =>
    rename_i v vs d ds
    have e : (g d env).bind (h ds) = some env' := e
    cases k : g d env with
    | none => rw [k] at e; cases e
    | some e1 =>
      rw [k] at e
      refine ⟨v, vs, rfl, s b fp σ env F H R v d e1 r1 k _ fun fp1 σ1 F1 H1 R1 st1 => ?_⟩
      exact s2 b fp1 σ1 e1 F1 H1 R1 vs ds env' (r2.mono st1.ex) e Q fun fp2 σ2 F2 H2 R2 st2 => q fp2 σ2 F2 H2 R2 (st1.trans st2)
theorem dg_tup {k n : Nat} (hc : X.calm = true) (h1 : DGs X C tgs h) (hn : (assignEach tgs X.env).length = n := by rfl) (hst : (assignEach tgs X.env).findIdx? (·.1) = none := by rfl) : DG X C (.Tuple tgs k pos) (bTup n h) := by
  obtain ⟨u, p2, s2⟩ := h1
  refine ⟨_, pg_tup hc p2 hn hst, fun b fp σ env F H R v d env' r e Q q => ?_⟩
  cases r with
  | tup h1 h2 =>
    rename_i a xs ds
    have e : (if ds.length = n then h ds env else none) = some env' := e
    split at e
    · rename_i hl
      exact ⟨a, xs, rfl, .of (R.ex _ _ h1), h2.len.trans hl, s2 b fp σ env F H R xs ds env' h2 e Q q⟩
    · cases e
  | _ => cases e
end
/-- target = e, the value frozen -/
def sAsg (f : Env → Res S) (g : D → Env → Option Env) : Env → SRes := fun env =>
  match f env with
  | .ok s e => match g s.frz e with
    | some e2 => .nx e2
    | none => .bad
  | .exc c ds e => .exc c ds e
  | .bad => .bad
theorem ds_asg {X : Cx} {C : CT} {W : WXT} {tg e : Expr} {f : Env → Res S} {g : D → Env → Option Env} {pos : Pos} (he : DE X C W e f) (hg : DG X C tg g) (hs : swapsWithSole [tg] e pos.line X.env = pure false := by rfl) (hw : swappedStores [tg] e X.env = pure none := by rfl)
    (h1 : (assignEach [tg] X.env).map (·.2) = [assign tg X.env] := by rfl) : DS X C W (.Assign [tg] e pos) (sAsg f g) := by
  obtain ⟨t, p, s⟩ := he
  obtain ⟨u, p2, s2⟩ := hg
  refine ⟨_, ps_asg p p2 hs hw h1, fun b fp σ env F H R D q => ?_⟩
  have q' : GoodS (Tx X C) W b (own fp) F H (match f env with | .ok s e => (match g s.frz e with | some e2 => SRes.nx e2 | none => .bad) | .exc c ds e => .exc c ds e | .bad => .bad) D := q
  refine s b fp σ env F H R _ ?_
  cases e : f env with
  | ok x e1 =>
    rw [e] at q'
    intro fp' F' H' v fc r st tr tm
    have q2 : GoodS (Tx X C) W b (own fp) F H (match g x.frz e1 with | some e2 => SRes.nx e2 | none => .bad) D := q'
    cases k : g x.frz e1 with
    | none => rw [k] at q2; exact False.elim q2
    | some e2 =>
      rw [k] at q2
      have st2 := st.freeze tm
      exact s2 b fp' σ e1 _ H' (r.freeze tm) v x.frz e2 (tr.frozen tm.nF) k _ fun fp2 σ2 F2 H2 R2 s3 => q2 fp2 σ2 F2 H2 R2 (st2.trans s3)
  | exc c ds e1 => rw [e] at q'; exact fun fp' F' H' cls d r st ex => q' fp' σ F' H' cls d r st ex
  | bad => rw [e] at q'; exact q'

/-! ### for -/
/-- the iterator J gives the frozen data ds, one by one, whatever the loop does with what it owns -/
def Serves (T : Tb) (b : Gh) (fp1 : Fp) (F1 H1 : Hp) (J : It) (ds : List D) : Prop :=
  ∀ fp' σ' env' F' H', SR T b fp' σ' env' F' H' → Step (own fp1) F1 H1 (own fp') F' H' → ∀ i : Nat,
    (ds.length ≤ i → J.stop i H') ∧ ∀ d, ds[i]? = some d → J.go i H' ∧ ∀ x H'', J.yld i H' x H'' → ∃ F'', Grow F' H' F'' H'' ∧ Rep T F'' x d
def SndI (T : Tb) (W : WXT) (wi : TI) (g : Env → Res (List D)) : Prop :=
  ∀ (b : Gh) (fp : Fp) (σ : SV) (env : Env) (F H : Hp), SR T b fp σ env F H → ∀ R : It → Hp → Prop,
    (match g env with
      | .ok ds e => ∀ J fp1 F1 H1, SR T b fp1 σ e F1 H1 → Step (own fp) F H (own fp1) F1 H1 → Serves T b fp1 F1 H1 J ds → R J H1
      | .exc c ds e => ∀ fp' F' H' cls d, SR T b fp' σ e F' H' → Step (own fp) F H (own fp') F' H' → ExcAt T F' H' c ds cls d → W cls d σ H'
      | .bad => False) → wi σ H R
def DI (X : Cx) (C : CT) (W : WXT) (tg iter : Expr) (g : Env → Res (List D)) : Prop := ∃ wi, PI X tg iter wi ∧ SndI (Tx X C) W wi g
def forD (g : D → Env → Option Env) (body : Env → SRes) : List D → Env → SRes
  | [], env => .nx env
  | d :: ds, env => match g d env with
    | none => .bad
    | some e => match body e with
      | .nx e2 => forD g body ds e2
      | .ct e2 => forD g body ds e2
      | .bk e2 => .nx e2
      | o => o
def sFor (it : Env → Res (List D)) (g : D → Env → Option Env) (body : Env → SRes) : Env → SRes := fun env =>
  match it env with
  | .ok ds e => forD g body ds e
  | .exc c ds e => .exc c ds e
  | .bad => .bad
theorem snd_for {T : Tb} {W : WXT} {wi : TI} {tg : TG} {tb : TS} {it : Env → Res (List D)} {g : D → Env → Option Env} {body : Env → SRes} (hi : SndI T W wi it) (hg : SndG T tg g) (hb : SndS T W tb body) : SndS T W (tFor wi tg tb) (sFor it g body) := fun b fp σ env F H R D q => by
  have q' : GoodS T W b (own fp) F H (match it env with | .ok ds e => forD g body ds e | .exc c ds e => .exc c ds e | .bad => .bad) D := q
  refine hi b fp σ env F H R _ ?_
  cases e : it env with
  | bad => rw [e] at q'; exact q'
  | exc c ds e1 => rw [e] at q'; exact fun fp' F' H' cls d r st ex => q' fp' σ F' H' cls d r st ex
  | ok ds e1 =>
    rw [e] at q'
    intro J fp1 F1 H1 R1 st1 sv
    refine ⟨fun i m σ2 H2 => m = ds.length - i ∧ ∃ fp2 env2 F2, SR T b fp2 σ2 env2 F2 H2 ∧ Step (own fp1) F1 H1 (own fp2) F2 H2 ∧ GoodS T W b (own fp2) F2 H2 (forD g body (ds.drop i) env2) D, ⟨_, rfl, fp1, e1, F1, R1, Step.refl _ _ _, q'.later st1⟩, ?_⟩
    rintro i m σ2 H2 ⟨rfl, fp2, env2, F2, R2, st2, q2⟩
    obtain ⟨k1, k2⟩ := sv fp2 σ2 env2 F2 H2 R2 st2 i
    by_cases hl : i < ds.length
    · have hd : ds[i]? = some ds[i] := List.getElem?_eq_getElem hl
      obtain ⟨go, yl⟩ := k2 _ hd
      rw [List.drop_eq_getElem_cons hl] at q2
      have q3 : GoodS T W b (own fp2) F2 H2 (match g ds[i] env2 with | none => .bad | some e => (match body e with | .nx e2 => forD g body (ds.drop (i + 1)) e2 | .ct e2 => forD g body (ds.drop (i + 1)) e2 | .bk e2 => .nx e2 | o => o)) D := q2
      refine .inr ⟨go, fun σ' H' => ∃ fp3 env3 F3, SR T b fp3 σ' env3 F3 H' ∧ Step (own fp1) F1 H1 (own fp3) F3 H' ∧ GoodS T W b (own fp3) F3 H' (forD g body (ds.drop (i + 1)) env3) D, fun σ' H' w => ⟨ds.length - (i + 1), by omega, rfl, w⟩, fun x H3 y => ?_⟩
      obtain ⟨F3, G, rp⟩ := yl x H3 y
      cases k : g ds[i] env2 with
      | none => rw [k] at q3; exact False.elim q3
      | some e3 =>
        rw [k] at q3
        refine hg b fp2 σ2 env2 F3 H3 (R2.grow G) x ds[i] e3 rp k _ fun fp4 σ4 F4 H4 R4 st4 => ?_
        have sA : Step (own fp2) F2 H2 (own fp4) F4 H4 := (G.step _).trans st4
        refine hb b fp4 σ4 e3 F4 H4 R4 _ ?_
        have q4 : GoodS T W b (own fp2) F2 H2 (match body e3 with | .nx e2 => forD g body (ds.drop (i + 1)) e2 | .ct e2 => forD g body (ds.drop (i + 1)) e2 | .bk e2 => .nx e2 | o => o) D := q3
        cases kb : body e3 with
        | nx e4 => rw [kb] at q4; exact fun fp5 σ5 F5 H5 R5 st5 => ⟨fp5, e4, F5, R5, st2.trans (sA.trans st5), q4.later (sA.trans st5)⟩
        | ct e4 => rw [kb] at q4; exact fun fp5 σ5 F5 H5 R5 st5 => ⟨fp5, e4, F5, R5, st2.trans (sA.trans st5), q4.later (sA.trans st5)⟩
        | bk e4 => rw [kb] at q4; exact fun fp5 σ5 F5 H5 R5 st5 => q4 fp5 σ5 F5 H5 R5 (sA.trans st5)
        | rt s e4 => rw [kb] at q4; exact q4.later sA
        | exc c ds e4 => rw [kb] at q4; exact q4.later sA
        | bad => rw [kb] at q4; exact q4
    · have he : ds.drop i = [] := List.drop_eq_nil_of_le (by omega)
      rw [he] at q2
      exact .inl ⟨k1 (by omega), q2 fp2 σ2 F2 H2 R2 (Step.refl _ _ _)⟩
theorem ds_for {X : Cx} {C : CT} {W : WXT} {tg iter : Expr} {body : List Stmt} {it : Env → Res (List D)} {g : D → Env → Option Env} {k : Env → SRes} {pos : Pos} (hp : PassesOwn (model X.prog X.w) X.A X.env X.xe) (hc : X.calm = true) (hi : DI X C W tg iter it) (hg : DG X C tg g) (hb : DSs X C W body k)
    (hs : ∀ x, foldedSetIterable iter X.env x = pure x := by intro _; rfl) : DS X C W (.For tg iter body [] pos) (sFor it g k) := by
  obtain ⟨wi, p, s⟩ := hi
  obtain ⟨u, p2, s2⟩ := hg
  obtain ⟨w, p3, s3⟩ := hb
  exact ⟨_, ps_for hp hc p p2 p3 hs, snd_for s s2 s3⟩
end Dn

/-! Dn7: names used as values, defs and their calls. -/
namespace Dn
open PySem PySem.Spec PyProof.Rows L2
open Evl (Ex)

theorem Tr.fz {T : Tb} {F H : Hp} {v : V} {d : D} {f : List Addr} (h : Tr T F H v (.f d) f) : Rep T F v d ∧ f = [] := by
  cases h with
  | f h => exact ⟨h, rfl⟩
/-! ### a name as a value: frozen, or moved -/
def wrapAs (old new : S) : S :=
  match old with
  | .w _ => .w new
  | _ => new
def useS (s : S) : Option D :=
  match s with
  | .f d => some d
  | .r (.f d) => some d
  | .w s => some s.frz
  | .l xs => some (S.l xs).frz
  | .m xs => some (S.m xs).frz
  | .o c xs => some (S.o c xs).frz
  | _ => none
/-- is the slot to be changed? -/
def useKeep (s : S) : Bool :=
  match s with
  | .f _ => true
  | .r _ => true
  | _ => false
def eUse (i : Nat) : Env → Res S := fun env =>
  match env[i]? with
  | none => .bad
  | some s => match useS s with
    | none => .bad
    | some d => .ok (.f d) (if useKeep s then env else env.set i (wrapAs s (.f d)))
def eMove (i : Nat) : Env → Res S := fun env =>
  match env[i]? with
  | some (.f d) => .ok (.f d) env
  | some (.l xs) => .ok (.l xs) (env.set i .u)
  | some (.m xs) => .ok (.m xs) (env.set i .u)
  | some (.o c xs) => .ok (.o c xs) (env.set i .u)
  | _ => .bad
section
variable {T : Tb} {b : Gh} {fp : Fp} {σ : SV} {env : Env} {F H : Hp} {i : Nat} {s s' : S} {v : V}
theorem tmp_slot (R : SR T b fp σ env F H) (i : Nat) : Tmp b (fp.set i []) F (fp i) :=
  ⟨R.nd i, fun a ha z => by
    obtain ⟨j, hj⟩ := z
    by_cases e : j = i
    · subst e; rw [Fp.set_same] at hj; cases hj
    · rw [Fp.set_ne e] at hj; exact e (R.dj j i a hj ha), R.nF i, fun a ha => R.st.ow a ⟨i, ha⟩⟩
/-- the slot's thing is frozen -/
theorem SR.frzSlot (R : SR T b fp σ env F H) (e : env[i]? = some s) (hv : σ[i]? = some (some v)) (tr : Tr T F H v s' (fp i)) (hw : plainS s = true ∨ ∃ x, s = .w x ∧ v = b.v i) :
    SR T b (fp.set i []) σ (env.set i (wrapAs s (.f s'.frz))) (addF F H (fp i)) H ∧ Step (own fp) F H (own (fp.set i [])) (addF F H (fp i)) H ∧ Rep T (addF F H (fp i)) v s'.frz := by
  have tm := tmp_slot R i
  have R1 := (R.drop i).freeze tm
  have hl : i < env.length := (List.getElem?_eq_some_iff.mp e).1
  have rp := tr.frozen (F := F) (R.nF i)
  have st : Step (own fp) F H (own (fp.set i [])) (addF F H (fp i)) H := by
    have s0 : Step (own fp) F H (fun a => a ∈ fp i ∨ own (fp.set i []) a) F H := (Step.refl (own fp) F H).mono fun a z => by
      rcases z with z | z
      · exact ⟨i, z⟩
      · exact (own_set z).elim (fun k => nomatch k) id
    exact s0.freeze tm
  have R2 : SR T b ((fp.set i []).set i []) (σ.set i (some v)) ((env.set i .u).set i (.f s'.frz)) (addF F H (fp i)) H := R1.store (.f rp) Tmp.nil (by rw [List.length_set]; exact hl)
  have e1 : (fp.set i []).set i [] = fp.set i [] := by
    funext j
    unfold Fp.set
    split <;> rfl
  have e2 : σ.set i (some v) = σ := by
    apply List.ext_getElem?
    intro j
    by_cases q : j = i
    · subst q; rw [List.getElem?_set_self (by rw [R.len]; exact hl), hv]
    · rw [List.getElem?_set_ne (Ne.symm q)]
  rw [e1, e2, List.set_set] at R2
  refine ⟨?_, st, rp⟩
  rcases hw with hw | ⟨x, hw, hb⟩
  · have : wrapAs s (.f s'.frz) = .f s'.frz := by cases s <;> first | rfl | cases hw
    rw [this]; exact R2
  · subst hw
    show SR T b (fp.set i []) σ (env.set i (.w (.f s'.frz))) (addF F H (fp i)) H
    refine ⟨R2.ex, by rw [List.length_set]; exact R.len, fun j s2 e => ?_, fun j hj => R2.out j (by rw [List.length_set] at hj ⊢; exact hj), R2.nd, R2.dj, R2.nF, R2.st⟩
    by_cases q : j = i
    · subst q
      rw [List.getElem?_set_self hl] at e
      cases e
      exact ⟨by rw [← hb]; exact hv, by rw [← hb, Fp.set_same]; exact .f rp⟩
    · rw [List.getElem?_set_ne (Ne.symm q)] at e
      exact R2.slot j s2 (by rw [List.getElem?_set_ne (Ne.symm q)]; exact e)
end
section
variable {X : Cx} {C : CT} {W : WXT}
theorem snd_use {T : Tb} {W : WXT} (i : Nat) : SndE T W (tVar i) (eUse i) := fun b fp σ env F H R Q q => by
  have q' : GoodE T W b (own fp) σ F H (match env[i]? with | none => .bad | some s => (match useS s with | none => .bad | some d => .ok (.f d) (if useKeep s then env else env.set i (wrapAs s (.f d))))) Q := q
  cases e : env[i]? with
  | none => rw [e] at q'; exact False.elim q'
  | some s =>
    rw [e] at q'
    have q2 : GoodE T W b (own fp) σ F H (match useS s with | none => .bad | some d => .ok (.f d) (if useKeep s then env else env.set i (wrapAs s (.f d)))) Q := q'
    have k := R.slot i s e
    -- the frozen ones
    have plain : ∀ {v d}, σ[i]? = some (some v) → Rep T F v d → GoodE T W b (own fp) σ F H (.ok (.f d) env) Q → tVar i σ H Q := fun {v d} h1 h2 g => ⟨v, h1, g fp F H v [] R (Step.refl _ F H).toF (.f h2) Tmp.nil⟩
    have frz : ∀ {v : V} {s' : S}, σ[i]? = some (some v) → Tr T F H v s' (fp i) → (plainS s = true ∨ ∃ x, s = .w x ∧ v = b.v i) → GoodE T W b (own fp) σ F H (.ok (.f s'.frz) (env.set i (wrapAs s (.f s'.frz)))) Q → tVar i σ H Q := fun {v s'} h1 h2 h3 g => by
      obtain ⟨R2, st, rp⟩ := R.frzSlot e h1 h2 h3
      exact ⟨v, h1, g _ _ H v [] R2 st.toF (.f rp) Tmp.nil⟩
    cases s with
    | u => exact False.elim q2
    | f d =>
      obtain ⟨v, h1, h2⟩ := k
      exact plain h1 h2.fz.1 q2
    | r s =>
      cases s with
      | f d =>
        obtain ⟨_, h1, h2, _⟩ := k
        exact plain h1 h2.fz.1 q2
      | _ => exact False.elim q2
    | w s => exact frz k.1 k.2 (.inr ⟨s, rfl, rfl⟩) q2
    | l xs =>
      obtain ⟨v, h1, h2⟩ := k
      exact frz h1 h2 (.inl rfl) q2
    | m xs =>
      obtain ⟨v, h1, h2⟩ := k
      exact frz h1 h2 (.inl rfl) q2
    | o c xs =>
      obtain ⟨v, h1, h2⟩ := k
      exact frz h1 h2 (.inl rfl) q2
theorem snd_move {T : Tb} {W : WXT} (i : Nat) : SndE T W (tVar i) (eMove i) := fun b fp σ env F H R Q q => by
  have q' : GoodE T W b (own fp) σ F H (match env[i]? with | some (.f d) => .ok (.f d) env | some (.l xs) => .ok (.l xs) (env.set i .u) | some (.m xs) => .ok (.m xs) (env.set i .u) | some (.o c xs) => .ok (.o c xs) (env.set i .u) | _ => .bad) Q := q
  cases e : env[i]? with
  | none => rw [e] at q'; exact False.elim q'
  | some s =>
    rw [e] at q'
    have k := R.slot i s e
    have go : ∀ {v : V} {s' : S}, σ[i]? = some (some v) → Tr T F H v s' (fp i) → GoodE T W b (own fp) σ F H (.ok s' (env.set i .u)) Q → tVar i σ H Q := fun {v s'} h1 h2 g => by
      refine ⟨v, h1, g (fp.set i []) F H v (fp i) (R.drop i) ?_ h2 (tmp_slot R i)⟩
      exact (Step.refl (own fp) F H).mono fun a z => by
        rcases z with z | z
        · exact ⟨i, z⟩
        · exact (own_set z).elim (fun k => nomatch k) id
    cases s with
    | f d =>
      obtain ⟨v, h1, h2⟩ := k
      have hf : fp i = [] := h2.fz.2
      exact ⟨v, h1, q' fp F H v [] R (Step.refl _ F H).toF (by rw [hf] at h2; exact h2) Tmp.nil⟩
    | l xs => obtain ⟨v, h1, h2⟩ := k; exact go h1 h2 q'
    | m xs => obtain ⟨v, h1, h2⟩ := k; exact go h1 h2 q'
    | o c xs => obtain ⟨v, h1, h2⟩ := k; exact go h1 h2 q'
    | _ => exact False.elim q'
theorem de_use (i : Nat) {x : Str} {pos : Pos} (hN : X.N[i]? = some x := by rfl) (hv : Vis X.env.scope x := by first | exact Or.inl rfl | exact Or.inr (Or.inl rfl) | exact Or.inr (Or.inr rfl)) (hd : (x == ("__debug__" : Str)) = false := by decide)
    (hcd : (x == ("__classdict__" : Str)) = false := by decide) : DE X C W (.Name x pos) (eUse i) := ⟨_, pe_var hN hv hd hcd, snd_use i⟩
theorem de_move (i : Nat) {x : Str} {pos : Pos} (hN : X.N[i]? = some x := by rfl) (hv : Vis X.env.scope x := by first | exact Or.inl rfl | exact Or.inr (Or.inl rfl) | exact Or.inr (Or.inr rfl)) (hd : (x == ("__debug__" : Str)) = false := by decide)
    (hcd : (x == ("__classdict__" : Str)) = false := by decide) : DE X C W (.Name x pos) (eMove i) := ⟨_, pe_var hN hv hd hcd, snd_move i⟩
end

/-! ### defs -/
inductive Md where
  | v | rd | bw
  deriving DecidableEq
inductive Fo where
  | ret (s : S) (outs : List S) | exc (c : Nat) (ds : List D) (outs : List S) | bad
def wrapS (m : Md) (s : S) : S :=
  match m with
  | .v => s
  | .rd => .r s
  | .bw => .w s
/-- what the borrowed parameters have become -/
def outsOf : List Md → Env → Option (List S)
  | [], _ => some []
  | .bw :: ms, .w s :: e => (outsOf ms e).map (s :: ·)
  | .bw :: _, _ => none
  | _ :: ms, _ :: e => (outsOf ms e).map (.u :: ·)
  | _ :: _, [] => none
def outW (m : Md) (s : S) : S :=
  match m with
  | .bw => .w s
  | _ => .u
def fnEnd (ms : List Md) (o : SRes) : Fo :=
  match o with
  | .nx env => match outsOf ms env with
    | some outs => .ret (.f .non) outs
    | none => .bad
  | .rt s env => match outsOf ms env with
    | some outs => .ret s outs
    | none => .bad
  | .exc c ds env => match outsOf ms env with
    | some outs => .exc c ds outs
    | none => .bad
  | _ => .bad
def fnD (ms : List Md) (n : Nat) (body : Env → SRes) (ss : List S) : Fo :=
  fnEnd ms (body (List.zipWith wrapS ms ss ++ List.replicate (n - ms.length) .u))

abbrev ghOf (vs : List V) (ρ : Nat → List Addr) (fp : Fp) (F H : Hp) : Gh := ⟨fun i => vs.getD i .non, ρ, own fp, F, H⟩
def GoodF (T : Tb) (ms : List Md) (b : Gh) (fp : Fp) (F H : Hp) (vs : List V) (o : Fo) (Q : VK) (E : XK) : Prop :=
  match o with
  | .ret s outs => ∀ v fp' F' H' fr, SR T b fp' (vs.map some) (List.zipWith outW ms outs) F' H' → Step (own fp) F H (fun a => a ∈ fr ∨ own fp' a) F' H' → Tr T F' H' v s fr → Tmp b fp' F' fr → Q v H'
  | .exc c ds outs => ∀ fp' F' H' cls d, SR T b fp' (vs.map some) (List.zipWith outW ms outs) F' H' → Step (own fp) F H (own fp') F' H' → ExcAt T F' H' c ds cls d → E cls d H'
  | .bad => False
/-- the promise of a def that does f -/
def spD (T : Tb) (ms : List Md) (f : List S → Fo) : Sp := fun vs H Q E => vs.length = ms.length ∧ ∃ (ss : List S) (fp : Fp) (F : Hp) (ρ : Nat → List Addr), ss.length = ms.length ∧
  SR T (ghOf vs ρ fp F H) fp (vs.map some) (List.zipWith wrapS ms ss) F H ∧ GoodF T ms (ghOf vs ρ fp F H) fp F H vs (f ss) Q E

section
variable {T : Tb} {b : Gh} {fp : Fp} {σ : SV} {env : Env} {F H : Hp}
/-- more slots, all empty -/
theorem SR.wider (R : SR T b fp σ env F H) (n : Nat) : SR T b fp (σ ++ List.replicate n none) (env ++ List.replicate n .u) F H := by
  refine ⟨R.ex, by rw [List.length_append, List.length_append, List.length_replicate, List.length_replicate, R.len], fun i s e => ?_, fun i hi => R.out i (by rw [List.length_append] at hi; omega), R.nd, R.dj, R.nF, R.st⟩
  by_cases h : i < env.length
  · rw [List.getElem?_append_left h] at e
    exact (R.slot i s e).cong (by rw [List.getElem?_append_left (by rw [R.len]; exact h)]) rfl
  · rw [List.getElem?_append_right (by omega), List.getElem?_replicate] at e
    split at e
    · cases e
      exact R.out i (by omega)
    · cases e
theorem outsOf_len : ∀ {ms : List Md} {env : Env} {outs : List S}, outsOf ms env = some outs → outs.length = ms.length ∧ ms.length ≤ env.length
  | [], env, outs, e => by cases e; exact ⟨rfl, Nat.zero_le _⟩
  | m :: ms, [], outs, e => by cases m <;> cases e
  | m :: ms, s :: env, outs, e => by
    have step : ∀ {x : S}, (outsOf ms env).map (x :: ·) = some outs → outs.length = ms.length + 1 ∧ ms.length + 1 ≤ env.length + 1 := fun {x} e => by
      cases k : outsOf ms env with
      | none => rw [k] at e; cases e
      | some r =>
        rw [k] at e; cases e
        obtain ⟨h1, h2⟩ := outsOf_len k
        exact ⟨by rw [List.length_cons, h1], by omega⟩
    cases m with
    | v => exact step e
    | rd => exact step e
    | bw =>
      cases s with
      | w s => exact step e
      | _ => cases e
theorem outsOf_get : ∀ {ms : List Md} {env : Env} {outs : List S}, outsOf ms env = some outs → ∀ (i : Nat) s, (List.zipWith outW ms outs)[i]? = some s → s = .u ∨ (env[i]? = some s ∧ ∃ x, s = .w x)
  | [], env, outs, e, i, s, h => by cases e; cases h
  | m :: ms, [], outs, e, i, s, h => by cases m <;> cases e
  | m :: ms, t :: env, outs, e, i, s, h => by
    have step : ∀ {x : S}, (outW m x = .u ∨ (outW m x = t ∧ ∃ y, t = .w y)) → (outsOf ms env).map (x :: ·) = some outs → s = .u ∨ ((t :: env)[i]? = some s ∧ ∃ x, s = .w x) := fun {x} hx e => by
      cases k : outsOf ms env with
      | none => rw [k] at e; cases e
      | some r =>
        rw [k] at e; cases e
        cases i with
        | zero =>
          have : outW m x = s := by simpa using h
          subst this
          rcases hx with hx | ⟨hx, hy⟩
          · exact .inl hx
          · refine .inr ⟨by rw [hx]; rfl, ?_⟩
            rw [hx]; exact hy
        | succ i =>
          have := outsOf_get k i s (by simpa using h)
          simpa using this
    cases m with
    | v => exact step (.inl rfl) e
    | rd => exact step (.inl rfl) e
    | bw =>
      cases t with
      | w y => exact step (.inr ⟨rfl, y, rfl⟩) e
      | _ => cases e
/-- behind the body: what the borrowed ones have become -/
theorem SR.outs {vs : List V} {ms : List Md} {outs : List S} (R : SR T b fp σ env F H) (hl : vs.length = ms.length) (hb : ∀ (i : Nat) v, vs[i]? = some v → b.v i = v) (e : outsOf ms env = some outs) :
    ∃ fp', SR T b fp' (vs.map some) (List.zipWith outW ms outs) F H ∧ (∀ a, own fp' a → own fp a) := by
  obtain ⟨l1, l2⟩ := outsOf_len e
  have lz : (List.zipWith outW ms outs).length = ms.length := by rw [List.length_zipWith, l1, Nat.min_self]
  refine ⟨fun i => match (List.zipWith outW ms outs)[i]? with | some (.w _) => fp i | _ => [], ⟨R.ex, by rw [List.length_map, lz, hl], fun i s h => ?_, fun i hi => ?_, fun i => ?_, fun i j a hi hj => ?_, fun i a hi => ?_, ⟨R.st.ex, R.st.fr, R.st.gr, fun a z => ?_⟩⟩, fun a z => ?_⟩
  · rcases outsOf_get e i s h with q | ⟨q, x, hx⟩
    · subst q
      show (match (List.zipWith outW ms outs)[i]? with | some (.w _) => fp i | _ => []) = []
      rw [h]
    · subst hx
      have k := R.slot i _ q
      have hi : i < vs.length := by
        have := (List.getElem?_eq_some_iff.mp h).1
        rw [lz] at this
        omega
      have hv : vs[i]? = some vs[i] := List.getElem?_eq_getElem hi
      refine ⟨?_, ?_⟩
      · rw [List.getElem?_map, hv, hb i _ hv]; rfl
      · have : (match (List.zipWith outW ms outs)[i]? with | some (.w _) => fp i | _ => []) = fp i := by rw [h]
        show Tr T F H (b.v i) x (match (List.zipWith outW ms outs)[i]? with | some (.w _) => fp i | _ => [])
        rw [this]
        exact k.2
  · have : (List.zipWith outW ms outs)[i]? = none := List.getElem?_eq_none_iff.mpr hi
    show (match (List.zipWith outW ms outs)[i]? with | some (.w _) => fp i | _ => []) = []
    rw [this]
  · show (match (List.zipWith outW ms outs)[i]? with | some (.w _) => fp i | _ => []).Nodup
    split
    · exact R.nd i
    · exact List.nodup_nil
  · have h1 : a ∈ (match (List.zipWith outW ms outs)[i]? with | some (.w _) => fp i | _ => []) := hi
    have h2 : a ∈ (match (List.zipWith outW ms outs)[j]? with | some (.w _) => fp j | _ => []) := hj
    split at h1
    · split at h2
      · exact R.dj i j a h1 h2
      · cases h2
    · cases h1
  · have h1 : a ∈ (match (List.zipWith outW ms outs)[i]? with | some (.w _) => fp i | _ => []) := hi
    split at h1
    · exact R.nF i a h1
    · cases h1
  · obtain ⟨i, hi⟩ := z
    have h1 : a ∈ (match (List.zipWith outW ms outs)[i]? with | some (.w _) => fp i | _ => []) := hi
    split at h1
    · exact R.st.ow a ⟨i, h1⟩
    · cases h1
  · obtain ⟨i, hi⟩ := z
    have h1 : a ∈ (match (List.zipWith outW ms outs)[i]? with | some (.w _) => fp i | _ => []) := hi
    split at h1
    · exact ⟨i, h1⟩
    · cases h1
theorem Tmp.less {fp fp' : Fp} {f : List Addr} (t : Tmp b fp F f) (h : ∀ a, own fp' a → own fp a) : Tmp b fp' F f := ⟨t.nd, fun a ha z => t.no a ha (h a z), t.nF, t.ow⟩
/-- the body keeps the promise -/
theorem snd_fn {W : WXT} {ts : TS} {ms : List Md} {N : List Str} {body : Env → SRes} {vs : List V} {Q : VK} {E : XK} (hs : SndS T W ts body) (hN : ms.length ≤ N.length) (hW : ∀ cls d σ H, E cls d H → W cls d σ H) (h : spD T ms (fnD ms N.length body) vs H Q E) :
    ts { nx := fun _ H' => Q .non H', rt := Q } (L2.start N vs) H := by
  obtain ⟨hl, ss, fp, F, ρ, hss, R, g⟩ := h
  have R' : SR T (ghOf vs ρ fp F H) fp (L2.start N vs) (List.zipWith wrapS ms ss ++ List.replicate (N.length - ms.length) .u) F H := by
    have := R.wider (N.length - ms.length)
    unfold L2.start
    rw [hl]
    exact this
  refine hs _ fp _ _ F H R' _ ?_
  have g' : GoodF T ms (ghOf vs ρ fp F H) fp F H vs (fnEnd ms (body (List.zipWith wrapS ms ss ++ List.replicate (N.length - ms.length) .u))) Q E := g
  have hb : ∀ (i : Nat) v, vs[i]? = some v → (ghOf vs ρ fp F H).v i = v := fun i v e => by
    show vs.getD i .non = v
    rw [List.getD_eq_getElem?_getD, e]; rfl
  cases e : body (List.zipWith wrapS ms ss ++ List.replicate (N.length - ms.length) .u) with
  | nx env' =>
    rw [e] at g'
    have g2 : GoodF T ms (ghOf vs ρ fp F H) fp F H vs (match outsOf ms env' with | some outs => .ret (.f .non) outs | none => .bad) Q E := g'
    intro fp' σ' F' H' r st
    cases k : outsOf ms env' with
    | none => rw [k] at g2; exact False.elim g2
    | some outs =>
      rw [k] at g2
      obtain ⟨fp2, R2, sub⟩ := r.outs hl hb k
      exact g2 .non fp2 F' H' [] R2 (st.mono fun a z => z.elim (fun q => nomatch q) (sub a)) (.f .non) Tmp.nil
  | rt s env' =>
    rw [e] at g'
    have g2 : GoodF T ms (ghOf vs ρ fp F H) fp F H vs (match outsOf ms env' with | some outs => .ret s outs | none => .bad) Q E := g'
    intro fp' σ' F' H' v f r st tr tm
    cases k : outsOf ms env' with
    | none => rw [k] at g2; exact False.elim g2
    | some outs =>
      rw [k] at g2
      obtain ⟨fp2, R2, sub⟩ := r.outs hl hb k
      exact g2 v fp2 F' H' f R2 (st.mono fun a z => z.imp id (sub a)) tr (tm.less sub)
  | exc c ds env' =>
    rw [e] at g'
    have g2 : GoodF T ms (ghOf vs ρ fp F H) fp F H vs (match outsOf ms env' with | some outs => .exc c ds outs | none => .bad) Q E := g'
    intro fp' σ' F' H' cls d r st ex
    cases k : outsOf ms env' with
    | none => rw [k] at g2; exact False.elim g2
    | some outs =>
      rw [k] at g2
      obtain ⟨fp2, R2, sub⟩ := r.outs hl hb k
      exact hW cls d σ' H' (g2 fp2 F' H' cls d R2 (st.mono sub) ex)
  | bk _ => rw [e] at g'; exact False.elim g'
  | ct _ => rw [e] at g'; exact False.elim g'
  | bad => rw [e] at g'; exact False.elim g'
end
abbrev W0 : WXT := fun _ _ _ _ => False
def Fo.calm (o : Fo) : Fo :=
  match o with
  | .exc _ _ _ => .bad
  | o => o
def fnC (ms : List Md) (n : Nat) (body : Env → SRes) (ss : List S) : Fo := (fnD ms n body ss).calm
theorem spD_calm {T : Tb} {ms : List Md} {f : List S → Fo} {vs : List V} {H : Hp} {Q : VK} {E : XK} (h : spD T ms (fun ss => (f ss).calm) vs H Q E) : spD T ms f vs H Q E0 := by
  obtain ⟨hl, ss, fp, F, ρ, hss, R, g⟩ := h
  refine ⟨hl, ss, fp, F, ρ, hss, R, ?_⟩
  have g' : GoodF T ms (ghOf vs ρ fp F H) fp F H vs ((f ss).calm) Q E := g
  cases e : f ss with
  | ret s outs => rw [e] at g'; exact g'
  | exc c ds outs => rw [e] at g'; exact False.elim g'
  | bad => rw [e] at g'; exact g'
/-- THE RULE for a def that lets no exception out -/
theorem fn_ok {P : Program} {w : World} {K : PySem.W.Frag} {mg : Str → Option Value} {base : Heap} {x qual : Str} {st : Stmt} {f : Addr} {fd : FuncData} {N ps : List Str} {k : Nat} {C : CT} {ms : List Md} {body : Env → SRes} (F : Fun K x qual st f fd) (S : FnScope N ps (defScope st)) (hm : ms.length = ps.length) (hN : ms.length ≤ N.length)
    (hb : ∀ (cdv : Value) (A : Around) (outer : List PySem.Env) (s : Shared) (H : Hp) (E : XK), Room k (A.deeper (envOfC qual (defScope st) s.heap.objs.size f cdv)) → DSs (cxOf CX0 P w K mg base N qual (defScope st) f cdv A outer s H E).nox C W0 (defBody st) body) :
    FnOk P w K mg base CX0 (k + 1) f fd ps (spD ⟨K, C.cls, C.exc⟩ ms (fnC ms N.length body)) := by
  refine F.ok S (fun vs H Q E h => h.1.trans hm) (fun cdv A outer s H vs Q E hr h => ?_)
  obtain ⟨t, p, sn⟩ := hb cdv A outer s H E hr
  exact ⟨t, p, snd_fn sn hN (fun _ _ _ _ z => z) (spD_calm h)⟩

/-! ### the arguments of a call -/
inductive TrH (T : Tb) (σ : SV) (F H : Hp) : List V → List S → List (List Addr) → List (Option Nat) → Prop
  | nil : TrH T σ F H [] [] [] []
  | val {v : V} {s : S} {f : List Addr} {vs : List V} {ss : List S} {fs : List (List Addr)} {hs : List (Option Nat)} : Tr T F H v s f → TrH T σ F H vs ss fs hs → TrH T σ F H (v :: vs) (s :: ss) (f :: fs) (none :: hs)
  | hnd {v : V} {j : Nat} {vs : List V} {ss : List S} {fs : List (List Addr)} {hs : List (Option Nat)} : σ[j]? = some (some v) → TrH T σ F H vs ss fs hs → TrH T σ F H (v :: vs) (.u :: ss) ([] :: fs) (some j :: hs)
def relH (T : Tb) (σ : SV) (hs : List (Option Nat)) : Hp → Hp → List V → List S → List Addr → Prop := fun F H vs ss f => ∃ fs, TrH T σ F H vs ss fs hs ∧ f = fs.flatten
def SndAr (T : Tb) (W : WXT) (t : TA) (hs : List (Option Nat)) (g : Env → Res (List S)) : Prop :=
  ∀ (b : Gh) (fp : Fp) (σ : SV) (env : Env) (F H : Hp), SR T b fp σ env F H → ∀ Q : List V → Hp → Prop, GoodR T W b (own fp) σ F H (relH T σ hs) (g env) Q → t σ H Q
def DAr (X : Cx) (C : CT) (W : WXT) (es : List Expr) (hs : List (Option Nat)) (g : Env → Res (List S)) : Prop := ∃ t, PA X es t ∧ SndAr (Tx X C) W t hs g
def aNil : Env → Res (List S) := fun env => .ok [] env
def aVal (f : Env → Res S) (g : Env → Res (List S)) : Env → Res (List S) := fun env => (f env).bind fun x e1 => (g e1).bind fun xs e2 => .ok (x :: xs) e2
def aVar (i : Nat) (g : Env → Res (List S)) : Env → Res (List S) := fun env =>
  match kVar i env with
  | none => .bad
  | some _ => (g env).bind fun xs e2 => .ok (.u :: xs) e2
section
variable {T : Tb} {b : Gh} {fp fp' : Fp} {σ : SV} {env : Env} {F F' H H' : Hp} {vs : List V} {ss : List S} {fs : List (List Addr)} {hs : List (Option Nat)} {O O' : Addr → Prop}
theorem TrH.tracked : ∀ {vs : List V} {ss : List S} {fs : List (List Addr)} {hs : List (Option Nat)}, TrH T σ F H vs ss fs hs → ∀ a ∈ fs.flatten, ∃ o, H a = some o
  | _, _, _, _, .nil, a, h => nomatch h
  | _, _, _, _, .val t r, a, h => by
    rw [List.flatten_cons] at h
    rcases List.mem_append.mp h with h | h
    · exact t.tracked a h
    · exact TrH.tracked r a h
  | _, _, _, _, .hnd _ r, a, h => by
    rw [List.flatten_cons] at h
    rcases List.mem_append.mp h with h | h
    · cases h
    · exact TrH.tracked r a h
theorem TrH.step (x : Step O F H O' F' H') : ∀ {vs : List V} {ss : List S} {fs : List (List Addr)} {hs : List (Option Nat)}, TrH T σ F H vs ss fs hs → (∀ a ∈ fs.flatten, ¬ O a) → TrH T σ F' H' vs ss fs hs
  | _, _, _, _, .nil, _ => .nil
  | _, _, _, _, .val t r, n => .val (t.step x fun a h => n a (by rw [List.flatten_cons]; exact List.mem_append_left _ h)) (TrH.step x r fun a h => n a (by rw [List.flatten_cons]; exact List.mem_append_right _ h))
  | _, _, _, _, .hnd e r, n => .hnd e (TrH.step x r fun a h => n a (by rw [List.flatten_cons]; exact List.mem_append_right _ h))
end
section
variable {X : Cx} {C : CT} {W : WXT} {e : Expr} {es : List Expr} {hs : List (Option Nat)} {f : Env → Res S} {g : Env → Res (List S)}
theorem dar_nil : DAr X C W [] [] aNil := ⟨_, pa_nil, fun b fp σ env F H R Q q => q fp F H [] [] R (Step.refl _ F H).toF ⟨[], .nil, rfl⟩ Tmp.nil⟩
theorem dar_val (h : DE X C W e f) (k : DAr X C W es hs g) (hs' : starEach (e :: es) X.env = (false, eval e X.env) :: starEach es X.env := by rfl) : DAr X C W (e :: es) (none :: hs) (aVal f g) := by
  obtain ⟨t, p, s⟩ := h
  obtain ⟨u, p2, s2⟩ := k
  refine ⟨_, pa_cons p p2 hs', fun b fp σ env F H R Q q => ?_⟩
  refine s b fp σ env F H R _ (GoodR.bind q fun x e1 fp1 F1 H1 v f1 R1 st1 t1 tm1 q1 => ?_)
  refine s2 b fp1 σ e1 F1 H1 R1 _ (GoodR.held q1 st1 tm1 (fun a h => t1.tracked a h) fun xs e2 fp2 F2 H2 vs f2 R2 st2 st t2 tm2 tm no q2 => ?_)
  obtain ⟨fs, t2, rfl⟩ := t2
  exact q2 fp2 F2 H2 (v :: vs) (f1 ++ fs.flatten) R2 st ⟨f1 :: fs, .val (t1.step st2 no) t2, by rw [List.flatten_cons]⟩ tm
theorem dar_var (i : Nat) {x : Str} {pos : Pos} (k : DAr X C W es hs g) (hN : X.N[i]? = some x := by rfl) (hv : Vis X.env.scope x := by first | exact Or.inl rfl | exact Or.inr (Or.inl rfl) | exact Or.inr (Or.inr rfl)) (hd : (x == ("__debug__" : Str)) = false := by decide)
    (hcd : (x == ("__classdict__" : Str)) = false := by decide) (hs' : starEach (.Name x pos :: es) X.env = (false, eval (.Name x pos) X.env) :: starEach es X.env := by rfl) : DAr X C W (.Name x pos :: es) (some i :: hs) (aVar i g) := by
  obtain ⟨u, p2, s2⟩ := k
  refine ⟨_, pa_cons (pe_var (i := i) hN hv hd hcd) p2 hs', fun b fp σ env F H R Q q => ?_⟩
  have q' : GoodR (Tx X C) W b (own fp) σ F H (relH (Tx X C) σ (some i :: hs)) (match kVar i env with | none => .bad | some _ => (g env).bind fun xs e2 => .ok (.u :: xs) e2) Q := q
  cases e : kVar i env with
  | none => rw [e] at q'; exact False.elim q'
  | some s =>
    rw [e] at q'
    obtain ⟨v, _, hv, _⟩ := R.root e
    refine ⟨v, hv, s2 b fp σ env F H R _ (GoodR.bind q' fun xs e2 fp2 F2 H2 vs f2 R2 st2 t2 tm2 q2 => ?_)⟩
    obtain ⟨fs, t2, rfl⟩ := t2
    exact q2 fp2 F2 H2 (v :: vs) fs.flatten R2 st2 ⟨[] :: fs, .hnd hv t2, by rw [List.flatten_cons]; rfl⟩ tm2
end
end Dn

/-! Dn8: calls of defs. -/
namespace Dn
open PySem PySem.Spec PyProof.Rows L2
open Evl (Ex)

def fillS : List (Option Nat) → List S → Env → Option (List S)
  | [], [], _ => some []
  | none :: hs, s :: ss, e => (fillS hs ss e).map (s :: ·)
  | some j :: hs, _ :: ss, e => (kVar j e).bind fun s => (fillS hs ss e).map (s :: ·)
  | _, _, _ => none
def lend1 (m : Md) (s : Option S) : Bool :=
  match m with
  | .bw => match s with
    | some (.r _) => false
    | some .u => false
    | some _ => true
    | none => false
  | .rd => true
  | .v => match s with
    | some (.f _) => true
    | some (.r (.f _)) => true
    | _ => false
def lendOk : List (Option Nat) → List Md → Env → Bool
  | some j :: hs, m :: ms, e => lend1 m e[j]? && lendOk hs ms e
  | none :: hs, _ :: ms, e => lendOk hs ms e
  | [], [], _ => true
  | _, _, _ => false
def putOuts : List (Option Nat) → List Md → List S → Env → Env
  | some j :: hs, .bw :: ms, o :: outs, e => putOuts hs ms outs (e.set j (wrapAs (e.getD j .u) o))
  | _ :: hs, _ :: ms, _ :: outs, e => putOuts hs ms outs e
  | _, _, _, e => e
def callD (fn : List S → Fo) (hs : List (Option Nat)) (ms : List Md) (ss : List S) (e : Env) : Res S :=
  match fillS hs ss e with
  | none => .bad
  | some args => if lendOk hs ms e then (match fn args with
      | .ret s outs => if outs.length = ms.length then .ok s (putOuts hs ms outs e) else .bad
      | .exc c ds outs => if outs.length = ms.length then .exc c ds (putOuts hs ms outs e) else .bad
      | .bad => .bad) else .bad
def eCall (fn : List S → Fo) (hs : List (Option Nat)) (ms : List Md) (g : Env → Res (List S)) : Env → Res S := fun env => (g env).bind fun ss e => callD fn hs ms ss e

section
variable {T : Tb} {b : Gh} {fp : Fp} {σ : SV} {env : Env} {F H : Hp}
theorem fill_at : ∀ {vs : List V} {ss : List S} {fs : List (List Addr)} {hs : List (Option Nat)} {args : List S}, TrH T σ F H vs ss fs hs → fillS hs ss env = some args →
    vs.length = hs.length ∧ args.length = hs.length ∧ fs.length = hs.length ∧ ∀ (i : Nat) h, hs[i]? = some h → ∃ v s f, vs[i]? = some v ∧ args[i]? = some s ∧ fs[i]? = some f ∧
      ((h = none ∧ Tr T F H v s f) ∨ ∃ j, h = some j ∧ σ[j]? = some (some v) ∧ kVar j env = some s ∧ f = [])
  | _, _, _, _, args, .nil, e => by
    cases e
    exact ⟨rfl, rfl, rfl, fun i h q => by simp at q⟩
  | _, _, _, _, args, .val (v := v) (s := s) (f := f) (ss := ss) (hs := hs) t r, e => by
    have e : (fillS hs ss env).map (s :: ·) = some args := e
    cases k : fillS hs ss env with
    | none => rw [k] at e; cases e
    | some as =>
      rw [k] at e; cases e
      obtain ⟨l1, l2, l3, g⟩ := fill_at r k
      refine ⟨by simp [l1], by simp [l2], by simp [l3], fun i h q => ?_⟩
      cases i with
      | zero =>
        have : none = h := by simpa using q
        subst this
        exact ⟨v, s, f, rfl, rfl, rfl, .inl ⟨rfl, t⟩⟩
      | succ i => simpa using g i h (by simpa using q)
  | _, _, _, _, args, .hnd (v := v) (j := j) (ss := ss) (hs := hs) t r, e => by
    have e : ((kVar j env).bind fun s => (fillS hs ss env).map (s :: ·)) = some args := e
    cases k0 : kVar j env with
    | none => rw [k0] at e; cases e
    | some s =>
      rw [k0] at e
      have e : (fillS hs ss env).map (s :: ·) = some args := e
      cases k : fillS hs ss env with
      | none => rw [k] at e; cases e
      | some as =>
        rw [k] at e; cases e
        obtain ⟨l1, l2, l3, g⟩ := fill_at r k
        refine ⟨by simp [l1], by simp [l2], by simp [l3], fun i h q => ?_⟩
        cases i with
        | zero =>
          have : some j = h := by simpa using q
          subst this
          exact ⟨v, s, [], rfl, rfl, rfl, .inr ⟨j, rfl, t, k0, rfl⟩⟩
        | succ i => simpa using g i h (by simpa using q)
theorem lend_at : ∀ {hs : List (Option Nat)} {ms : List Md} {e : Env}, lendOk hs ms e = true → hs.length = ms.length ∧ ∀ (i j : Nat) m, hs[i]? = some (some j) → ms[i]? = some m → lend1 m e[j]? = true
  | [], [], e, h => ⟨rfl, fun i j m q => by simp at q⟩
  | [], _ :: _, e, h => by cases h
  | some j :: hs, [], e, h => by cases h
  | none :: hs, [], e, h => by cases h
  | some j :: hs, m :: ms, e, h => by
    have h' := Bool.and_eq_true_iff.mp (show (lend1 m e[j]? && lendOk hs ms e) = true from h)
    obtain ⟨l, g⟩ := lend_at h'.2
    refine ⟨by simp [l], fun i j' m' q1 q2 => ?_⟩
    cases i with
    | zero =>
      have e1 : j = j' := by simpa using q1
      have e2 : m = m' := by simpa using q2
      subst e1; subst e2; exact h'.1
    | succ i => exact g i j' m' (by simpa using q1) (by simpa using q2)
  | none :: hs, m :: ms, e, h => by
    obtain ⟨l, g⟩ := lend_at (show lendOk hs ms e = true from h)
    refine ⟨by simp [l], fun i j' m' q1 q2 => ?_⟩
    cases i with
    | zero => simp at q1
    | succ i => exact g i j' m' (by simpa using q1) (by simpa using q2)
theorem putOuts_len : ∀ (hs : List (Option Nat)) (ms : List Md) (outs : List S) (e : Env), (putOuts hs ms outs e).length = e.length
  | [], _, _, _ => by simp [putOuts]
  | _ :: _, [], _, _ => by simp [putOuts]
  | _ :: _, _ :: _, [], _ => by simp [putOuts]
  | none :: hs, m :: ms, o :: outs, e => by simp [putOuts, putOuts_len hs ms outs e]
  | some j :: hs, .v :: ms, o :: outs, e => by simp [putOuts, putOuts_len hs ms outs e]
  | some j :: hs, .rd :: ms, o :: outs, e => by simp [putOuts, putOuts_len hs ms outs e]
  | some j :: hs, .bw :: ms, o :: outs, e => by simp [putOuts, putOuts_len hs ms outs _]
/-- where no name is lent, all stays; where one is lent, its out stands -/
theorem putOuts_get : ∀ (hs : List (Option Nat)) (ms : List Md) (outs : List S) (e : Env), (hs.filterMap id).Nodup → hs.length = ms.length → outs.length = ms.length →
    (∀ j, (∀ i : Nat, hs[i]? = some (some j) → ms[i]? = some .bw → False) → (putOuts hs ms outs e)[j]? = e[j]?) ∧
    (∀ (i j : Nat) o s, hs[i]? = some (some j) → ms[i]? = some .bw → outs[i]? = some o → e[j]? = some s → (putOuts hs ms outs e)[j]? = some (wrapAs s o))
  | [], ms, outs, e, _, _, _ => by simp [putOuts]
  | _ :: _, [], _, _, _, h, _ => by simp at h
  | _ :: _, _ :: _, [], _, _, _, h => by simp at h
  | none :: hs, m :: ms, o :: outs, e, nd, l1, l2 => by
    obtain ⟨g1, g2⟩ := putOuts_get hs ms outs e (by simpa using nd) (by simpa using l1) (by simpa using l2)
    have e0 : putOuts (none :: hs) (m :: ms) (o :: outs) e = putOuts hs ms outs e := by cases m <;> rfl
    rw [e0]
    refine ⟨fun j h => g1 j fun i q1 q2 => h (i + 1) (by simpa using q1) (by simpa using q2), fun i j o' s q1 q2 q3 q4 => ?_⟩
    cases i with
    | zero => simp at q1
    | succ i => exact g2 i j o' s (by simpa using q1) (by simpa using q2) (by simpa using q3) q4
  | some k :: hs, m :: ms, o :: outs, e, nd, l1, l2 => by
    have nd' : k ∉ hs.filterMap id ∧ (hs.filterMap id).Nodup := by simpa using nd
    have nk : ∀ i : Nat, hs[i]? ≠ some (some k) := fun i q => nd'.1 (List.mem_filterMap.mpr ⟨some k, List.mem_of_getElem? q, rfl⟩)
    by_cases hm : m = .bw
    · subst hm
      obtain ⟨g1, g2⟩ := putOuts_get hs ms outs (e.set k (wrapAs (e.getD k .u) o)) nd'.2 (by simpa using l1) (by simpa using l2)
      show (∀ j, _ → (putOuts hs ms outs (e.set k (wrapAs (e.getD k .u) o)))[j]? = e[j]?) ∧ (∀ (i j : Nat) o' s, _ → _ → _ → _ → (putOuts hs ms outs (e.set k (wrapAs (e.getD k .u) o)))[j]? = _)
      refine ⟨fun j h => ?_, fun i j o' s q1 q2 q3 q4 => ?_⟩
      · have hj : k ≠ j := fun z => h 0 (by subst z; rfl) rfl
        rw [g1 j fun i q1 q2 => h (i + 1) (by simpa using q1) (by simpa using q2), List.getElem?_set_ne hj]
      · cases i with
        | zero =>
          have e1 : k = j := by simpa using q1
          have e2 : o = o' := by simpa using q3
          subst e1; subst e2
          rw [g1 k fun i q1 _ => nk i q1, List.getElem?_set_self (List.getElem?_eq_some_iff.mp q4).1, List.getD_eq_getElem?_getD, q4]
          rfl
        | succ i =>
          have hj : k ≠ j := fun z => nk i (by subst z; simpa using q1)
          exact g2 i j o' s (by simpa using q1) (by simpa using q2) (by simpa using q3) (by rw [List.getElem?_set_ne hj]; exact q4)
    · have e0 : putOuts (some k :: hs) (m :: ms) (o :: outs) e = putOuts hs ms outs e := by cases m <;> first | rfl | exact absurd rfl hm
      rw [e0]
      obtain ⟨g1, g2⟩ := putOuts_get hs ms outs e nd'.2 (by simpa using l1) (by simpa using l2)
      refine ⟨fun j h => g1 j fun i q1 q2 => h (i + 1) (by simpa using q1) (by simpa using q2), fun i j o' s q1 q2 q3 q4 => ?_⟩
      cases i with
      | zero => exact absurd (by simpa using q2) hm
      | succ i => exact g2 i j o' s (by simpa using q1) (by simpa using q2) (by simpa using q3) q4
theorem flat_nd : ∀ {fs : List (List Addr)}, fs.flatten.Nodup → (∀ (i : Nat) f, fs[i]? = some f → f.Nodup) ∧ (∀ (i k : Nat) f g a, fs[i]? = some f → fs[k]? = some g → a ∈ f → a ∈ g → i = k)
  | [], _ => ⟨fun i f h => by simp at h, fun i k f g a h => by simp at h⟩
  | f0 :: fs, nd => by
    rw [List.flatten_cons] at nd
    obtain ⟨n1, n2, n3⟩ := List.nodup_append.mp nd
    obtain ⟨g1, g2⟩ := flat_nd n2
    refine ⟨fun i f h => ?_, fun i k f g a h1 h2 a1 a2 => ?_⟩
    · cases i with
      | zero => have : f0 = f := by simpa using h
                subst this; exact n1
      | succ i => exact g1 i f (by simpa using h)
    · cases i with
      | zero =>
        have e1 : f0 = f := by simpa using h1
        subst e1
        cases k with
        | zero => rfl
        | succ k =>
          have : a ∈ fs.flatten := List.mem_flatten.mpr ⟨g, List.mem_of_getElem? (by simpa using h2), a2⟩
          exact absurd rfl (n3 a a1 a this)
      | succ i =>
        cases k with
        | zero =>
          have e1 : f0 = g := by simpa using h2
          subst e1
          have : a ∈ fs.flatten := List.mem_flatten.mpr ⟨f, List.mem_of_getElem? (by simpa using h1), a1⟩
          exact absurd rfl (n3 a a2 a this)
        | succ k => rw [g2 i k f g a (by simpa using h1) (by simpa using h2) a1 a2]
end
/-- the callee's cells, what it only reads -/
def cFp (hs : List (Option Nat)) (ms : List Md) (fs : List (List Addr)) (fp : Fp) : Fp := fun i =>
  match hs[i]?, ms[i]? with
  | some none, some .v => fs.getD i []
  | some none, some .bw => fs.getD i []
  | some (some j), some .bw => fp j
  | _, _ => []
def cRo (hs : List (Option Nat)) (ms : List Md) (fs : List (List Addr)) (fp : Fp) (b : Gh) (e : Env) : Nat → List Addr := fun i =>
  match hs[i]?, ms[i]? with
  | some none, some .rd => fs.getD i []
  | some (some j), some .rd => (match e[j]? with
    | some (.r _) => b.ρ j
    | _ => fp j)
  | _, _ => []
/-- the caller's cells behind the call -/
def bFp (hs : List (Option Nat)) (ms : List Md) (fp' fp : Fp) : Fp := fun j =>
  match (List.range hs.length).find? (fun i => decide (hs[i]? = some (some j) ∧ ms[i]? = some .bw)) with
  | some i => fp' i
  | none => fp j
theorem bFp_lent {hs : List (Option Nat)} {ms : List Md} {fp' fp : Fp} (nd : (hs.filterMap id).Nodup) {i j : Nat} (h1 : hs[i]? = some (some j)) (h2 : ms[i]? = some .bw) : bFp hs ms fp' fp j = fp' i := by
  have hi := (List.getElem?_eq_some_iff.mp h1).1
  unfold bFp
  cases e : (List.range hs.length).find? (fun i => decide (hs[i]? = some (some j) ∧ ms[i]? = some .bw)) with
  | none =>
    have := List.find?_eq_none.mp e i (List.mem_range.mpr hi)
    simp [h1, h2] at this
  | some k =>
    have hk : hs[k]? = some (some j) ∧ ms[k]? = some .bw := by
      have := List.find?_some e
      simpa using this
    -- the same name is lent once
    have uniq : ∀ (l : List (Option Nat)), (l.filterMap id).Nodup → ∀ (x y : Nat), l[x]? = some (some j) → l[y]? = some (some j) → x = y := by
      intro l
      induction l with
      | nil => intro _ x y h; simp at h
      | cons a l ih =>
        intro nd x y hx hy
        have tail : (l.filterMap id).Nodup := by
          cases a with
          | none => simpa using nd
          | some a => have : a ∉ l.filterMap id ∧ (l.filterMap id).Nodup := by simpa using nd
                      exact this.2
        have nk : ∀ z : Nat, a = some j → l[z]? = some (some j) → False := fun z ea hz => by
          subst ea
          have : j ∉ l.filterMap id ∧ (l.filterMap id).Nodup := by simpa using nd
          exact this.1 (List.mem_filterMap.mpr ⟨some j, List.mem_of_getElem? hz, rfl⟩)
        cases x with
        | zero =>
          cases y with
          | zero => rfl
          | succ y => exact (nk y (by simpa using hx) (by simpa using hy)).elim
        | succ x =>
          cases y with
          | zero => exact (nk x (by simpa using hy) (by simpa using hx)).elim
          | succ y => rw [ih tail x y (by simpa using hx) (by simpa using hy)]
    rw [uniq hs nd k i hk.1 h1]
theorem bFp_not {hs : List (Option Nat)} {ms : List Md} {fp' fp : Fp} {j : Nat} (h : ∀ i : Nat, hs[i]? = some (some j) → ms[i]? = some .bw → False) : bFp hs ms fp' fp j = fp j := by
  unfold bFp
  cases e : (List.range hs.length).find? (fun i => decide (hs[i]? = some (some j) ∧ ms[i]? = some .bw)) with
  | none => rfl
  | some k =>
    have hk : hs[k]? = some (some j) ∧ ms[k]? = some .bw := by
      have := List.find?_some e
      simpa using this
    exact (h k hk.1 hk.2).elim

section
variable {T : Tb} {W : WXT} {b : Gh} {fp : Fp} {σ : SV} {e : Env} {F H : Hp} {vs : List V} {ss args : List S} {fs : List (List Addr)} {hs : List (Option Nat)} {ms : List Md}
theorem cFp_in {i : Nat} {a : Addr} (h : a ∈ cFp hs ms fs fp i) : (∃ m, hs[i]? = some none ∧ ms[i]? = some m ∧ m ≠ .rd ∧ a ∈ fs.getD i []) ∨ ∃ j, hs[i]? = some (some j) ∧ ms[i]? = some .bw ∧ a ∈ fp j := by
  unfold cFp at h
  split at h
  · rename_i h1 h2; exact .inl ⟨_, h1, h2, (by decide), h⟩
  · rename_i h1 h2; exact .inl ⟨_, h1, h2, (by decide), h⟩
  · rename_i j h1 h2; exact .inr ⟨j, h1, h2, h⟩
  · cases h
theorem getD_flat {i : Nat} {a : Addr} (h : a ∈ fs.getD i []) : a ∈ fs.flatten := by
  rw [List.getD_eq_getElem?_getD] at h
  cases k : fs[i]? with
  | none => rw [k] at h; cases h
  | some f => rw [k] at h; exact List.mem_flatten.mpr ⟨f, List.mem_of_getElem? k, h⟩
theorem hs_uniq : ∀ (l : List (Option Nat)), (l.filterMap id).Nodup → ∀ (j x y : Nat), l[x]? = some (some j) → l[y]? = some (some j) → x = y := by
  intro l
  induction l with
  | nil => intro _ j x y h; simp at h
  | cons a l ih =>
    intro nd j x y hx hy
    have tail : (l.filterMap id).Nodup := by
      cases a with
      | none => simpa using nd
      | some a => have : a ∉ l.filterMap id ∧ (l.filterMap id).Nodup := by simpa using nd
                  exact this.2
    have nk : ∀ z : Nat, a = some j → l[z]? = some (some j) → False := fun z ea hz => by
      subst ea
      have : j ∉ l.filterMap id ∧ (l.filterMap id).Nodup := by simpa using nd
      exact this.1 (List.mem_filterMap.mpr ⟨some j, List.mem_of_getElem? hz, rfl⟩)
    cases x with
    | zero =>
      cases y with
      | zero => rfl
      | succ y => exact (nk y (by simpa using hx) (by simpa using hy)).elim
    | succ x =>
      cases y with
      | zero => exact (nk x (by simpa using hy) (by simpa using hx)).elim
      | succ y => rw [ih tail j x y (by simpa using hx) (by simpa using hy)]
/-- the callee's entry -/
theorem SR.enter (R : SR T b fp σ e F H) (t : TrH T σ F H vs ss fs hs) (tm : Tmp b fp F fs.flatten) (hf : fillS hs ss e = some args) (ho : lendOk hs ms e = true) (nd : (hs.filterMap id).Nodup) :
    vs.length = ms.length ∧ args.length = ms.length ∧ SR T (ghOf vs (cRo hs ms fs fp b e) (cFp hs ms fs fp) F H) (cFp hs ms fs fp) (vs.map some) (List.zipWith wrapS ms args) F H ∧
      (∀ a, own (cFp hs ms fs fp) a → a ∈ fs.flatten ∨ own fp a) := by
  obtain ⟨l1, l2, l3, at_⟩ := fill_at t hf
  obtain ⟨l4, lend⟩ := lend_at ho
  obtain ⟨fn1, fn2⟩ := flat_nd tm.nd
  have sub : ∀ a, own (cFp hs ms fs fp) a → a ∈ fs.flatten ∨ own fp a := fun a ⟨i, hi⟩ => by
    rcases cFp_in hi with ⟨m, _, _, _, z⟩ | ⟨j, _, _, z⟩
    · exact .inl (getD_flat z)
    · exact .inr ⟨j, z⟩
  have fsD : ∀ {i : Nat} {f : List Addr}, fs[i]? = some f → fs.getD i [] = f := fun {i f} h => by rw [List.getD_eq_getElem?_getD, h]; rfl
  have lz : (List.zipWith wrapS ms args).length = ms.length := by rw [List.length_zipWith, l2, l4, Nat.min_self]
  have vD : ∀ {i : Nat} {v : V}, vs[i]? = some v → vs.getD i .non = v := fun {i v} h => by rw [List.getD_eq_getElem?_getD, h]; rfl
  have vM : ∀ {i : Nat} {v : V}, vs[i]? = some v → (vs.map some)[i]? = some (some v) := fun {i v} h => by rw [List.getElem?_map, h]; rfl
  refine ⟨by omega, by omega, ⟨R.ex, by rw [List.length_map, lz]; omega, fun i s q => ?_, fun i hi => ?_, fun i => ?_, fun i k a hi hk => ?_, fun i a hi => ?_, Step.refl _ F H⟩, sub⟩
  · -- a slot
    have hi : i < ms.length := by have := (List.getElem?_eq_some_iff.mp q).1; omega
    have hh : hs[i]? = some hs[i] := List.getElem?_eq_getElem (by omega)
    have hm : ms[i]? = some ms[i] := List.getElem?_eq_getElem hi
    obtain ⟨v, s', f, e1, e2, e3, e4⟩ := at_ i _ hh
    have es : s = wrapS ms[i] s' := by
      rw [List.getElem?_zipWith, hm, e2] at q
      exact (Option.some.inj q).symm
    rcases e4 with ⟨k1, tr⟩ | ⟨j, k1, hv, kv, rfl⟩
    · rw [k1] at hh
      cases hmi : ms[i] with
      | v =>
        rw [hmi] at es hm
        have : cFp hs ms fs fp i = f := by unfold cFp; rw [hh, hm]; exact fsD e3
        have tr' : Tr T F H v s' (cFp hs ms fs fp i) := by rw [this]; exact tr
        rw [es]
        exact SlotOk.of tr.plain (vM e1) tr'
      | bw =>
        rw [hmi] at es hm
        have : cFp hs ms fs fp i = f := by unfold cFp; rw [hh, hm]; exact fsD e3
        rw [es]
        refine ⟨?_, ?_⟩
        · show (vs.map some)[i]? = some (some (vs.getD i .non))
          rw [vM e1, vD e1]
        · show Tr T F H (vs.getD i .non) s' (cFp hs ms fs fp i)
          rw [vD e1, this]; exact tr
      | rd =>
        rw [hmi] at es hm
        have h1 : cFp hs ms fs fp i = [] := by unfold cFp; rw [hh, hm]
        have h2 : cRo hs ms fs fp b e i = f := by unfold cRo; rw [hh, hm]; exact fsD e3
        rw [es]
        refine ⟨h1, ?_, ?_, fun a ha => ?_⟩
        · show (vs.map some)[i]? = some (some (vs.getD i .non))
          rw [vM e1, vD e1]
        · show Tr T F H (vs.getD i .non) s' (cRo hs ms fs fp b e i)
          rw [vD e1, h2]; exact tr
        · have ha' : a ∈ cRo hs ms fs fp b e i := ha
          rw [h2] at ha'
          refine ⟨fun ⟨k, hk⟩ => ?_, tr.tracked a ha'⟩
          rcases cFp_in hk with ⟨m, c1, c2, c3, z⟩ | ⟨j, _, _, z⟩
          · have hk' : k < fs.length := by
              have := (List.getElem?_eq_some_iff.mp c1).1
              omega
            have e5 : fs[k]? = some fs[k] := List.getElem?_eq_getElem hk'
            rw [fsD e5] at z
            have := fn2 i k f _ a e3 e5 ha' z
            subst this
            rw [hm] at c2
            exact c3 (Option.some.inj c2).symm
          · exact tm.no a (List.mem_flatten.mpr ⟨f, List.mem_of_getElem? e3, ha'⟩) ⟨j, z⟩
    · rw [k1] at hh
      have ld := lend i j _ hh hm
      -- the slot of the caller
      have ej : ∃ x, e[j]? = some x ∧ rootS x = some s' := by
        unfold kVar at kv
        cases q2 : e[j]? with
        | none => rw [q2] at kv; cases kv
        | some x => rw [q2] at kv; exact ⟨x, rfl, kv⟩
      obtain ⟨x, ex, rx⟩ := ej
      have sl := R.slot j x ex
      have trj : (∃ y, x = .r y) ∨ Tr T F H v s' (fp j) := by
        cases x with
        | u => cases rx
        | r y => exact .inl ⟨y, rfl⟩
        | w y =>
          cases rx
          have := sl.1.symm.trans hv
          have := Option.some.inj (Option.some.inj this)
          rw [← this]; exact .inr sl.2
        | f d =>
          cases rx
          obtain ⟨v', h1, h2⟩ := sl
          have := Option.some.inj (Option.some.inj (h1.symm.trans hv))
          subst this; exact .inr h2
        | l d =>
          cases rx
          obtain ⟨v', h1, h2⟩ := sl
          have := Option.some.inj (Option.some.inj (h1.symm.trans hv))
          subst this; exact .inr h2
        | m d =>
          cases rx
          obtain ⟨v', h1, h2⟩ := sl
          have := Option.some.inj (Option.some.inj (h1.symm.trans hv))
          subst this; exact .inr h2
        | o c d =>
          cases rx
          obtain ⟨v', h1, h2⟩ := sl
          have := Option.some.inj (Option.some.inj (h1.symm.trans hv))
          subst this; exact .inr h2
      cases hmi : ms[i] with
      | v =>
        rw [hmi] at es hm ld
        have h1 : cFp hs ms fs fp i = [] := by unfold cFp; rw [hh, hm]
        rw [ex] at ld
        have rep : ∃ d, s' = .f d ∧ Rep T F v d := by
          cases x with
          | f d =>
            cases rx
            obtain ⟨v', q1, q2⟩ := sl
            have := Option.some.inj (Option.some.inj (q1.symm.trans hv))
            subst this
            exact ⟨d, rfl, q2.fz.1⟩
          | r y =>
            cases y with
            | f d =>
              cases rx
              obtain ⟨_, q1, q2, _⟩ := sl
              have := Option.some.inj (Option.some.inj (q1.symm.trans hv))
              rw [this] at q2
              exact ⟨d, rfl, q2.fz.1⟩
            | _ => cases ld
          | _ => cases ld
        obtain ⟨d, rfl, rp⟩ := rep
        rw [es]
        exact ⟨v, vM e1, by rw [h1]; exact .f rp⟩
      | bw =>
        rw [hmi] at es hm ld
        have h1 : cFp hs ms fs fp i = fp j := by unfold cFp; rw [hh, hm]
        rw [ex] at ld
        have tr : Tr T F H v s' (fp j) := by
          rcases trj with ⟨y, rfl⟩ | tr
          · cases ld
          · exact tr
        rw [es]
        refine ⟨?_, ?_⟩
        · show (vs.map some)[i]? = some (some (vs.getD i .non))
          rw [vM e1, vD e1]
        · show Tr T F H (vs.getD i .non) s' (cFp hs ms fs fp i)
          rw [vD e1, h1]; exact tr
      | rd =>
        rw [hmi] at es hm
        have h1 : cFp hs ms fs fp i = [] := by unfold cFp; rw [hh, hm]
        rw [es]
        -- what is read
        have rd : ∃ g, cRo hs ms fs fp b e i = g ∧ Tr T F H v s' g ∧ (∀ a ∈ g, a ∉ fs.flatten ∧ ∀ k : Nat, a ∈ fp k → k = j) := by
          cases x with
          | r y =>
            cases rx
            refine ⟨b.ρ j, by unfold cRo; rw [hh, hm]; show (match e[j]? with | some (.r _) => b.ρ j | _ => fp j) = b.ρ j; rw [ex], ?_, fun a ha => ⟨fun z => ?_, fun k z => (R.apart (sl.2.2.2 a ha) ⟨k, z⟩).elim⟩⟩
            · have := Option.some.inj (Option.some.inj (sl.2.1.symm.trans hv))
              rw [← this]; exact sl.2.2.1
            · obtain ⟨n, o, ho⟩ := sl.2.2.2 a ha
              rcases tm.ow a z with q | q
              · exact n q
              · rw [ho] at q; cases q
          | _ =>
            rcases trj with ⟨y, z⟩ | tr
            · cases z
            · refine ⟨fp j, by unfold cRo; rw [hh, hm]; show (match e[j]? with | some (.r _) => b.ρ j | _ => fp j) = fp j; rw [ex], tr, fun a ha => ⟨fun z => tm.no a z ⟨j, ha⟩, fun k z => R.dj k j a z ha⟩⟩
        obtain ⟨g, h2, tr, ap⟩ := rd
        refine ⟨h1, ?_, ?_, fun a ha => ?_⟩
        · show (vs.map some)[i]? = some (some (vs.getD i .non))
          rw [vM e1, vD e1]
        · show Tr T F H (vs.getD i .non) s' (cRo hs ms fs fp b e i)
          rw [vD e1, h2]; exact tr
        · have ha' : a ∈ cRo hs ms fs fp b e i := ha
          rw [h2] at ha'
          refine ⟨fun ⟨k, hk⟩ => ?_, tr.tracked a ha'⟩
          rcases cFp_in hk with ⟨m, c1, c2, c3, z⟩ | ⟨j2, c1, c2, z⟩
          · exact (ap a ha').1 (getD_flat z)
          · have := (ap a ha').2 j2 z
            subst this
            have := hs_uniq hs nd _ i k hh c1
            subst this
            rw [hm] at c2; cases c2
  · have h1 : hs[i]? = none := List.getElem?_eq_none_iff.mpr (by rw [lz] at hi; omega)
    unfold cFp; rw [h1]
  · unfold cFp
    split
    · rename_i h1 h2
      have hi := (List.getElem?_eq_some_iff.mp h1).1
      have e5 : fs[i]? = some fs[i] := List.getElem?_eq_getElem (by omega)
      rw [fsD e5]; exact fn1 i _ e5
    · rename_i h1 h2
      have hi := (List.getElem?_eq_some_iff.mp h1).1
      have e5 : fs[i]? = some fs[i] := List.getElem?_eq_getElem (by omega)
      rw [fsD e5]; exact fn1 i _ e5
    · exact R.nd _
    · exact List.nodup_nil
  · rcases cFp_in hi with ⟨m, c1, c2, c3, z⟩ | ⟨j, c1, c2, z⟩
    · rcases cFp_in hk with ⟨m', d1, d2, d3, z'⟩ | ⟨j', d1, d2, z'⟩
      · have hi' := (List.getElem?_eq_some_iff.mp c1).1
        have hk' := (List.getElem?_eq_some_iff.mp d1).1
        have e5 : fs[i]? = some fs[i] := List.getElem?_eq_getElem (by omega)
        have e6 : fs[k]? = some fs[k] := List.getElem?_eq_getElem (by omega)
        rw [fsD e5] at z
        rw [fsD e6] at z'
        exact fn2 i k _ _ a e5 e6 z z'
      · exact absurd ⟨j', z'⟩ (tm.no a (getD_flat z))
    · rcases cFp_in hk with ⟨m', d1, d2, d3, z'⟩ | ⟨j', d1, d2, z'⟩
      · exact absurd ⟨j, z⟩ (tm.no a (getD_flat z'))
      · have := R.dj j j' a z z'
        subst this
        exact hs_uniq hs nd _ i k c1 d1
  · rcases sub a ⟨i, hi⟩ with z | z
    · exact tm.nF a z
    · exact R.nFo z

/-- behind the call -/
theorem SR.behind {vs : List V} {outs : List S} {fp' : Fp} {F' H' : Hp} {fr : List Addr} {ρ : Nat → List Addr} (R : SR T b fp σ e F H) (t : TrH T σ F H vs ss fs hs) (tm : Tmp b fp F fs.flatten) (hf : fillS hs ss e = some args) (ho : lendOk hs ms e = true) (nd : (hs.filterMap id).Nodup)
    (lo : outs.length = ms.length) (R' : SR T (ghOf vs ρ (cFp hs ms fs fp) F H) fp' (vs.map some) (List.zipWith outW ms outs) F' H') (st : Step (own (cFp hs ms fs fp)) F H (fun a => a ∈ fr ∨ own fp' a) F' H')
    (tmr : Tmp (ghOf vs ρ (cFp hs ms fs fp) F H) fp' F' fr) (sub : ∀ a, own (cFp hs ms fs fp) a → a ∈ fs.flatten ∨ own fp a) :
    SR T b (bFp hs ms fp' fp) σ (putOuts hs ms outs e) F' H' ∧ Step (fun a => a ∈ fs.flatten ∨ own fp a) F H (fun a => a ∈ fr ∨ own (bFp hs ms fp' fp) a) F' H' ∧ Tmp b (bFp hs ms fp' fp) F' fr := by
  obtain ⟨l1, l2, l3, at_⟩ := fill_at t hf
  obtain ⟨l4, lend⟩ := lend_at ho
  obtain ⟨g1, g2⟩ := putOuts_get hs ms outs e nd l4 lo
  have lz : (List.zipWith outW ms outs).length = ms.length := by rw [List.length_zipWith, lo, Nat.min_self]
  -- lent or not
  have two : ∀ j : Nat, (∃ i : Nat, hs[i]? = some (some j) ∧ ms[i]? = some .bw) ∨ ∀ i : Nat, hs[i]? = some (some j) → ms[i]? = some .bw → False := fun j => by
    by_cases h : ∃ i : Nat, hs[i]? = some (some j) ∧ ms[i]? = some .bw
    · exact .inl h
    · exact .inr fun i a b => h ⟨i, a, b⟩
  -- what the callee owns behind is not what the caller kept
  have apart : ∀ (a : Addr) (k : Nat), (∀ i : Nat, hs[i]? = some (some k) → ms[i]? = some .bw → False) → a ∈ fp k → ¬ own (cFp hs ms fs fp) a := fun a k hk ha ⟨i, hi⟩ => by
    rcases cFp_in hi with ⟨m, _, _, _, z⟩ | ⟨j, c1, c2, z⟩
    · exact tm.no a (getD_flat z) ⟨k, ha⟩
    · have := R.dj j k a z ha
      subst this
      exact hk i c1 c2
  have apart2 : ∀ (a : Addr) (k : Nat), (∀ i : Nat, hs[i]? = some (some k) → ms[i]? = some .bw → False) → a ∈ fp k → ¬ (a ∈ fr ∨ own fp' a) := fun a k hk ha z => by
    rcases st.ow a z with q | q
    · exact apart a k hk ha q
    · obtain ⟨o, h⟩ := R.tracked ⟨k, ha⟩
      rw [q] at h; cases h
  have bown : ∀ a, own (bFp hs ms fp' fp) a → own fp' a ∨ ∃ k, (∀ i : Nat, hs[i]? = some (some k) → ms[i]? = some .bw → False) ∧ a ∈ fp k := fun a ⟨k, hk⟩ => by
    rcases two k with ⟨i, h1, h2⟩ | h
    · rw [bFp_lent nd h1 h2] at hk; exact .inl ⟨i, hk⟩
    · rw [bFp_not h] at hk; exact .inr ⟨k, h, hk⟩
  have wide : Step (fun a => a ∈ fs.flatten ∨ own fp a) F H (fun a => a ∈ fr ∨ own (bFp hs ms fp' fp) a) F' H' := by
    have s1 := st.wide sub
    refine ⟨s1.ex, s1.fr, s1.gr, fun a z => ?_⟩
    rcases z with z | z
    · exact s1.ow a (.inl z)
    · rcases bown a z with z | ⟨k, _, z⟩
      · exact s1.ow a (.inr z)
      · exact .inl (.inr ⟨k, z⟩)
  -- from the def's entry
  have base : Step b.O b.F b.H (fun a => a ∈ fs.flatten ∨ own fp a) F H := ⟨R.st.ex, R.st.fr, R.st.gr, fun a z => z.elim (tm.ow a) (R.st.ow a)⟩
  refine ⟨⟨R'.ex, by rw [putOuts_len]; exact R.len, fun j s q => ?_, fun j hj => ?_, fun j => ?_, fun j k a hj hk => ?_, fun j a hj => ?_, (base.trans wide).mono fun a z => .inr z⟩, wide, ⟨tmr.nd, fun a ha z => ?_, tmr.nF, fun a ha => ?_⟩⟩
  · -- a slot
    have hj : j < e.length := by have := (List.getElem?_eq_some_iff.mp q).1; rw [putOuts_len] at this; exact this
    have ej : e[j]? = some e[j] := List.getElem?_eq_getElem hj
    have sl := R.slot j _ ej
    rcases two j with ⟨i, h1, h2⟩ | h
    · have hi := (List.getElem?_eq_some_iff.mp h1).1
      have oi : outs[i]? = some (outs[i]'(by omega)) := List.getElem?_eq_getElem (by omega)
      rw [g2 i j _ _ h1 h2 oi ej] at q
      have es := (Option.some.inj q).symm
      obtain ⟨v, s', f, e1, e2, e3, e4⟩ := at_ i _ h1
      rcases e4 with ⟨k1, _⟩ | ⟨j', k1, hv, kv, rfl⟩
      · cases k1
      · cases k1
        -- the callee's slot
        have zi : (List.zipWith outW ms outs)[i]? = some (.w (outs[i]'(by omega))) := by
          rw [List.getElem?_zipWith, h2, oi]; rfl
        have sc := R'.slot i _ zi
        have tr : Tr T F' H' v (outs[i]'(by omega)) (fp' i) := by
          have := sc.2
          have ev : (ghOf vs ρ (cFp hs ms fs fp) F H).v i = v := by
            show vs.getD i .non = v
            rw [List.getD_eq_getElem?_getD, e1]; rfl
          rw [ev] at this
          exact this
        have ld := lend i j _ h1 h2
        rw [ej] at ld
        rw [es]
        have k2 : bFp hs ms fp' fp j = fp' i := bFp_lent nd h1 h2
        cases hx : e[j] with
        | u => rw [hx] at ld; cases ld
        | r y => rw [hx] at ld; cases ld
        | w y =>
          rw [hx] at sl
          have ev : b.v j = v := Option.some.inj (Option.some.inj (sl.1.symm.trans hv))
          exact ⟨by rw [ev]; exact hv, by rw [ev, k2]; exact tr⟩
        | _ => exact SlotOk.of (show plainS (outs[i]'(by omega)) = true from tr.plain) hv (by rw [k2]; exact tr)
    · rw [g1 j h, ej] at q
      have es := (Option.some.inj q).symm
      subst es
      have k2 : bFp hs ms fp' fp j = fp j := bFp_not h
      have keep : ∀ {v : V} {s : S}, Tr T F H v s (fp j) → Tr T F' H' v s (bFp hs ms fp' fp j) := fun {v s} tr => by
        rw [k2]; exact tr.step st fun a ha => apart a j h ha
      cases hx : e[j] with
      | u => rw [hx] at sl; exact k2.trans sl
      | r y =>
        rw [hx] at sl
        refine ⟨k2.trans sl.1, sl.2.1, sl.2.2.1.step st fun a ha => ?_, sl.2.2.2⟩
        intro z
        obtain ⟨n, o, ho⟩ := sl.2.2.2 a ha
        rcases sub a z with q | q
        · rcases tm.ow a q with q | q
          · exact n q
          · rw [ho] at q; cases q
        · exact R.apart (sl.2.2.2 a ha) q
      | w y => rw [hx] at sl; exact ⟨sl.1, keep sl.2⟩
      | f d => rw [hx] at sl; obtain ⟨v, a, t⟩ := sl; exact ⟨v, a, keep t⟩
      | l d => rw [hx] at sl; obtain ⟨v, a, t⟩ := sl; exact ⟨v, a, keep t⟩
      | m d => rw [hx] at sl; obtain ⟨v, a, t⟩ := sl; exact ⟨v, a, keep t⟩
      | o c d => rw [hx] at sl; obtain ⟨v, a, t⟩ := sl; exact ⟨v, a, keep t⟩
  · rw [putOuts_len] at hj
    rcases two j with ⟨i, h1, h2⟩ | h
    · -- a name that is lent stands in the frame
      obtain ⟨v, s', f, e1, e2, e3, e4⟩ := at_ i _ h1
      rcases e4 with ⟨k1, _⟩ | ⟨j', k1, hv, kv, rfl⟩
      · cases k1
      · cases k1
        unfold kVar at kv
        rw [List.getElem?_eq_none_iff.mpr hj] at kv
        cases kv
    · rw [bFp_not h]; exact R.out j hj
  · rcases two j with ⟨i, h1, h2⟩ | h
    · rw [bFp_lent nd h1 h2]; exact R'.nd i
    · rw [bFp_not h]; exact R.nd j
  · rcases two j with ⟨i, h1, h2⟩ | h
    · rw [bFp_lent nd h1 h2] at hj
      rcases two k with ⟨i', h1', h2'⟩ | h'
      · rw [bFp_lent nd h1' h2'] at hk
        have := R'.dj i i' a hj hk
        subst this
        rw [h1] at h1'
        exact Option.some.inj (Option.some.inj h1')
      · rw [bFp_not h'] at hk
        exact absurd (.inr ⟨i, hj⟩) (apart2 a k h' hk)
    · rw [bFp_not h] at hj
      rcases two k with ⟨i', h1', h2'⟩ | h'
      · rw [bFp_lent nd h1' h2'] at hk
        exact absurd (.inr ⟨i', hk⟩) (apart2 a j h hj)
      · rw [bFp_not h'] at hk
        exact R.dj j k a hj hk
  · rcases two j with ⟨i, h1, h2⟩ | h
    · rw [bFp_lent nd h1 h2] at hj; exact R'.nF i a hj
    · rw [bFp_not h] at hj
      cases q : F' a with
      | none => rfl
      | some o =>
        rcases st.gr a o q (R.nF j a hj) with z | z
        · obtain ⟨u, hu⟩ := R.tracked ⟨j, hj⟩
          rw [z] at hu; cases hu
        · exact absurd z (apart a j h hj)
  · rcases bown a z with z | ⟨k, h, z⟩
    · exact tmr.no a ha z
    · exact apart2 a k h z (.inl ha)
  · rcases (base.trans wide).ow a (.inl ha) with z | z
    · exact .inl z
    · exact .inr z
/-- the call -/
theorem snd_call {ta : TA} {fn : List S → Fo} {g : Env → Res (List S)} {E : XK} (ha : SndAr T W ta hs g) (nd : (hs.filterMap id).Nodup) (hE : ∀ (c : Nat) ds outs args, fn args = .exc c ds outs → False) : SndE T W (tCall (spD T ms fn) [] E ta) (eCall fn hs ms g) := fun b fp σ env F H R Q q => by
  refine ha b fp σ env F H R _ (GoodR.bind q fun ss e fp1 F1 H1 vs f1 R1 st1 t1 tm1 q1 => ?_)
  obtain ⟨fs, t1, rfl⟩ := t1
  have q2 : GoodE T W b (own fp) σ F H (callD fn hs ms ss e) Q := q1
  unfold callD at q2
  cases k1 : fillS hs ss e with
  | none => rw [k1] at q2; exact False.elim q2
  | some args =>
    rw [k1] at q2
    have q3 : GoodE T W b (own fp) σ F H (if lendOk hs ms e then (match fn args with | .ret s outs => if outs.length = ms.length then .ok s (putOuts hs ms outs e) else .bad | .exc c ds outs => if outs.length = ms.length then .exc c ds (putOuts hs ms outs e) else .bad | .bad => .bad) else .bad) Q := q2
    split at q3
    · rename_i hl
      obtain ⟨l1, l2, R2, sub⟩ := R1.enter t1 tm1 k1 hl nd
      show spD T ms fn (vs ++ []) H1 Q E
      rw [List.append_nil]
      refine ⟨l1, args, _, F1, _, l2, R2, ?_⟩
      cases kf : fn args with
      | bad => rw [kf] at q3; exact False.elim q3
      | exc c ds outs => exact (hE c ds outs args kf).elim
      | ret s outs =>
        rw [kf] at q3
        have q4 : GoodE T W b (own fp) σ F H (if outs.length = ms.length then .ok s (putOuts hs ms outs e) else .bad) Q := q3
        split at q4
        · rename_i lo
          intro v fp' F' H' fr R' st' tr' tm'
          obtain ⟨R3, s3, tm3⟩ := R1.behind t1 tm1 k1 hl nd lo R' st' tm' sub
          exact q4 _ F' H' v fr R3 (st1.trans s3) tr' tm3
        · exact False.elim q4
    · exact False.elim q3
end
/-- a call of a def that lets nothing out -/
theorem de_call {X : Cx} {C : CT} {W : WXT} {k : Nat} {f : Addr} {fd : FuncData} {ps : List Str} {x : Str} {p pos : Pos} {e : Expr} {es : List Expr} {hs : List (Option Nat)} {ms : List Md} {fn : List S → Fo} {g : Env → Res (List S)} (G : FnOk X.prog X.w X.K X.mg X.base CX0 k f fd ps (spD (Tx X C) ms fn)) (hr : Room k X.A) (hg : Gl X x)
    (hm : X.mg x = some (.ref f)) (hk : PySem.W.keepIn X.K (.ref f) = true) (hb : Binds X.K fd ps []) (ha : DAr X C W (e :: es) hs g) (hE : ∀ (c : Nat) ds outs args, fn args = .exc c ds outs → False) (nd : (hs.filterMap id).Nodup := by decide)
    (hd : (x == ("__debug__" : Str)) = false := by decide) (he : starEach (e :: es) X.env = (false, eval e X.env) :: starEach es X.env := by rfl) (hpl : (backTo pos (starEach es X.env)).any (·.1) = false := by rfl) : DE X C W (.Call (.Name x p) (e :: es) [] pos) (eCall fn hs ms g) := by
  obtain ⟨t, pa, s⟩ := ha
  exact ⟨_, pe_call G hr hg hm hk hb .nil pass0 pa hd he hpl, snd_call s nd hE⟩
theorem fnC_noexc {ms : List Md} {n : Nat} {body : Env → SRes} (c : Nat) (ds : List D) (outs : List S) (args : List S) (h : fnC ms n body args = .exc c ds outs) : False := by
  unfold fnC Fo.calm at h
  split at h
  · cases h
  · rename_i h2
    exact h2 c ds outs h
end Dn

/-! Dn9: pure new values, built-in calls, chains, in, truth, what is walked. -/
namespace Dn
open PySem PySem.Spec PyProof.Rows L2
open Evl (Ex)

/-! ### pure and new -/
def SndP (T : Tb) (t : TE) (g : Env → Option S) : Prop :=
  ∀ (b : Gh) (fp : Fp) (σ : SV) (env : Env) (F H : Hp), SR T b fp σ env F H → ∀ s, g env = some s → ∀ Q : VK, (∀ v F1 H1 F' H' f, Grow F H F1 H1 → Grow F1 H1 F' H' → Tr T F' H' v s f → (∀ a ∈ f, H1 a = none ∧ F' a = none) → f.Nodup → Q v H') → t σ H Q
def DP (X : Cx) (C : CT) (e : Expr) (g : Env → Option S) : Prop := ∃ t, PE X e t ∧ SndP (Tx X C) t g
def pK (g : Env → Option S) : Env → Option S := fun env => frzO (g env)
section
variable {X : Cx} {C : CT} {W : WXT} {e : Expr} {g : Env → Option S}
theorem dk_of (h : DP X C e g) : DK X C e g := by
  obtain ⟨t, p, s⟩ := h
  exact ⟨t, p, fun b fp σ env F H R x e Q q => s b fp σ env F H R x e Q fun v F1 H1 F' H' f G1 G2 t _ _ => q v F' H' f (G1.trans G2) t⟩
theorem de_ofP (h : DP X C e g) : DE X C W e (eK g) := by
  obtain ⟨t, p, s⟩ := h
  refine ⟨t, p, fun b fp σ env F H R Q q => ?_⟩
  have q' : GoodE (Tx X C) W b (own fp) σ F H (.of (g env) env) Q := q
  cases e : g env with
  | none => rw [e] at q'; exact False.elim q'
  | some x =>
    rw [e] at q'
    refine s b fp σ env F H R x e Q fun v F1 H1 F' H' f G1 G2 t fr nd => ?_
    have R1 := R.grow G1
    exact q' fp F' H' v f (R1.grow G2) ((G1.step (own fp)).fresh G2 (fun a h => (fr a h).1) fun a z => z) t (Tmp.fresh R1 fr nd)
theorem dp_of (h : DK X C e g) : DP X C e (pK g) := by
  obtain ⟨t, p, s⟩ := h
  refine ⟨t, p, fun b fp σ env F H R x e Q q => ?_⟩
  obtain ⟨d, e1, rfl⟩ := frzO_some e
  refine s b fp σ env F H R _ e1 Q fun v F' H' f G t => ?_
  obtain ⟨_, rfl⟩ := t.fz
  exact q v F H F' H' [] (Grow.refl R.ex) G t (fun _ h => nomatch h) List.nodup_nil
end
section
variable {X : Cx} {C : CT} {r : R2} {g : S → S → Option S} {a b : Expr} {ga gb : Env → Option S} {pos p2 : Pos} {lo hi : Option Expr} {gl gh : Env → Option (Option Int)}
theorem snd_pOp2 {T : Tb} {ta tb : TE} (hg : OpN T r g) (ha : SndK T ta ga) (hb : SndK T tb gb) : SndP T (tOp r ta tb) (kOp2 g ga gb) := fun b fp σ env F H R s e Q q => by
  obtain ⟨x, y, ea, eb, eg⟩ := kOp2_some e
  refine ha b fp σ env F H R x ea _ fun v F1 H1 f1 G1 t1 => ?_
  refine hb b fp σ env F1 H1 (R.grow G1) y eb _ fun w F2 H2 f2 G2 t2 => ?_
  exact hg F2 H2 v w x y f1 f2 s G2.le (t1.ext G2.exF G2.exH) t2 eg Q fun z F3 H3 f G3 t3 fr nd => q z F2 H2 F3 H3 f (G1.trans G2) G3 t3 fr nd
theorem dp_op {op : Operator} (ho : OpR X (binaryOp op) r) (hg : OpN (Tx X C) r g) (ha : DK X C a ga) (hb : DK X C b gb) : DP X C (.BinOp a op b pos) (kOp2 g ga gb) := by
  obtain ⟨ta, pa, sa⟩ := ha
  obtain ⟨tb, pb, sb⟩ := hb
  exact ⟨_, pe_op ho pa pb, snd_pOp2 hg sa sb⟩
theorem dp_sl (ha : DK X C a ga) (hl : DO X C lo gl) (hh : DO X C hi gh) : DP X C (.Subscript a (.Slice lo hi none p2) pos) (kSl ga gl gh) := by
  obtain ⟨ta, pa, sa⟩ := ha
  obtain ⟨tl, pl, sl⟩ := hl
  obtain ⟨th, ph, sh⟩ := hh
  exact ⟨_, pe_slice sl_U pa pl ph, fun b fp σ env F H R s e Q q => snd_sl sa sl sh b fp σ env F H R s e Q q⟩
end
/-- lists of pure new values -/
def SndPL (T : Tb) (t : TA) (g : Env → Option (List S)) : Prop :=
  ∀ (b : Gh) (fp : Fp) (σ : SV) (env : Env) (F H : Hp), SR T b fp σ env F H → ∀ ss, g env = some ss → ∀ Q : List V → Hp → Prop, (∀ vs F' H' f, Grow F H F' H' → TrAll T F' H' vs ss f → (∀ a ∈ f, H a = none ∧ F' a = none) → f.Nodup → Q vs H') → t σ H Q
def DPL (X : Cx) (C : CT) (es : List Expr) (g : Env → Option (List S)) : Prop := ∃ t, PA X es t ∧ SndPL (Tx X C) t g
section
variable {X : Cx} {C : CT} {W : WXT} {e : Expr} {es : List Expr} {g : Env → Option S} {gs : Env → Option (List S)} {pos : Pos}
theorem dpl_nil : DPL X C [] kNil := ⟨_, pa_nil, fun b fp σ env F H R s e Q q => by cases e; exact q [] F H [] (Grow.refl R.ex) .nil (fun _ h => nomatch h) List.nodup_nil⟩
theorem dpl_cons (h : DP X C e g) (k : DPL X C es gs) (hs : starEach (e :: es) X.env = (false, eval e X.env) :: starEach es X.env := by rfl) : DPL X C (e :: es) (kCons g gs) := by
  obtain ⟨t, p, s⟩ := h
  obtain ⟨u, p2, s2⟩ := k
  refine ⟨_, pa_cons p p2 hs, fun b fp σ env F H R ss e Q q => ?_⟩
  unfold kCons at e
  cases k : g env with
  | none => rw [k] at e; cases e
  | some x =>
    rw [k] at e
    have e : (gs env).map (x :: ·) = some ss := e
    cases k2 : gs env with
    | none => rw [k2] at e; cases e
    | some xs =>
      rw [k2] at e; cases e
      refine s b fp σ env F H R x k _ fun v F0 H0 F1 H1 f1 G0 G1 t1 fr1 nd1 => ?_
      have G01 := G0.trans G1
      refine s2 b fp σ env F1 H1 (R.grow G01) xs k2 _ fun vs F2 H2 f2 G2 t2 fr2 nd2 => ?_
      refine q _ F2 H2 _ (G01.trans G2) (.cons (t1.ext G2.exF G2.exH) t2) (fun a ha => ?_) (List.nodup_append.mpr ⟨nd1, nd2, fun x hx y hy z => ?_⟩)
      · rcases List.mem_append.mp ha with ha | ha
        · refine ⟨Evl.fresh_back G0.exH (fr1 a ha).1, ?_⟩
          cases z : F2 a with
          | none => rfl
          | some o =>
            have := G2.gr a o z (fr1 a ha).2
            obtain ⟨u, hu⟩ := t1.tracked a ha
            rw [this] at hu; cases hu
        · exact ⟨Evl.fresh_back G01.exH (fr2 a ha).1, (fr2 a ha).2⟩
      · subst z
        obtain ⟨u, hu⟩ := t1.tracked x hx
        rw [(fr2 x hy).1] at hu; cases hu
def kLst (gs : Env → Option (List S)) : Env → Option S := fun env => (gs env).bind fun ss => if ss.length ≤ sizeLine then some (.l ss) else none
theorem dp_lst (h : DPL X C es gs) : DP X C (.List es pos) (kLst gs) := by
  obtain ⟨t, p, s⟩ := h
  refine ⟨_, pe_lst p, fun b fp σ env F H R x e Q q => ?_⟩
  unfold kLst at e
  cases k : gs env with
  | none => rw [k] at e; cases e
  | some ss =>
    rw [k] at e
    have e : (if ss.length ≤ sizeLine then some (S.l ss) else none) = some x := e
    split at e
    · rename_i hz
      cases e
      refine s b fp σ env F H R ss k _ fun vs F1 H1 f1 G1 t1 fr1 nd1 => ⟨by rw [t1.len]; exact hz, fun pp hp => ?_⟩
      have fpn := Evl.fresh_back G1.le hp
      have G : Grow F1 H1 F1 (upd H1 pp (.lst vs)) := ⟨Ex.refl _, Evl.Ex.new hp, G1.le.trans (Evl.Ex.new hp), fun a o h n => by rw [h] at n; cases n⟩
      refine q _ F H F1 _ (pp :: f1) (Grow.refl R.ex) (G1.trans G) (.l upd_same (t1.ext (Ex.refl _) (Evl.Ex.new hp))) (fun a ha => ?_) (List.nodup_cons.mpr ⟨fun z => ?_, nd1⟩)
      · rcases List.mem_cons.mp ha with e | ha
        · subst e; exact ⟨Evl.fresh_back G1.exH hp, fpn⟩
        · exact fr1 a ha
      · obtain ⟨u, hu⟩ := t1.tracked pp z
        rw [hp] at hu; cases hu
    · cases e
theorem dp_tup {k} (h : DL X C es gs) : DP X C (.Tuple es k pos) (pK (kTup gs)) := dp_of (dk_tup h)
end

/-! ### built-in calls -/
def FnN (T : Tb) (r : List V → Hp → VK → Prop) (g : List S → Option S) : Prop :=
  ∀ (F H : Hp) (vs : List V) (ss : List S) (f : List Addr) (s : S), Ex F H → TrAll T F H vs ss f → g ss = some s → ∀ Q : VK, (∀ z F' H' f, Grow F H F' H' → Tr T F' H' z s f → (∀ a ∈ f, H a = none ∧ F' a = none) → f.Nodup → Q z H') → r vs H Q
def kFn (g : List S → Option S) (ga : Env → Option (List S)) : Env → Option S := fun env => (ga env).bind g
def eFn (g : List S → Option S) (fa : Env → Res (List S)) : Env → Res S := fun env => (fa env).bind fun ss e => .of (g ss) e
section
variable {X : Cx} {C : CT} {W : WXT} {r : List V → Hp → VK → Prop} {g : List S → Option S} {e : Expr} {es : List Expr} {ga : Env → Option (List S)} {fa : Env → Res (List S)} {x : Str} {id T : String} {p pos : Pos}
theorem snd_kFn {T : Tb} {ta : TA} (hg : FnN T r g) (ha : SndL T ta ga) : SndP T (tCB r ta) (kFn g ga) := fun b fp σ env F H R s e Q q => by
  unfold kFn at e
  cases k : ga env with
  | none => rw [k] at e; cases e
  | some ss =>
    rw [k] at e
    refine ha b fp σ env F H R ss k _ fun vs F1 H1 f1 G1 t1 => ?_
    exact hg F1 H1 vs ss f1 s G1.le t1 e Q fun z F' H' f G t fr nd => q z F1 H1 F' H' f G1 G t fr nd
theorem snd_eFn {T : Tb} {W : WXT} {ta : TA} (hg : FnN T r g) (ha : SndA T W ta fa) : SndE T W (tCB r ta) (eFn g fa) := fun b fp σ env F H R Q q => by
  refine ha b fp σ env F H R _ (GoodR.bind q fun ss e1 fp1 F1 H1 vs f1 R1 st1 t1 tm1 q1 => ?_)
  cases k : g ss with
  | none => rw [k] at q1; exact False.elim q1
  | some s =>
    rw [k] at q1
    refine hg F1 H1 vs ss f1 s R1.ex t1 k Q fun z F' H' f G t fr nd => ?_
    exact q1 fp1 F' H' z f (R1.grow G) (st1.fresh G (fun a h => (fr a h).1) fun a z => .inr z) t (Tmp.fresh R1 fr nd)
theorem dp_callB (hc : CallR X (.builtin id) r) (hf : FnN (Tx X C) r g) (hg : Gl X x) (hm : X.mg x = none) (hv : bootBuiltins x = some (.builtin id)) (ha : DL X C (e :: es) ga) (hn : x ≠ "__name__" := by decide) (hdb : (x == ("__debug__" : Str)) = false := by decide)
    (he : starEach (e :: es) X.env = (false, eval e X.env) :: starEach es X.env := by rfl) (hpl : (backTo pos (starEach es X.env)).any (·.1) = false := by rfl) : DP X C (.Call (.Name x p) (e :: es) [] pos) (kFn g ga) := by
  obtain ⟨t, pa, s⟩ := ha
  exact ⟨_, pe_callB hc hg hm hv pa hn hdb he hpl, snd_kFn hf s⟩
theorem de_callB (hc : CallR X (.builtin id) r) (hf : FnN (Tx X C) r g) (hg : Gl X x) (hm : X.mg x = none) (hv : bootBuiltins x = some (.builtin id)) (ha : DA X C W (e :: es) fa) (hn : x ≠ "__name__" := by decide) (hdb : (x == ("__debug__" : Str)) = false := by decide)
    (he : starEach (e :: es) X.env = (false, eval e X.env) :: starEach es X.env := by rfl) (hpl : (backTo pos (starEach es X.env)).any (·.1) = false := by rfl) : DE X C W (.Call (.Name x p) (e :: es) [] pos) (eFn g fa) := by
  obtain ⟨t, pa, s⟩ := ha
  exact ⟨_, pe_callB hc hg hm hv pa hn hdb he hpl, snd_eFn hf s⟩
theorem dp_callT (hc : CallR X (.type T) r) (hf : FnN (Tx X C) r g) (hg : Gl X x) (hm : X.mg x = none) (hv : bootBuiltins x = some (.type T)) (ha : DL X C (e :: es) ga) (hn : x ≠ "__name__" := by decide) (hdb : (x == ("__debug__" : Str)) = false := by decide)
    (he : starEach (e :: es) X.env = (false, eval e X.env) :: starEach es X.env := by rfl) (hpl : (backTo pos (starEach es X.env)).any (·.1) = false := by rfl) : DP X C (.Call (.Name x p) (e :: es) [] pos) (kFn g ga) := by
  obtain ⟨t, pa, s⟩ := ha
  exact ⟨_, pe_callTy hc hg hm hv pa hn hdb he hpl, snd_kFn hf s⟩
theorem de_callT (hc : CallR X (.type T) r) (hf : FnN (Tx X C) r g) (hg : Gl X x) (hm : X.mg x = none) (hv : bootBuiltins x = some (.type T)) (ha : DA X C W (e :: es) fa) (hn : x ≠ "__name__" := by decide) (hdb : (x == ("__debug__" : Str)) = false := by decide)
    (he : starEach (e :: es) X.env = (false, eval e X.env) :: starEach es X.env := by rfl) (hpl : (backTo pos (starEach es X.env)).any (·.1) = false := by rfl) : DE X C W (.Call (.Name x p) (e :: es) [] pos) (eFn g fa) := by
  obtain ⟨t, pa, s⟩ := ha
  exact ⟨_, pe_callTy hc hg hm hv pa hn hdb he hpl, snd_eFn hf s⟩
end
section
variable {T : Tb} {F H : Hp} {vs : List V} {ss : List S} {f : List Addr} {s s2 s3 : S}
theorem TrAll.one (t : TrAll T F H vs [s] f) : ∃ v g, vs = [v] ∧ Tr T F H v s g := by
  cases t with
  | cons t r => cases r; exact ⟨_, _, rfl, t⟩
theorem TrAll.two (t : TrAll T F H vs [s, s2] f) : ∃ v g w h, vs = [v, w] ∧ Tr T F H v s g ∧ Tr T F H w s2 h := by
  cases t with
  | cons t r =>
    cases r with
    | cons t2 r => cases r; exact ⟨_, _, _, _, rfl, t, t2⟩
theorem TrAll.three (t : TrAll T F H vs [s, s2, s3] f) : ∃ v g w h u k, vs = [v, w, u] ∧ Tr T F H v s g ∧ Tr T F H w s2 h ∧ Tr T F H u s3 k := by
  cases t with
  | cons t r =>
    cases r with
    | cons t2 r =>
      cases r with
      | cons t3 r => cases r; exact ⟨_, _, _, _, _, _, rfl, t, t2, t3⟩
end
/-- len -/
def lenL (ss : List S) : Option S :=
  match ss with
  | [.f (.str z)] => if z.length ≤ sizeLine then some (.f (.int z.length)) else none
  | [s] => s.it.map fun xs => .f (.int xs.length)
  | _ => none
def rLenU (K : PySem.W.Frag) : List V → Hp → VK → Prop := fun xs H Q => (∃ x n, xs = [x] ∧ LenV K x H n ∧ Q (.int n) H) ∨ ∃ a kvs, xs = [V.ref a] ∧ H a = some (.dK kvs) ∧ Q (.int kvs.length) H
theorem call_lenU {X : Cx} : CallR X (.builtin "len") (rLenU X.K) := call_len.or call_lenD
theorem fn_len {T : Tb} : FnN T (rLenU T.K) lenL := by
  intro F H vs ss f s ex t e Q q
  unfold lenL at e
  split at e
  · rename_i z
    obtain ⟨v, g, rfl, t1⟩ := t.one
    obtain ⟨rfl, _⟩ := t1.str
    split at e
    · rename_i hz
      cases e
      exact .inl ⟨.str z, z.length, rfl, ⟨hz, rfl⟩, out0 ex (.int _) q⟩
    · cases e
  · rename_i s0 _
    obtain ⟨v, g, rfl, t1⟩ := t.one
    cases k : s0.it with
    | none => rw [k] at e; cases e
    | some xs =>
      rw [k] at e; cases e
      obtain ⟨a, us, g2, rfl, hs, tr, _⟩ := t1.it k ex
      have hl := tr.len
      refine .inl ⟨.ref a, xs.length, rfl, ?_, out0 ex (.int _) q⟩
      rcases hs with hs | hs
      · exact .inl ⟨us, hs, hl.symm⟩
      · exact .inr ⟨us, hs, hl.symm⟩
  · cases e
/-- int(..) of an int, of a bool -/
def intC (ss : List S) : Option S :=
  match ss with
  | [.f (.int i)] => some (.f (.int i))
  | [.f (.bl k)] => some (.f (.int (if k then 1 else 0)))
  | _ => none
theorem fn_int {T : Tb} : FnN T (fun xs H Q => (∃ i, xs = [.int i] ∧ Q (.int i) H) ∨ ∃ k, xs = [.bl k] ∧ Q (.int (if k then 1 else 0)) H) intC := by
  intro F H vs ss f s ex t e Q q
  unfold intC at e
  split at e
  · obtain ⟨v, g, rfl, t1⟩ := t.one
    obtain ⟨rfl, _⟩ := t1.int
    cases e
    exact .inl ⟨_, rfl, out0 ex (.int _) q⟩
  · obtain ⟨v, g, rfl, t1⟩ := t.one
    obtain ⟨rfl, _⟩ := t1.bl
    cases e
    exact .inr ⟨_, rfl, out0 ex (.int _) q⟩
  · cases e
/-- list(..), tuple(..) -/
def S.fz : S → Option (List D)
  | .f (.lst ds) => some ds
  | .f (.scr ds) => some ds
  | .f (.tup ds) => some ds
  | .f (.wtu ds) => some ds
  | .l ss => fzs ss
  | _ => none
theorem Tr.fzit {T : Tb} {F H : Hp} {v : V} {s : S} {f : List Addr} {ds : List D} (h : Tr T F H v s f) (e : s.fz = some ds) (ex : Ex F H) : ∃ a xs, v = .ref a ∧ (SqL T.K H a xs ∨ SqT T.K H a xs) ∧ RepAll T F xs ds := by
  cases h with
  | f h =>
    cases h with
    | lst h1 h2 => cases e; exact ⟨_, _, rfl, .inl (.of (ex _ _ h1)), h2⟩
    | scr h1 h2 => cases e; exact ⟨_, _, rfl, .inl (Evl.ex_l ex h1), h2⟩
    | tup h1 h2 => cases e; exact ⟨_, _, rfl, .inr (.of (ex _ _ h1)), h2⟩
    | wtu h1 h2 => cases e; exact ⟨_, _, rfl, .inr (Evl.ex_t ex h1), h2⟩
    | _ => cases e
  | l h1 h2 => exact ⟨_, _, rfl, .inl (.of h1), (fzs_rep h2 e).1⟩
  | m _ _ _ _ => cases e
  | o _ _ _ _ => cases e
def listC (ss : List S) : Option S :=
  match ss with
  | [s] => s.fz.map fun ds => .l (ds.map .f)
  | _ => none
theorem fn_list {T : Tb} : FnN T (fun xs H Q => ∃ p ys, xs = [.ref p] ∧ (SqL T.K H p ys ∨ SqT T.K H p ys) ∧ ∀ l, H l = none → Q (.ref l) (upd H l (.lst ys))) listC := by
  intro F H vs ss f s ex t e Q q
  unfold listC at e
  split at e
  · rename_i s0
    obtain ⟨v, g, rfl, t1⟩ := t.one
    cases k : s0.fz with
    | none => rw [k] at e; cases e
    | some ds =>
      rw [k] at e; cases e
      obtain ⟨a, xs, rfl, hs, r⟩ := t1.fzit k ex
      refine ⟨a, xs, rfl, hs, fun p hp => ?_⟩
      obtain ⟨G, t, fr, nd⟩ := newL r ex hp
      exact q _ _ _ _ G t fr nd
  · cases e
def tupC (ss : List S) : Option S :=
  match ss with
  | [.f (.tup ds)] => some (.f (.tup ds))
  | [s] => s.dl.map fun ds => .f (.tup ds)
  | _ => none
theorem fn_tup {T : Tb} : FnN T (fun xs H Q => ∃ p ys, xs = [.ref p] ∧ ((SqL T.K H p ys ∧ ∀ l, H l = none → Q (.ref l) (upd H l (.tup ys))) ∨ (SqT T.K H p ys ∧ Q (.ref p) H))) tupC := by
  intro F H vs ss f s ex t e Q q
  unfold tupC at e
  split at e
  · obtain ⟨v, g, rfl, t1⟩ := t.one
    cases e
    obtain ⟨a, xs, rfl, h1, h2⟩ := t1.dt rfl
    exact ⟨a, xs, rfl, .inr ⟨.of (ex _ _ h1), out0 ex (.tup h1 h2) q⟩⟩
  · rename_i s0 _
    obtain ⟨v, g, rfl, t1⟩ := t.one
    cases k : s0.dl with
    | none => rw [k] at e; cases e
    | some ds =>
      rw [k] at e; cases e
      obtain ⟨a, xs, rfl, hs, r⟩ := t1.dl k ex
      refine ⟨a, xs, rfl, .inl ⟨hs, fun p hp => ?_⟩⟩
      obtain ⟨G, t⟩ := newT r ex hp
      exact q _ _ _ _ G t (fun _ h => nomatch h) List.nodup_nil
  · cases e
/-- min, max of two ints, of three -/
def minC (ss : List S) : Option S :=
  match ss with
  | [.f (.int i), .f (.int j)] => some (.f (.int (if j < i then j else i)))
  | _ => none
def maxC (ss : List S) : Option S :=
  match ss with
  | [.f (.int i), .f (.int j)] => some (.f (.int (if j > i then j else i)))
  | _ => none
def min3C (ss : List S) : Option S :=
  match ss with
  | [.f (.int i), .f (.int j), .f (.int k)] => some (.f (.int (if k < (if j < i then j else i) then k else if j < i then j else i)))
  | _ => none
theorem fn_min {T : Tb} : FnN T (fun xs H Q => ∃ i j, xs = [.int i, .int j] ∧ Q (.int (if j < i then j else i)) H) minC := by
  intro F H vs ss f s ex t e Q q
  unfold minC at e
  split at e
  · obtain ⟨v, g, w, h, rfl, t1, t2⟩ := t.two
    obtain ⟨rfl, _⟩ := t1.int
    obtain ⟨rfl, _⟩ := t2.int
    cases e
    exact ⟨_, _, rfl, out0 ex (.int _) q⟩
  · cases e
theorem fn_max {T : Tb} : FnN T (fun xs H Q => ∃ i j, xs = [.int i, .int j] ∧ Q (.int (if j > i then j else i)) H) maxC := by
  intro F H vs ss f s ex t e Q q
  unfold maxC at e
  split at e
  · obtain ⟨v, g, w, h, rfl, t1, t2⟩ := t.two
    obtain ⟨rfl, _⟩ := t1.int
    obtain ⟨rfl, _⟩ := t2.int
    cases e
    exact ⟨_, _, rfl, out0 ex (.int _) q⟩
  · cases e
theorem fn_min3 {T : Tb} : FnN T (rNuC3 nuMin3) min3C := by
  intro F H vs ss f s ex t e Q q
  unfold min3C at e
  split at e
  · rename_i i j k
    obtain ⟨v, g, w, h, u, k2, rfl, t1, t2, t3⟩ := t.three
    obtain ⟨rfl, _⟩ := t1.int
    obtain ⟨rfl, _⟩ := t2.int
    obtain ⟨rfl, _⟩ := t3.int
    cases e
    refine ⟨_, _, _, .int (if k < (if j < i then j else i) then k else if j < i then j else i), rfl, ?_, out0 ex (.int _) q⟩
    by_cases h1 : j < i
    · by_cases h2 : k < j <;> simp [nuMin3, nuMin2, nuLt, nuCB, h1, h2]
    · by_cases h2 : k < i <;> simp [nuMin3, nuMin2, nuLt, nuCB, h1, h2]
  · cases e
end Dn

/-! Dn10: places within trees, changes there. -/
namespace Dn
open PySem PySem.Spec PyProof.Rows L2
open Evl (Ex)

/-- u stands at the path within v -/
inductive AtP (H : Hp) : V → List Nat → V → Prop
  | nil {v : V} : AtP H v [] v
  | lst {p : Addr} {xs : List V} {j : Nat} {w u : V} {r : List Nat} : H p = some (.lst xs) → xs[j]? = some w → AtP H w r u → AtP H (.ref p) (j :: r) u
  | obj {p C dx : Addr} {fs : List (Str × V)} {j : Nat} {w u : V} {r : List Nat} : H p = some (.ins C dx fs) → (fs.map (·.2))[j]? = some w → AtP H w r u → AtP H (.ref p) (j :: r) u
theorem AtP.ext {H H' : Hp} (e : Ex H H') {v u : V} {r : List Nat} (h : AtP H v r u) : AtP H' v r u := by
  induction h with
  | nil => exact .nil
  | lst h1 h2 _ ih => exact .lst (e _ _ h1) h2 ih
  | obj h1 h2 _ ih => exact .obj (e _ _ h1) h2 ih
theorem AtP.snocL {H : Hp} {v : V} {p : Addr} {xs : List V} {j : Nat} {w : V} {r : List Nat} (h : AtP H v r (.ref p)) (h1 : H p = some (.lst xs)) (h2 : xs[j]? = some w) : AtP H v (r ++ [j]) w := by
  generalize e : V.ref p = u at h
  induction h with
  | nil => subst e; exact .lst h1 h2 .nil
  | lst k1 k2 _ ih => exact .lst k1 k2 (ih e)
  | obj k1 k2 _ ih => exact .obj k1 k2 (ih e)
theorem AtP.snocO {H : Hp} {v : V} {p C dx : Addr} {fs : List (Str × V)} {j : Nat} {w : V} {r : List Nat} (h : AtP H v r (.ref p)) (h1 : H p = some (.ins C dx fs)) (h2 : (fs.map (·.2))[j]? = some w) : AtP H v (r ++ [j]) w := by
  generalize e : V.ref p = u at h
  induction h with
  | nil => subst e; exact .obj h1 h2 .nil
  | lst k1 k2 _ ih => exact .lst k1 k2 (ih e)
  | obj k1 k2 _ ih => exact .obj k1 k2 (ih e)
def S.kids : S → Option (List S)
  | .l ss => some ss
  | .o _ ss => some ss
  | _ => none
def S.withKids (s : S) (ss : List S) : S :=
  match s with
  | .l _ => .l ss
  | .o c _ => .o c ss
  | s => s
def getP : S → List Nat → Option S
  | s, [] => some s
  | s, j :: r => s.kids.bind fun ss => (ss[j]?).bind fun x => getP x r
def setP (s : S) (p : List Nat) (y : S) : S :=
  match p with
  | [] => y
  | j :: r => match s.kids with
    | some ss => match ss[j]? with
      | some x => s.withKids (ss.set j (setP x r y))
      | none => s
    | none => s
section
variable {T : Tb} {F H : Hp}
/-- an item may be exchanged -/
theorem TrAll.exch : ∀ {xs : List V} {ss : List S} {g : List Addr} {j : Nat} {w : V} {x : S}, TrAll T F H xs ss g → g.Nodup → xs[j]? = some w → ss[j]? = some x →
    ∃ fj, Tr T F H w x fj ∧ fj.Nodup ∧ (∀ a ∈ fj, a ∈ g) ∧ ∀ (H' : Hp) (y : S) (f2 : List Addr), Tr T F H' w y f2 → f2.Nodup → (∀ a ∈ g, a ∉ fj → H' a = H a) → (∀ a ∈ f2, a ∈ g → a ∈ fj) →
      ∃ g', TrAll T F H' xs (ss.set j y) g' ∧ g'.Nodup ∧ ∀ a ∈ g', a ∈ f2 ∨ (a ∈ g ∧ a ∉ fj)
  | _, _, _, j, w, x, .nil, _, h1, _ => by simp at h1
  | _, _, _, 0, w, x, .cons (v := v) (s := s) (f := f) (g := g) t r, nd, h1, h2 => by
    have e1 : v = w := by simpa using h1
    have e2 : s = x := by simpa using h2
    subst e1; subst e2
    obtain ⟨n1, n2, n3⟩ := List.nodup_append.mp nd
    have out : ∀ a ∈ g, a ∉ f := fun a ha hf => n3 a hf a ha rfl
    refine ⟨f, t, n1, fun a ha => List.mem_append_left _ ha, fun H' y f2 t2 nd2 k d => ⟨f2 ++ g, .cons t2 (r.keep (Ex.refl F) fun a ha => k a (List.mem_append_right _ ha) (out a ha)), List.nodup_append.mpr ⟨nd2, n2, fun a ha b hb e => ?_⟩, fun a ha => ?_⟩⟩
    · subst e
      exact out a hb (d a ha (List.mem_append_right _ hb))
    · rcases List.mem_append.mp ha with ha | ha
      · exact .inl ha
      · exact .inr ⟨List.mem_append_right _ ha, out a ha⟩
  | _, _, _, j + 1, w, x, .cons (v := v) (s := s) (f := f) (g := g) t r, nd, h1, h2 => by
    obtain ⟨n1, n2, n3⟩ := List.nodup_append.mp nd
    obtain ⟨fj, tj, ndj, sub, ex⟩ := TrAll.exch (j := j) r n2 (by simpa using h1) (by simpa using h2)
    have out : ∀ a ∈ f, a ∉ fj := fun a ha hf => n3 a ha a (sub a hf) rfl
    refine ⟨fj, tj, ndj, fun a ha => List.mem_append_right _ (sub a ha), fun H' y f2 t2 nd2 k d => ?_⟩
    obtain ⟨g', tg, ndg, sg⟩ := ex H' y f2 t2 nd2 (fun a ha hn => k a (List.mem_append_right _ ha) hn) fun a ha hg => d a ha (List.mem_append_right _ hg)
    refine ⟨f ++ g', .cons (t.keep (Ex.refl F) fun a ha => k a (List.mem_append_left _ ha) (out a ha)) tg, List.nodup_append.mpr ⟨n1, ndg, fun a ha b hb e => ?_⟩, fun a ha => ?_⟩
    · subst e
      rcases sg a hb with z | ⟨z, _⟩
      · exact out a ha (d a z (List.mem_append_left _ ha))
      · exact n3 a ha a z rfl
    · rcases List.mem_append.mp ha with ha | ha
      · exact .inr ⟨List.mem_append_left _ ha, out a ha⟩
      · rcases sg a ha with z | ⟨z, z2⟩
        · exact .inl z
        · exact .inr ⟨List.mem_append_right _ z, z2⟩
/-- what stands at a path may be exchanged -/
theorem Tr.path : ∀ {r : List Nat} {v u : V} {s x : S} {f : List Addr}, Tr T F H v s f → f.Nodup → AtP H v r u → getP s r = some x →
    ∃ f1, Tr T F H u x f1 ∧ f1.Nodup ∧ (∀ a ∈ f1, a ∈ f) ∧ ∀ (H' : Hp) (y : S) (f2 : List Addr), Tr T F H' u y f2 → f2.Nodup → (∀ a ∈ f, a ∉ f1 → H' a = H a) → (∀ a ∈ f2, a ∈ f → a ∈ f1) →
      ∃ f', Tr T F H' v (setP s r y) f' ∧ f'.Nodup ∧ ∀ a ∈ f', a ∈ f2 ∨ (a ∈ f ∧ a ∉ f1)
  | [], v, u, s, x, ff, t, nd, h, e => by
    cases h
    cases e
    exact ⟨ff, t, nd, fun _ h => h, fun H' y f2 t2 nd2 _ _ => ⟨f2, t2, nd2, fun a ha => .inl ha⟩⟩
  | j :: r, v, u, s, x, ff, t, nd, h, e => by
    cases t with
    | f _ => cases e
    | m _ _ _ _ => cases e
    | l h1 h2 =>
      rename_i p xs ss g
      have e : ((ss[j]?).bind fun x => getP x r) = some x := e
      cases k : ss[j]? with
      | none => rw [k] at e; cases e
      | some y0 =>
        rw [k] at e
        cases h with
        | obj q1 _ _ => rw [h1] at q1; cases q1
        | lst q1 q2 q3 =>
          rw [h1] at q1; cases q1
          obtain ⟨np, ng⟩ := List.nodup_cons.mp nd
          obtain ⟨fj, tj, ndj, subj, exj⟩ := TrAll.exch h2 ng q2 k
          obtain ⟨f1, t1, nd1, sub1, ex1⟩ := Tr.path tj ndj q3 e
          have pj : p ∉ fj := fun z => np (subj p z)
          have p1 : p ∉ f1 := fun z => pj (sub1 p z)
          refine ⟨f1, t1, nd1, fun a ha => List.mem_cons_of_mem _ (subj a (sub1 a ha)), fun H' y f2 t2 nd2 kp d => ?_⟩
          obtain ⟨f3, t3, nd3, s3⟩ := ex1 H' y f2 t2 nd2 (fun a ha hn => kp a (List.mem_cons_of_mem _ (subj a ha)) hn) fun a ha hf => d a ha (List.mem_cons_of_mem _ (subj a hf))
          obtain ⟨g', tg, ndg, sg⟩ := exj H' (setP y0 r y) f3 t3 nd3 (fun a ha hn => kp a (List.mem_cons_of_mem _ ha) fun z => hn (sub1 a z)) (fun a ha hg => by
            rcases s3 a ha with z | ⟨z, _⟩
            · exact sub1 a (d a z (List.mem_cons_of_mem _ hg))
            · exact z)
          have es : setP (.l ss) (j :: r) y = .l (ss.set j (setP y0 r y)) := by
            show (match ss[j]? with | some x => S.withKids (.l ss) (ss.set j (setP x r y)) | none => S.l ss) = _
            rw [k]; rfl
          have all : ∀ a ∈ g', a ∈ f2 ∨ (a ∈ g ∧ a ∉ f1) := fun a ha => by
            rcases sg a ha with z | ⟨z, z2⟩
            · rcases s3 a z with q | ⟨q, q2⟩
              · exact .inl q
              · exact .inr ⟨subj a q, q2⟩
            · exact .inr ⟨z, fun q => z2 (sub1 a q)⟩
          refine ⟨p :: g', by rw [es]; exact .l ((kp p (List.mem_cons_self ..) p1).trans h1) tg, List.nodup_cons.mpr ⟨fun z => ?_, ndg⟩, fun a ha => ?_⟩
          · rcases all p z with q | ⟨q, _⟩
            · exact p1 (d p q (List.mem_cons_self ..))
            · exact np q
          · rcases List.mem_cons.mp ha with z | z
            · subst z; exact .inr ⟨List.mem_cons_self .., p1⟩
            · rcases all a z with q | ⟨q, q2⟩
              · exact .inl q
              · exact .inr ⟨List.mem_cons_of_mem _ q, q2⟩
    | o h1 hc hn h2 =>
      rename_i p C dx fs c ns ss g
      have e : ((ss[j]?).bind fun x => getP x r) = some x := e
      cases k : ss[j]? with
      | none => rw [k] at e; cases e
      | some y0 =>
        rw [k] at e
        cases h with
        | lst q1 _ _ => rw [h1] at q1; cases q1
        | obj q1 q2 q3 =>
          rw [h1] at q1; cases q1
          obtain ⟨np, ng⟩ := List.nodup_cons.mp nd
          obtain ⟨fj, tj, ndj, subj, exj⟩ := TrAll.exch h2 ng q2 k
          obtain ⟨f1, t1, nd1, sub1, ex1⟩ := Tr.path tj ndj q3 e
          have pj : p ∉ fj := fun z => np (subj p z)
          have p1 : p ∉ f1 := fun z => pj (sub1 p z)
          refine ⟨f1, t1, nd1, fun a ha => List.mem_cons_of_mem _ (subj a (sub1 a ha)), fun H' y f2 t2 nd2 kp d => ?_⟩
          obtain ⟨f3, t3, nd3, s3⟩ := ex1 H' y f2 t2 nd2 (fun a ha hn => kp a (List.mem_cons_of_mem _ (subj a ha)) hn) fun a ha hf => d a ha (List.mem_cons_of_mem _ (subj a hf))
          obtain ⟨g', tg, ndg, sg⟩ := exj H' (setP y0 r y) f3 t3 nd3 (fun a ha hn => kp a (List.mem_cons_of_mem _ ha) fun z => hn (sub1 a z)) (fun a ha hg => by
            rcases s3 a ha with z | ⟨z, _⟩
            · exact sub1 a (d a z (List.mem_cons_of_mem _ hg))
            · exact z)
          have es : setP (.o c ss) (j :: r) y = .o c (ss.set j (setP y0 r y)) := by
            show (match ss[j]? with | some x => S.withKids (.o c ss) (ss.set j (setP x r y)) | none => S.o c ss) = _
            rw [k]; rfl
          have all : ∀ a ∈ g', a ∈ f2 ∨ (a ∈ g ∧ a ∉ f1) := fun a ha => by
            rcases sg a ha with z | ⟨z, z2⟩
            · rcases s3 a z with q | ⟨q, q2⟩
              · exact .inl q
              · exact .inr ⟨subj a q, q2⟩
            · exact .inr ⟨z, fun q => z2 (sub1 a q)⟩
          refine ⟨p :: g', by rw [es]; exact .o ((kp p (List.mem_cons_self ..) p1).trans h1) hc hn tg, List.nodup_cons.mpr ⟨fun z => ?_, ndg⟩, fun a ha => ?_⟩
          · rcases all p z with q | ⟨q, _⟩
            · exact p1 (d p q (List.mem_cons_self ..))
            · exact np q
          · rcases List.mem_cons.mp ha with z | z
            · subst z; exact .inr ⟨List.mem_cons_self .., p1⟩
            · rcases all a z with q | ⟨q, q2⟩
              · exact .inl q
              · exact .inr ⟨List.mem_cons_of_mem _ q, q2⟩
end
/-- what may be changed of a slot -/
def mutS (s : S) : Option S :=
  match s with
  | .r _ => none
  | .u => none
  | .w s => some s
  | s => some s
section
variable {T : Tb} {b : Gh} {fp : Fp} {σ : SV} {env : Env} {F H : Hp} {i : Nat} {s s0 : S} {v : V}
theorem slot_mut (h : SlotOk T b fp σ F H i s) (e : mutS s = some s0) : ∃ v, σ[i]? = some (some v) ∧ Tr T F H v s0 (fp i) ∧ (plainS s = true ∧ s0 = s ∨ ∃ x, s = .w x ∧ v = b.v i) := by
  cases s with
  | u => cases e
  | r s => cases e
  | w s => cases e; exact ⟨_, h.1, h.2, .inr ⟨s0, rfl, rfl⟩⟩
  | f d => cases e; obtain ⟨v, a, t⟩ := h; exact ⟨v, a, t, .inl ⟨rfl, rfl⟩⟩
  | l d => cases e; obtain ⟨v, a, t⟩ := h; exact ⟨v, a, t, .inl ⟨rfl, rfl⟩⟩
  | m d => cases e; obtain ⟨v, a, t⟩ := h; exact ⟨v, a, t, .inl ⟨rfl, rfl⟩⟩
  | o c d => cases e; obtain ⟨v, a, t⟩ := h; exact ⟨v, a, t, .inl ⟨rfl, rfl⟩⟩
/-- THE CHANGE of the cell p that stands at the path r of the slot i; ft: a value that goes in, f3: one that comes out -/
theorem SR.mut {r : List Nat} {u : V} {x : S} {ft : List Addr} (R : SR T b fp σ env F H) (e : env[i]? = some s) (em : mutS s = some s0) (hv : σ[i]? = some (some v)) (ha : AtP H v r u) (eg : getP s0 r = some x) (tm : Tmp b fp F ft) :
    ∃ f1, Tr T F H u x f1 ∧ f1.Nodup ∧ (∀ a ∈ f1, a ∉ ft) ∧ (∀ a ∈ f1, F a = none) ∧ ∀ (p : Addr) (o : HO) (y : S) (f2 f3 : List Addr), u = .ref p → p ∈ f1 → Tr T F (upd H p o) (.ref p) y f2 → f2.Nodup → f3.Nodup → (∀ a ∈ f2, a ∈ f1 ∨ a ∈ ft) → (∀ a ∈ f3, a ∈ f1 ∧ a ≠ p ∧ a ∉ f2) →
      ∃ f', SR T b (fp.set i f') σ (env.set i (wrapAs s (setP s0 r y))) F (upd H p o) ∧ Step (fun a => a ∈ ft ∨ own fp a) F H (fun a => a ∈ f3 ∨ own (fp.set i f') a) F (upd H p o) ∧ Tmp b (fp.set i f') F f3 := by
  have hl : i < env.length := (List.getElem?_eq_some_iff.mp e).1
  obtain ⟨v', hv', tr, hw⟩ := slot_mut (R.slot i s e) em
  have := Option.some.inj (Option.some.inj (hv.symm.trans hv'))
  subst this
  obtain ⟨f1, t1, nd1, sub1, ex1⟩ := tr.path (R.nd i) ha eg
  have nft : ∀ a ∈ f1, a ∉ ft := fun a z q => tm.no a q ⟨i, sub1 a z⟩
  refine ⟨f1, t1, nd1, nft, fun a ha => R.nF i a (sub1 a ha), fun p o y f2 f3 eu hp t2 nd2 nd3 sub2 sub3 => ?_⟩
  subst eu
  have pi : p ∈ fp i := sub1 p hp
  have Fp' : F p = none := R.nF i p pi
  obtain ⟨f', t', nd', sub'⟩ := ex1 (upd H p o) y f2 t2 nd2 (fun a ha hn => upd_ne fun z => hn (by rw [z]; exact hp)) (fun a ha hf => by
    rcases sub2 a ha with z | z
    · exact z
    · exact absurd ⟨i, hf⟩ (tm.no a z))
  have in' : ∀ a ∈ f', a ∈ fp i ∨ a ∈ ft := fun a ha => by
    rcases sub' a ha with z | ⟨z, _⟩
    · rcases sub2 a z with q | q
      · exact .inl (sub1 a q)
      · exact .inr q
    · exact .inl z
  have exF : Ex F (upd H p o) := fun a u h => by
    rw [upd_ne fun z => by rw [z, Fp'] at h; cases h]; exact R.ex a u h
  have ownS : ∀ a, own (fp.set i f') a → a ∈ ft ∨ own fp a := fun a z => by
    rcases own_set z with z | z
    · rcases in' a z with q | q
      · exact .inr ⟨i, q⟩
      · exact .inl q
    · exact .inr z
  have inF : ∀ a, a ∈ ft ∨ own fp a → b.O a ∨ b.H a = none := fun a z => z.elim (tm.ow a) (R.st.ow a)
  have stp : Step (fun a => a ∈ ft ∨ own fp a) F H (fun a => a ∈ ft ∨ own fp a) F (upd H p o) :=
    ⟨Ex.refl F, fun a u h n => by rw [upd_ne fun z => n (by rw [z]; exact .inr ⟨i, pi⟩)]; exact h, fun a u h n => (by rw [h] at n; cases n), fun a z => .inl z⟩
  have others : ∀ j, j ≠ i → ∀ a ∈ fp j, (upd H p o) a = H a := fun j hj a ha => upd_ne fun z => hj (R.dj j i p (by rw [← z]; exact ha) pi)
  refine ⟨f', ⟨exF, by rw [List.length_set]; exact R.len, fun j s' ej => ?_, fun j hj => ?_, fun j => ?_, fun j k a hj hk => ?_, fun j a hj => ?_, ⟨R.st.ex, fun a u h n => ?_, R.st.gr, fun a z => inF a (ownS a z)⟩⟩, stp.mono fun a z => ?_, ⟨nd3, fun a ha z => ?_, fun a ha => R.nF i a (sub1 a (sub3 a ha).1), fun a ha => R.st.ow a ⟨i, sub1 a (sub3 a ha).1⟩⟩⟩
  · by_cases q : j = i
    · subst q
      rw [List.getElem?_set_self hl] at ej
      cases ej
      rcases hw with ⟨hp1, rfl⟩ | ⟨x', rfl, hb⟩
      · have : wrapAs s0 (setP s0 r y) = setP s0 r y := by cases s0 <;> first | rfl | cases hp1
        rw [this]
        exact SlotOk.of t'.plain hv (by rw [Fp.set_same]; exact t')
      · exact ⟨by rw [← hb]; exact hv, by rw [← hb, Fp.set_same]; exact t'⟩
    · rw [List.getElem?_set_ne (Ne.symm q)] at ej
      have k := R.slot j s' ej
      have kp : ∀ {v : V} {s : S}, Tr T F H v s (fp j) → Tr T F (upd H p o) v s (fp.set i f' j) := fun {v s} t => by
        rw [Fp.set_ne q]; exact t.keep (Ex.refl F) (others j q)
      cases s' with
      | u => exact (Fp.set_ne q).trans k
      | r s =>
        refine ⟨(Fp.set_ne q).trans k.1, k.2.1, k.2.2.1.keep (Ex.refl F) fun a ha => upd_ne fun z => ?_, k.2.2.2⟩
        exact R.apart (k.2.2.2 a ha) (by rw [z]; exact ⟨i, pi⟩)
      | w s => exact ⟨k.1, kp k.2⟩
      | f d => obtain ⟨v, a, t⟩ := k; exact ⟨v, a, kp t⟩
      | l d => obtain ⟨v, a, t⟩ := k; exact ⟨v, a, kp t⟩
      | m d => obtain ⟨v, a, t⟩ := k; exact ⟨v, a, kp t⟩
      | o c d => obtain ⟨v, a, t⟩ := k; exact ⟨v, a, kp t⟩
  · rw [List.length_set] at hj
    rw [Fp.set_ne (by omega)]
    exact R.out j hj
  · by_cases q : j = i
    · subst q; rw [Fp.set_same]; exact nd'
    · rw [Fp.set_ne q]; exact R.nd j
  · by_cases q : j = i
    · by_cases q2 : k = i
      · rw [q, q2]
      · subst q
        rw [Fp.set_same] at hj
        rw [Fp.set_ne q2] at hk
        rcases in' a hj with z | z
        · exact absurd (R.dj k j a hk z) q2
        · exact absurd ⟨k, hk⟩ (tm.no a z)
    · by_cases q2 : k = i
      · subst q2
        rw [Fp.set_same] at hk
        rw [Fp.set_ne q] at hj
        rcases in' a hk with z | z
        · exact absurd (R.dj j k a hj z) q
        · exact absurd ⟨j, hj⟩ (tm.no a z)
      · rw [Fp.set_ne q] at hj
        rw [Fp.set_ne q2] at hk
        exact R.dj j k a hj hk
  · by_cases q : j = i
    · subst q
      rw [Fp.set_same] at hj
      rcases in' a hj with z | z
      · exact R.nF j a z
      · exact tm.nF a z
    · rw [Fp.set_ne q] at hj; exact R.nF j a hj
  · rw [upd_ne fun z => ?_]
    · exact R.st.fr a u h n
    · rcases R.st.ow p ⟨i, pi⟩ with q | q
      · exact n (by rw [z]; exact q)
      · rw [z, q] at h; cases h
  · rcases z with z | z
    · exact .inr ⟨i, sub1 a (sub3 a z).1⟩
    · exact ownS a z
  · obtain ⟨h3, h4, h5⟩ := sub3 a ha
    obtain ⟨j, hj⟩ := z
    by_cases q : j = i
    · subst q
      rw [Fp.set_same] at hj
      rcases sub' a hj with z | ⟨_, z⟩
      · exact h5 z
      · exact z h3
    · rw [Fp.set_ne q] at hj
      exact q (R.dj j i a hj (sub1 a h3))
end
end Dn

/-! Dn11: methods that change a place, stores, chains, in, truth, what is walked. -/
namespace Dn
open PySem PySem.Spec PyProof.Rows L2
open Evl (Ex)

/-! ### places -/
def SndPl (T : Tb) (t : TE) (i : Nat) (pf : Env → Option (List Nat)) : Prop :=
  ∀ (b : Gh) (fp : Fp) (σ : SV) (env : Env) (F H : Hp), SR T b fp σ env F H → ∀ r, pf env = some r → ∀ Q : VK, (∀ v u F' H', Grow F H F' H' → σ[i]? = some (some v) → AtP H' v r u → Q u H') → t σ H Q
def DPl (X : Cx) (C : CT) (e : Expr) (i : Nat) (pf : Env → Option (List Nat)) : Prop := ∃ t, PE X e t ∧ SndPl (Tx X C) t i pf
/-- what stands at a place -/
def nodeS (i : Nat) (r : List Nat) (env : Env) : Option S := (kVar i env).bind fun s => getP s r
def pVar (i : Nat) : Env → Option (List Nat) := fun env => (kVar i env).map fun _ => []
def pFld (i c j : Nat) (pf : Env → Option (List Nat)) : Env → Option (List Nat) := fun env => (pf env).bind fun r => match nodeS i r env with
  | some (.o c' ss) => if c' = c ∧ j < ss.length then some (r ++ [j]) else none
  | _ => none
section
variable {T : Tb} {F H : Hp}
theorem TrAll.at : ∀ {xs : List V} {ss : List S} {g : List Addr} {j : Nat} {w : V} {x : S}, TrAll T F H xs ss g → xs[j]? = some w → ss[j]? = some x → ∃ f, Tr T F H w x f
  | _, _, _, j, w, x, .nil, h1, _ => by simp at h1
  | _, _, _, 0, w, x, .cons t r, h1, h2 => by
    have e1 := Option.some.inj h1
    have e2 := Option.some.inj h2
    subst e1; subst e2
    exact ⟨_, t⟩
  | _, _, _, j + 1, w, x, .cons t r, h1, h2 => TrAll.at (j := j) r (by simpa using h1) (by simpa using h2)
theorem Tr.at_ : ∀ {r : List Nat} {v u : V} {s x : S} {ff : List Addr}, Tr T F H v s ff → AtP H v r u → getP s r = some x → ∃ f1, Tr T F H u x f1
  | [], v, u, s, x, ff, t, h, e => by
    cases h; cases e; exact ⟨_, t⟩
  | j :: r, v, u, s, x, ff, t, h, e => by
    cases t with
    | f _ => cases e
    | m _ _ _ _ => cases e
    | l h1 h2 =>
      rename_i p xs ss g
      have e : ((ss[j]?).bind fun x => getP x r) = some x := e
      cases k : ss[j]? with
      | none => rw [k] at e; cases e
      | some y0 =>
        rw [k] at e
        cases h with
        | obj q1 _ _ => rw [h1] at q1; cases q1
        | lst q1 q2 q3 =>
          rw [h1] at q1; cases q1
          obtain ⟨f, t⟩ := h2.at q2 k
          exact Tr.at_ t q3 e
    | o h1 hc hn h2 =>
      rename_i p C dx fs c ns ss g
      have e : ((ss[j]?).bind fun x => getP x r) = some x := e
      cases k : ss[j]? with
      | none => rw [k] at e; cases e
      | some y0 =>
        rw [k] at e
        cases h with
        | lst q1 _ _ => rw [h1] at q1; cases q1
        | obj q1 q2 q3 =>
          rw [h1] at q1; cases q1
          obtain ⟨f, t⟩ := h2.at q2 k
          exact Tr.at_ t q3 e
end
/-- a class's field -/
structure FldOk (K : PySem.W.Frag) (C : CT) (c j : Nat) (f : Str) : Prop where
  ex : ∃ (Ca : Addr) (ns : List Str), C.cls c = some (Ca, ns) ∧ ns[j]? = some f ∧ (∀ k, k < j → ns[k]? ≠ some f) ∧ Cls K Ca ∧ NoAttr K Ca f
theorem lookup_ix : ∀ {fs : List (Str × V)} {ns : List Str} {j : Nat} {f : Str} {v : V}, fs.map (·.1) = ns.take fs.length → ns[j]? = some f → (∀ k, k < j → ns[k]? ≠ some f) → (fs.map (·.2))[j]? = some v → fs.lookup f = some v
  | [], ns, j, f, v, _, _, _, h => by simp at h
  | (n, w) :: fs, [], j, f, v, e, h1, _, _ => by simp at h1
  | (n, w) :: fs, m :: ns, 0, f, v, e, h1, h2, h3 => by
    have e1 : m = f := by simpa using h1
    have e2 : w = v := by simpa using h3
    have e3 : n = m := by
      have := congrArg (fun l => l[0]?) e
      simpa using this
    subst e1; subst e2; subst e3
    simp [List.lookup]
  | (n, w) :: fs, m :: ns, j + 1, f, v, e, h1, h2, h3 => by
    have e' : n = m ∧ fs.map (·.1) = ns.take fs.length := by simpa using e
    have hn : (f == n) = false := by
      rw [e'.1]
      exact beq_eq_false_iff_ne.mpr fun z => h2 0 (Nat.succ_pos _) (by rw [z]; rfl)
    rw [List.lookup, hn]
    exact lookup_ix e'.2 (by simpa using h1) (fun k hk z => h2 (k + 1) (by omega) (by simpa using z)) (by simpa using h3)
section
variable {X : Cx} {C : CT} {W : WXT} {o : Expr} {f : Str} {i c j : Nat} {pf : Env → Option (List Nat)} {pos : Pos} {ga : Env → Option S}
theorem pl_var (i : Nat) {x : Str} {pos : Pos} (hN : X.N[i]? = some x := by rfl) (hv : Vis X.env.scope x := by first | exact Or.inl rfl | exact Or.inr (Or.inl rfl) | exact Or.inr (Or.inr rfl)) (hd : (x == ("__debug__" : Str)) = false := by decide)
    (hcd : (x == ("__classdict__" : Str)) = false := by decide) : DPl X C (.Name x pos) i (pVar i) :=
  ⟨_, pe_var hN hv hd hcd, fun b fp σ env F H R r e Q q => by
    unfold pVar at e
    cases k : kVar i env with
    | none => rw [k] at e; cases e
    | some s =>
      rw [k] at e; cases e
      obtain ⟨v, f, h1, h2⟩ := R.root k
      exact ⟨v, h1, q v v F H (Grow.refl R.ex) h1 .nil⟩⟩
theorem pl_fld (h : DPl X C o i pf) (k : FldOk X.K C c j f) (hb : attributeBase o f X.env (eval o X.env) = eval o X.env := by rfl) : DPl X C (.Attribute o f pos) i (pFld i c j pf) := by
  obtain ⟨t, p, s⟩ := h
  obtain ⟨Ca, ns, c1, c2, c3, c4, c5⟩ := k.ex
  refine ⟨_, pe_fld p hb, fun b fp σ env F H R r e Q q => ?_⟩
  unfold pFld at e
  cases k1 : pf env with
  | none => rw [k1] at e; cases e
  | some r0 =>
    rw [k1] at e
    have e : (match nodeS i r0 env with | some (.o c' ss) => if c' = c ∧ j < ss.length then some (r0 ++ [j]) else none | _ => none) = some r := e
    refine s b fp σ env F H R r0 k1 _ fun v u F1 H1 G hv ha => ?_
    split at e
    · rename_i c' ss k2
      split at e
      · rename_i hc
        cases e
        obtain ⟨rfl, hj⟩ := hc
        unfold nodeS at k2
        cases k3 : kVar i env with
        | none => rw [k3] at k2; cases k2
        | some s0 =>
          rw [k3] at k2
          obtain ⟨v', g, h1, h2⟩ := (R.grow G).root k3
          have := Option.some.inj (Option.some.inj (hv.symm.trans h1))
          subst this
          obtain ⟨f1, t1⟩ := Tr.at_ h2 ha k2
          cases t1 with
          | @o p C2 dx fs _ ns2 _ fp2 q1 q2 q3 q4 =>
            have := c1.symm.trans q2
            cases this
            have hl := q4.len
            have hw : (fs.map (·.2))[j]? = some (fs.map (·.2))[j] := List.getElem?_eq_getElem (by rw [hl]; exact hj)
            exact ⟨p, _, dx, fs, _, rfl, q1, c4, c5, lookup_ix q3 c2 c3 hw, q v _ F1 H1 G hv (ha.snocO q1 hw)⟩
      · cases e
    · cases e
/-- a field, as a view -/
def fldS (c j : Nat) (s : S) : Option S :=
  match s with
  | .o c' ss => if c' = c then ss[j]? else none
  | .f (.obj c' ds) => if c' = c then (ds[j]?).map .f else none
  | _ => none
def kFld (c j : Nat) (ga : Env → Option S) : Env → Option S := fun env => (ga env).bind (fldS c j)
theorem dk_fld (h : DK X C o ga) (k : FldOk X.K C c j f) (hb : attributeBase o f X.env (eval o X.env) = eval o X.env := by rfl) : DK X C (.Attribute o f pos) (kFld c j ga) := by
  obtain ⟨t, p, s⟩ := h
  obtain ⟨Ca, ns, c1, c2, c3, c4, c5⟩ := k.ex
  refine ⟨_, pe_fld p hb, fun b fp σ env F H R x e Q q => ?_⟩
  unfold kFld at e
  cases k1 : ga env with
  | none => rw [k1] at e; cases e
  | some s0 =>
    rw [k1] at e
    have e : fldS c j s0 = some x := e
    refine s b fp σ env F H R s0 k1 _ fun v F1 H1 f1 G t1 => ?_
    cases t1 with
    | @o p C2 dx fs c' ns2 ss fp2 q1 q2 q3 q4 =>
      have e5 : (if c' = c then ss[j]? else none) = some x := e
      clear e
      split at e5
      · rename_i hc
        subst hc
        have := c1.symm.trans q2
        cases this
        obtain ⟨w, g, h1, h2, _, _⟩ := q4.get e5
        exact ⟨p, _, dx, fs, w, rfl, q1, c4, c5, lookup_ix q3 c2 c3 h1, q w F1 H1 g G h2⟩
      · cases e5
    | f r =>
      cases r with
      | @obj p C2 dx fs c' ns2 ds q1 q2 q3 q4 =>
        have e5 : (if c' = c then (ds[j]?).map S.f else none) = some x := e
        clear e
        split at e5
        · rename_i hc
          subst hc
          have := c1.symm.trans q2
          cases this
          cases k2 : ds[j]? with
          | none => rw [k2] at e5; cases e5
          | some d =>
            rw [k2] at e5; cases e5
            obtain ⟨w, h1, h2⟩ := q4.get k2
            exact ⟨p, _, dx, fs, w, rfl, G.le _ _ q1, c4, c5, lookup_ix q3 c2 c3 h1, q w F1 H1 [] G (.f h2)⟩
        · cases e5
      | _ => cases e
    | l _ _ => cases e
    | m _ _ _ _ => cases e
end

/-! ### methods that change the receiver -/
def MutR (T : Tb) (r : V → List V → Hp → VK → Prop) (h : S → List S → Option (S × S)) : Prop :=
  ∀ (F H : Hp) (u : V) (x : S) (f1 : List Addr) (vs : List V) (ss : List S) (ft : List Addr) (y z : S), Ex F H → Tr T F H u x f1 → f1.Nodup → TrAll T F H vs ss ft → ft.Nodup → (∀ a ∈ f1, a ∉ ft) → (∀ a ∈ f1, F a = none) → h x ss = some (y, z) → ∀ Q : VK,
    (∀ (p : Addr) (o : HO) (zv : V) (f2 f3 : List Addr), u = .ref p → p ∈ f1 → Tr T F (upd H p o) (.ref p) y f2 → f2.Nodup → f3.Nodup → (∀ a ∈ f2, a ∈ f1 ∨ a ∈ ft) → (∀ a ∈ f3, a ∈ f1 ∧ a ≠ p ∧ a ∉ f2) → Tr T F (upd H p o) zv z f3 → Q zv (upd H p o)) → r u vs H Q
def mutE (i : Nat) (r : List Nat) (h : S → Option (S × S)) (env : Env) : Option (S × Env) :=
  match env[i]? with
  | some s => match mutS s with
    | some s0 => match getP s0 r with
      | some x => (h x).map fun yz => (yz.2, env.set i (wrapAs s (setP s0 r yz.1)))
      | none => none
    | none => none
  | none => none
def S.isL : S → Bool
  | .l _ => true
  | _ => false
/-- on a name, the arguments may do anything -/
def eMutV (i : Nat) (h : S → List S → Option (S × S)) (fa : Env → Res (List S)) : Env → Res S := fun env =>
  match (kVar i env).map S.isL with
  | some true => (fa env).bind fun ss e => match mutE i [] (fun x => h x ss) e with
    | some (z, e2) => .ok z e2
    | none => .bad
  | _ => .bad
/-- on a place, the arguments are pure -/
def eMutP (i : Nat) (pf : Env → Option (List Nat)) (h : S → List S → Option (S × S)) (ga : Env → Option (List S)) : Env → Res S := fun env =>
  match pf env with
  | some r => match (nodeS i r env).map S.isL with
    | some true => match ga env with
      | some ss => match mutE i r (fun x => h x ss) env with
        | some (z, e2) => .ok z e2
        | none => .bad
      | none => .bad
    | _ => .bad
  | none => .bad
section
variable {T : Tb} {W : WXT} {b : Gh} {fp : Fp} {σ : SV} {env : Env} {F H : Hp} {i : Nat} {O : Addr → Prop}
/-- the change, told by outcomes -/
theorem mut_good {R : List Nat} {rr : V → List V → Hp → VK → Prop} {h : S → List S → Option (S × S)} {u v : V} {vs : List V} {ss : List S} {ft : List Addr} {F0 H0 : Hp} {Q : VK} {z : S} {e2 : Env} (hm : MutR T rr h) (SRx : SR T b fp σ env F H) (hv : σ[i]? = some (some v)) (ha : AtP H v R u) (tr : TrAll T F H vs ss ft) (tm : Tmp b fp F ft)
    (st : Step O F0 H0 (fun a => a ∈ ft ∨ own fp a) F H) (e : mutE i R (fun x => h x ss) env = some (z, e2)) (q : GoodE T W b O σ F0 H0 (.ok z e2) Q) : rr u vs H Q := by
  unfold mutE at e
  cases k : env[i]? with
  | none => rw [k] at e; cases e
  | some s =>
    rw [k] at e
    have e : (match mutS s with | some s0 => (match getP s0 R with | some x => (h x ss).map fun yz => (yz.2, env.set i (wrapAs s (setP s0 R yz.1))) | none => none) | none => none) = some (z, e2) := e
    cases k2 : mutS s with
    | none => rw [k2] at e; cases e
    | some s0 =>
      rw [k2] at e
      have e : (match getP s0 R with | some x => (h x ss).map fun yz => (yz.2, env.set i (wrapAs s (setP s0 R yz.1))) | none => none) = some (z, e2) := e
      cases k3 : getP s0 R with
      | none => rw [k3] at e; cases e
      | some x =>
        rw [k3] at e
        have e : (h x ss).map (fun yz => (yz.2, env.set i (wrapAs s (setP s0 R yz.1)))) = some (z, e2) := e
        cases k4 : h x ss with
        | none => rw [k4] at e; cases e
        | some yz =>
          obtain ⟨y, z'⟩ := yz
          rw [k4] at e; cases e
          obtain ⟨f1, t1, nd1, dj, nF, go⟩ := SRx.mut k k2 hv ha k3 tm
          refine hm F H u x f1 vs ss ft y z' SRx.ex t1 nd1 tr tm.nd dj nF k4 Q fun p o zv f2 f3 eu hp t2 nd2 nd3 s2 s3 tz => ?_
          obtain ⟨f', R2, st2, tm2⟩ := go p o y f2 f3 eu hp t2 nd2 nd3 s2 s3
          exact q _ F (upd H p o) zv f3 R2 (st.trans st2) tz tm2
end
end Dn

/-! Dn12: methods that change a list, stores. -/
namespace Dn
open PySem PySem.Spec PyProof.Rows L2
open Evl (Ex)

section
variable {T : Tb} {b : Gh} {fp : Fp} {σ : SV} {env : Env} {F H : Hp} {i : Nat}
theorem isL_ty {v : V} {s : S} {f : List Addr} (t : Tr T F H v s f) (e : s.isL = true) : tyV T.K "list" v H := by
  cases t with
  | l h1 _ => exact .inl ⟨rfl, _, .of h1⟩
  | f _ => cases e
  | m _ _ _ _ => cases e
  | o _ _ _ _ => cases e
theorem node_at {r : List Nat} {x : S} {v u : V} (R : SR T b fp σ env F H) (e : nodeS i r env = some x) (hv : σ[i]? = some (some v)) (ha : AtP H v r u) : ∃ f, Tr T F H u x f := by
  unfold nodeS at e
  cases k : kVar i env with
  | none => rw [k] at e; cases e
  | some s =>
    rw [k] at e
    obtain ⟨v', g, h1, h2⟩ := R.root k
    have := Option.some.inj (Option.some.inj (hv.symm.trans h1))
    subst this
    exact Tr.at_ h2 ha e
theorem map_isL {o : Option S} (e : o.map S.isL = some true) : ∃ s, o = some s ∧ s.isL = true := by
  cases o with
  | none => cases e
  | some s => exact ⟨s, rfl, Option.some.inj e⟩
end
section
variable {X : Cx} {C : CT} {W : WXT} {o e : Expr} {es : List Expr} {i : Nat} {pf : Env → Option (List Nat)} {fa : Env → Res (List S)} {ga : Env → Option (List S)} {h : S → List S → Option (S × S)} {r : V → List V → Hp → VK → Prop} {name : Str} {apos cpos : Pos} {id : String}
theorem snd_mutV {T : Tb} {to : TE} {ta : TA} (hm : MutR T r h) (ho : SndPl T to i (pVar i)) (ha : SndA T W ta fa) : SndE T W (tBM T.K "list" r to ta) (eMutV i h fa) := fun b fp σ env F H R Q q => by
  have q' : GoodE T W b (own fp) σ F H (match (kVar i env).map S.isL with | some true => (fa env).bind fun ss e => (match mutE i [] (fun x => h x ss) e with | some (z, e2) => .ok z e2 | none => .bad) | _ => .bad) Q := q
  split at q'
  · rename_i hl
    obtain ⟨s, k, hs⟩ := map_isL hl
    have kp : pVar i env = some [] := by unfold pVar; rw [k]; rfl
    refine ho b fp σ env F H R [] kp _ fun v u F1 H1 G hv hat => ?_
    cases hat
    have R1 := R.grow G
    obtain ⟨v', g, h1, h2⟩ := R1.root k
    have := Option.some.inj (Option.some.inj (hv.symm.trans h1))
    subst this
    refine ⟨isL_ty h2 hs, ?_⟩
    have q1 := q'.later (G.step (own fp))
    refine ha b fp σ env F1 H1 R1 _ (GoodR.bind q1 fun ss e1 fp2 F2 H2 vs ft R2 st2 t2 tm2 q2 => ?_)
    cases k2 : mutE i [] (fun x => h x ss) e1 with
    | none => rw [k2] at q2; exact False.elim q2
    | some ze =>
      obtain ⟨z, e2⟩ := ze
      rw [k2] at q2
      exact mut_good hm R2 hv .nil t2 tm2 st2 k2 q2
  · exact False.elim q'
theorem snd_mutP {T : Tb} {to : TE} {ta : TA} (hm : MutR T r h) (ho : SndPl T to i pf) (ha : SndPL T ta ga) : SndE T W (tBM T.K "list" r to ta) (eMutP i pf h ga) := fun b fp σ env F H R Q q => by
  have q' : GoodE T W b (own fp) σ F H (match pf env with | some r => (match (nodeS i r env).map S.isL with | some true => (match ga env with | some ss => (match mutE i r (fun x => h x ss) env with | some (z, e2) => .ok z e2 | none => .bad) | none => .bad) | _ => .bad) | none => .bad) Q := q
  cases k : pf env with
  | none => rw [k] at q'; exact False.elim q'
  | some rr =>
    rw [k] at q'
    have q1 : GoodE T W b (own fp) σ F H (match (nodeS i rr env).map S.isL with | some true => (match ga env with | some ss => (match mutE i rr (fun x => h x ss) env with | some (z, e2) => .ok z e2 | none => .bad) | none => .bad) | _ => .bad) Q := q'
    split at q1
    · rename_i hl
      obtain ⟨s, kn, hs⟩ := map_isL hl
      cases k2 : ga env with
      | none => rw [k2] at q1; exact False.elim q1
      | some ss =>
        rw [k2] at q1
        have q2 : GoodE T W b (own fp) σ F H (match mutE i rr (fun x => h x ss) env with | some (z, e2) => .ok z e2 | none => .bad) Q := q1
        refine ho b fp σ env F H R rr k _ fun v u F1 H1 G hv hat => ?_
        have R1 := R.grow G
        obtain ⟨f, t⟩ := node_at R1 kn hv hat
        refine ⟨isL_ty t hs, ?_⟩
        refine ha b fp σ env F1 H1 R1 ss k2 _ fun vs F2 H2 ft G2 t2 fr nd => ?_
        have R2 := R1.grow G2
        cases k3 : mutE i rr (fun x => h x ss) env with
        | none => rw [k3] at q2; exact False.elim q2
        | some ze =>
          obtain ⟨z, e2⟩ := ze
          rw [k3] at q2
          exact mut_good hm R2 hv (hat.ext G2.exH) t2 (Tmp.fresh R1 fr nd) ((G.step (own fp)).fresh G2 (fun a h => (fr a h).1) fun a z => z) k3 q2
    · exact False.elim q1
/-- x.m(args) on a name -/
theorem de_mutV {x : Str} {p : Pos} (slot : Slot "list" name id) (hty : typeOf (.builtin id) = pure (.type "method_descriptor")) (hm : MtR X id r) (hh : MutR (Tx X C) r h) (i : Nat) (ho : DPl X C (.Name x p) i (pVar i)) (ha : DA X C W (e :: es) fa)
    (hbase : attributeBase (.Name x p) name X.env (eval (.Name x p) X.env) = eval (.Name x p) X.env := by rfl)
    (hfew : ((backTo cpos (starEach (e :: es) X.env)).all (fun x => !x.1) && (backToKw cpos (keywordEach [] X.env)).all (fun x => x.1.isSome)
      && decide ((e :: es).length + ([] : List Keyword).length + (if ([] : List Keyword).isEmpty then 0 else 1) < 30)) = true := by rfl)
    (hline : (apos.endLine == cpos.line) = true := by rfl) (hs : starEach (e :: es) X.env = (false, eval e X.env) :: starEach es X.env := by rfl) (hplain : (backTo cpos (starEach es X.env)).any (·.1) = false := by rfl) :
    DE X C W (.Call (.Attribute (.Name x p) name apos) (e :: es) [] cpos) (eMutV i h fa) := by
  obtain ⟨to, po, so⟩ := ho
  obtain ⟨ta, pa, sa⟩ := ha
  exact ⟨_, pe_bm PySem.F.plainAttrs_list slot hty hm po pa hbase hfew hline hs hplain, snd_mutV hh so sa⟩
/-- o.m(args) on a place -/
theorem de_mutP (slot : Slot "list" name id) (hty : typeOf (.builtin id) = pure (.type "method_descriptor")) (hm : MtR X id r) (hh : MutR (Tx X C) r h) (ho : DPl X C o i pf) (ha : DPL X C (e :: es) ga)
    (hbase : attributeBase o name X.env (eval o X.env) = eval o X.env := by rfl)
    (hfew : ((backTo cpos (starEach (e :: es) X.env)).all (fun x => !x.1) && (backToKw cpos (keywordEach [] X.env)).all (fun x => x.1.isSome)
      && decide ((e :: es).length + ([] : List Keyword).length + (if ([] : List Keyword).isEmpty then 0 else 1) < 30)) = true := by rfl)
    (hline : (apos.endLine == cpos.line) = true := by rfl) (hs : starEach (e :: es) X.env = (false, eval e X.env) :: starEach es X.env := by rfl) (hplain : (backTo cpos (starEach es X.env)).any (·.1) = false := by rfl) :
    DE X C W (.Call (.Attribute o name apos) (e :: es) [] cpos) (eMutP i pf h ga) := by
  obtain ⟨to, po, so⟩ := ho
  obtain ⟨ta, pa, sa⟩ := ha
  exact ⟨_, pe_bm PySem.F.plainAttrs_list slot hty hm po pa hbase hfew hline hs hplain, snd_mutP hh so sa⟩
/-- o.m() -/
theorem de_mut0 (slot : Slot "list" name id) (hty : typeOf (.builtin id) = pure (.type "method_descriptor")) (hm : MtR X id r) (hh : MutR (Tx X C) r h) (ho : DPl X C o i pf)
    (hbase : attributeBase o name X.env (eval o X.env) = eval o X.env := by rfl) (hline : (apos.endLine == cpos.line) = true := by rfl) : DE X C W (.Call (.Attribute o name apos) [] [] cpos) (eMutP i pf h kNil) := by
  obtain ⟨to, po, so⟩ := ho
  refine ⟨_, pe_bm0 PySem.F.plainAttrs_list slot hty hm po hbase hline, ?_⟩
  have := snd_mutP (T := Tx X C) (W := W) (ta := tNil) (ga := kNil) hh so (fun b fp σ env F H R s e Q q => by cases e; exact q [] F H [] (Grow.refl R.ex) .nil (fun _ h => nomatch h) List.nodup_nil)
  exact this
end

/-! ### the list's methods -/
def appendM (x : S) (ss : List S) : Option (S × S) :=
  match x, ss with
  | .l xs, [y] => if xs.length < sizeLine then some (.l (xs ++ [y]), .f .non) else none
  | _, _ => none
def popM (x : S) (ss : List S) : Option (S × S) :=
  match x, ss with
  | .l xs, [] => (xs.getLast?).map fun y => (.l xs.dropLast, y)
  | _, _ => none
def popAtM (x : S) (ss : List S) : Option (S × S) :=
  match x, ss with
  | .l xs, [.f (.int i)] => if i.natAbs < 9223372036854775808 then ((seqIndex? i xs.length).bind fun k => (xs[k]?).map fun y => (.l (xs.eraseIdx k), y)) else none
  | _, _ => none
def insertM (x : S) (ss : List S) : Option (S × S) :=
  match x, ss with
  | .l xs, [.f (.int i), y] => if xs.length < sizeLine ∧ 0 ≤ i ∧ i.natAbs < 9223372036854775808 then some (.l (xs.take i.toNat ++ [y] ++ xs.drop i.toNat), .f .non) else none
  | _, _ => none
def reverseM (x : S) (ss : List S) : Option (S × S) :=
  match x, ss with
  | .l xs, [] => some (.l xs.reverse, .f .non)
  | _, _ => none
section
variable {T : Tb} {F H : Hp}
theorem TrAll.app : ∀ {xs ys : List V} {ss ts : List S} {f g : List Addr}, TrAll T F H xs ss f → TrAll T F H ys ts g → TrAll T F H (xs ++ ys) (ss ++ ts) (f ++ g)
  | _, _, _, _, _, _, .nil, k => k
  | _, _, _, _, _, _, .cons h r, k => by
    rw [List.append_assoc]
    exact .cons h (TrAll.app r k)
theorem TrAll.tail : ∀ {xs : List V} {ss : List S} {g : List Addr} {y : S}, TrAll T F H xs ss g → ss.getLast? = some y → ∃ v f1 f2, xs[xs.length - 1]? = some v ∧ TrAll T F H xs.dropLast ss.dropLast f1 ∧ Tr T F H v y f2 ∧ g = f1 ++ f2
  | _, _, _, y, .nil, e => by simp at e
  | _, _, _, y, .cons (v := v) (s := s) (f := f) t .nil, e => by
    have : s = y := by simpa using e
    subst this
    exact ⟨v, [], f, rfl, .nil, t, by simp⟩
  | _, _, _, y, .cons (v := v) (s := s) (f := f) t (.cons (v := v2) (vs := vs) (s := s2) (ss := ss) (f := f2) (g := g2) t2 r), e => by
    obtain ⟨w, a1, a2, h1, h2, h3, h4⟩ := TrAll.tail (TrAll.cons t2 r) (y := y) (by simpa using e)
    refine ⟨w, f ++ a1, a2, by simpa using h1, ?_, h3, by rw [h4, List.append_assoc]⟩
    exact .cons t h2
theorem TrAll.split : ∀ (n : Nat) {xs : List V} {ss : List S} {g : List Addr}, TrAll T F H xs ss g → ∃ f1 f2, TrAll T F H (xs.take n) (ss.take n) f1 ∧ TrAll T F H (xs.drop n) (ss.drop n) f2 ∧ g = f1 ++ f2
  | 0, _, _, g, t => ⟨[], g, .nil, t, rfl⟩
  | _ + 1, _, _, _, .nil => ⟨[], [], .nil, .nil, rfl⟩
  | n + 1, _, _, _, .cons (f := f) t r => by
    obtain ⟨a1, a2, h1, h2, h3⟩ := TrAll.split n r
    exact ⟨f ++ a1, a2, .cons t h1, h2, by rw [h3, List.append_assoc]⟩
theorem TrAll.rev : ∀ {xs : List V} {ss : List S} {g : List Addr}, TrAll T F H xs ss g → ∃ f, TrAll T F H xs.reverse ss.reverse f ∧ f.Perm g
  | _, _, _, .nil => ⟨[], .nil, List.Perm.refl _⟩
  | _, _, _, .cons (f := f) (g := g) t r => by
    obtain ⟨a, h1, h2⟩ := TrAll.rev r
    refine ⟨a ++ (f ++ []), by rw [List.reverse_cons, List.reverse_cons]; exact h1.app (.cons t .nil), ?_⟩
    rw [List.append_nil]
    exact (h2.append_right f).trans List.perm_append_comm
theorem TrAll.erase : ∀ {xs : List V} {ss : List S} {g : List Addr} {k : Nat} {y : S}, TrAll T F H xs ss g → ss[k]? = some y → ∃ v f1 f2, xs[k]? = some v ∧ TrAll T F H (xs.eraseIdx k) (ss.eraseIdx k) f1 ∧ Tr T F H v y f2 ∧ (f1 ++ f2).Perm g
  | _, _, _, k, y, .nil, e => by simp at e
  | _, _, _, 0, y, .cons (v := v) (s := s) (f := f) (g := g) t r, e => by
    have : s = y := by simpa using e
    subst this
    exact ⟨v, g, f, rfl, r, t, List.perm_append_comm⟩
  | _, _, _, k + 1, y, .cons (v := v) (s := s) (f := f) (g := g) t r, e => by
    obtain ⟨w, a1, a2, h1, h2, h3, h4⟩ := TrAll.erase (k := k) r (y := y) (by simpa using e)
    refine ⟨w, f ++ a1, a2, by simpa using h1, .cons t h2, h3, ?_⟩
    rw [List.append_assoc]
    exact h4.append_left f
theorem mutR_append : MutR T rAppend appendM := by
  intro F H u x f1 vs ss ft y z ex t nd tv ndv dj nF e Q q
  unfold appendM at e
  split at e
  · rename_i xs w
    split at e
    · rename_i hz
      cases e
      cases t with
      | @l p us _ g h1 h2 =>
        obtain ⟨v, gv, rfl, t1⟩ := tv.one
        obtain ⟨np, ng⟩ := List.nodup_cons.mp nd
        have hf : ft = gv ++ [] ∨ True := .inr trivial
        cases tv with
        | @cons _ _ _ _ fa fb ta tb =>
          cases tb
          rw [List.append_nil] at ndv dj
          have pft : p ∉ fa := dj p (List.mem_cons_self ..)
          refine ⟨p, us, v, rfl, rfl, h1, by rw [h2.len]; exact hz, ?_⟩
          have kp : ∀ a, a ≠ p → upd H p (.lst (us ++ [v])) a = H a := fun a ha => upd_ne ha
          refine q p (.lst (us ++ [v])) .non (p :: (g ++ (fa ++ []))) [] rfl (List.mem_cons_self ..) (.l upd_same ((h2.keep (Ex.refl F) fun a ha => kp a fun z => np (z ▸ ha)).app (.cons (ta.keep (Ex.refl F) fun a ha => kp a fun z => pft (z ▸ ha)) .nil))) ?_ List.nodup_nil (fun a ha => ?_) (fun _ h => nomatch h) (.f .non)
          · rw [List.append_nil]
            refine List.nodup_cons.mpr ⟨fun z => ?_, List.nodup_append.mpr ⟨ng, ndv, fun a ha b hb z => ?_⟩⟩
            · rcases List.mem_append.mp z with z | z
              · exact np z
              · exact pft z
            · subst z; exact dj a (List.mem_cons_of_mem _ ha) hb
          · rw [List.append_nil] at ha ⊢
            rcases List.mem_cons.mp ha with z | z
            · subst z; exact .inl (List.mem_cons_self ..)
            · rcases List.mem_append.mp z with z | z
              · exact .inl (List.mem_cons_of_mem _ z)
              · exact .inr z
    · cases e
  · cases e
theorem mutR_pop : MutR T rPop popM := by
  intro F H u x f1 vs ss ft y z ex t nd tv ndv dj nF e Q q
  unfold popM at e
  split at e
  · rename_i xs
    cases k : xs.getLast? with
    | none => rw [k] at e; cases e
    | some w =>
      rw [k] at e; cases e
      cases t with
      | @l p us _ g h1 h2 =>
        cases tv
        obtain ⟨v, a1, a2, e1, t1, t2, rfl⟩ := h2.tail k
        obtain ⟨np, ng⟩ := List.nodup_cons.mp nd
        obtain ⟨n1, n2, n3⟩ := List.nodup_append.mp ng
        have kp : ∀ a, a ≠ p → upd H p (.lst us.dropLast) a = H a := fun a ha => upd_ne ha
        refine ⟨p, us, v, rfl, rfl, h1, e1, ?_⟩
        refine q p (.lst us.dropLast) v (p :: a1) a2 rfl (List.mem_cons_self ..) (.l upd_same (t1.keep (Ex.refl F) fun a ha => kp a fun z => np (z ▸ List.mem_append_left _ ha))) (List.nodup_cons.mpr ⟨fun z => np (List.mem_append_left _ z), n1⟩) n2 (fun a ha => .inl ?_) (fun a ha => ⟨List.mem_cons_of_mem _ (List.mem_append_right _ ha), fun z => np (z ▸ List.mem_append_right _ ha), fun z => ?_⟩) (t2.keep (Ex.refl F) fun a ha => kp a fun z => np (z ▸ List.mem_append_right _ ha))
        · rcases List.mem_cons.mp ha with z | z
          · subst z; exact List.mem_cons_self ..
          · exact List.mem_cons_of_mem _ (List.mem_append_left _ z)
        · rcases List.mem_cons.mp z with z | z
          · exact np (z ▸ List.mem_append_right _ ha)
          · exact n3 a z a ha rfl
  · cases e
theorem mutR_popAt : MutR T rPopAt popAtM := by
  intro F H u x f1 vs ss ft y z ex t nd tv ndv dj nF e Q q
  unfold popAtM at e
  split at e
  · rename_i xs i
    split at e
    · rename_i hb
      cases k : seqIndex? i xs.length with
      | none => rw [k] at e; cases e
      | some j =>
        rw [k] at e
        have e : (xs[j]?).map (fun y => (S.l (xs.eraseIdx j), y)) = some (y, z) := e
        cases k2 : xs[j]? with
        | none => rw [k2] at e; cases e
        | some w =>
          rw [k2] at e; cases e
          cases t with
          | @l p us _ g h1 h2 =>
            obtain ⟨v0, gv, rfl, ti⟩ := tv.one
            obtain ⟨rfl, _⟩ := ti.int
            obtain ⟨v, a1, a2, e1, t1, t2, pm⟩ := h2.erase k2
            obtain ⟨np, ng⟩ := List.nodup_cons.mp nd
            obtain ⟨n1, n2, n3⟩ := List.nodup_append.mp (pm.nodup_iff.mpr ng)
            have in1 : ∀ a ∈ a1, a ∈ g := fun a ha => pm.mem_iff.mp (List.mem_append_left _ ha)
            have in2 : ∀ a ∈ a2, a ∈ g := fun a ha => pm.mem_iff.mp (List.mem_append_right _ ha)
            have kp : ∀ a, a ≠ p → upd H p (.lst (us.eraseIdx j)) a = H a := fun a ha => upd_ne ha
            refine ⟨p, us, i, j, v, rfl, rfl, h1, by omega, by omega, by rw [h2.len]; exact k, e1, ?_⟩
            refine q p (.lst (us.eraseIdx j)) v (p :: a1) a2 rfl (List.mem_cons_self ..) (.l upd_same (t1.keep (Ex.refl F) fun a ha => kp a fun z => np (z ▸ in1 a ha))) (List.nodup_cons.mpr ⟨fun z => np (in1 _ z), n1⟩) n2 (fun a ha => .inl ?_) (fun a ha => ⟨List.mem_cons_of_mem _ (in2 a ha), fun z => np (z ▸ in2 a ha), fun z => ?_⟩) (t2.keep (Ex.refl F) fun a ha => kp a fun z => np (z ▸ in2 a ha))
            · rcases List.mem_cons.mp ha with z | z
              · subst z; exact List.mem_cons_self ..
              · exact List.mem_cons_of_mem _ (in1 a z)
            · rcases List.mem_cons.mp z with z | z
              · exact np (z ▸ in2 a ha)
              · exact n3 a z a ha rfl
    · cases e
  · cases e
def rInsert : V → List V → Hp → VK → Prop := fun x vs H Q => ∃ (l : Addr) (xs : List V) (i : Int) (y : V), x = .ref l ∧ vs = [.int i, y] ∧ H l = some (.lst xs) ∧ xs.length < sizeLine ∧ 0 ≤ i ∧ i < 2 ^ 63 ∧ Q .non (upd H l (.lst (xs.take i.toNat ++ [y] ++ xs.drop i.toNat)))
theorem mutR_insert : MutR T rInsert insertM := by
  intro F H u x f1 vs ss ft y z ex t nd tv ndv dj nF e Q q
  unfold insertM at e
  split at e
  · rename_i xs i w
    split at e
    · rename_i hb
      cases e
      cases t with
      | @l p us _ g h1 h2 =>
        cases tv with
        | @cons v0 _ _ _ fi fr ti tr =>
          cases tr with
          | @cons v _ _ _ fa fb ta tb =>
            cases tb
            obtain ⟨rfl, rfl⟩ := ti.int
            simp only [List.nil_append, List.append_nil] at ndv dj
            obtain ⟨np, ng⟩ := List.nodup_cons.mp nd
            obtain ⟨a1, a2, s1, s2, rfl⟩ := h2.split i.toNat
            obtain ⟨n1, n2, n3⟩ := List.nodup_append.mp ng
            have pft : p ∉ fa := dj p (List.mem_cons_self ..)
            have o : HO := .lst (us.take i.toNat ++ [v] ++ us.drop i.toNat)
            have kp : ∀ a, a ≠ p → upd H p (.lst (us.take i.toNat ++ [v] ++ us.drop i.toNat)) a = H a := fun a ha => upd_ne ha
            refine ⟨p, us, i, v, rfl, rfl, h1, by rw [h2.len]; exact hb.1, hb.2.1, by have := hb.2.2; omega, ?_⟩
            have k1 := s1.keep (Ex.refl F) fun a ha => kp a fun z => np (z ▸ List.mem_append_left _ ha)
            have k2 := s2.keep (Ex.refl F) fun a ha => kp a fun z => np (z ▸ List.mem_append_right _ ha)
            have k3 := ta.keep (Ex.refl F) fun a ha => kp a fun z => pft (z ▸ ha)
            refine q p (.lst (us.take i.toNat ++ [v] ++ us.drop i.toNat)) .non (p :: ((a1 ++ (fa ++ [])) ++ a2)) [] rfl (List.mem_cons_self ..) (.l upd_same ((k1.app (.cons k3 .nil)).app k2)) ?_ List.nodup_nil (fun a ha => ?_) (fun _ h => nomatch h) (.f .non)
            · rw [List.append_nil]
              refine List.nodup_cons.mpr ⟨fun z => ?_, List.nodup_append.mpr ⟨List.nodup_append.mpr ⟨n1, ndv, fun a ha b hb z => ?_⟩, n2, fun a ha b hb z => ?_⟩⟩
              · rcases List.mem_append.mp z with z | z
                · rcases List.mem_append.mp z with z | z
                  · exact np (List.mem_append_left _ z)
                  · exact pft z
                · exact np (List.mem_append_right _ z)
              · subst z; exact dj a (List.mem_cons_of_mem _ (List.mem_append_left _ ha)) hb
              · subst z
                rcases List.mem_append.mp ha with z | z
                · exact n3 a z a hb rfl
                · exact dj a (List.mem_cons_of_mem _ (List.mem_append_right _ hb)) z
            · simp only [List.nil_append, List.append_nil] at ha ⊢
              rcases List.mem_cons.mp ha with z | z
              · subst z; exact .inl (List.mem_cons_self ..)
              · rcases List.mem_append.mp z with z | z
                · rcases List.mem_append.mp z with z | z
                  · exact .inl (List.mem_cons_of_mem _ (List.mem_append_left _ z))
                  · exact .inr z
                · exact .inl (List.mem_cons_of_mem _ (List.mem_append_right _ z))
    · cases e
  · cases e
theorem mutR_reverse : MutR T rReverse reverseM := by
  intro F H u x f1 vs ss ft y z ex t nd tv ndv dj nF e Q q
  unfold reverseM at e
  split at e
  · rename_i xs
    cases e
    cases t with
    | @l p us _ g h1 h2 =>
      cases tv
      obtain ⟨np, ng⟩ := List.nodup_cons.mp nd
      obtain ⟨a, t1, pm⟩ := h2.rev
      refine ⟨p, us, rfl, rfl, h1, ?_⟩
      refine q p (.lst us.reverse) .non (p :: a) [] rfl (List.mem_cons_self ..) (.l upd_same (t1.keep (Ex.refl F) fun c hc => upd_ne fun z => np (z ▸ pm.mem_iff.mp hc))) (List.nodup_cons.mpr ⟨fun z => np (pm.mem_iff.mp z), pm.nodup_iff.mpr ng⟩) List.nodup_nil (fun c hc => .inl ?_) (fun _ h => nomatch h) (.f .non)
      rcases List.mem_cons.mp hc with z | z
      · subst z; exact List.mem_cons_self ..
      · exact List.mem_cons_of_mem _ (pm.mem_iff.mp z)
  · cases e
end

/-! ### stores -/
/-- the place's node is exchanged for another one with a frozen item in it -/
def mutN (i : Nat) (r : List Nat) (h : S → Option S) (env : Env) : Option Env := (mutE i r (fun x => (h x).map fun y => (y, .u)) env).map (·.2)
def setM (k : Int) (d : D) (x : S) : Option S :=
  match x with
  | .l xs => (ixN xs.length k).map fun j => .l (xs.set j (.f d))
  | _ => none
/-- o[k] = frozen value; the index is pure -/
def bSub (i : Nat) (pf : Env → Option (List Nat)) (gk : Env → Option S) : D → Env → Option Env := fun d env =>
  match pf env, (gk env).bind intS with
  | some r, some k => mutN i r (setM k d) env
  | _, _ => none
section
variable {T : Tb} {F H : Hp}
theorem TrAll.setF : ∀ {xs : List V} {ss : List S} {g : List Addr} {j : Nat} {v : V} {d : D}, TrAll T F H xs ss g → Rep T F v d → ∃ f, TrAll T F H (xs.set j v) (ss.set j (.f d)) f ∧ f.Sublist g
  | _, _, _, j, v, d, .nil, _ => ⟨[], .nil, List.Sublist.refl _⟩
  | _, _, _, 0, v, d, .cons (f := f) (g := g) t r, h => ⟨[] ++ g, .cons (.f h) r, List.sublist_append_right f g⟩
  | _, _, _, j + 1, v, d, .cons (f := f) (g := g) t r, h => by
    obtain ⟨a, h1, h2⟩ := TrAll.setF (j := j) r h
    exact ⟨f ++ a, .cons t h1, (List.Sublist.refl f).append h2⟩
end
section
variable {X : Cx} {C : CT} {W : WXT} {o ix : Expr} {i : Nat} {pf : Env → Option (List Nat)} {gk : Env → Option S} {pos : Pos}
theorem dg_sub (ho : DPl X C o i pf) (hi : DK X C ix gk)
    (ha : ∀ v, assign (.Subscript o ix pos) X.env v = (do
      let ov ← holding [v] (eval o X.env)
      let iv ← holding [v, ov] (eval ix X.env)
      standAt pos
      holding [v, ov, iv] (setItem ov iv v)
      release [v, ov, iv] []) := by intro _; rfl) : DG X C (.Subscript o ix pos) (bSub i pf gk) := by
  obtain ⟨to, po, so⟩ := ho
  obtain ⟨ti, pi, si⟩ := hi
  refine ⟨_, pg_sub po pi set_list ha, fun b fp σ env F H R v d env' rp e Q q => ?_⟩
  unfold bSub at e
  cases k1 : pf env with
  | none => rw [k1] at e; cases e
  | some r =>
    rw [k1] at e
    have e : (match (gk env).bind intS with | some k => mutN i r (setM k d) env | none => none) = some env' := by
      cases kk : (gk env).bind intS with
      | none => rw [kk] at e; cases e
      | some k => rw [kk] at e; exact e
    cases k2 : gk env with
    | none => rw [k2] at e; cases e
    | some sk =>
      rw [k2] at e
      have e : (match intS sk with | some k => mutN i r (setM k d) env | none => none) = some env' := e
      cases k3 : intS sk with
      | none => rw [k3] at e; cases e
      | some k =>
        rw [k3] at e
        have := intS_some k3
        subst this
        have e : (mutE i r (fun x => (setM k d x).map fun y => (y, .u)) env).map (·.2) = some env' := e
        -- the change
        have eq : ∀ (s s0 x : S), env[i]? = some s → mutS s = some s0 → getP s0 r = some x → mutE i r (fun x => (setM k d x).map fun y => (y, S.u)) env = (setM k d x).map fun y => (S.u, env.set i (wrapAs s (setP s0 r y))) := fun s s0 x a1 a2 a3 => by
          unfold mutE
          rw [a1]
          show (match mutS s with | some s0 => (match getP s0 r with | some x => ((setM k d x).map fun y => (y, S.u)).map (fun yz : S × S => (yz.2, env.set i (wrapAs s (setP s0 r yz.1)))) | none => none) | none => none) = _
          rw [a2]
          show (match getP s0 r with | some x => ((setM k d x).map fun y => (y, S.u)).map (fun yz : S × S => (yz.2, env.set i (wrapAs s (setP s0 r yz.1)))) | none => none) = _
          rw [a3]
          show ((setM k d x).map fun y => (y, S.u)).map (fun yz : S × S => (yz.2, env.set i (wrapAs s (setP s0 r yz.1)))) = _
          cases setM k d x <;> rfl
        cases k4 : env[i]? with
        | none => unfold mutE at e; rw [k4] at e; cases e
        | some s =>
          cases k5 : mutS s with
          | none =>
            unfold mutE at e; rw [k4] at e
            have e : (match mutS s with | some s0 => (match getP s0 r with | some x => ((setM k d x).map fun y => (y, S.u)).map (fun yz : S × S => (yz.2, env.set i (wrapAs s (setP s0 r yz.1)))) | none => none) | none => none).map (fun x : S × Env => x.2) = some env' := e
            rw [k5] at e; cases e
          | some s0 =>
            cases k6 : getP s0 r with
            | none =>
              unfold mutE at e; rw [k4] at e
              have e : (match mutS s with | some s0 => (match getP s0 r with | some x => ((setM k d x).map fun y => (y, S.u)).map (fun yz : S × S => (yz.2, env.set i (wrapAs s (setP s0 r yz.1)))) | none => none) | none => none).map (fun x : S × Env => x.2) = some env' := e
              rw [k5] at e
              have e : (match getP s0 r with | some x => ((setM k d x).map fun y => (y, S.u)).map (fun yz : S × S => (yz.2, env.set i (wrapAs s (setP s0 r yz.1)))) | none => none).map (fun x : S × Env => x.2) = some env' := e
              rw [k6] at e; cases e
            | some x =>
              rw [eq s s0 x k4 k5 k6] at e
              cases x with
              | l xs =>
                cases k7 : ixN xs.length k with
                | none =>
                  have : setM k d (.l xs) = none := by show (ixN xs.length k).map _ = none; rw [k7]; rfl
                  rw [this] at e; cases e
                | some j =>
                  have h7 : setM k d (.l xs) = some (.l (xs.set j (.f d))) := by show (ixN xs.length k).map _ = _; rw [k7]; rfl
                  rw [h7] at e
                  cases e
                  refine so b fp σ env F H R r k1 _ fun v0 u F1 H1 G1 hv hat => ?_
                  refine si b fp σ env F1 H1 (R.grow G1) _ k2 _ fun w F2 H2 f2 G2 t2 => ?_
                  obtain ⟨rfl, _⟩ := t2.int
                  have R2 := (R.grow G1).grow G2
                  have G := G1.trans G2
                  obtain ⟨f1, t1, nd1, _, nF, go⟩ := R2.mut (ft := []) k4 k5 hv (hat.ext G2.exH) k6 Tmp.nil
                  cases t1 with
                  | @l p us _ g h1 h2 =>
                    obtain ⟨np, ng⟩ := List.nodup_cons.mp nd1
                    have rp2 := rp.mono G.exF
                    obtain ⟨a, ts, sb⟩ := h2.setF (j := j) rp2
                    have sub : ∀ c ∈ a, c ∈ g := fun c hc => sb.subset hc
                    obtain ⟨f', R3, st3, _⟩ := go p (.lst (us.set j v)) (.l (xs.set j (.f d))) (p :: a) [] rfl (List.mem_cons_self ..) (.l upd_same (ts.keep (Ex.refl _) fun c hc => upd_ne fun z => np (z ▸ sub c hc))) (List.nodup_cons.mpr ⟨fun z => np (sub p z), ng.sublist sb⟩) List.nodup_nil (fun c hc => .inl (by
                      rcases List.mem_cons.mp hc with z | z
                      · subst z; exact List.mem_cons_self ..
                      · exact List.mem_cons_of_mem _ (sub c z))) (fun _ h => nomatch h)
                    refine ⟨p, us, k, j, rfl, rfl, h1, by rw [h2.len]; exact k7, ?_⟩
                    refine q _ σ F2 _ R3 ?_
                    have s1 : Step (own fp) F H (fun a => a ∈ ([] : List Addr) ∨ own fp a) F2 H2 := (G.step _).toF
                    exact (s1.trans st3).mono fun a z => .inr z
              | _ => cases e
end
end Dn

/-! Dn13: fields stored, instances made. -/
namespace Dn
open PySem PySem.Spec PyProof.Rows L2
open Evl (Ex)

/-- a field is stored -/
def setFld (c j : Nat) (y x : S) : Option S :=
  match x with
  | .o c' ss => if c' = c then (if j < ss.length then some (.o c (ss.set j y)) else if j = ss.length then some (.o c (ss ++ [y])) else none) else none
  | _ => none
section
variable {T : Tb} {F H : Hp}
theorem putF_at : ∀ {fs : List (Str × V)} {ns : List Str} {j : Nat} {f : Str} (v : V), fs.map (·.1) = ns.take fs.length → ns[j]? = some f → (∀ k, k < j → ns[k]? ≠ some f) →
    (j < fs.length → (putF f v fs).map (·.1) = ns.take (putF f v fs).length ∧ (putF f v fs).map (·.2) = (fs.map (·.2)).set j v ∧ (putF f v fs).length = fs.length) ∧
    (j = fs.length → (putF f v fs).map (·.1) = ns.take (putF f v fs).length ∧ (putF f v fs).map (·.2) = fs.map (·.2) ++ [v] ∧ (putF f v fs).length = fs.length + 1)
  | [], ns, j, f, v, e, h1, h2 => by
    refine ⟨fun h => by simp at h, fun h => ?_⟩
    have hj : j = 0 := by simpa using h
    subst hj
    cases ns with
    | nil => simp at h1
    | cons m ns =>
      have : m = f := by simpa using h1
      subst this
      exact ⟨rfl, rfl, rfl⟩
  | (n, w) :: fs, [], j, f, v, e, h1, h2 => by simp at h1
  | (n, w) :: fs, m :: ns, 0, f, v, e, h1, h2 => by
    have e' : n = m ∧ fs.map (·.1) = ns.take fs.length := by simpa using e
    have : m = f := by simpa using h1
    have hn : n = f := e'.1.trans this
    refine ⟨fun _ => ?_, fun h => by simp at h⟩
    have ep : putF f v ((n, w) :: fs) = (n, v) :: fs := by
      show (if n = f then (n, v) :: fs else (n, w) :: putF f v fs) = _
      rw [if_pos hn]
    rw [ep]
    exact ⟨by simpa using e', by simp, by simp⟩
  | (n, w) :: fs, m :: ns, j + 1, f, v, e, h1, h2 => by
    have e' : n = m ∧ fs.map (·.1) = ns.take fs.length := by simpa using e
    have hn : ¬ n = f := fun z => h2 0 (Nat.succ_pos _) (by rw [← z, e'.1]; rfl)
    obtain ⟨g1, g2⟩ := putF_at (fs := fs) (ns := ns) (j := j) (f := f) v e'.2 (by simpa using h1) fun k hk z => h2 (k + 1) (by omega) (by simpa using z)
    have ep : putF f v ((n, w) :: fs) = (n, w) :: putF f v fs := by
      show (if n = f then (n, v) :: fs else (n, w) :: putF f v fs) = _
      rw [if_neg hn]
    rw [ep]
    refine ⟨fun h => ?_, fun h => ?_⟩
    · obtain ⟨a1, a2, a3⟩ := g1 (by simpa using h)
      exact ⟨by simp [a1, e'.1], by simp [a2], by simp [a3]⟩
    · obtain ⟨a1, a2, a3⟩ := g2 (by simpa using h)
      exact ⟨by simp [a1, e'.1], by simp [a2], by simp [a3]⟩
/-- an item is exchanged for a tree from outside -/
theorem TrAll.setT : ∀ {xs : List V} {ss : List S} {g : List Addr} {j : Nat} {v : V} {y : S} {ft : List Addr}, TrAll T F H xs ss g → Tr T F H v y ft → j < ss.length → g.Nodup → ft.Nodup → (∀ a ∈ g, a ∉ ft) →
    ∃ f, TrAll T F H (xs.set j v) (ss.set j y) f ∧ f.Nodup ∧ ∀ a ∈ f, a ∈ g ∨ a ∈ ft
  | _, _, _, j, v, y, ft, .nil, _, hj, _, _, _ => by simp at hj
  | _, _, _, 0, v, y, ft, .cons (f := f) (g := g) t r, h, _, nd, ndt, dj => by
    obtain ⟨n1, n2, n3⟩ := List.nodup_append.mp nd
    exact ⟨ft ++ g, .cons h r, List.nodup_append.mpr ⟨ndt, n2, fun a ha b hb e => by subst e; exact dj a (List.mem_append_right _ hb) ha⟩, fun a ha => (List.mem_append.mp ha).elim .inr fun z => .inl (List.mem_append_right _ z)⟩
  | _, _, _, j + 1, v, y, ft, .cons (f := f) (g := g) t r, h, hj, nd, ndt, dj => by
    obtain ⟨n1, n2, n3⟩ := List.nodup_append.mp nd
    obtain ⟨a, h1, h2, h3⟩ := TrAll.setT (j := j) r h (by simpa using hj) n2 ndt fun a ha => dj a (List.mem_append_right _ ha)
    refine ⟨f ++ a, .cons t h1, List.nodup_append.mpr ⟨n1, h2, fun c hc d hd e => ?_⟩, fun c hc => ?_⟩
    · subst e
      rcases h3 c hd with z | z
      · exact n3 c hc c z rfl
      · exact dj c (List.mem_append_left _ hc) z
    · rcases List.mem_append.mp hc with z | z
      · exact .inl (List.mem_append_left _ z)
      · exact (h3 c z).imp (List.mem_append_right _) id
/-- the field's store on the heap -/
theorem fld_store {p : Addr} {x y x' : S} {f1 ft : List Addr} {v : V} {c j : Nat} {f : Str} {Ca : Addr} {ns : List Str} (t : Tr T F H (.ref p) x f1) (nd : f1.Nodup) (tv : Tr T F H v y ft) (ndt : ft.Nodup) (dj : ∀ a ∈ f1, a ∉ ft) (c1 : T.cls c = some (Ca, ns)) (c2 : ns[j]? = some f) (c3 : ∀ k, k < j → ns[k]? ≠ some f) (e : setFld c j y x = some x') :
    ∃ dx fs f2, H p = some (.ins Ca dx fs) ∧ fs.length ≤ ns.length ∧ p ∈ f1 ∧ Tr T F (upd H p (.ins Ca dx (putF f v fs))) (.ref p) x' f2 ∧ f2.Nodup ∧ (∀ a ∈ f2, a ∈ f1 ∨ a ∈ ft) := by
  cases t with
  | @o _ C2 dx fs c' ns2 ss g q1 q2 q3 q4 =>
    have e : (if c' = c then (if j < ss.length then some (S.o c (ss.set j y)) else if j = ss.length then some (.o c (ss ++ [y])) else none) else none) = some x' := e
    split at e
    · rename_i hc
      subst hc
      have h := c1.symm.trans q2
      cases h
      obtain ⟨np, ng⟩ := List.nodup_cons.mp nd
      have pft : p ∉ ft := dj p (List.mem_cons_self ..)
      have kp : ∀ (o : HO) a, a ≠ p → upd H p o a = H a := fun o a ha => upd_ne ha
      have hl := q4.len
      have hl' : fs.length = ss.length := by simpa using hl
      have hle : fs.length ≤ ns.length := by
        have := congrArg List.length q3
        simp only [List.length_map, List.length_take] at this
        omega
      obtain ⟨g1, g2⟩ := putF_at (f := f) v q3 c2 c3
      split at e
      · rename_i hj
        cases e
        obtain ⟨a1, a2, a3⟩ := g1 (by omega)
        obtain ⟨a, ts, nda, sa⟩ := q4.setT (j := j) tv hj ng ndt fun b hb => dj b (List.mem_cons_of_mem _ hb)
        have pa : p ∉ a := fun z => (sa p z).elim np pft
        refine ⟨dx, fs, p :: a, q1, hle, List.mem_cons_self .., .o upd_same q2 a1 (by rw [a2]; exact ts.keep (Ex.refl F) fun b hb => kp _ b fun z => pa (z ▸ hb)), List.nodup_cons.mpr ⟨pa, nda⟩, fun b hb => ?_⟩
        rcases List.mem_cons.mp hb with z | z
        · subst z; exact .inl (List.mem_cons_self ..)
        · exact (sa b z).imp (List.mem_cons_of_mem _) id
      · split at e
        · rename_i hj
          cases e
          obtain ⟨a1, a2, a3⟩ := g2 (by omega)
          have pa : p ∉ g ++ (ft ++ []) := fun z => by
            rw [List.append_nil] at z
            exact (List.mem_append.mp z).elim np pft
          refine ⟨dx, fs, p :: (g ++ (ft ++ [])), q1, hle, List.mem_cons_self .., .o upd_same q2 a1 (by
            rw [a2]
            exact (q4.app (.cons tv .nil)).keep (Ex.refl F) fun b hb => kp _ b fun z => pa (z ▸ hb)), List.nodup_cons.mpr ⟨pa, ?_⟩, fun b hb => ?_⟩
          · rw [List.append_nil]
            exact List.nodup_append.mpr ⟨ng, ndt, fun a ha b hb z => by subst z; exact dj a (List.mem_cons_of_mem _ ha) hb⟩
          · rw [List.append_nil] at hb
            rcases List.mem_cons.mp hb with z | z
            · subst z; exact .inl (List.mem_cons_self ..)
            · exact (List.mem_append.mp z).imp (List.mem_cons_of_mem _) id
        · cases e
    · cases e
  | f _ => cases e
  | l _ _ => cases e
  | m _ _ _ _ => cases e
end
/-- a class whose fields are few -/
structure ClsFew (C : CT) (c : Nat) : Prop where
  few : ∀ Ca ns, C.cls c = some (Ca, ns) → ns.length < 1000
def mutF (i : Nat) (r : List Nat) (h : S → Option S) (env : Env) : Option Env :=
  match env[i]? with
  | some s => match mutS s with
    | some s0 => match getP s0 r with
      | some x => (h x).map fun y => env.set i (wrapAs s (setP s0 r y))
      | none => none
    | none => none
  | none => none
theorem mutF_some {i : Nat} {r : List Nat} {h : S → Option S} {env env' : Env} (e : mutF i r h env = some env') : ∃ s s0 x y, env[i]? = some s ∧ mutS s = some s0 ∧ getP s0 r = some x ∧ h x = some y ∧ env' = env.set i (wrapAs s (setP s0 r y)) := by
  unfold mutF at e
  split at e
  · rename_i s k1
    split at e
    · rename_i s0 k2
      split at e
      · rename_i x k3
        cases k4 : h x with
        | none => rw [k4] at e; cases e
        | some y => rw [k4] at e; cases e; exact ⟨s, s0, x, y, k1, k2, k3, k4, rfl⟩
      · cases e
    · cases e
  · cases e
def sFldS (i c j : Nat) (pf : Env → Option (List Nat)) (f : Env → Res S) : Env → SRes := fun env =>
  match f env with
  | .ok s e => match (pf e).bind fun r => mutF i r (setFld c j s) e with
    | some e2 => .nx e2
    | none => .bad
  | .exc c ds e => .exc c ds e
  | .bad => .bad
section
variable {X : Cx} {C : CT} {W : WXT} {o value : Expr} {f : Str} {i c j : Nat} {pf : Env → Option (List Nat)} {fv : Env → Res S} {gv : Env → Option S} {pos pos' tpos : Pos}
theorem ds_fld (ho : DPl X C o i pf) (k : FldOk X.K C c j f) (few : ClsFew C c) (hv : DE X C W value fv) (hs : swapsWith value (some (.Attribute o f pos')) pos.line X.env = pure false := by rfl) : DS X C W (.Assign [.Attribute o f pos'] value pos) (sFldS i c j pf fv) := by
  obtain ⟨to, po, so⟩ := ho
  obtain ⟨tv, pv, sv⟩ := hv
  obtain ⟨Ca, ns, c1, c2, c3, c4, c5⟩ := k.ex
  refine ⟨_, ps_fld po pv hs, fun b fp σ env F H R D q => ?_⟩
  have q' : GoodS (Tx X C) W b (own fp) F H (match fv env with | .ok s e => (match (pf e).bind fun r => mutF i r (setFld c j s) e with | some e2 => SRes.nx e2 | none => .bad) | .exc c ds e => .exc c ds e | .bad => .bad) D := q
  refine sv b fp σ env F H R _ ?_
  cases e : fv env with
  | bad => rw [e] at q'; exact q'
  | exc c ds e1 => rw [e] at q'; exact fun fp' F' H' cls d r st ex => q' fp' σ F' H' cls d r st ex
  | ok y e1 =>
    rw [e] at q'
    intro fp1 F1 H1 v ft R1 st1 tr1 tm1
    have q2 : GoodS (Tx X C) W b (own fp) F H (match (pf e1).bind fun r => mutF i r (setFld c j y) e1 with | some e2 => SRes.nx e2 | none => .bad) D := q'
    cases k1 : pf e1 with
    | none => rw [k1] at q2; exact False.elim q2
    | some r =>
      rw [k1] at q2
      have q3 : GoodS (Tx X C) W b (own fp) F H (match mutF i r (setFld c j y) e1 with | some e2 => SRes.nx e2 | none => .bad) D := q2
      cases k2 : mutF i r (setFld c j y) e1 with
      | none => rw [k2] at q3; exact False.elim q3
      | some e2 =>
        rw [k2] at q3
        obtain ⟨s, s0, x, x', m1, m2, m3, m4, rfl⟩ := mutF_some k2
        refine so b fp1 σ e1 F1 H1 R1 r k1 _ fun v0 u F2 H2 G hv hat => ?_
        have R2 := R1.grow G
        have tr2 := tr1.ext G.exF G.exH
        have tm2 : Tmp b fp1 F2 ft := ⟨tm1.nd, tm1.no, (fun a ha => by
          cases z : F2 a with
          | none => rfl
          | some o =>
            have := G.gr a o z (tm1.nF a ha)
            obtain ⟨w, hw⟩ := tr1.tracked a ha
            rw [this] at hw; cases hw), tm1.ow⟩
        obtain ⟨f1, t1, nd1, dj, nF, go⟩ := R2.mut m1 m2 hv hat m3 tm2
        -- u is a reference
        obtain ⟨p, rfl⟩ : ∃ p, u = .ref p := by
          cases t1 with
          | o _ _ _ _ => exact ⟨_, rfl⟩
          | l _ _ => exact ⟨_, rfl⟩
          | m _ _ _ _ => exact ⟨_, rfl⟩
          | f _ => cases m4
        obtain ⟨dx, fs, f2, h1, hle, hp, t2, nd2, s2⟩ := fld_store t1 nd1 tr2 tm2.nd dj c1 c2 c3 m4
        obtain ⟨f', R3, st3, _⟩ := go p _ x' f2 [] rfl hp t2 nd2 List.nodup_nil s2 (fun _ h => nomatch h)
        refine ⟨p, Ca, dx, fs, rfl, h1, c4, c5, Nat.lt_of_le_of_lt hle (few.few Ca ns c1), q3 _ σ F2 _ R3 ?_⟩
        exact ((st1.trans (G.step _)).trans st3).mono fun a z => .inr z
def augFld (h : Int → Int → Int) (c j : Nat) (n : Int) (x : S) : Option S :=
  match fldS c j x with
  | some (.f (.int a)) => setFld c j (.f (.int (h a n))) x
  | _ => none
def sFldAug' (h : Int → Int → Int) (i c j : Nat) (pf : Env → Option (List Nat)) (g : Env → Option S) : Env → SRes := fun env =>
  match pf env, (g env).bind intS with
  | some r, some n => match mutF i r (augFld h c j n) env with
    | some e2 => .nx e2
    | none => .bad
  | _, _ => .bad
theorem ds_fldaug {op : Operator} {h : Int → Int → Int} (ho : DPl X C o i pf) (k : FldOk X.K C c j f) (few : ClsFew C c) (hv : DK X C value gv) (hop : InOp X op fun x y H Q => ∃ i j, x = .int i ∧ y = .int j ∧ Q (.int (h i j)) H) :
    DS X C W (.AugAssign (.Attribute o f tpos) op value pos) (sFldAug' h i c j pf gv) := by
  obtain ⟨to, po, so⟩ := ho
  obtain ⟨tv, pv, sv⟩ := hv
  obtain ⟨Ca, ns, c1, c2, c3, c4, c5⟩ := k.ex
  refine ⟨_, ps_fldaug po pv hop, fun b fp σ env F H R D q => ?_⟩
  have q' : GoodS (Tx X C) W b (own fp) F H (match pf env, (gv env).bind intS with | some r, some n => (match mutF i r (augFld h c j n) env with | some e2 => SRes.nx e2 | none => .bad) | _, _ => .bad) D := q
  cases k1 : pf env with
  | none => rw [k1] at q'; exact False.elim q'
  | some r =>
    cases k2 : gv env with
    | none => rw [k1, k2] at q'; exact False.elim q'
    | some sv0 =>
      cases k3 : intS sv0 with
      | none =>
        rw [k1, k2] at q'
        have q2 : GoodS (Tx X C) W b (own fp) F H (match some r, intS sv0 with | some r, some n => (match mutF i r (augFld h c j n) env with | some e2 => SRes.nx e2 | none => .bad) | _, _ => .bad) D := q'
        rw [k3] at q2; exact False.elim q2
      | some n =>
        rw [k1, k2] at q'
        have q2 : GoodS (Tx X C) W b (own fp) F H (match some r, intS sv0 with | some r, some n => (match mutF i r (augFld h c j n) env with | some e2 => SRes.nx e2 | none => .bad) | _, _ => .bad) D := q'
        rw [k3] at q2
        have q3 : GoodS (Tx X C) W b (own fp) F H (match mutF i r (augFld h c j n) env with | some e2 => SRes.nx e2 | none => .bad) D := q2
        have := intS_some k3
        subst this
        cases k4 : mutF i r (augFld h c j n) env with
        | none => rw [k4] at q3; exact False.elim q3
        | some e2 =>
          rw [k4] at q3
          obtain ⟨s, s0, x, x', m1, m2, m3, m4, rfl⟩ := mutF_some k4
          unfold augFld at m4
          split at m4
          · rename_i a hx
            refine so b fp σ env F H R r k1 _ fun v0 u F1 H1 G hv hat => ?_
            have R1 := R.grow G
            obtain ⟨f1, t1, nd1, dj, nF, go⟩ := R1.mut (ft := []) m1 m2 hv hat m3 Tmp.nil
            cases t1 with
            | f _ => cases m4
            | l _ _ => cases m4
            | m _ _ _ _ => cases m4
            | @o p C2 dx fs c' ns2 ss g w1 w2 w4 w5 =>
              have hx5 : (if c' = c then ss[j]? else none) = some (.f (.int a)) := hx
              split at hx5
              · rename_i hc
                subst hc
                have h2 := c1.symm.trans w2
                cases h2
                obtain ⟨w, gw, z1, z2, _, _⟩ := w5.get hx5
                obtain ⟨rfl, _⟩ := z2.int
                refine ⟨p, _, dx, fs, _, rfl, w1, c4, c5, lookup_ix w4 c2 c3 z1, ?_⟩
                refine sv b fp σ env F1 H1 R1 _ k2 _ fun w F2 H2 fw G2 t2 => ?_
                obtain ⟨rfl, _⟩ := t2.int
                have R2 := R1.grow G2
                obtain ⟨f1', t1', nd1', dj', nF', go'⟩ := R2.mut (ft := []) m1 m2 hv (hat.ext G2.exH) m3 Tmp.nil
                obtain ⟨dx', fs', f2, h1, hle, hp, t2', nd2, s2⟩ := fld_store (v := .int (h a n)) t1' nd1' (.f (.int _)) List.nodup_nil dj' c1 c2 c3 m4
                obtain ⟨f', R3, st3, _⟩ := go' p _ x' f2 [] rfl hp t2' nd2 List.nodup_nil s2 (fun _ h => nomatch h)
                refine ⟨a, n, rfl, rfl, dx', fs', h1, Nat.lt_of_le_of_lt hle (few.few _ _ c1), q3 _ σ F2 _ R3 ?_⟩
                have s1 : Step (own fp) F H (fun a => a ∈ ([] : List Addr) ∨ own fp a) F2 H2 := ((G.trans G2).step _).toF
                exact (s1.trans st3).mono fun a z => .inr z
              · cases hx5
          · cases m4
end
end Dn

/-! Dn14: instances made; names changed by an operator; chains, in, truth. -/
namespace Dn
open PySem PySem.Spec PyProof.Rows L2
open Evl (Ex)

section
variable {T : Tb} {W : WXT} {b : Gh} {fp : Fp} {σ : SV} {e : Env} {F H : Hp} {vs : List V} {ss args : List S} {fs : List (List Addr)} {hs : List (Option Nat)} {ms : List Md}
/-- a handed thing that was lent by nobody is the caller's behind the call -/
theorem SR.behind_arg {vs : List V} {outs : List S} {fp' : Fp} {F' H' : Hp} {fr : List Addr} {ρ : Nat → List Addr} (R : SR T b fp σ e F H) (tm : Tmp b fp F fs.flatten) (nd : (hs.filterMap id).Nodup)
    (R' : SR T (ghOf vs ρ (cFp hs ms fs fp) F H) fp' (vs.map some) (List.zipWith outW ms outs) F' H') (st : Step (own (cFp hs ms fs fp)) F H (fun a => a ∈ fr ∨ own fp' a) F' H')
    (sub : ∀ a, own (cFp hs ms fs fp) a → a ∈ fs.flatten ∨ own fp a) (wide : Step (fun a => a ∈ fs.flatten ∨ own fp a) F H (fun a => a ∈ fr ∨ own (bFp hs ms fp' fp) a) F' H') {i : Nat} (hi : hs[i]? = some none) :
    Step (fun a => a ∈ fs.flatten ∨ own fp a) F H (fun a => a ∈ fp' i ∨ own (bFp hs ms fp' fp) a) F' H' ∧ Tmp b (bFp hs ms fp' fp) F' (fp' i) := by
  have apart : ∀ (a : Addr) (k : Nat), (∀ i : Nat, hs[i]? = some (some k) → ms[i]? = some .bw → False) → a ∈ fp k → ¬ own (cFp hs ms fs fp) a := fun a k hk ha ⟨i, hi⟩ => by
    rcases cFp_in hi with ⟨m, _, _, _, z⟩ | ⟨j, c1, c2, z⟩
    · exact tm.no a (getD_flat z) ⟨k, ha⟩
    · have := R.dj j k a z ha
      subst this
      exact hk i c1 c2
  have base : Step b.O b.F b.H (fun a => a ∈ fs.flatten ∨ own fp a) F H := ⟨R.st.ex, R.st.fr, R.st.gr, fun a z => z.elim (tm.ow a) (R.st.ow a)⟩
  have s1 := st.wide sub
  have w2 : Step (fun a => a ∈ fs.flatten ∨ own fp a) F H (fun a => a ∈ fp' i ∨ own (bFp hs ms fp' fp) a) F' H' := ⟨s1.ex, s1.fr, s1.gr, fun a z => z.elim (fun z => s1.ow a (.inr ⟨i, z⟩)) fun z => wide.ow a (.inr z)⟩
  refine ⟨w2, R'.nd i, fun a ha z => ?_, R'.nF i, fun a ha => (base.trans w2).ow a (.inl ha)⟩
  obtain ⟨k, hk⟩ := z
  by_cases h : ∃ i' : Nat, hs[i']? = some (some k) ∧ ms[i']? = some .bw
  · obtain ⟨i', h1, h2⟩ := h
    rw [bFp_lent nd h1 h2] at hk
    have := R'.dj i i' a ha hk
    subst this
    rw [hi] at h1; cases h1
  · have hn : ∀ i' : Nat, hs[i']? = some (some k) → ms[i']? = some .bw → False := fun i' a b => h ⟨i', a, b⟩
    rw [bFp_not hn] at hk
    rcases st.ow a (.inr ⟨i, ha⟩) with q | q
    · exact apart a k hn hk q
    · obtain ⟨o, ho⟩ := R.tracked ⟨k, hk⟩
      rw [q] at ho; cases ho
end
def makeD (c : Nat) (fn : List S → Fo) (hs : List (Option Nat)) (ms : List Md) (ss : List S) (e : Env) : Res S :=
  match fillS hs ss e with
  | none => .bad
  | some args => if lendOk hs ms e then (match fn (.o c [] :: args) with
      | .ret (.f .non) (x :: outs) => if outs.length = ms.length then .ok x (putOuts hs ms outs e) else .bad
      | _ => .bad) else .bad
def eMake (c : Nat) (fn : List S → Fo) (hs : List (Option Nat)) (ms : List Md) (g : Env → Res (List S)) : Env → Res S := fun env => (g env).bind fun ss e => makeD c fn hs ms ss e
theorem snd_make {T : Tb} {W : WXT} {ta : TA} {fn : List S → Fo} {g : Env → Res (List S)} {E : XK} {hs : List (Option Nat)} {ms : List Md} {c : Nat} {Ca : Addr} {ns : List Str} (ha : SndAr T W ta hs g) (hc : T.cls c = some (Ca, ns)) (nd : (hs.filterMap id).Nodup) (hE : ∀ (c : Nat) ds outs args, fn args = .exc c ds outs → False) :
    SndE T W (tMake Ca (spD T (.bw :: ms) fn) [] E ta) (eMake c fn hs ms g) := fun b fp σ env F H R Q q => by
  refine ha b fp σ env F H R _ (GoodR.bind q fun ss e fp1 F1 H1 vs f1 R1 st1 t1 tm1 q1 => ?_)
  obtain ⟨fs, t1, rfl⟩ := t1
  intro x dx hx hdx hne
  have q2 : GoodE T W b (own fp) σ F H (makeD c fn hs ms ss e) Q := q1
  unfold makeD at q2
  cases k1 : fillS hs ss e with
  | none => rw [k1] at q2; exact False.elim q2
  | some args =>
    rw [k1] at q2
    have q3 : GoodE T W b (own fp) σ F H (if lendOk hs ms e then (match fn (.o c [] :: args) with | .ret (.f .non) (x :: outs) => if outs.length = ms.length then .ok x (putOuts hs ms outs e) else .bad | _ => .bad) else .bad) Q := q2
    split at q3
    · rename_i hl
      -- the new instance
      let H2 : Hp := upd (upd H1 dx (.own x)) x (.ins Ca dx [])
      have G : Grow F1 H1 F1 H2 := by
        have ex : Ex H1 H2 := (Evl.Ex.new hdx).trans (Evl.Ex.new (by rw [upd_ne (Ne.symm hne)]; exact hx))
        exact ⟨Ex.refl _, ex, R1.ex.trans ex, fun a o h n => (by rw [h] at n; cases n)⟩
      have R2 := R1.grow G
      have tx : Tr T F1 H2 (.ref x) (.o c []) [x] := .o (fs := []) (fp := []) (show H2 x = _ from upd_same) hc rfl .nil
      have xF : F1 x = none := Evl.fresh_back R1.ex hx
      have t2 : TrH T σ F1 H2 (.ref x :: vs) (.o c [] :: ss) ([x] :: fs) (none :: hs) := .val tx (by
        have s0 : Step (fun _ => False) F1 H1 (fun _ => False) F1 H2 := ⟨G.exF, fun a o h _ => G.exH a o h, fun a o h n => .inl (G.gr a o h n), fun a z => z.elim⟩
        exact t1.step s0 fun _ _ z => z)
      have xn : x ∉ fs.flatten := fun z => by
        obtain ⟨o, ho⟩ := t1.tracked x z
        rw [hx] at ho; cases ho
      have tm2 : Tmp b fp1 F1 ([x] :: fs).flatten := by
        rw [List.flatten_cons]
        refine ⟨List.nodup_append.mpr ⟨by simp, tm1.nd, fun a h1 c h2 z => ?_⟩, fun a ha z => ?_, fun a ha => ?_, fun a ha => ?_⟩
        · have : a = x := by simpa using h1
          subst this; subst z; exact xn h2
        · rcases List.mem_append.mp ha with h | h
          · have : a = x := by simpa using h
            subst this
            obtain ⟨o, ho⟩ := R1.tracked z
            rw [hx] at ho; cases ho
          · exact tm1.no a h z
        · rcases List.mem_append.mp ha with h | h
          · have : a = x := by simpa using h
            subst this; exact xF
          · exact tm1.nF a h
        · rcases List.mem_append.mp ha with h | h
          · have : a = x := by simpa using h
            subst this; exact (R1.st.back hx).symm
          · exact tm1.ow a h
      have st2 : Step (own fp) F H (fun a => a ∈ ([x] :: fs).flatten ∨ own fp1 a) F1 H2 := st1.add G fun a z => by
        rw [List.flatten_cons] at z
        rcases z with z | z
        · rcases List.mem_append.mp z with h | h
          · have : a = x := by simpa using h
            subst this; exact .inr hx
          · exact .inl (.inl h)
        · exact .inl (.inr z)
      have k2 : fillS (none :: hs) (.o c [] :: ss) e = some (.o c [] :: args) := by
        show (fillS hs ss e).map _ = _
        rw [k1]; rfl
      have hl2 : lendOk (none :: hs) (.bw :: ms) e = true := hl
      have nd2 : ((none :: hs).filterMap id).Nodup := by simpa using nd
      obtain ⟨l1, l2, R3, sub⟩ := R2.enter t2 tm2 k2 hl2 nd2
      show spD T (.bw :: ms) fn (.ref x :: (vs ++ [])) H2 _ E
      rw [List.append_nil]
      refine ⟨l1, .o c [] :: args, _, F1, _, l2, R3, ?_⟩
      cases kf : fn (.o c [] :: args) with
      | bad => rw [kf] at q3; exact False.elim q3
      | exc c' ds outs => exact (hE c' ds outs _ kf).elim
      | ret s outs0 =>
        rw [kf] at q3
        have q4 : GoodE T W b (own fp) σ F H (match Fo.ret s outs0 with | .ret (.f .non) (x :: outs) => if outs.length = ms.length then .ok x (putOuts hs ms outs e) else .bad | _ => .bad) Q := q3
        split at q4
        · rename_i y outs hse
          cases hse
          split at q4
          · rename_i lo
            intro v fp' F' H' fr R' st' tr' tm'
            obtain ⟨rfl, rfl⟩ := tr'.non
            have lo2 : (y :: outs).length = (Md.bw :: ms).length := by simp [lo]
            obtain ⟨R4, s4, tm4⟩ := R2.behind t2 tm2 k2 hl2 nd2 lo2 R' st' tm' sub
            obtain ⟨s5, tm5⟩ := R2.behind_arg (i := 0) tm2 nd2 R' st' sub s4 rfl
            refine ⟨rfl, ?_⟩
            have sl := R'.slot 0 (.w y) rfl
            have ep : putOuts (none :: hs) (.bw :: ms) (y :: outs) e = putOuts hs ms outs e := rfl
            rw [ep] at R4
            exact q4 _ F' H' (.ref x) (fp' 0) R4 (st2.trans s5) sl.2 tm5
          · exact False.elim q4
        · exact False.elim q4
    · exact False.elim q3
/-- C(args): an instance of an own class whose __init__ lets nothing out -/
theorem de_make {X : Cx} {C : CT} {W : WXT} {k : Nat} {f Ca : Addr} {fd : FuncData} {ps : List Str} {x : Str} {p pos : Pos} {e : Expr} {es : List Expr} {hs : List (Option Nat)} {ms : List Md} {fn : List S → Fo} {g : Env → Res (List S)} {c : Nat} {ns : List Str} (M : Mk X.K Ca f) (G : FnOk X.prog X.w X.K X.mg X.base CX0 k f fd ps (spD (Tx X C) (.bw :: ms) fn)) (hr : Room (k + 1) X.A)
    (hg : Gl X x) (hm : X.mg x = some (.ref Ca)) (hb : Binds X.K fd ps []) (hc : C.cls c = some (Ca, ns)) (ha : DAr X C W (e :: es) hs g) (hE : ∀ (c : Nat) ds outs args, fn args = .exc c ds outs → False) (nd : (hs.filterMap id).Nodup := by decide)
    (hd : (x == ("__debug__" : Str)) = false := by decide) (he : starEach (e :: es) X.env = (false, eval e X.env) :: starEach es X.env := by rfl) (hpl : (backTo pos (starEach es X.env)).any (·.1) = false := by rfl) : DE X C W (.Call (.Name x p) (e :: es) [] pos) (eMake c fn hs ms g) := by
  obtain ⟨t, pa, s⟩ := ha
  exact ⟨_, pe_make M G hr hg hm hb .nil pass0 pa hd he hpl, snd_make (T := Tx X C) s hc nd hE⟩

/-! ### x op= e on a name -/
def sAug (h : Int → Int → Int) (i : Nat) (f : Env → Res S) : Env → SRes := fun env =>
  match (kVar i env).bind intS with
  | some a => match f env with
    | .ok (.f (.int n)) e => if i < e.length then .nx (e.set i (.f (.int (h a n)))) else .bad
    | .ok _ _ => .bad
    | .exc c ds e => .exc c ds e
    | .bad => .bad
  | none => .bad
theorem ds_aug {X : Cx} {C : CT} {W : WXT} {x : Str} {e : Expr} {op : Operator} {h : Int → Int → Int} {f : Env → Res S} {pos pos' : Pos} (i : Nat) (hN : X.N.Nodup) (he : DE X C W e f) (ho : PIp X op (ipI h)) (hi : X.N[i]? = some x := by rfl) (hx : Loc X.env.scope x := by first | exact Or.inl rfl | exact Or.inr rfl)
    (hf : X.fn x = true ∨ X.env.scope.names.lookup x = some .local := by first | exact .inl rfl | exact .inr rfl | assumption) : DS X C W (.AugAssign (.Name x pos') op e pos) (sAug h i f) := by
  obtain ⟨t, p, s⟩ := he
  refine ⟨_, ps_aug hN hi hx p ho hf, fun b fp σ env F H R D q => ?_⟩
  have q' : GoodS (Tx X C) W b (own fp) F H (match (kVar i env).bind intS with | some a => (match f env with | .ok (.f (.int n)) e => if i < e.length then SRes.nx (e.set i (.f (.int (h a n)))) else .bad | .ok _ _ => .bad | .exc c ds e => .exc c ds e | .bad => .bad) | none => .bad) D := q
  cases k0 : kVar i env with
  | none => rw [k0] at q'; exact False.elim q'
  | some s0 =>
    rw [k0] at q'
    have q2 : GoodS (Tx X C) W b (own fp) F H (match intS s0 with | some a => (match f env with | .ok (.f (.int n)) e => if i < e.length then SRes.nx (e.set i (.f (.int (h a n)))) else .bad | .ok _ _ => .bad | .exc c ds e => .exc c ds e | .bad => .bad) | none => .bad) D := q'
    cases k1 : intS s0 with
    | none => rw [k1] at q2; exact False.elim q2
    | some a =>
      rw [k1] at q2
      have := intS_some k1
      subst this
      obtain ⟨v, g, hv, tv⟩ := R.root k0
      obtain ⟨rfl, _⟩ := tv.int
      have q3 : GoodS (Tx X C) W b (own fp) F H (match f env with | .ok (.f (.int n)) e => if i < e.length then SRes.nx (e.set i (.f (.int (h a n)))) else .bad | .ok _ _ => .bad | .exc c ds e => .exc c ds e | .bad => .bad) D := q2
      refine ⟨.int a, hv, s b fp σ env F H R _ ?_⟩
      cases k2 : f env with
      | bad => rw [k2] at q3; exact q3
      | exc c ds e1 => rw [k2] at q3; exact fun fp' F' H' cls d r st ex => q3 fp' σ F' H' cls d r st ex
      | ok y e1 =>
        rw [k2] at q3
        intro fp1 F1 H1 w ft R1 st1 t1 tm1
        have q4 : GoodS (Tx X C) W b (own fp) F H (match (Res.ok y e1 : Res S) with | .ok (.f (.int n)) e => if i < e.length then SRes.nx (e.set i (.f (.int (h a n)))) else .bad | .ok _ _ => .bad | .exc c ds e => .exc c ds e | .bad => .bad) D := q3
        split at q4
        · rename_i n e2 hy
          cases hy
          obtain ⟨rfl, rfl⟩ := t1.int
          split at q4
          · rename_i hl
            exact ⟨a, n, rfl, rfl, q4 _ _ F1 H1 (R1.store (.f (.int _)) Tmp.nil hl) (st1.toOwn.toF).store⟩
          · exact False.elim q4
        · exact False.elim q4
        · rename_i hy; cases hy
        · rename_i hy; cases hy

/-! ### minus -/
def kNeg (g : Env → Option S) : Env → Option S := fun env => (g env).bind negS
theorem dk_neg {X : Cx} {C : CT} {a : Expr} {g : Env → Option S} {pos : Pos} (h : DK X C a g) : DK X C (.UnaryOp .USub a pos) (kNeg g) := by
  obtain ⟨t, p, s⟩ := h
  refine ⟨_, pe_un un_neg p, fun b fp σ env F H R x e Q q => ?_⟩
  unfold kNeg at e
  cases k : g env with
  | none => rw [k] at e; cases e
  | some y =>
    rw [k] at e
    have e : negS y = some x := e
    unfold negS at e
    split at e
    · cases e
      refine s b fp σ env F H R _ k _ fun v F' H' f G t => ?_
      obtain ⟨rfl, _⟩ := t.int
      exact ⟨_, rfl, q _ F' H' [] G (.f (.int _))⟩
    · cases e

/-! ### a < b < c -/
def kChain (g g' : S → S → Option S) (ga gb gc : Env → Option S) : Env → Option S := fun env =>
  (ga env).bind fun x => (gb env).bind fun y => match g x y with
    | some (.f (.bl k)) => if k = true then (gc env).bind fun z => g' y z else some (.f (.bl false))
    | _ => none
section
variable {X : Cx} {C : CT} {W : WXT} {op op' : CmpOp} {r r' : R2} {g g' : S → S → Option S} {a b c : Expr} {ga gb gc : Env → Option S} {pos : Pos}
theorem snd_chain {T : Tb} {ta tb tc : TE} (hg : OpN T r g) (hg' : OpN T r' g') (ha : SndK T ta ga) (hb : SndK T tb gb) (hc : SndK T tc gc) : SndK T (tChain r r' ta tb tc) (kChain g g' ga gb gc) := fun bb fp σ env F H R s e Q q => by
  unfold kChain at e
  cases k1 : ga env with
  | none => rw [k1] at e; cases e
  | some x =>
    cases k2 : gb env with
    | none => rw [k1, k2] at e; cases e
    | some y =>
      rw [k1, k2] at e
      have e : (match g x y with | some (.f (.bl k)) => if k = true then (gc env).bind fun z => g' y z else some (S.f (.bl false)) | _ => none) = some s := e
      split at e
      · rename_i k hk
        refine ha bb fp σ env F H R x k1 _ fun v F1 H1 f1 G1 t1 => ?_
        refine hb bb fp σ env F1 H1 (R.grow G1) y k2 _ fun w F2 H2 f2 G2 t2 => ?_
        refine hg F2 H2 v w x y f1 f2 _ G2.le (t1.ext G2.exF G2.exH) t2 hk _ fun z F3 H3 f3 G3 t3 _ _ => ?_
        obtain ⟨rfl, _⟩ := t3.bl
        refine ⟨k, rfl, ?_⟩
        have G12 := (G1.trans G2).trans G3
        cases k with
        | false =>
          rw [if_neg Bool.false_ne_true] at e ⊢
          cases e
          exact q _ F3 H3 [] G12 (.f (.bl _))
        | true =>
          rw [if_pos rfl] at e ⊢
          cases k3 : gc env with
          | none => rw [k3] at e; cases e
          | some u =>
            rw [k3] at e
            refine hc bb fp σ env F3 H3 (R.grow G12) u k3 _ fun w' F4 H4 f4 G4 t4 => ?_
            have G34 := G3.trans G4
            exact hg' F4 H4 w w' y u f2 f4 s G4.le (t2.ext G34.exF G34.exH) t4 e Q fun z F5 H5 f5 G5 t5 _ _ => q z F5 H5 f5 ((G12.trans G4).trans G5) t5
      · cases e
theorem dk_chain (ho : OpR X (compareOp op) r) (ho' : OpR X (compareOp op') r') (hg : OpN (Tx X C) r g) (hg' : OpN (Tx X C) r' g') (ha : DK X C a ga) (hb : DK X C b gb) (hc : DK X C c gc) (hm : lastMarks [op, op'] [b, c] = false := by with_unfolding_all rfl) :
    DK X C (.Compare a [op, op'] [b, c] pos) (kChain g g' ga gb gc) := by
  obtain ⟨ta, pa, sa⟩ := ha
  obtain ⟨tb, pb, sb⟩ := hb
  obtain ⟨tc, pc, sc⟩ := hc
  exact ⟨_, pe_chain ho ho' pa pb pc hm, snd_chain hg hg' sa sb sc⟩
theorem dt_chain (ho : OpR X (compareOp op) r) (ho' : OpR X (compareOp op') r') (hg : OpN (Tx X C) r g) (hg' : OpN (Tx X C) r' g') (ha : DK X C a ga) (hb : DK X C b gb) (hc : DK X C c gc) (hm : lastMarks [op, op'] [b, c] = false := by with_unfolding_all rfl) :
    DT X C W (.Compare a [op, op'] [b, c] pos) (tK (kChain g g' ga gb gc)) := by
  obtain ⟨ta, pa, sa⟩ := ha
  obtain ⟨tb, pb, sb⟩ := hb
  obtain ⟨tc, pc, sc⟩ := hc
  exact ⟨_, pt_chain ho ho' pa pb pc hm, snd_tK (snd_chain hg hg' sa sb sc)⟩
end

/-! ### in, not in -/
def flatD : D → Option V
  | .non => some .non
  | .bl b => some (.bl b)
  | .int i => some (.int i)
  | .str x => some (.str x)
  | _ => none
def flatDs : List D → Option (List V)
  | [] => some []
  | d :: r => match flatD d, flatDs r with
    | some v, some vs => some (v :: vs)
    | _, _ => none
/-- x in y -/
def inP (a b : S) : Option Bool :=
  match b with
  | .f (.str z) => match a with
    | .f (.str ⟨⟨[c]⟩⟩) => some (decide (c ∈ z.cps.toList))
    | _ => none
  | .f (.tup ds) => match a with
    | .f d => match flatD d, flatDs ds with
      | some v, some vs => some (inV v vs)
      | _, _ => none
    | _ => none
  | .f (.wtu ds) => match a with
    | .f d => match flatD d, flatDs ds with
      | some v, some vs => some (inV v vs)
      | _, _ => none
    | _ => none
  | b => match a.toP, b.dl with
    | some x, some ds => match D.toPL ds with
      | some ps => if SeqAt.shaped x && SeqAt.shaped (.list ps) then some (ps.any fun z => PyData.eqv z x) else none
      | none => none
    | _, _ => none
def inS (a b : S) : Option S := (inP a b).map fun c => .f (.bl c)
def notInS (a b : S) : Option S := (inP a b).map fun c => .f (.bl (!c))
def rInSg : R2 := fun x y H Q => ∃ (c : Nat) (z : Str), x = .str ⟨#[c]⟩ ∧ y = .str z ∧ Q (.bl (decide (c ∈ z.cps.toList))) H
def rNotInSg : R2 := fun x y H Q => ∃ (c : Nat) (z : Str), x = .str ⟨#[c]⟩ ∧ y = .str z ∧ Q (.bl (!decide (c ∈ z.cps.toList))) H
def rInU (K : PySem.W.Frag) : R2 := fun x y H Q => rInSg x y H Q ∨ (fun x y H Q => rIn K false x y H Q ∨ rInD K x y H Q) x y H Q
def rNotInU (K : PySem.W.Frag) : R2 := fun x y H Q => rNotInSg x y H Q ∨ (fun x y H Q => rIn K true x y H Q ∨ rNotInD K x y H Q) x y H Q
theorem op_inU {X : Cx} (hu : X.A.units + 65 < cLine) : OpR X (compareOp .In) (rInU X.K) := op_in_sign.or (op_in_seq.or (op_inD hu))
theorem op_notInU {X : Cx} (hu : X.A.units + 65 < cLine) : OpR X (compareOp .NotIn) (rNotInU X.K) := op_notIn_sign.or (op_notIn_seq.or (op_notInD hu))
section
variable {T : Tb} {F H : Hp}
theorem flat_rep {v w : V} {d : D} (r : Rep T F v d) (e : flatD d = some w) : v = w ∧ flatV w = true := by
  cases r <;> first | (cases e; exact ⟨rfl, rfl⟩) | cases e
theorem flats_rep : ∀ {vs ws : List V} {ds : List D}, RepAll T F vs ds → flatDs ds = some ws → vs = ws ∧ ws.all flatV = true
  | _, ws, _, .nil, e => by cases e; exact ⟨rfl, rfl⟩
  | _, ws, _, .cons (d := d) (ds := ds) h r, e => by
    simp only [flatDs] at e
    cases k : flatD d with
    | none => rw [k] at e; cases e
    | some v =>
      cases k2 : flatDs ds with
      | none => rw [k, k2] at e; cases e
      | some us =>
        rw [k, k2] at e; cases e
        obtain ⟨rfl, h1⟩ := flat_rep h k
        obtain ⟨rfl, h2⟩ := flats_rep r k2
        exact ⟨rfl, by rw [List.all_cons, h1, h2]; rfl⟩
theorem inP_some {a b : S} {c : Bool} {v w : V} {f1 f2 : List Addr} (ex : Ex F H) (t1 : Tr T F H v a f1) (t2 : Tr T F H w b f2) (e : inP a b = some c) :
    (∃ (k : Nat) (z : Str), v = .str ⟨#[k]⟩ ∧ w = .str z ∧ c = decide (k ∈ z.cps.toList)) ∨ (∃ p xs, w = .ref p ∧ SqT T.K H p xs ∧ flatV v = true ∧ xs.all flatV = true ∧ c = inV v xs) ∨
    ∃ d ds, Dp T.K H v d ∧ Dp T.K H w (.list ds) ∧ SeqAt.shaped d = true ∧ SeqAt.shaped (.list ds) = true ∧ c = ds.any fun z => PyData.eqv z d := by
  have lists : ∀ {x : PyData} {ds : List D} {ps : List PyData}, a.toP = some x → b.dl = some ds → D.toPL ds = some ps → (if SeqAt.shaped x && SeqAt.shaped (.list ps) then some (ps.any fun z => PyData.eqv z x) else none) = some c →
      ∃ d ds, Dp T.K H v d ∧ Dp T.K H w (.list ds) ∧ SeqAt.shaped d = true ∧ SeqAt.shaped (.list ds) = true ∧ c = ds.any fun z => PyData.eqv z d := fun {x ds ps} h1 h2 h3 h4 => by
    split at h4
    · rename_i hs
      cases h4
      have hs' := Bool.and_eq_true_iff.mp hs
      obtain ⟨p, xs, rfl, sq, r⟩ := t2.dl h2 ex
      exact ⟨x, ps, t1.dp ex h1, .lst sq (r.dp ex h3), hs'.1, hs'.2, rfl⟩
    · cases h4
  unfold inP at e
  split at e
  · rename_i z
    obtain ⟨rfl, _⟩ := t2.str
    split at e
    · rename_i k
      obtain ⟨rfl, _⟩ := t1.str
      cases e
      exact .inl ⟨k, z, rfl, rfl, rfl⟩
    · cases e
  · rename_i ds
    split at e
    · rename_i d
      split at e
      · rename_i v' vs' k1 k2
        cases e
        obtain ⟨p, xs, rfl, h1, h2⟩ := t2.dt rfl
        obtain ⟨rfl, q1⟩ := flat_rep t1.fz.1 k1
        obtain ⟨rfl, q2⟩ := flats_rep h2 k2
        exact .inr (.inl ⟨p, xs, rfl, .of (ex _ _ h1), q1, q2, rfl⟩)
      · cases e
    · cases e
  · rename_i ds
    split at e
    · rename_i d
      split at e
      · rename_i v' vs' k1 k2
        cases e
        cases t2 with
        | f r2 =>
          cases r2 with
          | wtu h1 h2 =>
            obtain ⟨rfl, q1⟩ := flat_rep t1.fz.1 k1
            obtain ⟨rfl, q2⟩ := flats_rep h2 k2
            exact .inr (.inl ⟨_, _, rfl, Evl.ex_t ex h1, q1, q2, rfl⟩)
      · cases e
    · cases e
  · split at e
    · rename_i x ds h1 h2
      split at e
      · rename_i ps h3
        exact .inr (.inr (lists h1 h2 h3 e))
      · cases e
    · cases e
theorem opn_in : OpN T (rInU T.K) inS := by
  intro F H v w s1 s2 f1 f2 s ex t1 t2 e Q q
  unfold inS at e
  cases k : inP s1 s2 with
  | none => rw [k] at e; cases e
  | some c =>
    rw [k] at e; cases e
    rcases inP_some ex t1 t2 k with ⟨a, z, rfl, rfl, rfl⟩ | ⟨p, xs, rfl, h1, h2, h3, rfl⟩ | ⟨d, ds, h1, h2, h3, h4, rfl⟩
    · exact .inl ⟨a, z, rfl, rfl, out0 ex (.bl _) q⟩
    · exact .inr (.inl ⟨p, xs, rfl, .inr h1, h2, h3, out0 ex (.bl _) q⟩)
    · exact .inr (.inr ⟨d, ds, h1, h2, h3, h4, out0 ex (.bl _) q⟩)
theorem opn_notIn : OpN T (rNotInU T.K) notInS := by
  intro F H v w s1 s2 f1 f2 s ex t1 t2 e Q q
  unfold notInS at e
  cases k : inP s1 s2 with
  | none => rw [k] at e; cases e
  | some c =>
    rw [k] at e; cases e
    rcases inP_some ex t1 t2 k with ⟨a, z, rfl, rfl, rfl⟩ | ⟨p, xs, rfl, h1, h2, h3, rfl⟩ | ⟨d, ds, h1, h2, h3, h4, rfl⟩
    · exact .inl ⟨a, z, rfl, rfl, out0 ex (.bl _) q⟩
    · exact .inr (.inl ⟨p, xs, rfl, .inr h1, h2, h3, out0 ex (.bl _) q⟩)
    · exact .inr (.inr ⟨d, ds, h1, h2, h3, h4, out0 ex (.bl _) q⟩)
end
end Dn

/-! Dn15: what is walked: values, names that are only read, ranges, enumerate, zip; list comprehensions. -/
namespace Dn
open PySem PySem.Spec PyProof.Rows L2
open Evl (Ex)

/-! ### values that are walked -/
def itD : D → Option (List D)
  | .lst ds => some ds
  | .scr ds => some ds
  | .tup ds => some ds
  | .wtu ds => some ds
  | .str z => some (z.cps.toList.map fun c => .str ⟨#[c]⟩)
  | _ => none
def iAny (K : PySem.W.Frag) (te : TE) : TI := fun σ H R => te σ H fun x H1 => (∃ a, x = .ref a ∧ (∃ xs, SqL K H1 a xs) ∧ R (Itl K a) H1) ∨ (∃ a, x = .ref a ∧ (∃ xs, SqT K H1 a xs) ∧ R (Itt K a) H1) ∨ ∃ z, x = .str z ∧ R (Its z) H1
theorem pi_any {X : Cx} {tg l : Expr} {tl : TE} (hl : PE X l tl) : PI X tg l (iAny X.K tl) := by
  refine ⟨fun pins s σ H R I h => ?_⟩
  refine thn (hl.run pins s σ H _ I h) fun v s1 ⟨x, H1, I1, r1, q1⟩ => ?_
  rcases q1 with ⟨a, e, ⟨xs, hq⟩, q⟩ | ⟨a, e, ⟨xs, hq⟩, q⟩ | ⟨z, e, q⟩
  · subst e
    cases r1
    obtain ⟨its, rv, p, hz⟩ := I1.list hq
    exact wpAny_pyIter_list p.isList (pi_one (tk := s1.toks) I1 _ (turn_list a _) ⟨_, Heap.get?_push_size _ rfl, rfl, rfl⟩ q)
  · subst e
    cases r1
    obtain ⟨its, rv, p, hz⟩ := I1.tuple hq
    exact wpAny_pyIter_tuple (show s1.heap.IsTuple a its.toArray from p) (pi_one (tk := s1.toks) I1 _ (turn_tuple a _) ⟨_, Heap.get?_push_size _ rfl, rfl, rfl⟩ q)
  · subst e
    obtain ⟨t, rfl⟩ := r1
    cases ha : z.cps.all (· < 128)
    · exact wpAny_pyIter_wide ha (pi_one (tk := s1.toks) I1 _ (turn_str _ z t "str_iterator" (.inr rfl)) ⟨_, Heap.get?_push_size _ rfl, rfl, rfl⟩ q)
    · exact wpAny_pyIter_ascii ha (pi_one (tk := s1.toks) I1 _ (turn_str _ z t "str_ascii_iterator" (.inl rfl)) ⟨_, Heap.get?_push_size _ rfl, rfl, rfl⟩ q)
section
variable {T : Tb} {b : Gh} {fp fp1 : Fp} {σ : SV} {env : Env} {F F1 H H1 : Hp} {a : Addr} {xs : List V} {ds : List D}
theorem RepAll.at {i : Nat} {d : D} (h : RepAll T F xs ds) (e : ds[i]? = some d) : ∃ v, xs[i]? = some v ∧ Rep T F v d := h.get e
/-- a list or a tuple of frozen items: it stands as long as its cells do -/
theorem Tr.fzk {v : V} {s : S} {f : List Addr} (h : Tr T F H v s f) (e : s.fz = some ds) : ∃ a xs, v = .ref a ∧ RepAll T F xs ds ∧ ((∀ F' H', Ex F F' → Ex F' H' → (∀ c ∈ f, H' c = H c) → SqL T.K H' a xs) ∨ ∀ F' H', Ex F F' → Ex F' H' → (∀ c ∈ f, H' c = H c) → SqT T.K H' a xs) := by
  cases h with
  | f h =>
    cases h with
    | lst h1 h2 => cases e; exact ⟨_, _, rfl, h2, .inl fun F' H' x y _ => .of (y _ _ (x _ _ h1))⟩
    | scr h1 h2 => cases e; exact ⟨_, _, rfl, h2, .inl fun F' H' x y _ => Evl.ex_l y (Evl.ex_l x h1)⟩
    | tup h1 h2 => cases e; exact ⟨_, _, rfl, h2, .inr fun F' H' x y _ => .of (y _ _ (x _ _ h1))⟩
    | wtu h1 h2 => cases e; exact ⟨_, _, rfl, h2, .inr fun F' H' x y _ => Evl.ex_t y (Evl.ex_t x h1)⟩
    | _ => cases e
  | l h1 h2 => exact ⟨_, _, rfl, (fzs_rep h2 e).1, .inl fun F' H' x y k => .of ((k _ (List.mem_cons_self ..)).trans h1)⟩
  | m _ _ _ _ => cases e
  | o _ _ _ _ => cases e
theorem serves_l (k : ∀ fp' σ' env' F' H', SR T b fp' σ' env' F' H' → Step (own fp1) F1 H1 (own fp') F' H' → SqL T.K H' a xs ∧ RepAll T F' xs ds) : Serves T b fp1 F1 H1 (Itl T.K a) ds := fun fp' σ' env' F' H' R st i => by
  obtain ⟨h1, h2⟩ := k fp' σ' env' F' H' R st
  refine ⟨fun h => ⟨xs, h1, by rw [h2.len]; exact h⟩, fun d e => ?_⟩
  obtain ⟨v, e1, r⟩ := h2.get e
  refine ⟨⟨xs, v, h1, e1⟩, fun x H'' y => ?_⟩
  obtain ⟨rfl, y⟩ := y
  have := y xs h1
  rw [e1] at this
  cases this
  exact ⟨F', Grow.refl R.ex, r⟩
theorem serves_t (k : ∀ fp' σ' env' F' H', SR T b fp' σ' env' F' H' → Step (own fp1) F1 H1 (own fp') F' H' → SqT T.K H' a xs ∧ RepAll T F' xs ds) : Serves T b fp1 F1 H1 (Itt T.K a) ds := fun fp' σ' env' F' H' R st i => by
  obtain ⟨h1, h2⟩ := k fp' σ' env' F' H' R st
  refine ⟨fun h => ⟨xs, h1, by rw [h2.len]; exact h⟩, fun d e => ?_⟩
  obtain ⟨v, e1, r⟩ := h2.get e
  refine ⟨⟨xs, v, h1, e1⟩, fun x H'' y => ?_⟩
  obtain ⟨rfl, y⟩ := y
  have := y xs h1
  rw [e1] at this
  cases this
  exact ⟨F', Grow.refl R.ex, r⟩
theorem serves_s {z : Str} : Serves T b fp1 F1 H1 (Its z) (z.cps.toList.map fun c => .str ⟨#[c]⟩) := fun fp' σ' env' F' H' R st i => by
  refine ⟨fun h => ?_, fun d e => ?_⟩
  · rw [List.length_map, Array.length_toList] at h; exact h
  · rw [List.getElem?_map, Array.getElem?_toList] at e
    cases k : z.cps[i]? with
    | none => rw [k] at e; cases e
    | some c =>
      rw [k] at e; cases e
      refine ⟨(Array.getElem?_eq_some_iff.mp k).1, fun x H'' y => ?_⟩
      obtain ⟨rfl, c', e', rfl⟩ := y
      rw [k] at e'; cases e'
      exact ⟨F', Grow.refl R.ex, .str _⟩
/-- a frozen thing that can be walked -/
theorem Rep.walk {F : Hp} {v : V} {d : D} (h : Rep T F v d) (e : itD d = some ds) : (∃ a xs, v = .ref a ∧ SqL T.K F a xs ∧ RepAll T F xs ds) ∨ (∃ a xs, v = .ref a ∧ SqT T.K F a xs ∧ RepAll T F xs ds) ∨ ∃ z, v = .str z ∧ ds = z.cps.toList.map fun c => .str ⟨#[c]⟩ := by
  cases h with
  | str z => cases e; exact .inr (.inr ⟨z, rfl, rfl⟩)
  | lst h1 h2 => cases e; exact .inl ⟨_, _, rfl, .of h1, h2⟩
  | scr h1 h2 => cases e; exact .inl ⟨_, _, rfl, h1, h2⟩
  | tup h1 h2 => cases e; exact .inr (.inl ⟨_, _, rfl, .of h1, h2⟩)
  | wtu h1 h2 => cases e; exact .inr (.inl ⟨_, _, rfl, h1, h2⟩)
  | _ => cases e
end
def iV (f : Env → Res S) : Env → Res (List D) := fun env => (f env).bind fun s e => .of (itD s.frz) e
def iR (i : Nat) : Env → Res (List D) := fun env =>
  match env[i]? with
  | some (.r s) => .of s.fz env
  | some (.f d) => .of (itD d) env
  | _ => .bad
section
variable {X : Cx} {C : CT} {W : WXT} {tg e e2 : Expr} {f f2 : Env → Res S}
theorem di_val (h : DE X C W e f) : DI X C W tg e (iV f) := by
  obtain ⟨t, p, s⟩ := h
  refine ⟨_, pi_any p, fun b fp σ env F H R Q q => ?_⟩
  have q' : (match (f env).bind fun s e => .of (itD s.frz) e with
      | .ok ds e => ∀ J fp1 F1 H1, SR (Tx X C) b fp1 σ e F1 H1 → Step (own fp) F H (own fp1) F1 H1 → Serves (Tx X C) b fp1 F1 H1 J ds → Q J H1
      | .exc c ds e => ∀ fp' F' H' cls d, SR (Tx X C) b fp' σ e F' H' → Step (own fp) F H (own fp') F' H' → ExcAt (Tx X C) F' H' c ds cls d → W cls d σ H'
      | .bad => False) := q
  refine s b fp σ env F H R _ ?_
  cases k : f env with
  | bad => rw [k] at q'; exact q'
  | exc c ds e1 => rw [k] at q'; exact fun fp' F' H' cls d r st ex => q' fp' F' H' cls d r st ex
  | ok x e1 =>
    rw [k] at q'
    have q2 : (match (.of (itD x.frz) e1 : Res (List D)) with
      | .ok ds e => ∀ J fp1 F1 H1, SR (Tx X C) b fp1 σ e F1 H1 → Step (own fp) F H (own fp1) F1 H1 → Serves (Tx X C) b fp1 F1 H1 J ds → Q J H1
      | .exc c ds e => ∀ fp' F' H' cls d, SR (Tx X C) b fp' σ e F' H' → Step (own fp) F H (own fp') F' H' → ExcAt (Tx X C) F' H' c ds cls d → W cls d σ H'
      | .bad => False) := q'
    cases k2 : itD x.frz with
    | none => rw [k2] at q2; exact False.elim q2
    | some ds =>
      rw [k2] at q2
      intro fp' F' H' v fc r st tr tm
      have st2 := st.freeze tm
      have R2 := r.freeze tm
      rcases (tr.frozen tm.nF).walk k2 with ⟨a, xs, rfl, h1, h2⟩ | ⟨a, xs, rfl, h1, h2⟩ | ⟨z, rfl, rfl⟩
      · refine .inl ⟨a, rfl, ⟨xs, Evl.ex_l R2.ex h1⟩, q2 _ fp' _ H' R2 st2 (serves_l (xs := xs) fun fp2 σ2 env2 F2 H2 R3 st3 => ⟨Evl.ex_l R3.ex (Evl.ex_l st3.ex h1), h2.mono st3.ex⟩)⟩
      · refine .inr (.inl ⟨a, rfl, ⟨xs, Evl.ex_t R2.ex h1⟩, q2 _ fp' _ H' R2 st2 (serves_t (xs := xs) fun fp2 σ2 env2 F2 H2 R3 st3 => ⟨Evl.ex_t R3.ex (Evl.ex_t st3.ex h1), h2.mono st3.ex⟩)⟩)
      · exact .inr (.inr ⟨z, rfl, q2 _ fp' _ H' R2 st2 serves_s⟩)
/-- a name that is only read -/
theorem di_rd (i : Nat) {x : Str} {pos : Pos} (hN : X.N[i]? = some x := by rfl) (hv : Vis X.env.scope x := by first | exact Or.inl rfl | exact Or.inr (Or.inl rfl) | exact Or.inr (Or.inr rfl)) (hd : (x == ("__debug__" : Str)) = false := by decide)
    (hcd : (x == ("__classdict__" : Str)) = false := by decide) : DI X C W tg (.Name x pos) (iR i) := by
  refine ⟨_, pi_any (pe_var (i := i) hN hv hd hcd), fun b fp σ env F H R Q q => ?_⟩
  unfold iR at q
  cases k : env[i]? with
  | none => rw [k] at q; exact False.elim q
  | some s =>
    rw [k] at q
    have sl := R.slot i s k
    cases s with
    | r s =>
      have q2 : (match (.of s.fz env : Res (List D)) with
        | .ok ds e => ∀ J fp1 F1 H1, SR (Tx X C) b fp1 σ e F1 H1 → Step (own fp) F H (own fp1) F1 H1 → Serves (Tx X C) b fp1 F1 H1 J ds → Q J H1
        | .exc c ds e => ∀ fp' F' H' cls d, SR (Tx X C) b fp' σ e F' H' → Step (own fp) F H (own fp') F' H' → ExcAt (Tx X C) F' H' c ds cls d → W cls d σ H'
        | .bad => False) := q
      obtain ⟨_, sv, tr, ap⟩ := sl
      cases k2 : s.fz with
      | none => rw [k2] at q2; exact False.elim q2
      | some ds =>
        rw [k2] at q2
        refine ⟨b.v i, sv, ?_⟩
        have nown : ∀ a ∈ b.ρ i, ¬ own fp a := fun a ha => R.apart (ap a ha)
        have later : ∀ fp' σ' env' F' H', SR (Tx X C) b fp' σ' env' F' H' → Step (own fp) F H (own fp') F' H' → Tr (Tx X C) F' H' (b.v i) s (b.ρ i) := fun fp' σ' env' F' H' R' st => tr.step st nown
        obtain ⟨a, xs, e1, h2, h1⟩ := tr.fzk k2
        have e0 : b.v i = .ref a := e1
        have kp : ∀ {fp' : Fp} {F' H' : Hp}, Step (own fp) F H (own fp') F' H' → ∀ c ∈ b.ρ i, H' c = H c := fun {fp' F' H'} st c hc => by
          obtain ⟨o, ho⟩ := tr.tracked c hc
          rw [ho]; exact st.fr c o ho (nown c hc)
        rcases h1 with h1 | h1
        · exact .inl ⟨a, e0, ⟨xs, h1 F H (Ex.refl F) R.ex fun _ _ => rfl⟩, q2 _ fp F H R (Step.refl _ _ _) (serves_l (xs := xs) fun fp' σ' env' F' H' R' st => ⟨h1 F' H' st.ex R'.ex (kp st), h2.mono st.ex⟩)⟩
        · exact .inr (.inl ⟨a, e0, ⟨xs, h1 F H (Ex.refl F) R.ex fun _ _ => rfl⟩, q2 _ fp F H R (Step.refl _ _ _) (serves_t (xs := xs) fun fp' σ' env' F' H' R' st => ⟨h1 F' H' st.ex R'.ex (kp st), h2.mono st.ex⟩)⟩)
    | f d =>
      have q2 : (match (.of (itD d) env : Res (List D)) with
        | .ok ds e => ∀ J fp1 F1 H1, SR (Tx X C) b fp1 σ e F1 H1 → Step (own fp) F H (own fp1) F1 H1 → Serves (Tx X C) b fp1 F1 H1 J ds → Q J H1
        | .exc c ds e => ∀ fp' F' H' cls d, SR (Tx X C) b fp' σ e F' H' → Step (own fp) F H (own fp') F' H' → ExcAt (Tx X C) F' H' c ds cls d → W cls d σ H'
        | .bad => False) := q
      obtain ⟨v, sv, tr⟩ := sl
      cases k2 : itD d with
      | none => rw [k2] at q2; exact False.elim q2
      | some ds =>
        rw [k2] at q2
        refine ⟨v, sv, ?_⟩
        rcases tr.fz.1.walk k2 with ⟨a, xs, rfl, h1, h2⟩ | ⟨a, xs, rfl, h1, h2⟩ | ⟨z, rfl, rfl⟩
        · refine .inl ⟨a, rfl, ⟨xs, Evl.ex_l R.ex h1⟩, q2 _ fp _ H R (Step.refl _ _ _) (serves_l (xs := xs) fun fp2 σ2 env2 F2 H2 R3 st3 => ⟨Evl.ex_l R3.ex (Evl.ex_l st3.ex h1), h2.mono st3.ex⟩)⟩
        · refine .inr (.inl ⟨a, rfl, ⟨xs, Evl.ex_t R.ex h1⟩, q2 _ fp _ H R (Step.refl _ _ _) (serves_t (xs := xs) fun fp2 σ2 env2 F2 H2 R3 st3 => ⟨Evl.ex_t R3.ex (Evl.ex_t st3.ex h1), h2.mono st3.ex⟩)⟩)
        · exact .inr (.inr ⟨z, rfl, q2 _ fp _ H R (Step.refl _ _ _) serves_s⟩)
    | _ => exact False.elim q

end

/-! ### ranges, enumerate, zip -/
abbrev NI (T : Tb) (W : WXT) (b : Gh) (fp : Fp) (σ : SV) (F H : Hp) (Q : It → Hp → Prop) (o : Res (List D)) : Prop :=
  match o with
  | .ok ds e => ∀ J fp1 F1 H1, SR T b fp1 σ e F1 H1 → Step (own fp) F H (own fp1) F1 H1 → Serves T b fp1 F1 H1 J ds → Q J H1
  | .exc c ds e => ∀ fp' F' H' cls d, SR T b fp' σ e F' H' → Step (own fp) F H (own fp') F' H' → ExcAt T F' H' c ds cls d → W cls d σ H'
  | .bad => False
def rngD (lo c : Int) (n : Nat) : List D := (List.range n).map fun i => .int (lo + (i : Nat) * c)
theorem serves_r {T : Tb} {b : Gh} {fp1 : Fp} {F1 H1 : Hp} {lo : Int} {n : Nat} : Serves T b fp1 F1 H1 (Itr lo n) (rngD lo 1 n) := fun fp' σ' env' F' H' R st i => by
  unfold rngD
  refine ⟨fun h => by rw [List.length_map, List.length_range] at h; exact h, fun d e => ?_⟩
  rw [List.getElem?_map] at e
  cases k : (List.range n)[i]? with
  | none => rw [k] at e; cases e
  | some j =>
    rw [k] at e; cases e
    have k' := List.getElem?_eq_some_iff.mp k
    obtain ⟨h1, h2⟩ := k'
    rw [List.length_range] at h1
    rw [List.getElem_range] at h2
    subst h2
    refine ⟨h1, fun x H'' y => ?_⟩
    obtain ⟨rfl, rfl⟩ := y
    have e1 : lo + (i : Nat) * (1 : Int) = lo + (i : Nat) := by rw [Int.mul_one]
    refine ⟨F', Grow.refl R.ex, ?_⟩
    show Rep T F' (V.int (lo + (i : Nat))) (.int (lo + (i : Nat) * (1 : Int)))
    rw [e1]
    exact .int _
theorem serves_c {T : Tb} {b : Gh} {fp1 : Fp} {F1 H1 : Hp} {lo c : Int} {n : Nat} : Serves T b fp1 F1 H1 (Itc lo c n) (rngD lo c n) := fun fp' σ' env' F' H' R st i => by
  unfold rngD
  refine ⟨fun h => by rw [List.length_map, List.length_range] at h; exact h, fun d e => ?_⟩
  rw [List.getElem?_map] at e
  cases k : (List.range n)[i]? with
  | none => rw [k] at e; cases e
  | some j =>
    rw [k] at e; cases e
    obtain ⟨h1, h2⟩ := List.getElem?_eq_some_iff.mp k
    rw [List.length_range] at h1
    rw [List.getElem_range] at h2
    subst h2
    refine ⟨h1, fun x H'' y => ?_⟩
    obtain ⟨rfl, rfl⟩ := y
    exact ⟨F', Grow.refl R.ex, .int _⟩
def okR (i : Int) : Bool := decide (i.natAbs < 4611686018427387904)
theorem okR_iff {i : Int} (h : okR i = true) : -(2 ^ 62) ≤ i ∧ i < 2 ^ 62 := by unfold okR at h; have := of_decide_eq_true h; constructor <;> omega
def r1D (ss : List D) : Option (List D) :=
  match ss with
  | [.int j] => if okR j then some (rngD 0 1 j.toNat) else none
  | _ => none
def r2D (ss : List D) : Option (List D) :=
  match ss with
  | [.int i, .int j] => if okR i && okR j then some (rngD i 1 (j - i).toNat) else none
  | _ => none
/-- range(i, j, -1) -/
def r3D (ss : List D) : Option (List D) :=
  match ss with
  | [.int i, .int j, .int c] => if okR i && okR j && decide (c = -1) then some (rngD i (-1) (i - j).toNat) else none
  | _ => none
def listD : D → Option (List D)
  | .lst ds => some ds
  | .scr ds => some ds
  | _ => none
def enD (ss : List D) : Option (List D) :=
  match ss with
  | [d] => (listD d).map fun ds => ds.mapIdx fun i x => .tup [.int (i : Nat), x]
  | _ => none
def zpD (ss : List D) : Option (List D) :=
  match ss with
  | [d, e] => (listD d).bind fun ds => (listD e).map fun es => List.zipWith (fun x y => .tup [x, y]) ds es
  | _ => none
def rvD (ss : List D) : Option (List D) :=
  match ss with
  | [d] => (listD d).map List.reverse
  | _ => none
def iA (h : List D → Option (List D)) (fa : Env → Res (List S)) : Env → Res (List D) := fun env => (fa env).bind fun ss e => .of (h (S.frzL ss)) e
def Src (T : Tb) (K : List V → Hp → (It → Hp → Prop) → Prop) (h : List D → Option (List D)) : Prop :=
  ∀ (b : Gh) (fp : Fp) (σ : SV) (env : Env) (F H : Hp) (vs : List V) (dss ds : List D) (Q : It → Hp → Prop), SR T b fp σ env F H → RepAll T F vs dss → h dss = some ds → (∀ J, Serves T b fp F H J ds → Q J H) → K vs H Q
theorem snd_iA {T : Tb} {W : WXT} {ta : TA} {fa : Env → Res (List S)} {h : List D → Option (List D)} {K : List V → Hp → (It → Hp → Prop) → Prop} (hs : Src T K h) (ha : SndA T W ta fa) : SndI T W (fun σ H R => ta σ H fun vs H1 => K vs H1 R) (iA h fa) := fun b fp σ env F H q Q2 q' => by
  have q' : NI T W b fp σ F H Q2 ((fa env).bind fun ss e => .of (h (S.frzL ss)) e) := q'
  refine ha b fp σ env F H q _ ?_
  cases k : fa env with
  | bad => rw [k] at q'; exact q'
  | exc c ds e1 => rw [k] at q'; exact fun fp' F' H' cls d r st ex => q' fp' F' H' cls d r st ex
  | ok ss e1 =>
    rw [k] at q'
    have q2 : NI T W b fp σ F H Q2 (.of (h (S.frzL ss)) e1) := q'
    cases k2 : h (S.frzL ss) with
    | none => rw [k2] at q2; exact False.elim q2
    | some ds =>
      rw [k2] at q2
      intro fp' F' H' vs fc r st tr tm
      exact hs b fp' σ e1 _ H' vs _ ds _ (r.freeze tm) (tr.frozen tm.nF) k2 fun J sv => q2 J fp' _ H' (r.freeze tm) (st.freeze tm) sv
section
variable {T : Tb}
theorem RepAll.int1 {F : Hp} {vs : List V} {i : Int} (h : RepAll T F vs [.int i]) : vs = [.int i] := by
  cases h with
  | cons h r => cases h; cases r; rfl
theorem RepAll.int2 {F : Hp} {vs : List V} {i j : Int} (h : RepAll T F vs [.int i, .int j]) : vs = [.int i, .int j] := by
  cases h with
  | cons h r => cases h; rw [r.int1]
theorem RepAll.int3 {F : Hp} {vs : List V} {i j k : Int} (h : RepAll T F vs [.int i, .int j, .int k]) : vs = [.int i, .int j, .int k] := by
  cases h with
  | cons h r => cases h; rw [r.int2]
theorem src_r1 : Src T (fun vs H R => ∃ j : Int, vs = [.int j] ∧ -(2 ^ 62) ≤ j ∧ j < 2 ^ 62 ∧ R (Itr 0 j.toNat) H) r1D := fun b fp σ env F H vs dss ds Q R r e q => by
  unfold r1D at e
  split at e
  · split at e
    · rename_i h; cases e
      obtain ⟨h1, h2⟩ := okR_iff h
      exact ⟨_, r.int1, h1, h2, q _ serves_r⟩
    · cases e
  · cases e
theorem src_r2 : Src T (fun vs H R => ∃ i j : Int, vs = [.int i, .int j] ∧ (-(2 ^ 62) ≤ i ∧ i < 2 ^ 62 ∧ -(2 ^ 62) ≤ j ∧ j < 2 ^ 62) ∧ R (Itr i (j - i).toNat) H) r2D := fun b fp σ env F H vs dss ds Q R r e q => by
  unfold r2D at e
  split at e
  · split at e
    · rename_i h; cases e
      obtain ⟨h0, h0'⟩ := Bool.and_eq_true_iff.mp h
      obtain ⟨h1, h2⟩ := okR_iff h0
      obtain ⟨h3, h4⟩ := okR_iff h0'
      exact ⟨_, _, r.int2, ⟨h1, h2, h3, h4⟩, q _ serves_r⟩
    · cases e
  · cases e
theorem src_r3 : Src T (fun vs H R => ∃ (i j c : Int) (n : Nat), vs = [.int i, .int j, .int c] ∧ RgC i j c n ∧ R (Itc i c n) H) r3D := fun b fp σ env F H vs dss ds Q R r e q => by
  unfold r3D at e
  split at e
  · split at e
    · rename_i h; cases e
      simp only [Bool.and_eq_true, decide_eq_true_eq] at h
      obtain ⟨⟨h0, h0'⟩, rfl⟩ := h
      obtain ⟨h1, h2⟩ := okR_iff h0
      obtain ⟨h3, h4⟩ := okR_iff h0'
      exact ⟨_, _, _, _, r.int3, RgC.neg h1 h2 h3 h4, q _ serves_c⟩
    · cases e
  · cases e
theorem Rep.list {F : Hp} {v : V} {d : D} {ds : List D} (h : Rep T F v d) (e : listD d = some ds) : ∃ a xs, v = .ref a ∧ (∀ F' H', Ex F F' → Ex F' H' → SqL T.K H' a xs) ∧ RepAll T F xs ds := by
  cases h with
  | lst h1 h2 => cases e; exact ⟨_, _, rfl, fun F' H' x y => .of (y _ _ (x _ _ h1)), h2⟩
  | scr h1 h2 => cases e; exact ⟨_, _, rfl, fun F' H' x y => Evl.ex_l y (Evl.ex_l x h1), h2⟩
  | _ => cases e
theorem pair_grow {F H : Hp} {p : Addr} {x y : V} {d e : D} (ex : Ex F H) (hp : H p = none) (r1 : Rep T F x d) (r2 : Rep T F y e) : ∃ F'', Grow F H F'' (upd H p (.tup [x, y])) ∧ Rep T F'' (.ref p) (.tup [d, e]) := by
  obtain ⟨G, t⟩ := newT (xs := [x, y]) (ds := [d, e]) (.cons r1 (.cons r2 .nil)) ex hp
  exact ⟨_, G, t.fz.1⟩
theorem src_en : Src T (fun vs H R => ∃ a xs, vs = [.ref a] ∧ SqL T.K H a xs ∧ R (Ite T.K a) H) enD := fun b fp σ env F H vs dss ds Q R r e q => by
  unfold enD at e
  split at e
  · rename_i d
    cases k : listD d with
    | none => rw [k] at e; cases e
    | some es =>
      rw [k] at e; cases e
      cases r with
      | cons r0 rr =>
        cases rr
        obtain ⟨a, xs, rfl, h1, h2⟩ := r0.list k
        refine ⟨a, xs, rfl, h1 F H (Ex.refl F) R.ex, q _ fun fp' σ' env' F' H' R' st i => ?_⟩
        have h1' := h1 F' H' st.ex R'.ex
        refine ⟨fun h => ⟨xs, h1', by rw [h2.len]; simpa using h⟩, fun z e => ?_⟩
        rw [List.getElem?_mapIdx] at e
        cases k3 : es[i]? with
        | none => rw [k3] at e; cases e
        | some w =>
          rw [k3] at e; cases e
          obtain ⟨v, e1, rv⟩ := h2.get k3
          refine ⟨⟨xs, v, h1', e1⟩, fun x H'' y => ?_⟩
          obtain ⟨p, v', rfl, hp, rfl, y⟩ := y
          have := y xs h1'
          rw [e1] at this; cases this
          exact pair_grow R'.ex hp (.int _) (rv.mono st.ex)
  · cases e
theorem zip_get {ds es : List D} {i : Nat} {z : D} (e : (List.zipWith (fun x y => D.tup [x, y]) ds es)[i]? = some z) : ∃ x y, ds[i]? = some x ∧ es[i]? = some y ∧ z = .tup [x, y] := by
  rw [List.getElem?_zipWith] at e
  cases k1 : ds[i]? with
  | none => rw [k1] at e; cases e
  | some x =>
    cases k2 : es[i]? with
    | none => rw [k1, k2] at e; cases e
    | some y => rw [k1, k2] at e; cases e; exact ⟨x, y, rfl, rfl, rfl⟩
theorem src_zp : Src T (fun vs H R => ∃ a b xs ys, vs = [.ref a, .ref b] ∧ SqL T.K H a xs ∧ SqL T.K H b ys ∧ R (Itz T.K a b) H) zpD := fun b fp σ env F H vs dss ds Q R r e q => by
  unfold zpD at e
  split at e
  · rename_i d d2
    cases k : listD d with
    | none => rw [k] at e; cases e
    | some es =>
      rw [k] at e
      have e : (listD d2).map (fun es2 => List.zipWith (fun x y => D.tup [x, y]) es es2) = some ds := e
      cases k2 : listD d2 with
      | none => rw [k2] at e; cases e
      | some es2 =>
        rw [k2] at e; cases e
        cases r with
        | cons r0 rr =>
          cases rr with
          | cons r1 rr =>
            cases rr
            obtain ⟨a, xs, rfl, h1, h2⟩ := r0.list k
            obtain ⟨a2, ys, rfl, g1, g2⟩ := r1.list k2
            refine ⟨a, a2, xs, ys, rfl, h1 F H (Ex.refl F) R.ex, g1 F H (Ex.refl F) R.ex, q _ fun fp' σ' env' F' H' R' st i => ?_⟩
            have h1' := h1 F' H' st.ex R'.ex
            have g1' := g1 F' H' st.ex R'.ex
            refine ⟨fun h => ⟨xs, ys, h1', g1', by rw [h2.len, g2.len]; rw [List.length_zipWith] at h; omega⟩, fun z e => ?_⟩
            obtain ⟨x, y, kx, ky, rfl⟩ := zip_get e
            obtain ⟨v, e1, rv⟩ := h2.get kx
            obtain ⟨w, e2, rw'⟩ := g2.get ky
            refine ⟨⟨xs, ys, v, w, h1', g1', e1, e2⟩, fun x H'' y => ?_⟩
            obtain ⟨p, v', w', rfl, hp, rfl, y1, y2⟩ := y
            have z1 := y1 xs h1'
            rw [e1] at z1; cases z1
            have z2 := y2 ys g1'
            rw [e2] at z2; cases z2
            exact pair_grow R'.ex hp (rv.mono st.ex) (rw'.mono st.ex)
  · cases e
end
section
variable {X : Cx} {C : CT} {W : WXT} {tg a e e2 e3 : Expr} {fa : Env → Res (List S)} {p pos tpos : Pos} {elts : List Expr} {kk : Nat}
theorem di_r1 (hg : Gl X "range") (hm : X.mg "range" = none) (ha : DA X C W [a] fa) (hs : starEach [a] X.env = [(false, eval a X.env)] := by rfl) : DI X C W tg (.Call (.Name "range" p) [a] [] pos) (iA r1D fa) := by
  obtain ⟨t, pa, s⟩ := ha
  exact ⟨_, pi_range1 hg hm pa hs, snd_iA src_r1 s⟩
theorem di_r2 (hg : Gl X "range") (hm : X.mg "range" = none) (ha : DA X C W [a, e] fa) (hs : starEach [a, e] X.env = [(false, eval a X.env), (false, eval e X.env)] := by rfl) (hs2 : starEach [e] X.env = [(false, eval e X.env)] := by rfl) : DI X C W tg (.Call (.Name "range" p) [a, e] [] pos) (iA r2D fa) := by
  obtain ⟨t, pa, s⟩ := ha
  exact ⟨_, pi_range2 hg hm pa hs hs2, snd_iA src_r2 s⟩
theorem di_r3 (hg : Gl X "range") (hm : X.mg "range" = none) (ha : DA X C W [a, e, e2] fa) (hs : starEach [a, e, e2] X.env = (false, eval a X.env) :: starEach [e, e2] X.env := by rfl) (hpl : (backTo pos (starEach [e, e2] X.env)).any (·.1) = false := by rfl) : DI X C W tg (.Call (.Name "range" p) [a, e, e2] [] pos) (iA r3D fa) := by
  obtain ⟨t, pa, s⟩ := ha
  exact ⟨_, pi_range3 hg hm pa hs hpl, snd_iA src_r3 s⟩
theorem di_en (hg : Gl X "enumerate") (hm : X.mg "enumerate" = none) (ha : DA X C W [a] fa) (hs : starEach [a] X.env = [(false, eval a X.env)] := by rfl) : DI X C W (.Tuple elts kk tpos) (.Call (.Name "enumerate" p) [a] [] pos) (iA enD fa) := by
  obtain ⟨t, pa, s⟩ := ha
  exact ⟨_, pi_enum hg hm pa hs, snd_iA src_en s⟩
theorem di_zp (hg : Gl X "zip") (hm : X.mg "zip" = none) (ha : DA X C W [a, e] fa) (hs : starEach [a, e] X.env = (false, eval a X.env) :: starEach [e] X.env := by rfl) (hpl : (backTo pos (starEach [e] X.env)).any (·.1) = false := by rfl) : DI X C W (.Tuple elts kk tpos) (.Call (.Name "zip" p) [a, e] [] pos) (iA zpD fa) := by
  obtain ⟨t, pa, s⟩ := ha
  exact ⟨_, pi_zip hg hm pa hs hpl, snd_iA src_zp s⟩
end
end Dn

/-! Dn16: list comprehensions of one clause. -/
namespace Dn
open PySem PySem.Spec PyProof.Rows L2
open Evl (Ex)

/-! ### the block's own slots -/
def setsF (f : Nat → S) : List Nat → Env → Env
  | [], e => e
  | i :: r, e => (setsF f r e).set i (f i)
theorem setsF_len (f : Nat → S) : ∀ (vs : List Nat) (e : Env), (setsF f vs e).length = e.length
  | [], _ => rfl
  | i :: r, e => by unfold setsF; rw [List.length_set, setsF_len f r e]
theorem setsF_in (f : Nat → S) : ∀ (vs : List Nat) (e : Env) (j : Nat), j ∈ vs → j < e.length → (setsF f vs e)[j]? = some (f j)
  | i :: r, e, j, h, hl => by
    unfold setsF
    by_cases q : i = j
    · subst q
      rw [List.getElem?_set_self (by rw [setsF_len]; exact hl)]
    · rw [List.getElem?_set_ne q]
      rcases List.mem_cons.mp h with k | k
      · exact absurd k.symm q
      · exact setsF_in f r e j k hl
theorem setsF_out (f : Nat → S) : ∀ (vs : List Nat) (e : Env) (j : Nat), j ∉ vs → (setsF f vs e)[j]? = e[j]?
  | [], _, _, _ => rfl
  | i :: r, e, j, h => by
    unfold setsF
    rw [List.getElem?_set_ne fun (q : i = j) => h (q ▸ List.mem_cons_self ..)]
    exact setsF_out f r e j fun k => h (List.mem_cons_of_mem _ k)
def clearOk (vs : List Nat) (e : Env) : Bool := vs.all fun i => match e[i]? with
  | some (.f _) => true
  | some .u => true
  | _ => false
def dropB (vs : List Nat) (e : Env) : Option Env := if clearOk vs e then some (setsF (fun _ => .u) vs e) else none
def backB (vs : List Nat) (e0 e : Env) : Env := setsF (fun i => (e0[i]?).getD .u) vs e
theorem wipe_in : ∀ (σ : SV) (vs : List Nat) (j : Nat), j ∈ vs → j < σ.length → (wipe σ vs)[j]? = some none
  | σ, i :: r, j, h, hl => by
    unfold wipe
    by_cases q : i = j
    · subst q
      rw [List.getElem?_set_self (by rw [wipe_length]; exact hl)]
    · rw [List.getElem?_set_ne q]
      rcases List.mem_cons.mp h with k | k
      · exact absurd k.symm q
      · exact wipe_in σ r j k hl
theorem wipe_out : ∀ (σ : SV) (vs : List Nat) (j : Nat), j ∉ vs → (wipe σ vs)[j]? = σ[j]?
  | _, [], _, _ => rfl
  | σ, i :: r, j, h => by
    unfold wipe
    rw [List.getElem?_set_ne fun (q : i = j) => h (q ▸ List.mem_cons_self ..)]
    exact wipe_out σ r j fun k => h (List.mem_cons_of_mem _ k)
theorem wipe_set {σ : SV} {vs : List Nat} {i : Nat} {v : Option V} (h : i ∈ vs) : wipe (σ.set i v) vs = wipe σ vs := by
  apply List.ext_getElem?
  intro j
  by_cases q : j ∈ vs
  · by_cases hl : j < σ.length
    · rw [wipe_in _ _ _ q (by rw [List.length_set]; exact hl), wipe_in _ _ _ q hl]
    · rw [List.getElem?_eq_none (by rw [wipe_length, List.length_set]; omega), List.getElem?_eq_none (by rw [wipe_length]; omega)]
  · rw [wipe_out _ _ _ q, wipe_out _ _ _ q, List.getElem?_set_ne fun (k : i = j) => q (k ▸ h)]
theorem wipe_wipe (σ : SV) (vs : List Nat) : wipe (wipe σ vs) vs = wipe σ vs := by
  apply List.ext_getElem?
  intro j
  by_cases q : j ∈ vs
  · by_cases hl : j < σ.length
    · rw [wipe_in _ _ _ q (by rw [wipe_length]; exact hl), wipe_in _ _ _ q hl]
    · rw [List.getElem?_eq_none (by rw [wipe_length, wipe_length]; omega), List.getElem?_eq_none (by rw [wipe_length]; omega)]
  · rw [wipe_out _ _ _ q]
section
variable {T : Tb} {b : Gh} {fp : Fp} {σ : SV} {env e' : Env} {F H : Hp} {vs : List Nat}
theorem clear_nil (R : SR T b fp σ env F H) (h : clearOk vs env = true) : ∀ i ∈ vs, fp i = [] ∧ i < env.length := fun i hi => by
  have := List.all_eq_true.mp h i hi
  cases k : env[i]? with
  | none => rw [k] at this; cases this
  | some s =>
    rw [k] at this
    have hl := (List.getElem?_eq_some_iff.mp k).1
    have sl := R.slot i s k
    cases s with
    | u => exact ⟨sl, hl⟩
    | f d => obtain ⟨v, _, t⟩ := sl; exact ⟨t.fz.2, hl⟩
    | _ => cases this
theorem dropB_some (e : dropB vs env = some e') : clearOk vs env = true ∧ e' = setsF (fun _ => .u) vs env := by
  unfold dropB at e
  split at e
  · rename_i h; cases e; exact ⟨h, rfl⟩
  · cases e
/-- the block's own slots are wiped -/
theorem SR.wiped (R : SR T b fp σ env F H) (e : dropB vs env = some e') : SR T b fp (wipe σ vs) e' F H := by
  obtain ⟨h, rfl⟩ := dropB_some e
  have cl := clear_nil R h
  refine ⟨R.ex, by rw [wipe_length, setsF_len]; exact R.len, fun i s q => ?_, fun i hi => R.out i (by rw [setsF_len] at hi; exact hi), R.nd, R.dj, R.nF, R.st⟩
  by_cases z : i ∈ vs
  · rw [setsF_in _ _ _ _ z (cl i z).2] at q
    cases q
    exact (cl i z).1
  · rw [setsF_out _ _ _ _ z] at q
    exact (R.slot i s q).cong (wipe_out _ _ _ z) rfl
/-- .. and they are as they were again -/
theorem SR.back {fp' : Fp} {F' H' : Hp} (R0 : SR T b fp σ env F H) (h : clearOk vs env = true) (R : SR T b fp' (wipe σ vs) e' F' H') (hu : ∀ i ∈ vs, e'[i]? = some .u) (hl : e'.length = env.length) (ex : Ex F F') : SR T b fp' σ (backB vs env e') F' H' := by
  have cl := clear_nil R0 h
  refine ⟨R.ex, by unfold backB; rw [setsF_len, hl]; exact R0.len, fun i s q => ?_, fun i hi => R.out i (by unfold backB at hi; rw [setsF_len] at hi; exact hi), R.nd, R.dj, R.nF, R.st⟩
  unfold backB at q
  by_cases z : i ∈ vs
  · have n : fp' i = [] := R.slot i _ (hu i z)
    rw [setsF_in _ _ _ _ z (by rw [hl]; exact (cl i z).2)] at q
    have hc := List.all_eq_true.mp h i z
    cases k : env[i]? with
    | none => rw [k] at hc; cases hc
    | some s0 =>
      rw [k] at q hc
      have q : s0 = s := Option.some.inj q
      subst q
      have sl := R0.slot i s0 k
      cases s0 with
      | u => exact n
      | f d =>
        obtain ⟨v, sv, t⟩ := sl
        refine ⟨v, sv, ?_⟩
        rw [n]
        exact .f (t.fz.1.mono ex)
      | _ => cases hc
  · rw [setsF_out _ _ _ _ z] at q
    exact (R.slot i s q).cong (wipe_out _ _ _ z).symm rfl
end

/-! ### the targets of a clause -/
def SndB (T : Tb) (t : TG) (is : List Nat) (g : D → Option (List D)) : Prop :=
  ∀ (σ : SV) (F H : Hp) (v : V) (d : D) (ds : List D), Ex F H → Rep T F v d → g d = some ds → ∀ Q : SV → Hp → Prop, (∀ xs, RepAll T F xs ds → xs.length = is.length → Q ((is.zip xs).foldl (fun σ p => σ.set p.1 (some p.2)) σ) H) → t v σ H Q
def setsD (is : List Nat) (ds : List D) (e : Env) : Env := (is.zip ds).foldl (fun e p => e.set p.1 (.f p.2)) e
theorem setsD_len : ∀ (is : List Nat) (ds : List D) (e : Env), (setsD is ds e).length = e.length := fun is ds e => by
  unfold setsD
  generalize is.zip ds = l
  induction l generalizing e with
  | nil => rfl
  | cons p l ih => rw [List.foldl_cons, ih, List.length_set]
theorem SR.sets {T : Tb} {b : Gh} {F H : Hp} : ∀ (is : List Nat) (xs : List V) (ds : List D) {fp : Fp} {σ : SV} {env : Env}, SR T b fp σ env F H → RepAll T F xs ds → xs.length = is.length → (∀ i ∈ is, i < env.length ∧ fp i = []) →
    SR T b fp ((is.zip xs).foldl (fun σ p => σ.set p.1 (some p.2)) σ) (setsD is ds env) F H
  | [], xs, ds, fp, σ, env, R, r, hl, hi => R
  | i :: is, xs, ds, fp, σ, env, R, r, hl, hi => by
    cases r with
    | nil => cases hl
    | @cons x xs d ds h r =>
      have k := R.store (i := i) (.f h) Tmp.nil (hi i (List.mem_cons_self ..)).1
      have e : fp.set i [] = fp := by
        funext j
        unfold Fp.set
        split
        · rename_i q; subst q; exact (hi j (List.mem_cons_self ..)).2.symm
        · rfl
      rw [e] at k
      exact SR.sets is xs ds k r (Nat.succ.inj hl) fun j hj => ⟨by rw [List.length_set]; exact (hi j (List.mem_cons_of_mem _ hj)).1, (hi j (List.mem_cons_of_mem _ hj)).2⟩
theorem wipe_sets {vs : List Nat} : ∀ (l : List (Nat × V)) (σ : SV), (∀ p ∈ l, p.1 ∈ vs) → wipe (l.foldl (fun σ p => σ.set p.1 (some p.2)) σ) vs = wipe σ vs
  | [], _, _ => rfl
  | p :: l, σ, h => by
    rw [List.foldl_cons, wipe_sets l _ fun q hq => h q (List.mem_cons_of_mem _ hq), wipe_set (h p (List.mem_cons_self ..))]
def b1 : D → Option (List D) := fun d => some [d]
def bT (n : Nat) : D → Option (List D)
  | .tup ds => if ds.length = n then some ds else none
  | .wtu ds => if ds.length = n then some ds else none
  | _ => none
theorem snd_b1 {T : Tb} (i : Nat) : SndB T (gName i) [i] b1 := fun σ F H v d ds ex r e Q q => by
  cases e
  exact q [v] (.cons r .nil) rfl
def gNames : List Nat → TGs
  | [] => gNil
  | i :: r => gCons (gName i) (gNames r)
theorem gNames_ok : ∀ (is : List Nat) (xs : List V) (σ : SV) (H : Hp) (Q : SV → Hp → Prop), xs.length = is.length → Q ((is.zip xs).foldl (fun σ p => σ.set p.1 (some p.2)) σ) H → gNames is xs σ H Q
  | [], [], _, _, _, _, q => ⟨rfl, q⟩
  | i :: is, x :: xs, σ, H, Q, h, q => ⟨x, xs, rfl, gNames_ok is xs _ H Q (Nat.succ.inj h) q⟩
theorem snd_bT {T : Tb} (is : List Nat) : SndB T (gTup T.K is.length (gNames is)) is (bT is.length) := fun σ F H v d ds ex r e Q q => by
  unfold bT at e
  split at e
  · split at e
    · rename_i h; cases e
      cases r with
      | tup h1 h2 => exact ⟨_, _, rfl, .of (ex _ _ h1), h2.len.trans h, gNames_ok _ _ _ _ _ (h2.len.trans h) (q _ h2 (h2.len.trans h))⟩
    · cases e
  · split at e
    · rename_i h; cases e
      cases r with
      | wtu h1 h2 => exact ⟨_, _, rfl, Evl.ex_t ex h1, h2.len.trans h, gNames_ok _ _ _ _ _ (h2.len.trans h) (q _ h2 (h2.len.trans h))⟩
    · cases e
  · cases e

/-! ### the comprehension -/
def lcD (g : D → Option (List D)) (is : List Nat) (tt : Env → Res Bool) (te : Env → Res S) (vs : List Nat) : List D → List S → Env → Res (List S)
  | [], acc, e => .ok acc e
  | d :: ds, acc, e => match g d with
    | none => .bad
    | some l => match tt (setsD is l e) with
      | .ok true e2 => match te e2 with
        | .ok s e3 => match dropB vs e3 with
          | some e4 => lcD g is tt te vs ds (acc ++ [s]) e4
          | none => .bad
        | _ => .bad
      | .ok false e2 => match dropB vs e2 with
        | some e4 => lcD g is tt te vs ds acc e4
        | none => .bad
      | _ => .bad
def eLc (it : Env → Res (List D)) (g : D → Option (List D)) (is : List Nat) (tt : Env → Res Bool) (te : Env → Res S) (vs : List Nat) : Env → Res S := fun env =>
  (it env).bind fun ds e => if ds.length ≤ sizeLine then match dropB vs e with
    | some e1 => match lcD g is tt te vs ds [] e1 with
      | .ok ss e2 => .ok (.l ss) (backB vs e e2)
      | _ => .bad
    | none => .bad
  else .bad
section
variable {T : Tb} {W : WXT} {b : Gh} {fp fp1 fp2 fp6 : Fp} {σ : SV} {env : Env} {F F1 F2 F6 H H1 H2 H6 : Hp} {O O' : Addr → Prop} {D : Addr} {o : HO} {g f6 : List Addr}
/-- a cell of one's own that no name holds is changed -/
theorem SR.tmpset (R : SR T b fp σ env F H) (no : ¬ own fp D) (nF : F D = none) (ow : b.O D ∨ b.H D = none) : SR T b fp σ env F (upd H D o) := by
  have kp : ∀ a, a ≠ D → upd H D o a = H a := fun a h => upd_ne h
  have ex : Ex F (upd H D o) := fun a u h => by
    by_cases z : a = D
    · subst z; rw [nF] at h; cases h
    · rw [kp a z]; exact R.ex a u h
  refine ⟨ex, R.len, fun i s e => ?_, R.out, R.nd, R.dj, R.nF, R.st.ex, fun a u h n => ?_, R.st.gr, R.st.ow⟩
  · have sl := R.slot i s e
    have k1 : ∀ {v : V} {s : S}, Tr T F H v s (fp i) → Tr T F (upd H D o) v s (fp i) := fun {v s} t => t.keep (Ex.refl F) fun a ha => kp a fun z => no ⟨i, z ▸ ha⟩
    cases s with
    | u => exact sl
    | r s =>
      refine ⟨sl.1, sl.2.1, sl.2.2.1.keep (Ex.refl F) fun a ha => kp a fun z => ?_, sl.2.2.2⟩
      subst z
      obtain ⟨n, u, hu⟩ := sl.2.2.2 a ha
      rcases ow with q | q
      · exact n q
      · rw [hu] at q; cases q
    | w s => exact ⟨sl.1, k1 sl.2⟩
    | f d => obtain ⟨v, a, t⟩ := sl; exact ⟨v, a, k1 t⟩
    | l d => obtain ⟨v, a, t⟩ := sl; exact ⟨v, a, k1 t⟩
    | m d => obtain ⟨v, a, t⟩ := sl; exact ⟨v, a, k1 t⟩
    | o c d => obtain ⟨v, a, t⟩ := sl; exact ⟨v, a, k1 t⟩
  · rw [kp a fun z => ?_]
    · exact R.st.fr a u h n
    · subst z
      rcases ow with q | q
      · exact n q
      · rw [h] at q; cases q
theorem Step.upd (st : Step O F H O' F1 H1) (h : O' D) : Step O F H O' F1 (L2.upd H1 D o) := by
  refine ⟨st.ex, fun a u q n => ?_, st.gr, st.ow⟩
  rw [upd_ne fun z => ?_]
  · exact st.fr a u q n
  · subst z
    rcases st.ow a h with k | k
    · exact n k
    · rw [q] at k; cases k
theorem Tmp.join (tm : Tmp b fp2 F2 g) (tk : ∀ a ∈ g, ∃ u, H2 a = some u) (sX : Step (own fp2) F2 H2 (fun a => a ∈ f6 ∨ own fp6 a) F6 H6) (tm6 : Tmp b fp6 F6 f6) : Tmp b fp6 F6 (g ++ f6) ∧ ∀ a ∈ g, ¬ (a ∈ f6 ∨ own fp6 a) := by
  have out : ∀ a ∈ g, ¬ (a ∈ f6 ∨ own fp6 a) ∧ F6 a = none := fun a ha => by
    obtain ⟨u, hu⟩ := tk a ha
    have nb : ¬ (a ∈ f6 ∨ own fp6 a) := fun z => by
      rcases sX.ow a z with q | q
      · exact tm.no a ha q
      · rw [hu] at q; cases q
    refine ⟨nb, ?_⟩
    cases q : F6 a with
    | none => rfl
    | some u2 =>
      rcases sX.gr a u2 q (tm.nF a ha) with q | q
      · rw [hu] at q; cases q
      · exact absurd q (tm.no a ha)
  refine ⟨⟨List.nodup_append.mpr ⟨tm.nd, tm6.nd, fun x hx y hy e => ?_⟩, fun a ha => ?_, fun a ha => ?_, fun a ha => ?_⟩, fun a ha => (out a ha).1⟩
  · subst e; exact (out x hx).1 (.inl hy)
  · rcases List.mem_append.mp ha with ha | ha
    · exact fun z => (out a ha).1 (.inr z)
    · exact tm6.no a ha
  · rcases List.mem_append.mp ha with ha | ha
    · exact (out a ha).2
    · exact tm6.nF a ha
  · rcases List.mem_append.mp ha with ha | ha
    · exact tm.ow a ha
    · exact tm6.ow a ha
theorem TrAll.snoc : ∀ {xs : List V} {ss : List S} {f g : List Addr} {y : V} {s : S}, TrAll T F H xs ss f → Tr T F H y s g → TrAll T F H (xs ++ [y]) (ss ++ [s]) (f ++ g)
  | _, _, _, g, y, s, .nil, h => by
    have k : TrAll T F H [y] [s] (g ++ []) := .cons h .nil
    rw [List.append_nil] at k
    exact k
  | _, _, _, g, y, s, .cons t r, h => by
    rw [List.append_assoc]
    exact .cons t (TrAll.snoc r h)
theorem snd_lc {wi : TI} {tg : TG} {tt : TT} {te : TE} {it : Env → Res (List Dn.D)} {gd : Dn.D → Option (List Dn.D)} {is vs : List Nat} {ttD : Env → Res Bool} {teD : Env → Res S} (hi : SndI T W wi it) (hg : SndB T tg is gd) (his : ∀ i ∈ is, i ∈ vs) (ht : SndT T W0 tt ttD) (he : SndE T W0 te teD) :
    SndE T W (tLc wi tg tt te vs) (eLc it gd is ttD teD vs) := fun b fp σ env F H R Q q => by
  have q' : GoodE T W b (own fp) σ F H ((it env).bind fun ds e => if ds.length ≤ sizeLine then match dropB vs e with
    | some e1 => match lcD gd is ttD teD vs ds [] e1 with
      | .ok ss e2 => .ok (.l ss) (backB vs e e2)
      | _ => .bad
    | none => .bad
  else .bad) Q := q
  refine hi b fp σ env F H R _ ?_
  cases ki : it env with
  | bad => rw [ki] at q'; exact q'
  | exc c ds e1 => rw [ki] at q'; exact fun fp' F' H' cls d r st ex => q' fp' F' H' cls d r st ex
  | ok ds e1 =>
    rw [ki] at q'
    intro J fp1 F1 H1 R1 st1 sv D hD
    have q2 : GoodE T W b (own fp) σ F H (if ds.length ≤ sizeLine then match dropB vs e1 with
      | some e0 => match lcD gd is ttD teD vs ds [] e0 with
        | .ok ss e2 => .ok (.l ss) (backB vs e1 e2)
        | _ => .bad
      | none => .bad
    else .bad) Q := q'
    split at q2
    rotate_left
    · exact False.elim q2
    rename_i hz
    cases kd : dropB vs e1 with
    | none => rw [kd] at q2; exact False.elim q2
    | some e0 =>
      rw [kd] at q2
      have q3 := q2.later st1
      clear q q' q2
      have hclear := (dropB_some kd).1
      have cl := clear_nil R1 hclear
      have fpn := Evl.fresh_back R1.ex hD
      have ex1 : Ex H1 (upd H1 D (.lst [])) := Evl.Ex.new hD
      have G : Grow F1 H1 F1 (upd H1 D (.lst [])) := ⟨Ex.refl _, ex1, R1.ex.trans ex1, fun a o h n => by rw [h] at n; cases n⟩
      have R2 := (R1.wiped kd).grow G
      have noD : ¬ own fp1 D := fun z => by
        obtain ⟨o, ho⟩ := R1.tracked z
        rw [hD] at ho; cases ho
      have uOf : ∀ {e e' : Env}, dropB vs e = some e' → e.length = e1.length → ∀ i ∈ vs, e'[i]? = some .u := fun {e e'} k hl i hi => by
        obtain ⟨_, rfl⟩ := dropB_some k
        exact setsF_in _ _ _ _ hi (by rw [hl]; exact (cl i hi).2)
      let Gc : Res (List S) → Prop := fun o => GoodE T W b (own fp1) σ F1 H1 (match o with | .ok ss e2 => .ok (.l ss) (backB vs e1 e2) | _ => .bad) Q
      let P : Nat → Hp → Prop := fun i H' => ∃ fp2 env2 F2 xs ss f, SR T b fp2 (wipe σ vs) env2 F2 H' ∧ H' D = some (.lst xs) ∧ TrAll T F2 H' xs ss f ∧ Tmp b fp2 F2 (D :: f) ∧ Step (own fp1) F1 H1 (fun a => a ∈ D :: f ∨ own fp2 a) F2 H' ∧ (∀ i ∈ vs, env2[i]? = some .u) ∧ ss.length ≤ i ∧ Gc (lcD gd is ttD teD vs (ds.drop i) ss env2)
      refine ⟨fun i m H' => m = ds.length - i ∧ P i H', ⟨_, rfl, fp1, e0, F1, [], [], [], R2, upd_same, .nil, ⟨by simp, fun a ha => ?_, fun a ha => ?_, fun a ha => ?_⟩, ?_, uOf kd rfl, Nat.zero_le _, q3⟩, ?_⟩
      · have : a = D := by simpa using ha
        subst this; exact noD
      · have : a = D := by simpa using ha
        subst this; exact fpn
      · have : a = D := by simpa using ha
        subst this; exact (R1.st.back hD).symm
      · refine ((Step.refl (own fp1) F1 H1).add G fun a z => ?_)
        rcases z with z | z
        · have : a = D := by simpa using z
          subst this; exact .inr hD
        · exact .inl z
      rintro i m H' ⟨rfl, fp2, env2, F2, xs, ss, f, RR, hDx, tA, tm, st, hu, hl, gc⟩
      have sto : Step (own fp1) F1 H1 (own fp2) F2 H' := st.mono fun a z => .inr z
      have hlen : env2.length = e1.length := by
        have h1 := RR.len
        have h2 := R1.len
        rw [wipe_length] at h1
        omega
      obtain ⟨k1, k2⟩ := sv fp2 _ env2 F2 H' RR sto i
      by_cases hlt : i < ds.length
      · have hd : ds[i]? = some ds[i] := List.getElem?_eq_getElem hlt
        obtain ⟨go, yl⟩ := k2 _ hd
        rw [List.drop_eq_getElem_cons hlt] at gc
        refine .inr ⟨go, P (i + 1), fun H' w => ⟨ds.length - (i + 1), by omega, rfl, w⟩, fun x H3 y => ?_⟩
        obtain ⟨F3, G3, rp⟩ := yl x H3 y
        have gc1 : Gc (match gd ds[i] with
          | none => .bad
          | some l => match ttD (setsD is l env2) with
            | .ok true e2 => match teD e2 with
              | .ok s e3 => match dropB vs e3 with
                | some e4 => lcD gd is ttD teD vs (ds.drop (i + 1)) (ss ++ [s]) e4
                | none => .bad
              | _ => .bad
            | .ok false e2 => match dropB vs e2 with
              | some e4 => lcD gd is ttD teD vs (ds.drop (i + 1)) ss e4
              | none => .bad
            | _ => .bad) := gc
        cases kg : gd ds[i] with
        | none => rw [kg] at gc1; exact False.elim gc1
        | some l =>
          rw [kg] at gc1
          have R3 := RR.grow G3
          refine hg _ F3 H3 x ds[i] l R3.ex rp kg _ fun ys ry hly => ?_
          have hw : wipe ((is.zip ys).foldl (fun σ p => σ.set p.1 (some p.2)) (wipe σ vs)) vs = wipe σ vs := by
            rw [wipe_sets _ _ fun p hp => his _ (List.of_mem_zip hp).1, wipe_wipe]
          refine ⟨hw, ?_⟩
          have R4 := R3.sets is ys l ry hly fun j hj => ⟨by
            have := (List.getElem?_eq_some_iff.mp (hu j (his j hj))).1
            exact this, R3.slot j _ (hu j (his j hj))⟩
          have gc2 : Gc (match ttD (setsD is l env2) with
            | .ok true e2 => match teD e2 with
              | .ok s e3 => match dropB vs e3 with
                | some e4 => lcD gd is ttD teD vs (ds.drop (i + 1)) (ss ++ [s]) e4
                | none => .bad
              | _ => .bad
            | .ok false e2 => match dropB vs e2 with
              | some e4 => lcD gd is ttD teD vs (ds.drop (i + 1)) ss e4
              | none => .bad
            | _ => .bad) := gc1
          refine ht b fp2 _ _ F3 H3 R4 _ ?_
          have tkD : ∀ a ∈ D :: f, ∃ u, H' a = some u := fun a ha => by
            rcases List.mem_cons.mp ha with z | z
            · subst z; exact ⟨_, hDx⟩
            · exact tA.tracked a z
          have nD : D ∉ f := (List.nodup_cons.mp tm.nd).1
          cases kt : ttD (setsD is l env2) with
          | bad => rw [kt] at gc2; exact False.elim gc2
          | exc _ _ _ => rw [kt] at gc2; exact False.elim gc2
          | ok c e5 =>
            rw [kt] at gc2
            intro fp5 F5 H5 xb fb R5 st5 hb tm5
            obtain ⟨rfl, rfl⟩ := hb
            have st5' := st5.toOwn
            have hl5 : e5.length = e1.length := by
              have h1 := R5.len
              have h2 := R4.len
              have h3 := RR.len
              have h4 := setsD_len is l env2
              omega
            cases xb with
            | false =>
              rw [if_neg Bool.false_ne_true]
              have gc3 : Gc (match dropB vs e5 with
                | some e4 => lcD gd is ttD teD vs (ds.drop (i + 1)) ss e4
                | none => .bad) := gc2
              cases k5 : dropB vs e5 with
              | none => rw [k5] at gc3; exact False.elim gc3
              | some e6 =>
                rw [k5] at gc3
                have sX := (G3.step (own fp2)).trans st5'
                obtain ⟨tmJ, nJ⟩ := tm.join (f6 := []) (fp6 := fp5) tkD sX.toF Tmp.nil
                rw [List.append_nil] at tmJ
                have R6 := R5.wiped k5
                rw [hw] at R6
                refine ⟨fp5, e6, F5, xs, ss, f, R6, ?_, tA.step sX fun a ha => tm.no a (List.mem_cons_of_mem _ ha), tmJ, st.trans (sX.more _), uOf k5 hl5, Nat.le_succ_of_le hl, gc3⟩
                exact sX.fr D _ hDx (tm.no D (List.mem_cons_self ..))
            | true =>
              rw [if_pos rfl]
              refine he b fp5 _ e5 F5 H5 R5 _ ?_
              have gc3 : Gc (match teD e5 with
                | .ok s e3 => match dropB vs e3 with
                  | some e4 => lcD gd is ttD teD vs (ds.drop (i + 1)) (ss ++ [s]) e4
                  | none => .bad
                | _ => .bad) := gc2
              cases ke : teD e5 with
              | bad => rw [ke] at gc3; exact False.elim gc3
              | exc _ _ _ => rw [ke] at gc3; exact False.elim gc3
              | ok s e6 =>
                rw [ke] at gc3
                intro fp6 F6 H6 yv f6 R6 st6 tr6 tm6
                have gc4 : Gc (match dropB vs e6 with
                  | some e4 => lcD gd is ttD teD vs (ds.drop (i + 1)) (ss ++ [s]) e4
                  | none => .bad) := gc3
                cases k6 : dropB vs e6 with
                | none => rw [k6] at gc4; exact False.elim gc4
                | some e7 =>
                  rw [k6] at gc4
                  have sX := (G3.step (own fp2)).trans (st5'.trans st6)
                  obtain ⟨tmJ, nJ⟩ := tm.join tkD sX tm6
                  have hD6 : H6 D = some (.lst xs) := sX.fr D _ hDx (tm.no D (List.mem_cons_self ..))
                  have hl6 : e6.length = e1.length := by
                    have h1 := R5.len
                    have h2 := R6.len
                    omega
                  refine ⟨xs, hD6, by rw [tA.len]; omega, ?_⟩
                  have R7 := R6.wiped k6
                  rw [hw] at R7
                  have mD : D ∈ D :: f ++ f6 := List.mem_cons_self ..
                  have n6 : D ∉ f6 := fun z => nJ D (List.mem_cons_self ..) (.inl z)
                  refine ⟨fp6, e7, F6, xs ++ [yv], ss ++ [s], f ++ f6, R7.tmpset (tmJ.no D mD) (tmJ.nF D mD) (tmJ.ow D mD), upd_same, ?_, tmJ, ?_, uOf k6 hl6, ?_, gc4⟩
                  · refine TrAll.snoc ((tA.step sX fun a ha => tm.no a (List.mem_cons_of_mem _ ha)).keep (Ex.refl _) fun a ha => upd_ne fun z => nD (z ▸ ha)) (tr6.keep (Ex.refl _) fun a ha => upd_ne fun z => n6 (z ▸ ha))
                  · refine Step.upd ?_ (.inl mD)
                    refine (st.trans (sX.more fun a => a ∈ D :: f)).mono fun a z => ?_
                    rcases z with z | z
                    · rcases List.mem_append.mp (show a ∈ (D :: f) ++ f6 from z) with z | z
                      · exact .inl z
                      · exact .inr (.inl z)
                    · exact .inr (.inr z)
                  · rw [List.length_append]; show ss.length + 1 ≤ i + 1; omega
      · rw [List.drop_eq_nil_of_le (by omega)] at gc
        refine .inl ⟨k1 (by omega), ?_⟩
        have gc' : GoodE T W b (own fp1) σ F1 H1 (.ok (.l ss) (backB vs e1 env2)) Q := gc
        exact gc' fp2 F2 H' (.ref D) (D :: f) (SR.back R1 hclear RR hu hlen st.ex) st (.l hDx tA) tm
end
section
variable {X : Cx} {C : CT} {W : WXT} {elt iter : Expr} {ifs : List Expr} {scope : Scope} {own : List (Str × Nat)} {pos tpos : Pos} {it : Env → Res (List D)} {x : Str} {i : Nat} {ttD : Env → Res Bool} {teD : Env → Res S}
def tTrue : Env → Res Bool := fun e => .ok true e
abbrev BlkA (X : Cx) (scope : Scope) (P : Cx → Prop) : Prop := ∀ (s : Shared) (H : Hp) (A : Addr) (cl : List (Str × Addr)) (fp : List Addr), P (X.blk s H scope (compEnvC scope cl A X.env) fp)
/-- one reading for all the blocks -/
theorem blk_e (h : BlkA X scope fun X' => DE X' C W0 elt teD) : ∃ t, (BlkA X scope fun X' => PE X' elt t) ∧ SndE (Tx X C) W0 t teD := by
  refine ⟨fun σ H Q => ∀ s H0 A cl fp, Classical.choose (h s H0 A cl fp) σ H Q, fun s H0 A cl fp => ⟨fun pins s' σ H Q I w => (Classical.choose_spec (h s H0 A cl fp)).1.run pins s' σ H Q I (w s H0 A cl fp)⟩, fun b fp σ env F H R Q q s H0 A cl fp' => ?_⟩
  exact (Classical.choose_spec (h s H0 A cl fp')).2 b fp σ env F H R Q q
/-- the clause's tests -/
def DTs (X : Cx) (C : CT) (scope : Scope) (ifs : List Expr) (f : Env → Res Bool) : Prop := ∃ t, (BlkA X scope fun X' => PTs X' ifs t) ∧ SndT (Tx X C) W0 t f
theorem dts_nil : DTs X C scope [] tTrue := ⟨tYes, fun s H A cl fp => pts_nil, fun b fp σ env F H R Q q => q fp F H true [] R (Step.refl _ F H).toF ⟨rfl, rfl⟩ Tmp.nil⟩
theorem dts_one {c : Expr} (h : BlkA X scope fun X' => DT X' C W0 c ttD) : DTs X C scope [c] ttD := by
  refine ⟨fun σ H Q => ∀ s H0 A cl fp, Classical.choose (h s H0 A cl fp) σ H Q, fun s H0 A cl fp => pts_one ⟨fun pins s' σ H Q I w => (Classical.choose_spec (h s H0 A cl fp)).1.run pins s' σ H Q I (w s H0 A cl fp)⟩, fun b fp σ env F H R Q q s H0 A cl fp' => ?_⟩
  exact (Classical.choose_spec (h s H0 A cl fp')).2 b fp σ env F H R Q q
/-- the clause's target -/
def DGB (X : Cx) (C : CT) (scope : Scope) (tg : Expr) (is : List Nat) (g : D → Option (List D)) : Prop := ∃ t, (BlkA X scope fun X' => PG X' tg t) ∧ SndB (Tx X C) t is g
theorem dgb_name (i : Nat) (hN : X.N.Nodup) (hx : ∀ (s : Shared) (H : Hp) (A : Addr) (cl : List (Str × Addr)) (fp : List Addr), Loc (X.blk s H scope (compEnvC scope cl A X.env) fp).env.scope x) (hf : ∀ (s : Shared) (H : Hp) (A : Addr) (cl : List (Str × Addr)) (fp : List Addr), (X.blk s H scope (compEnvC scope cl A X.env) fp).fn x = true ∨ (X.blk s H scope (compEnvC scope cl A X.env) fp).env.scope.names.lookup x = some .local) (hi : X.N[i]? = some x := by rfl) : DGB X C scope (.Name x tpos) [i] b1 :=
  ⟨_, fun s H A cl fp => pg_name (X := X.blk s H scope (compEnvC scope cl A X.env) fp) hN hi (hx s H A cl fp) (hf s H A cl fp), snd_b1 i⟩
def DGN (X : Cx) (scope : Scope) (tgs : List Expr) (is : List Nat) : Prop := BlkA X scope fun X' => PGs X' tgs (gNames is)
theorem dgn_nil : DGN X scope [] [] := fun s H A cl fp => pgs_nil
theorem dgn_cons (i : Nat) {is : List Nat} {tgs : List Expr} (hN : X.N.Nodup) (hx : ∀ (s : Shared) (H : Hp) (A : Addr) (cl : List (Str × Addr)) (fp : List Addr), Loc (X.blk s H scope (compEnvC scope cl A X.env) fp).env.scope x) (hf : ∀ (s : Shared) (H : Hp) (A : Addr) (cl : List (Str × Addr)) (fp : List Addr), (X.blk s H scope (compEnvC scope cl A X.env) fp).fn x = true ∨ (X.blk s H scope (compEnvC scope cl A X.env) fp).env.scope.names.lookup x = some .local) (hr : DGN X scope tgs is)
    (hs : BlkA X scope fun X' => (assignEach (.Name x tpos :: tgs) X'.env).map (·.2) = assign (.Name x tpos) X'.env :: (assignEach tgs X'.env).map (·.2) := by intros; rfl) (hi : X.N[i]? = some x := by rfl) : DGN X scope (.Name x tpos :: tgs) (i :: is) := fun s H A cl fp =>
  pgs_cons (pg_name (X := X.blk s H scope (compEnvC scope cl A X.env) fp) hN hi (hx s H A cl fp) (hf s H A cl fp)) (hr s H A cl fp) (hs s H A cl fp)
theorem dgb_tup {k : Nat} {is : List Nat} {tgs : List Expr} (hc : X.calm = true) (h : DGN X scope tgs is) (hn : BlkA X scope fun X' => (assignEach tgs X'.env).length = is.length := by intros; rfl) (hst : BlkA X scope fun X' => (assignEach tgs X'.env).findIdx? (·.1) = none := by intros; rfl) : DGB X C scope (.Tuple tgs k tpos) is (bT is.length) :=
  ⟨_, fun s H A cl fp => pg_tup (X := X.blk s H scope (compEnvC scope cl A X.env) fp) hc (h s H A cl fp) (hn s H A cl fp) (hst s H A cl fp), snd_bT is⟩
variable {tg : Expr} {is : List Nat} {g : D → Option (List D)}
theorem de_lc (hc : X.calm = true) (hN : X.N.Nodup) (hi : DI X C W tg iter it) (ok : BlkOk X.N X.env.scope scope own) (hg : DGB X C scope tg is g) (ht : DTs X C scope ifs ttD) (he : BlkA X scope fun X' => DE X' C W0 elt teD) (his : ∀ i ∈ is, i ∈ own.map (·.2) := by decide)
    (hs : ∀ x, foldedSetIterable iter X.env x = pure x := by intro _; rfl) : DE X C W (.ListComp elt [⟨tg, iter, ifs, 0⟩] scope pos) (eLc it g is ttD teD (own.map (·.2))) := by
  obtain ⟨wi, p1, s1⟩ := hi
  obtain ⟨t2, p2, s2⟩ := hg
  obtain ⟨t3, p3, s3⟩ := ht
  obtain ⟨t4, p4, s4⟩ := blk_e he
  exact ⟨_, pe_lc hc hN p1 ok p2 p3 p4 hs, snd_lc s1 s2 his s3 s4⟩
theorem ds_setLc (i : Nat) {y : Str} {py spos : Pos} (hc : X.calm = true) (hN : X.N.Nodup) (hi : DI X C W tg iter it) (ok : BlkOk X.N X.env.scope scope own) (hg : DGB X C scope tg is g) (ht : DTs X C scope ifs ttD) (he : BlkA X scope fun X' => DE X' C W0 elt teD)
    (hsw : swapsWith (.ListComp elt [⟨tg, iter, ifs, 0⟩] scope pos) (some (.Name y py)) spos.line X.env = pure true) (hy : X.N[i]? = some y := by rfl) (hyl : X.env.scope.names.lookup y = some .local := by rfl) (his : ∀ i ∈ is, i ∈ own.map (·.2) := by decide)
    (hs : ∀ x, foldedSetIterable iter X.env x = pure x := by intro _; rfl) : DS X C W (.Assign [.Name y py] (.ListComp elt [⟨tg, iter, ifs, 0⟩] scope pos) spos) (sSet i (eLc it g is ttD teD (own.map (·.2)))) := by
  obtain ⟨wi, p1, s1⟩ := hi
  obtain ⟨t2, p2, s2⟩ := hg
  obtain ⟨t3, p3, s3⟩ := ht
  obtain ⟨t4, p4, s4⟩ := blk_e he
  exact ⟨_, ps_setLc hc hN hy hyl hsw p1 ok p2 p3 p4 hs, snd_set (snd_lc s1 s2 his s3 s4)⟩
end
end Dn

/-! Dn17: isinstance. -/
namespace Dn
open PySem PySem.Spec PyProof.Rows L2
open Evl (Ex)

def tyS : S → Option String
  | .f .non => some "NoneType"
  | .f (.bl _) => some "bool"
  | .f (.int _) => some "int"
  | .f (.str _) => some "str"
  | .f (.lst _) => some "list"
  | .f (.scr _) => some "list"
  | .f (.tup _) => some "tuple"
  | .f (.wtu _) => some "tuple"
  | .l _ => some "list"
  | _ => none
def tyNs : List String := ["NoneType", "bool", "int", "str", "list", "tuple"]
def isB (a T : String) : Bool := a == T || (a == "bool" && T == "int")
theorem Tr.ty {T : Tb} {F H : Hp} {v : V} {s : S} {f : List Addr} {n : String} (t : Tr T F H v s f) (ex : Ex F H) (e : tyS s = some n) : TyX T.K H v (.type n) ∧ n ∈ tyNs := by
  cases t with
  | f h =>
    cases h with
    | non => cases e; exact ⟨.base .non, by decide⟩
    | bl b => cases e; exact ⟨.base (.bl b), by decide⟩
    | int i => cases e; exact ⟨.base (.int i), by decide⟩
    | str z => cases e; exact ⟨.base (.str z), by decide⟩
    | lst h1 h2 => cases e; exact ⟨.base (.lst (ex _ _ h1)), by decide⟩
    | scr h1 h2 =>
      cases e
      refine ⟨?_, by decide⟩
      rcases h1 with (h1 | ⟨o, h1⟩) | ⟨o, its, n, h1, h3, _⟩
      · exact .base (.lst (ex _ _ h1))
      · exact .base (.frz (ex _ _ h1))
      · exact .kList h1 h3
    | tup h1 h2 => cases e; exact ⟨.base (.tup (ex _ _ h1)), by decide⟩
    | wtu h1 h2 =>
      cases e
      refine ⟨?_, by decide⟩
      rcases h1 with (h1 | ⟨o, h1⟩) | ⟨o, its, n, h1, h3, _⟩
      · exact .base (.tup (ex _ _ h1))
      · exact .fTuple (ex _ _ h1)
      · exact .kTuple h1 h3
    | _ => cases e
  | l h1 h2 => cases e; exact ⟨.base (.lst h1), by decide⟩
  | m _ _ _ _ => cases e
  | o _ _ _ _ => cases e
def isS (T : String) (s : S) : Option S := (tyS s).map fun n => .f (.bl (isB n T))
def kIs (T : String) (g : Env → Option S) : Env → Option S := fun env => (g env).bind (isS T)
/-- the answers for a class T -/
def KitN (T : String) : Prop := ∀ n ∈ tyNs, kitB n T = some (isB n T)
theorem kitN_int : KitN "int" := by unfold KitN; decide +kernel
theorem kitN_bool : KitN "bool" := by unfold KitN; decide +kernel
theorem kitN_list : KitN "list" := by unfold KitN; decide +kernel
theorem kitN_tuple : KitN "tuple" := by unfold KitN; decide +kernel
theorem kitN_str : KitN "str" := by unfold KitN; decide +kernel
section
variable {X : Cx} {C : CT} {W : WXT} {e : Expr} {g : Env → Option S} {p p2 pos : Pos}
theorem dk_is {n : String} {x : Str} (kn : KitN n) (hg : Gl X "isinstance") (hm : X.mg "isinstance" = none) (hgT : Gl X x) (hmT : X.mg x = none) (hbT : bootBuiltins x = some (.type n)) (h : DK X C e g) (hnT : x ≠ "__name__" := by decide) (hdT : (x == ("__debug__" : Str)) = false := by decide)
    (he : starEach (e :: [.Name x p2]) X.env = (false, eval e X.env) :: starEach [.Name x p2] X.env := by rfl) (he2 : starEach [.Name x p2] X.env = (false, eval (.Name x p2) X.env) :: starEach [] X.env := by rfl) (hpl : (backTo pos (starEach [.Name x p2] X.env)).any (·.1) = false := by rfl) : DK X C (.Call (.Name "isinstance" p) [e, .Name x p2] [] pos) (kIs n g) := by
  obtain ⟨t, pe, s⟩ := h
  refine ⟨_, pe_callB call_isi hg hm boot_isinstance (pa_cons pe (pa_cons (pe_bltn (v := .ty n) hgT hmT hbT rfl hnT hdT) pa_nil he2) he) (by decide) (by decide) he hpl, fun b fp σ env F H R x e Q q => ?_⟩
  unfold kIs at e
  cases k : g env with
  | none => rw [k] at e; cases e
  | some y =>
    rw [k] at e
    have e : (tyS y).map (fun m => S.f (.bl (isB m n))) = some x := e
    cases k2 : tyS y with
    | none => rw [k2] at e; cases e
    | some m =>
      rw [k2] at e; cases e
      refine s b fp σ env F H R y k _ fun v F1 H1 f1 G1 t1 => ?_
      obtain ⟨ty, mem⟩ := t1.ty G1.le k2
      exact ⟨v, .ty n, .type m, .type n, isB m n, rfl, .ty n, ty, kit_ty (kn m mem), q _ F1 H1 [] G1 (.f (.bl _))⟩
/-- an own class's instances have that class -/
structure IsiC (K : PySem.W.Frag) (Ca : Addr) : Prop where
  cl : Cls K Ca
  ha : PySem.W.findIn K (.ref Ca) "__class__" = some (some (.builtin "object.__class__"))
  hn : PySem.W.specialIn K (.builtin "object.__class__") "__get__" = some (some (.builtin "getset_descriptor.__get__"))
  htk : PySem.W.takesIn K (.builtin "object.__class__") = some true
  hm : PySem.W.mroIn K Ca (.type "object") = some true
def clsS : S → Option Nat
  | .f (.obj c _) => some c
  | .o c _ => some c
  | _ => none
def isOS (c : Nat) (s : S) : Option S := (clsS s).bind fun c' => if c' = c then some (.f (.bl true)) else none
def kIsO (c : Nat) (g : Env → Option S) : Env → Option S := fun env => (g env).bind (isOS c)
theorem kitOne_self {K : PySem.W.Frag} {C : Addr} : PySem.W.kitOne K (.ref C) (.ref C) = some true := by
  unfold PySem.W.kitOne
  rw [if_pos]
  first | exact beq_self_eq_true (Value.ref C) | simp | (show (C == C) = true; simp) | rfl
theorem dk_isO {x : Str} {Ca : Addr} {c : Nat} {ns : List Str} (ic : IsiC X.K Ca) (hc : C.cls c = some (Ca, ns)) (hg : Gl X "isinstance") (hm : X.mg "isinstance" = none) (hgT : Gl X x) (hmT : X.mg x = some (.ref Ca)) (h : DK X C e g) (hdT : (x == ("__debug__" : Str)) = false := by decide)
    (he : starEach (e :: [.Name x p2]) X.env = (false, eval e X.env) :: starEach [.Name x p2] X.env := by rfl) (he2 : starEach [.Name x p2] X.env = (false, eval (.Name x p2) X.env) :: starEach [] X.env := by rfl) (hpl : (backTo pos (starEach [.Name x p2] X.env)).any (·.1) = false := by rfl) : DK X C (.Call (.Name "isinstance" p) [e, .Name x p2] [] pos) (kIsO c g) := by
  obtain ⟨t, pe, s⟩ := h
  refine ⟨_, pe_callB call_isi hg hm boot_isinstance (pa_cons pe (pa_cons (pe_glob (v := .ref Ca) hgT hmT rfl hdT) pa_nil he2) he) (by decide) (by decide) he hpl, fun b fp σ env F H R x e Q q => ?_⟩
  unfold kIsO at e
  cases k : g env with
  | none => rw [k] at e; cases e
  | some y =>
    rw [k] at e
    have e : isOS c y = some x := e
    refine s b fp σ env F H R y k _ fun v F1 H1 f1 G1 t1 => ?_
    have key : ∃ a dx fs, v = .ref a ∧ H1 a = some (.ins Ca dx fs) ∧ x = .f (.bl true) := by
      unfold isOS at e
      cases kc : clsS y with
      | none => rw [kc] at e; cases e
      | some c' =>
        rw [kc] at e
        have e : (if c' = c then some (S.f (.bl true)) else none) = some x := e
        by_cases hcc : c' = c
        · rw [if_pos hcc] at e
          cases e
          subst hcc
          cases t1 with
          | f h => cases h with
            | obj h1 h2 h3 h4 =>
              cases kc
              have h2' := h2.symm.trans hc
              cases h2'
              exact ⟨_, _, _, rfl, G1.le _ _ h1, rfl⟩
            | _ => cases kc
          | o h1 h2 h3 h4 =>
            cases kc
            have h2' := h2.symm.trans hc
            cases h2'
            exact ⟨_, _, _, rfl, h1, rfl⟩
          | _ => cases kc
        · rw [if_neg hcc] at e; cases e
    obtain ⟨a, dx, fs, rfl, hi, rfl⟩ := key
    exact ⟨.ref a, .ref Ca, .ref Ca, .ref Ca, true, rfl, .own Ca, .base (.ins hi ic.cl ic.ha ic.hn ic.htk ic.hm), kitOne_self, q _ F1 H1 [] G1 (.f (.bl _))⟩
end
end Dn

/-! Dn18: and, or, not as values. -/
namespace Dn
open PySem PySem.Spec PyProof.Rows L2
open Evl (Ex)

def eAnd (f g : Env → Res S) : Env → Res S := fun env => (f env).bind fun s e => match blS s with
  | some true => g e
  | some false => .ok (.f (.bl false)) e
  | none => .bad
def eOr (f g : Env → Res S) : Env → Res S := fun env => (f env).bind fun s e => match blS s with
  | some true => .ok (.f (.bl true)) e
  | some false => g e
  | none => .bad
def eNot (f : Env → Res S) : Env → Res S := fun env => (f env).bind fun s e => match blS s with
  | some c => .ok (.f (.bl (!c))) e
  | none => .bad
section
variable {X : Cx} {C : CT} {W : WXT} {a b : Expr} {rest : List Expr} {f g : Env → Res S} {pos : Pos}
theorem de_one {op} (h : DE X C W a f) : DE X C W (.BoolOp op [a] pos) f := by
  obtain ⟨t, p, s⟩ := h
  exact ⟨t, pe_one p, s⟩
theorem de_and (h : DE X C W a f) (k : DE X C W (.BoolOp .And (b :: rest) pos) g) : DE X C W (.BoolOp .And (a :: b :: rest) pos) (eAnd f g) := by
  obtain ⟨t, p, s⟩ := h
  obtain ⟨u, p2, s2⟩ := k
  refine ⟨_, pe_and p p2, fun bb fp σ env F H R Q q => ?_⟩
  refine s bb fp σ env F H R _ (GoodR.bind q fun x e1 fp1 F1 H1 v f1 R1 st1 t1 tm1 q1 => ?_)
  cases kc : blS x with
  | none => rw [kc] at q1; exact False.elim q1
  | some c =>
    have := blS_some kc
    subst this
    obtain ⟨rfl, rfl⟩ := t1.bl
    rw [kc] at q1
    refine ⟨c, rfl, ?_⟩
    cases c with
    | true => rw [if_pos rfl]; exact s2 bb fp1 σ e1 F1 H1 R1 Q (GoodR.later q1 st1.toOwn)
    | false => rw [if_neg Bool.false_ne_true]; exact q1 fp1 F1 H1 _ [] R1 st1 (.f (.bl _)) Tmp.nil
theorem de_or (h : DE X C W a f) (k : DE X C W (.BoolOp .Or (b :: rest) pos) g) : DE X C W (.BoolOp .Or (a :: b :: rest) pos) (eOr f g) := by
  obtain ⟨t, p, s⟩ := h
  obtain ⟨u, p2, s2⟩ := k
  refine ⟨_, pe_or p p2, fun bb fp σ env F H R Q q => ?_⟩
  refine s bb fp σ env F H R _ (GoodR.bind q fun x e1 fp1 F1 H1 v f1 R1 st1 t1 tm1 q1 => ?_)
  cases kc : blS x with
  | none => rw [kc] at q1; exact False.elim q1
  | some c =>
    have := blS_some kc
    subst this
    obtain ⟨rfl, rfl⟩ := t1.bl
    rw [kc] at q1
    refine ⟨c, rfl, ?_⟩
    cases c with
    | false => rw [if_neg Bool.false_ne_true]; exact s2 bb fp1 σ e1 F1 H1 R1 Q (GoodR.later q1 st1.toOwn)
    | true => rw [if_pos rfl]; exact q1 fp1 F1 H1 _ [] R1 st1 (.f (.bl _)) Tmp.nil
theorem de_not (h : DE X C W a f) : DE X C W (.UnaryOp .Not a pos) (eNot f) := by
  obtain ⟨t, p, s⟩ := h
  refine ⟨_, pe_not p, fun bb fp σ env F H R Q q => ?_⟩
  refine s bb fp σ env F H R _ (GoodR.bind q fun x e1 fp1 F1 H1 v f1 R1 st1 t1 tm1 q1 => ?_)
  cases kc : blS x with
  | none => rw [kc] at q1; exact False.elim q1
  | some c =>
    have := blS_some kc
    subst this
    obtain ⟨rfl, rfl⟩ := t1.bl
    rw [kc] at q1
    exact ⟨c, rfl, q1 fp1 F1 H1 _ [] R1 st1 (.f (.bl _)) Tmp.nil⟩
end
/-- the value, frozen -/
def eFrz (f : Env → Res S) : Env → Res S := fun env => (f env).bind fun s e => .ok (.f s.frz) e
theorem de_frz {X : Cx} {C : CT} {W : WXT} {a : Expr} {f : Env → Res S} (h : DE X C W a f) : DE X C W a (eFrz f) := by
  obtain ⟨t, p, s⟩ := h
  refine ⟨t, p, fun b fp σ env F H R Q q => ?_⟩
  refine s b fp σ env F H R _ (GoodR.bind q fun x e1 fp1 F1 H1 v f1 R1 st1 t1 tm1 q1 => ?_)
  exact q1 fp1 _ H1 v [] (R1.freeze tm1) (st1.freeze tm1).toF (.f (t1.frozen tm1.nF)) Tmp.nil
theorem hu64 {k : Nat} {A : Around} (r : Room k A) : A.units + 64 < cLine := by have := r.un; omega
theorem hu65 {k : Nat} {A : Around} (r : Room k A) : A.units + 65 < cLine := by have := r.un; omega

/-! ### law's own promise -/
def spLaw (K : PySem.W.Frag) : Sp := fun vs H Q _ => ∃ (a : Addr) (ns : List Int), vs = [.ref a] ∧ SqL K H a (ns.map V.int) ∧ ns.length ≤ 63 ∧ ∀ H', Q (.bl true) H'
theorem repInts {T : Tb} {F : Hp} : ∀ ns : List Int, RepAll T F (ns.map V.int) (ns.map D.int)
  | [] => .nil
  | i :: r => .cons (.int i) (repInts r)
theorem law_sp {K : PySem.W.Frag} {C : CT} {f : List S → Fo} (h : ∀ ns : List Int, ns.length ≤ 63 → ∃ o, f [.f (.scr (ns.map D.int))] = .ret (.f (.bl true)) o) {vs : List V} {H : Hp} {Q : VK} {E : XK} (w : spLaw K vs H Q E) : spD ⟨K, C.cls, C.exc⟩ [.v] f vs H Q E := by
  obtain ⟨a, ns, rfl, hs, hl, k⟩ := w
  refine ⟨rfl, [.f (.scr (ns.map D.int))], fun _ => [], H, fun _ => [], rfl, ?_, ?_⟩
  · refine ⟨Ex.refl H, rfl, fun i s e => ?_, fun _ _ => rfl, fun _ => List.nodup_nil, (fun _ _ _ h => nomatch h), (fun _ _ h => nomatch h), ?_⟩
    · match i, e with
      | 0, e =>
        cases e
        exact ⟨.ref a, rfl, .f (.scr hs (repInts ns))⟩
      | i + 1, e => cases e
    · exact Step.refl _ _ _
  · obtain ⟨o, ho⟩ := h ns hl
    rw [ho]
    intro v fp' F' H' fr R' st' tr' tm'
    obtain ⟨rfl, _⟩ := tr'.bl
    exact k H'
end Dn

/-! Dx1: the mirrors, run by rewriting. -/
namespace Dn
open PySem PySem.Spec PyProof.Rows L2

/-! ### unfolding -/
section
variable {f : Env → Res S} {g ga gb gc : Env → Option S} {env e : Env} {i n : Nat} {o : Option S}
@[simp] theorem x_rootf (d : D) : rootS (.f d) = some (.f d) := rfl
@[simp] theorem x_rootr (s : S) : rootS (.r s) = some s := rfl
@[simp] theorem x_rootw (s : S) : rootS (.w s) = some s := rfl
@[simp] theorem x_rootl (s : List S) : rootS (.l s) = some (.l s) := rfl
@[simp] theorem x_rooto (c : Nat) (s : List S) : rootS (.o c s) = some (.o c s) := rfl
@[simp] theorem x_var0 (s : S) (e : Env) : kVar 0 (s :: e) = rootS s := rfl
@[simp] theorem x_varS (i : Nat) (s : S) (e : Env) : kVar (i + 1) (s :: e) = kVar i e := rfl
@[simp] theorem x_kC (d : D) : kC d env = some (.f d) := rfl
@[simp] theorem x_op2 (h : S → S → Option S) : kOp2 h ga gb env = (ga env).bind fun x => (gb env).bind fun y => h x y := rfl
@[simp] theorem x_eop2 (h : S → S → Option S) (fa fb : Env → Res S) : eOp2 h fa fb env = (fa env).bind fun x e1 => (fb e1).bind fun y e2 => .of (h x y) e2 := rfl
@[simp] theorem x_eK : eK g env = .of (g env) env := rfl
@[simp] theorem x_vKs (d : D) (h : g env = some (.f d)) : vK g env = .ok (.f d) env := by unfold vK; rw [h]
theorem x_vK : vK g env = match g env with | some (.f d) => .ok (.f d) env | _ => .bad := rfl
@[simp] theorem x_blS (c : Bool) : blS (.f (.bl c)) = some c := rfl
@[simp] theorem x_tE : tE f env = (f env).bind fun s e => .of (blS s) e := rfl
@[simp] theorem x_tK : tK g env = .of ((g env).bind blS) env := rfl
@[simp] theorem x_tAnd (f g : Env → Res Bool) : tAndD f g env = (f env).bind fun c e => if c = true then g e else .ok false e := rfl
@[simp] theorem x_tOr (f g : Env → Res Bool) : tOrD f g env = (f env).bind fun c e => if c = true then .ok true e else g e := rfl
@[simp] theorem x_tNot (f : Env → Res Bool) : tNotD f env = (f env).bind fun c e => .ok (!c) e := rfl
@[simp] theorem x_eIf (c : Env → Res Bool) (f g : Env → Res S) : eIf c f g env = (c env).bind fun k e => if k = true then f e else g e := rfl
@[simp] theorem x_eAnd (f g : Env → Res S) : eAnd f g env = (f env).bind fun s e => match blS s with | some true => g e | some false => .ok (.f (.bl false)) e | none => .bad := rfl
@[simp] theorem x_eOr (f g : Env → Res S) : eOr f g env = (f env).bind fun s e => match blS s with | some true => .ok (.f (.bl true)) e | some false => g e | none => .bad := rfl
@[simp] theorem x_eNot (f : Env → Res S) : eNot f env = (f env).bind fun s e => match blS s with | some c => .ok (.f (.bl (!c))) e | none => .bad := rfl
@[simp] theorem x_eFrz : eFrz f env = (f env).bind fun s e => .ok (.f s.frz) e := rfl
@[simp] theorem x_kNil : kNil env = some [] := rfl
@[simp] theorem x_kCons (h : Env → Option (List S)) : kCons g h env = (g env).bind fun x => (h env).map (x :: ·) := rfl
@[simp] theorem x_eNil : eNil env = .ok [] env := rfl
@[simp] theorem x_eCons (h : Env → Res (List S)) : eCons f h env = (f env).bind fun x e1 => (h e1).bind fun xs e2 => .ok (x :: xs) e2 := rfl
@[simp] theorem x_aNil : aNil env = .ok [] env := rfl
@[simp] theorem x_aVal (h : Env → Res (List S)) : aVal f h env = (f env).bind fun x e1 => (h e1).bind fun xs e2 => .ok (x :: xs) e2 := rfl
@[simp] theorem x_aVar (h : Env → Res (List S)) : aVar i h env = match kVar i env with | none => .bad | some _ => (h env).bind fun xs e2 => .ok (.u :: xs) e2 := rfl
@[simp] theorem x_eCall (fn : List S → Fo) (hs : List (Option Nat)) (ms : List Md) (h : Env → Res (List S)) : eCall fn hs ms h env = (h env).bind fun ss e => callD fn hs ms ss e := rfl
@[simp] theorem x_kFn (h : List S → Option S) (l : Env → Option (List S)) : kFn h l env = (l env).bind h := rfl
@[simp] theorem x_eFn (h : List S → Option S) (l : Env → Res (List S)) : eFn h l env = (l env).bind fun ss e => .of (h ss) e := rfl
@[simp] theorem x_kLst (l : Env → Option (List S)) : kLst l env = (l env).bind fun ss => if ss.length ≤ sizeLine then some (.l ss) else none := rfl
@[simp] theorem x_kTup (l : Env → Option (List S)) : kTup l env = (l env).bind fun ss => (fzs ss).bind fun ds => if ds.length ≤ sizeLine then some (.f (.tup ds)) else none := rfl
@[simp] theorem x_eTup (l : Env → Res (List S)) : eTup l env = (l env).bind fun ss e => if ss.length ≤ sizeLine then .ok (.f (.tup (S.frzL ss))) e else .bad := rfl
@[simp] theorem x_eLst (l : Env → Res (List S)) : eLst l env = (l env).bind fun ss e => if ss.length ≤ sizeLine then .ok (.l ss) e else .bad := rfl
@[simp] theorem x_pK : pK g env = frzO (g env) := rfl
@[simp] theorem x_frzO (d : D) : frzO (some (.f d)) = some (.f d) := rfl
@[simp] theorem x_kFld (c j : Nat) : kFld c j g env = (g env).bind (fldS c j) := rfl
@[simp] theorem x_fldo (c j : Nat) (ss : List S) : fldS c j (.o c ss) = ss[j]? := if_pos rfl
@[simp] theorem x_fldf (c j : Nat) (ds : List D) : fldS c j (.f (.obj c ds)) = (ds[j]?).map .f := if_pos rfl
@[simp] theorem x_kSl (l h : Env → Option (Option Int)) : kSl g l h env = (g env).bind fun s => (l env).bind fun lo => (h env).bind fun hi => slS s lo hi := rfl
@[simp] theorem x_kPart : kPart g env = (g env).bind fun s => (intS s).map some := rfl
@[simp] theorem x_kNoPart : kNoPart env = some none := rfl
@[simp] theorem x_intS (k : Int) : intS (.f (.int k)) = some k := rfl
@[simp] theorem x_kNeg : kNeg g env = (g env).bind negS := rfl
@[simp] theorem x_negS (k : Int) : negS (.f (.int k)) = some (.f (.int (-k))) := rfl
@[simp] theorem x_kIs (T : String) : kIs T g env = (g env).bind (isS T) := rfl
@[simp] theorem x_kIsO (c : Nat) : kIsO c g env = (g env).bind (isOS c) := rfl
@[simp] theorem x_isOf (c : Nat) (ds : List D) : isOS c (.f (.obj c ds)) = some (.f (.bl true)) := if_pos rfl
@[simp] theorem x_isOo (c : Nat) (ds : List S) : isOS c (.o c ds) = some (.f (.bl true)) := if_pos rfl
@[simp] theorem x_eIx (fa fb : Env → Res S) : eIx fa fb env = (fa env).bind fun x e1 => (fb e1).bind fun y e2 => .of (frzO (ixS x y)) e2 := rfl
/-! uses -/
@[simp] theorem x_use0f (d : D) (e : Env) : eUse 0 (.f d :: e) = .ok (.f d) (.f d :: e) := rfl
@[simp] theorem x_use0rf (d : D) (e : Env) : eUse 0 (.r (.f d) :: e) = .ok (.f d) (.r (.f d) :: e) := rfl
@[simp] theorem x_use0l (l : List S) (e : Env) : eUse 0 (.l l :: e) = .ok (.f (S.l l).frz) (.f (S.l l).frz :: e) := rfl
@[simp] theorem x_use0o (c : Nat) (l : List S) (e : Env) : eUse 0 (.o c l :: e) = .ok (.f (S.o c l).frz) (.f (S.o c l).frz :: e) := rfl
@[simp] theorem x_use0w (s : S) (e : Env) : eUse 0 (.w s :: e) = .ok (.f s.frz) (.w (.f s.frz) :: e) := rfl
def envUp {α : Type} (s : S) (x : Res α) : Res α :=
  match x with
  | .ok a e => .ok a (s :: e)
  | .exc c ds e => .exc c ds (s :: e)
  | .bad => .bad
@[simp] theorem envUp_ok {α : Type} (s : S) (a : α) (e : Env) : envUp s (.ok a e) = .ok a (s :: e) := rfl
@[simp] theorem x_useS (i : Nat) (s : S) (e : Env) : eUse (i + 1) (s :: e) = envUp s (eUse i e) := by
  unfold eUse
  rw [List.getElem?_cons_succ]
  cases e[i]? with
  | none => rfl
  | some x =>
    have key : ∀ u : Option D, (match u with | none => Res.bad | some d => Res.ok (S.f d) (if useKeep x = true then s :: e else (s :: e).set (i + 1) (wrapAs x (.f d)))) = envUp s (match u with | none => Res.bad | some d => Res.ok (S.f d) (if useKeep x = true then e else e.set i (wrapAs x (.f d)))) := fun u => by
      cases u with
      | none => rfl
      | some d => cases useKeep x <;> rfl
    exact key (useS x)
@[simp] theorem x_mv0f (d : D) (e : Env) : eMove 0 (.f d :: e) = .ok (.f d) (.f d :: e) := rfl
@[simp] theorem x_mv0l (l : List S) (e : Env) : eMove 0 (.l l :: e) = .ok (.l l) (.u :: e) := rfl
@[simp] theorem x_mv0o (c : Nat) (l : List S) (e : Env) : eMove 0 (.o c l :: e) = .ok (.o c l) (.u :: e) := rfl
@[simp] theorem x_mvS (i : Nat) (s : S) (e : Env) : eMove (i + 1) (s :: e) = envUp s (eMove i e) := by
  unfold eMove
  rw [List.getElem?_cons_succ]
  cases k : e[i]? with
  | none => rfl
  | some x => cases x <;> rfl
/-! statements -/
@[simp] theorem x_sNil : sNil env = .nx env := rfl
@[simp] theorem x_sSeq (f g : Env → SRes) : sSeq f g env = (f env).then g := rfl
@[simp] theorem x_then_nx (g : Env → SRes) : (SRes.nx env).then g = g env := rfl
@[simp] theorem x_then_rt (s : S) (g : Env → SRes) : (SRes.rt s env).then g = .rt s env := rfl
@[simp] theorem x_then_bk (g : Env → SRes) : (SRes.bk env).then g = .bk env := rfl
@[simp] theorem x_then_ct (g : Env → SRes) : (SRes.ct env).then g = .ct env := rfl
theorem x_sSet : sSet i f env = match f env with | .ok s e => if i < e.length then .nx (e.set i s) else .bad | .exc c ds e => .exc c ds e | .bad => .bad := rfl
theorem x_sExpr : sExpr f env = match f env with | .ok _ e => .nx e | .exc c ds e => .exc c ds e | .bad => .bad := rfl
theorem x_sRet : sRet f env = match f env with | .ok s e => .rt s e | .exc c ds e => .exc c ds e | .bad => .bad := rfl
theorem x_sIf (c : Env → Res Bool) (f g : Env → SRes) : sIf c f g env = match c env with | .ok k e => if k = true then f e else g e | .exc c ds e => .exc c ds e | .bad => .bad := rfl
theorem x_sFor (it : Env → Res (List D)) (h : D → Env → Option Env) (b : Env → SRes) : sFor it h b env = match it env with | .ok ds e => forD h b ds e | .exc c ds e => .exc c ds e | .bad => .bad := rfl
theorem x_sAsg (h : D → Env → Option Env) : sAsg f h env = match f env with | .ok s e => (match h s.frz e with | some e2 => .nx e2 | none => .bad) | .exc c ds e => .exc c ds e | .bad => .bad := rfl
@[simp] theorem x_frzf (d : D) : (S.f d).frz = d := rfl
@[simp] theorem x_bName (d : D) : bName i d env = if i < env.length then some (env.set i (.f d)) else none := rfl
@[simp] theorem x_bsNil : bsNil [] env = some env := rfl
@[simp] theorem x_bsCons (g : D → Env → Option Env) (h : List D → Env → Option Env) (d : D) (ds : List D) : bsCons g h (d :: ds) env = (g d env).bind (h ds) := rfl
@[simp] theorem x_bTup (h : List D → Env → Option Env) (ds : List D) : bTup n h (.tup ds) env = if ds.length = n then h ds env else none := rfl
@[simp] theorem x_sRetN : sRetN env = .rt (.f .non) env := rfl
/-! walks -/
@[simp] theorem x_iV : iV f env = (f env).bind fun s e => .of (itD s.frz) e := rfl
@[simp] theorem x_iA (h : List D → Option (List D)) (fa : Env → Res (List S)) : iA h fa env = (fa env).bind fun ss e => .of (h (S.frzL ss)) e := rfl
@[simp] theorem x_itl (ds : List D) : itD (.lst ds) = some ds := rfl
@[simp] theorem x_itt (ds : List D) : itD (.tup ds) = some ds := rfl
@[simp] theorem x_its (ds : List D) : itD (.scr ds) = some ds := rfl
@[simp] theorem x_iR0r (s : S) (e : Env) : iR 0 (.r s :: e) = .of s.fz (.r s :: e) := rfl
@[simp] theorem x_iR0f (d : D) (e : Env) : iR 0 (.f d :: e) = .of (itD d) (.f d :: e) := rfl
@[simp] theorem x_iRS (i : Nat) (s : S) (e : Env) : iR (i + 1) (s :: e) = envUp s (iR i e) := by
  unfold iR
  rw [List.getElem?_cons_succ]
  cases e[i]? with
  | none => rfl
  | some x =>
    cases x with
    | r y => show Res.of y.fz (s :: e) = envUp s (Res.of y.fz e); cases y.fz <;> rfl
    | f d => show Res.of (itD d) (s :: e) = envUp s (Res.of (itD d) e); cases itD d <;> rfl
    | _ => rfl
/-! arithmetic -/
variable (i j : Int)
@[simp] theorem x_add : addS (.f (.int i)) (.f (.int j)) = some (.f (.int (i + j))) := rfl
@[simp] theorem x_sub : gII (fun i j => .int (i - j)) (.f (.int i)) (.f (.int j)) = some (.f (.int (i - j))) := rfl
@[simp] theorem x_gII (h : Int → Int → D) : gII h (.f (.int i)) (.f (.int j)) = some (.f (h i j)) := rfl
theorem x_gIIc (c : Int → Int → Bool) (h : Int → Int → D) : gIIc c h (.f (.int i)) (.f (.int j)) = if c i j then some (.f (h i j)) else none := rfl
theorem x_mulR (h : j.natAbs < 18446744073709551616) : mulS (.f (.int i)) (.f (.int j)) = some (.f (.int (i * j))) := by
  show (if mulOk i j = true then _ else _) = _
  rw [if_pos (by unfold mulOk; exact Bool.or_eq_true_iff.mpr (.inr (decide_eq_true h)))]
theorem x_mulL (h : i.natAbs < 18446744073709551616) : mulS (.f (.int i)) (.f (.int j)) = some (.f (.int (i * j))) := by
  show (if mulOk i j = true then _ else _) = _
  rw [if_pos (by unfold mulOk; exact Bool.or_eq_true_iff.mpr (.inl (decide_eq_true h)))]
theorem x_mod (h : 0 < j) : modS (.f (.int i)) (.f (.int j)) = some (.f (.int (i % j))) := by
  show (if modOk i j = true then some (S.f (.int (i.fmod j))) else _) = _
  rw [if_pos (by unfold modOk; exact decide_eq_true (by omega)), Int.fmod_eq_emod_of_nonneg _ (by omega)]
theorem x_div (h : 0 < j) (h2 : j < 1073741824) : divS (.f (.int i)) (.f (.int j)) = some (.f (.int (i / j))) := by
  show (if divOk i j = true then some (S.f (.int (i.fdiv j))) else _) = _
  rw [if_pos (by unfold divOk; exact decide_eq_true (by omega)), Int.fdiv_eq_ediv_of_nonneg _ (by omega)]
theorem x_pow (h : 0 ≤ j ∧ j ≤ 1000000 ∧ i.natAbs < 2 ^ 64) : powS (.f (.int i)) (.f (.int j)) = some (.f (.int (i ^ j.toNat))) := by
  show (if powOk i j = true then some (S.f (.int (i ^ j.toNat))) else _) = _
  rw [if_pos (by unfold powOk; exact decide_eq_true h)]
end
end Dn

/-! Dx2: the mirrors, run by rewriting: changes, calls, loops, lists of ints. -/
namespace Dn
open PySem PySem.Spec PyProof.Rows L2

/-! ### changes -/
section
variable {i : Nat} {s : S} {e env : Env} {h : S → Option (S × S)} {r : List Nat}
theorem x_mut0l (ss : List S) : mutE 0 [] h (.l ss :: e) = (h (.l ss)).map fun yz : S × S => (yz.2, yz.1 :: e) := by
  show (match mutS (S.l ss) with | some s0 => _ | none => none) = _
  rfl
theorem x_mut0w : mutE 0 [] h (.w s :: e) = (h s).map fun yz : S × S => (yz.2, .w yz.1 :: e) := rfl
theorem x_mutS : mutE (i + 1) r h (s :: e) = (mutE i r h e).map fun ze => (ze.1, s :: ze.2) := by
  unfold mutE
  rw [List.getElem?_cons_succ]
  cases e[i]? with
  | none => rfl
  | some x =>
    have key : ∀ u : Option S, (match u with | some s0 => (match getP s0 r with | some x0 => (h x0).map fun yz : S × S => (yz.2, (s :: e).set (i + 1) (wrapAs x (setP s0 r yz.1))) | none => none) | none => none) = (match u with | some s0 => (match getP s0 r with | some x0 => (h x0).map fun yz : S × S => (yz.2, e.set i (wrapAs x (setP s0 r yz.1))) | none => none) | none => none).map fun ze : S × Env => (ze.1, s :: ze.2) := fun u => by
      cases u with
      | none => rfl
      | some s0 =>
        have key2 : ∀ u2 : Option S, (match u2 with | some x0 => (h x0).map fun yz : S × S => (yz.2, (s :: e).set (i + 1) (wrapAs x (setP s0 r yz.1))) | none => none) = (match u2 with | some x0 => (h x0).map fun yz : S × S => (yz.2, e.set i (wrapAs x (setP s0 r yz.1))) | none => none).map fun ze : S × Env => (ze.1, s :: ze.2) := fun u2 => by
          cases u2 with
          | none => rfl
          | some x0 => show (h x0).map _ = ((h x0).map _).map _; cases h x0 <;> rfl
        exact key2 (getP s0 r)
    exact key (mutS x)
theorem x_mut0wo {c j : Nat} (ss : List S) : mutE 0 [j] h (.w (.o c ss) :: e) = (ss[j]?).bind fun x => (h x).map fun yz : S × S => (yz.2, .w (.o c (ss.set j yz.1)) :: e) := by
  show (match ((some ss).bind fun ss => (ss[j]?).bind fun x => getP x []) with | some x => (h x).map fun yz : S × S => (yz.2, S.w (setP (.o c ss) [j] yz.1) :: e) | none => none) = _
  cases k : ss[j]? with
  | none =>
    show (match (ss[j]?).bind fun x => getP x [] with | some x => (h x).map fun yz : S × S => (yz.2, S.w (setP (.o c ss) [j] yz.1) :: e) | none => none) = _
    rw [k]; rfl
  | some x =>
    show (match (ss[j]?).bind fun x => getP x [] with | some x => (h x).map fun yz : S × S => (yz.2, S.w (setP (.o c ss) [j] yz.1) :: e) | none => none) = _
    rw [k]
    show (h x).map _ = (h x).map _
    have : ∀ y, setP (.o c ss) [j] y = .o c (ss.set j y) := fun y => by
      show (match ss[j]? with | some x => S.withKids (.o c ss) (ss.set j (setP x [] y)) | none => _) = _
      rw [k]; rfl
    simp only [this]
theorem x_mut0o {c j : Nat} (ss : List S) : mutE 0 [j] h (.o c ss :: e) = (ss[j]?).bind fun x => (h x).map fun yz : S × S => (yz.2, .o c (ss.set j yz.1) :: e) := by
  show (match ((some ss).bind fun ss => (ss[j]?).bind fun x => getP x []) with | some x => (h x).map fun yz : S × S => (yz.2, (setP (.o c ss) [j] yz.1) :: e) | none => none) = _
  cases k : ss[j]? with
  | none =>
    show (match (ss[j]?).bind fun x => getP x [] with | some x => (h x).map fun yz : S × S => (yz.2, (setP (.o c ss) [j] yz.1) :: e) | none => none) = _
    rw [k]; rfl
  | some x =>
    show (match (ss[j]?).bind fun x => getP x [] with | some x => (h x).map fun yz : S × S => (yz.2, (setP (.o c ss) [j] yz.1) :: e) | none => none) = _
    rw [k]
    show (h x).map _ = (h x).map _
    have : ∀ y, setP (.o c ss) [j] y = .o c (ss.set j y) := fun y => by
      show (match ss[j]? with | some x => S.withKids (.o c ss) (ss.set j (setP x [] y)) | none => _) = _
      rw [k]; rfl
    simp only [this]
theorem x_mutV {g : S → List S → Option (S × S)} {fa : Env → Res (List S)} : eMutV i g fa env = match (kVar i env).map S.isL with
  | some true => (fa env).bind fun ss e => match mutE i [] (fun x => g x ss) e with
    | some (z, e2) => .ok z e2
    | none => .bad
  | _ => .bad := rfl
theorem x_mutP {g : S → List S → Option (S × S)} {pf : Env → Option (List Nat)} {ga : Env → Option (List S)} : eMutP i pf g ga env = match pf env with
  | some r => match (nodeS i r env).map S.isL with
    | some true => match ga env with
      | some ss => match mutE i r (fun x => g x ss) env with
        | some (z, e2) => .ok z e2
        | none => .bad
      | none => .bad
    | _ => .bad
  | none => .bad := rfl
@[simp] theorem x_pVar : pVar i env = (kVar i env).map fun _ => [] := rfl
@[simp] theorem x_nodeS : nodeS i r env = (kVar i env).bind fun s => getP s r := rfl
@[simp] theorem x_getP0 : getP s [] = some s := rfl
@[simp] theorem x_getPo (c j : Nat) (ss : List S) (r : List Nat) : getP (.o c ss) (j :: r) = (ss[j]?).bind fun x => getP x r := rfl
theorem x_pFld {c j : Nat} {pf : Env → Option (List Nat)} : pFld i c j pf env = (pf env).bind fun r => match nodeS i r env with
  | some (.o c' ss) => if c' = c ∧ j < ss.length then some (r ++ [j]) else none
  | _ => none := rfl
@[simp] theorem x_isLl (ss : List S) : S.isL (.l ss) = true := rfl
/-! ### calls -/
theorem x_callD (fn : List S → Fo) (hs : List (Option Nat)) (ms : List Md) (ss : List S) : callD fn hs ms ss e = match fillS hs ss e with
  | none => .bad
  | some args => if lendOk hs ms e then (match fn args with
    | .ret s outs => if outs.length = ms.length then .ok s (putOuts hs ms outs e) else .bad
    | .exc c ds outs => if outs.length = ms.length then .exc c ds (putOuts hs ms outs e) else .bad
    | .bad => .bad) else .bad := rfl
@[simp] theorem x_fill0 : fillS [] [] e = some [] := rfl
@[simp] theorem x_filln (hs : List (Option Nat)) (ss : List S) : fillS (none :: hs) (s :: ss) e = (fillS hs ss e).map (s :: ·) := rfl
@[simp] theorem x_fills (j : Nat) (hs : List (Option Nat)) (ss : List S) : fillS (some j :: hs) (s :: ss) e = (kVar j e).bind fun s => (fillS hs ss e).map (s :: ·) := rfl
@[simp] theorem x_lok0 : lendOk [] [] e = true := rfl
@[simp] theorem x_lokn (hs : List (Option Nat)) (m : Md) (ms : List Md) : lendOk (none :: hs) (m :: ms) e = lendOk hs ms e := rfl
@[simp] theorem x_lokr (j : Nat) (hs : List (Option Nat)) (ms : List Md) : lendOk (some j :: hs) (.rd :: ms) e = lendOk hs ms e := Bool.true_and _
theorem x_lokb (j : Nat) (hs : List (Option Nat)) (ms : List Md) : lendOk (some j :: hs) (.bw :: ms) e = (lend1 .bw e[j]? && lendOk hs ms e) := rfl
@[simp] theorem x_len1w : lend1 .bw (some (.w s)) = true := rfl
@[simp] theorem x_len1l (ss : List S) : lend1 .bw (some (.l ss)) = true := rfl
@[simp] theorem x_len1o (c : Nat) (ss : List S) : lend1 .bw (some (.o c ss)) = true := rfl
@[simp] theorem x_put0 : putOuts [] [] [] e = e := rfl
@[simp] theorem x_putn (hs : List (Option Nat)) (m : Md) (ms : List Md) (o : S) (outs : List S) : putOuts (none :: hs) (m :: ms) (o :: outs) e = putOuts hs ms outs e := by cases m <;> rfl
@[simp] theorem x_putr (j : Nat) (hs : List (Option Nat)) (ms : List Md) (o : S) (outs : List S) : putOuts (some j :: hs) (.rd :: ms) (o :: outs) e = putOuts hs ms outs e := rfl
@[simp] theorem x_putb (j : Nat) (hs : List (Option Nat)) (ms : List Md) (o : S) (outs : List S) : putOuts (some j :: hs) (.bw :: ms) (o :: outs) e = putOuts hs ms outs (e.set j (wrapAs (e.getD j .u) o)) := rfl
@[simp] theorem x_wrl (ss : List S) (o : S) : wrapAs (.l ss) o = o := rfl
@[simp] theorem x_wro (c : Nat) (ss : List S) (o : S) : wrapAs (.o c ss) o = o := rfl
@[simp] theorem x_wrw (o : S) : wrapAs (.w s) o = .w o := rfl
@[simp] theorem x_outs0 : outsOf [] e = some [] := rfl
@[simp] theorem x_outsb (ms : List Md) : outsOf (.bw :: ms) (.w s :: e) = (outsOf ms e).map (s :: ·) := rfl
@[simp] theorem x_outsr (ms : List Md) : outsOf (.rd :: ms) (s :: e) = (outsOf ms e).map (.u :: ·) := by cases s <;> rfl
@[simp] theorem x_outsv (ms : List Md) : outsOf (.v :: ms) (s :: e) = (outsOf ms e).map (.u :: ·) := by cases s <;> rfl
end
/-- a def's end -/
theorem fn_rt {ms : List Md} {n : Nat} {body : Env → SRes} {ss outs : List S} {s : S} {env env' : Env} (h : body env = .rt s env') (ho : outsOf ms env' = some outs) (he : List.zipWith wrapS ms ss ++ List.replicate (n - ms.length) .u = env := by rfl) : fnC ms n body ss = .ret s outs := by
  unfold fnC fnD
  rw [he, h]
  show (match outsOf ms env' with | some outs => Fo.ret s outs | none => .bad).calm = _
  rw [ho]; rfl
theorem fn_nx {ms : List Md} {n : Nat} {body : Env → SRes} {ss outs : List S} {env env' : Env} (h : body env = .nx env') (ho : outsOf ms env' = some outs) (he : List.zipWith wrapS ms ss ++ List.replicate (n - ms.length) .u = env := by rfl) : fnC ms n body ss = .ret (.f .non) outs := by
  unfold fnC fnD
  rw [he, h]
  show (match outsOf ms env' with | some outs => Fo.ret (.f .non) outs | none => .bad).calm = _
  rw [ho]; rfl
theorem seq_nx {f g : Env → SRes} {env e : Env} {r : SRes} (h : f env = .nx e) (k : g e = r) : sSeq f g env = r := by
  show (f env).then g = r
  rw [h]; exact k
theorem for_ok {it : Env → Res (List D)} {g : D → Env → Option Env} {b : Env → SRes} {env e : Env} {ds : List D} {r : SRes} (h : it env = .ok ds e) (k : forD g b ds e = r) : sFor it g b env = r := by
  unfold sFor
  rw [h]; exact k
theorem run_nx {p : SRes → Prop} {f g : Env → SRes} {env e : Env} (h : f env = .nx e) (k : p (g e)) : p (sSeq f g env) := by
  rw [seq_nx h rfl]; exact k
theorem run_for {p : SRes → Prop} {it : Env → Res (List D)} {t : D → Env → Option Env} {b g : Env → SRes} {env e1 e : Env} {ds : List D} (hi : it env = .ok ds e1) (hf : forD t b ds e1 = .nx e) (k : p (g e)) : p (sSeq (sFor it t b) g env) := run_nx (for_ok hi hf) k
/-- the outcome goes on, into Q -/
def NxP (Q : Env → Prop) (r : SRes) : Prop :=
  match r with
  | .nx e => Q e
  | .ct e => Q e
  | _ => False
@[simp] theorem NxP_nx (Q : Env → Prop) (e : Env) : NxP Q (.nx e) = Q e := rfl
@[simp] theorem NxP_ct (Q : Env → Prop) (e : Env) : NxP Q (.ct e) = Q e := rfl
/-- one turn -/
def stepD (g : D → Env → Option Env) (b : Env → SRes) (d : D) (env : Env) : SRes :=
  match g d env with
  | some e => b e
  | none => .bad
theorem step_name (i : Nat) (b : Env → SRes) (d : D) (env : Env) (h : i < env.length) : stepD (bName i) b d env = b (env.set i (.f d)) := by
  unfold stepD bName
  rw [if_pos h]
theorem stepD_eq (g : D → Env → Option Env) (b : Env → SRes) (d : D) (env : Env) : stepD g b d env = match g d env with | some e => b e | none => .bad := rfl
/-- a loop that goes through -/
theorem for_inv {g : D → Env → Option Env} {b : Env → SRes} (P : Nat → Env → Prop) : ∀ (ds : List D) (k : Nat) (env : Env), P k env → (∀ i d env, ds[i]? = some d → P (k + i) env → ∃ e e', g d env = some e ∧ (b e = .nx e' ∨ b e = .ct e') ∧ P (k + i + 1) e') → ∃ e', forD g b ds env = .nx e' ∧ P (k + ds.length) e'
  | [], k, env, h, _ => ⟨env, rfl, h⟩
  | d :: ds, k, env, h, st => by
    obtain ⟨e, e', h1, h2, h3⟩ := st 0 d env rfl h
    obtain ⟨e2, q1, q2⟩ := for_inv P ds (k + 1) e' h3 fun i d env hd hp => by
      have := st (i + 1) d env (by simpa using hd) (by rw [Nat.add_assoc k 1 i, Nat.add_comm 1 i] at hp; exact hp)
      rw [show k + 1 + i = k + (i + 1) from by omega]
      exact this
    refine ⟨e2, ?_, ?_⟩
    · show (match g d env with | none => _ | some e => _) = _
      rw [h1]
      rcases h2 with h2 | h2
      · show (match b e with | .nx e2 => forD g b ds e2 | .ct e2 => forD g b ds e2 | .bk e2 => .nx e2 | o => o) = _
        rw [h2]; exact q1
      · show (match b e with | .nx e2 => forD g b ds e2 | .ct e2 => forD g b ds e2 | .bk e2 => .nx e2 | o => o) = _
        rw [h2]; exact q1
    · rw [show k + (d :: ds).length = k + 1 + ds.length from by rw [List.length_cons]; omega]
      exact q2
/-- .. a loop over a range -/
theorem for_rng {g : D → Env → Option Env} {b : Env → SRes} {lo c : Int} {n : Nat} {env : Env} (P : Nat → Env → Prop) (h0 : P 0 env) (st : ∀ i env, i < n → P i env → ∃ e e', g (.int (lo + (i : Nat) * c)) env = some e ∧ (b e = .nx e' ∨ b e = .ct e') ∧ P (i + 1) e') : ∃ e', forD g b (rngD lo c n) env = .nx e' ∧ P n e' := by
  obtain ⟨e', h1, h2⟩ := for_inv (g := g) (b := b) P (rngD lo c n) 0 env h0 fun i d env hd hp => by
    unfold rngD at hd
    rw [List.getElem?_map] at hd
    cases k : (List.range n)[i]? with
    | none => rw [k] at hd; cases hd
    | some j =>
      rw [k] at hd; cases hd
      obtain ⟨h1, h2⟩ := List.getElem?_eq_some_iff.mp k
      rw [List.length_range] at h1
      rw [List.getElem_range] at h2
      subst h2
      rw [Nat.zero_add] at hp ⊢
      exact st i env h1 hp
  refine ⟨e', h1, ?_⟩
  have : (rngD lo c n).length = n := by unfold rngD; rw [List.length_map, List.length_range]
  rw [this, Nat.zero_add] at h2
  exact h2

theorem loop_inv {g : D → Env → Option Env} {b : Env → SRes} (P : Nat → Env → Prop) (ds : List D) (env : Env) (h0 : P 0 env) (st : ∀ i d env, ds[i]? = some d → P i env → NxP (P (i + 1)) (stepD g b d env)) : ∃ e', forD g b ds env = .nx e' ∧ P ds.length e' := by
  have := for_inv (g := g) (b := b) P ds 0 env h0 fun i d env hd hp => by
    rw [Nat.zero_add] at hp ⊢
    have k := st i d env hd hp
    unfold stepD at k
    cases e : g d env with
    | none => rw [e] at k; exact False.elim k
    | some e1 =>
      rw [e] at k
      have k : NxP (P (i + 1)) (b e1) := k
      cases e2 : b e1 with
      | nx e3 => rw [e2] at k; exact ⟨e1, e3, rfl, .inl e2, k⟩
      | ct e3 => rw [e2] at k; exact ⟨e1, e3, rfl, .inr e2, k⟩
      | _ => rw [e2] at k; exact False.elim k
  rw [Nat.zero_add] at this
  exact this
theorem rng_len (lo c : Int) (n : Nat) : (rngD lo c n).length = n := by unfold rngD; rw [List.length_map, List.length_range]
theorem rng_get {lo c : Int} {n i : Nat} {d : D} (h : (rngD lo c n)[i]? = some d) : i < n ∧ d = .int (lo + (i : Nat) * c) := by
  unfold rngD at h
  rw [List.getElem?_map] at h
  cases k : (List.range n)[i]? with
  | none => rw [k] at h; cases h
  | some j =>
    rw [k] at h; cases h
    obtain ⟨h1, h2⟩ := List.getElem?_eq_some_iff.mp k
    rw [List.length_range] at h1
    rw [List.getElem_range] at h2
    subst h2
    exact ⟨h1, rfl⟩
theorem loop_rng {g : D → Env → Option Env} {b : Env → SRes} {n : Nat} (P : Nat → Env → Prop) (env : Env) (h0 : P 0 env) (st : ∀ i env, i < n → P i env → NxP (P (i + 1)) (stepD g b (.int (i : Nat)) env)) : ∃ e', forD g b (rngD 0 1 n) env = .nx e' ∧ P n e' := by
  have := loop_inv (g := g) (b := b) P (rngD 0 1 n) env h0 fun i d env hd hp => by
    obtain ⟨h1, rfl⟩ := rng_get hd
    have := st i env h1 hp
    rw [show (0 : Int) + (i : Nat) * 1 = (i : Nat) from by omega]
    exact this
  rw [rng_len] at this
  exact this

/-! ### lists of ints -/
def LI (L : List Int) : S := .l (L.map fun i => .f (.int i))
def FI (L : List Int) : D := .lst (L.map D.int)
section
variable {L : List Int} {i k : Int} {env e : Env} {n : Nat}
theorem LI_def : LI L = .l (L.map fun i => .f (.int i)) := rfl
@[simp high] theorem LI_new : kLst kNil env = some (LI []) := rfl
theorem LI_nil : LI [] = .l [] := rfl
@[simp] theorem LI_root : rootS (LI L) = some (LI L) := rfl
@[simp] theorem LI_frz : (LI L).frz = FI L := by
  show D.lst (S.frzL (L.map fun i => .f (.int i))) = _
  rw [frzL_map]; rfl
@[simp] theorem LI_isL : S.isL (LI L) = true := rfl
theorem LI_app : appendM (LI L) [.f (.int i)] = if L.length < sizeLine then some (LI (L ++ [i]), .f .non) else none := by
  show (if (L.map fun i => S.f (.int i)).length < sizeLine then _ else _) = _
  rw [List.length_map]
  congr 2
  unfold LI
  rw [List.map_append]
  rfl
theorem LI_pop : popM (LI L) [] = L.getLast?.map fun i => (LI L.dropLast, S.f (.int i)) := by
  show (L.map fun i => S.f (.int i)).getLast?.map (fun y => (S.l (L.map fun i => S.f (.int i)).dropLast, y)) = _
  rw [List.getLast?_map, ← List.map_dropLast]
  cases L.getLast? <;> rfl
theorem len_LI : lenL [LI L] = some (.f (.int L.length)) := by
  show some (S.f (.int ((L.map fun i => S.f (.int i)).length : Nat))) = _
  rw [List.length_map]
theorem len_FI : lenL [.f (FI L)] = some (.f (.int L.length)) := by
  show some (S.f (.int (((L.map D.int).map S.f).length : Nat))) = _
  rw [List.length_map, List.length_map]
@[simp] theorem x_intC : intC [.f (.int i)] = some (.f (.int i)) := rfl
@[simp] theorem x_intB (b : Bool) : intC [.f (.bl b)] = some (.f (.int (if b then 1 else 0))) := rfl
@[simp] theorem LI_mut0 {h : S → Option (S × S)} : mutE 0 [] h (LI L :: e) = (h (LI L)).map fun yz : S × S => (yz.2, yz.1 :: e) := rfl
@[simp] theorem LI_lend : lend1 .bw (some (LI L)) = true := rfl
@[simp] theorem LI_wrap (o : S) : wrapAs (LI L) o = o := rfl
@[simp] theorem LI_use : eUse 0 (LI L :: e) = .ok (.f (FI L)) (.f (FI L) :: e) := by
  show eUse 0 (.l (L.map fun i => .f (.int i)) :: e) = _
  rw [x_use0l]
  have := LI_frz (L := L)
  rw [show (S.l (L.map fun i => S.f (.int i))).frz = FI L from this]
@[simp] theorem LI_mv : eMove 0 (LI L :: e) = .ok (LI L) (.u :: e) := rfl
theorem at_nat {α : Type} (xs : List α) (k : Nat) : atI xs (k : Int) = xs[k]? := by
  unfold atI ixN
  rw [if_pos (Int.natCast_nonneg k)]
  by_cases h : k < xs.length
  · rw [if_pos (by omega)]; rfl
  · rw [if_neg (by omega), List.getElem?_eq_none (by omega)]; rfl
theorem ix_it {s : S} {ss : List S} (h : s.it = some ss) (k : Nat) : ixS s (.f (.int k)) = ss[k]? := by
  have : ixI s (k : Int) = s.it.bind fun ss => atI ss (k : Int) := by
    unfold ixI
    split
    · cases h
    · rfl
  show ixI s (k : Int) = _
  rw [this, h]
  exact at_nat ss k
theorem ix_LI {k : Nat} {x : Int} (h : L[k]? = some x) : ixS (LI L) (.f (.int k)) = some (.f (.int x)) := by
  rw [ix_it (s := LI L) (ss := L.map fun i => .f (.int i)) rfl, List.getElem?_map, h]; rfl
theorem ix_FI {k : Nat} {x : Int} (h : L[k]? = some x) : ixS (.f (FI L)) (.f (.int k)) = some (.f (.int x)) := by
  rw [ix_it (s := .f (FI L)) (ss := (L.map D.int).map S.f) rfl, List.getElem?_map, List.getElem?_map, h]; rfl
theorem ix_scr {k : Nat} {x : Int} (h : L[k]? = some x) : ixS (.f (.scr (L.map D.int))) (.f (.int k)) = some (.f (.int x)) := by
  rw [ix_it (s := .f (.scr (L.map D.int))) (ss := (L.map D.int).map S.f) rfl, List.getElem?_map, List.getElem?_map, h]; rfl
theorem len_scr : lenL [.f (.scr (L.map D.int))] = some (.f (.int L.length)) := by
  show some (S.f (.int (((L.map D.int).map S.f).length : Nat))) = _
  rw [List.length_map, List.length_map]
theorem r1_ok {j : Int} (h : j.natAbs < 4611686018427387904) : r1D [.int j] = some (rngD 0 1 j.toNat) := by
  show (if okR j then _ else _) = _
  rw [if_pos (by unfold okR; exact decide_eq_true h)]
@[simp] theorem frzL0 : S.frzL [] = [] := rfl
@[simp] theorem frzLc (s : S) (ss : List S) : S.frzL (s :: ss) = s.frz :: S.frzL ss := rfl
@[simp] theorem eq_int (i j : Int) : eqS (.f (.int i)) (.f (.int j)) = some (.f (.bl (decide (i = j)))) := rfl
@[simp] theorem ne_int (i j : Int) : neS (.f (.int i)) (.f (.int j)) = some (.f (.bl (!decide (i = j)))) := rfl
@[simp] theorem eq_str (i j : Str) : eqS (.f (.str i)) (.f (.str j)) = some (.f (.bl (decide (i = j)))) := rfl
@[simp] theorem ne_str (i j : Str) : neS (.f (.str i)) (.f (.str j)) = some (.f (.bl (!decide (i = j)))) := rfl
end
end Dn

/-! Dx3: the mirrors, run by rewriting: comprehensions. -/
namespace Dn
open PySem PySem.Spec PyProof.Rows L2
def OkP {α : Type} (Q : α → Env → Prop) (r : Res α) : Prop :=
  match r with
  | .ok a e => Q a e
  | _ => False
@[simp] theorem OkP_ok {α : Type} (Q : α → Env → Prop) (a : α) (e : Env) : OkP Q (.ok a e) = Q a e := rfl
def lcStep (g : D → Option (List D)) (is : List Nat) (tt : Env → Res Bool) (te : Env → Res S) (vs : List Nat) (d : D) (e : Env) : Res (Option S) :=
  match g d with
  | none => .bad
  | some l => match tt (setsD is l e) with
    | .ok true e2 => match te e2 with
      | .ok s e3 => match dropB vs e3 with
        | some e4 => .ok (some s) e4
        | none => .bad
      | _ => .bad
    | .ok false e2 => match dropB vs e2 with
      | some e4 => .ok none e4
      | none => .bad
    | _ => .bad
section
variable {g : D → Option (List D)} {is : List Nat} {tt : Env → Res Bool} {te : Env → Res S} {vs : List Nat}
theorem lcD_cons (d : D) (ds : List D) (acc : List S) (e : Env) : lcD g is tt te vs (d :: ds) acc e = match lcStep g is tt te vs d e with
    | .ok o e4 => lcD g is tt te vs ds (acc ++ o.toList) e4
    | _ => .bad := by
  simp only [lcD, lcStep]
  cases g d with
  | none => rfl
  | some l =>
    simp only []
    cases tt (setsD is l e) with
    | ok c e2 =>
      cases c with
      | true =>
        simp only []
        cases te e2 with
        | ok s e3 => simp only []; cases dropB vs e3 <;> rfl
        | exc _ _ _ => rfl
        | bad => rfl
      | false =>
        simp only []
        cases dropB vs e2 with
        | none => rfl
        | some e4 => simp
    | exc _ _ _ => rfl
    | bad => rfl
theorem lc_inv (P : Nat → List S → Env → Prop) : ∀ (ds : List D) (k : Nat) (acc : List S) (e : Env), P k acc e → (∀ i d acc e, ds[i]? = some d → P (k + i) acc e → OkP (fun o e' => P (k + i + 1) (acc ++ o.toList) e') (lcStep g is tt te vs d e)) → ∃ ss e', lcD g is tt te vs ds acc e = .ok ss e' ∧ P (k + ds.length) ss e'
  | [], k, acc, e, h, _ => ⟨acc, e, rfl, h⟩
  | d :: ds, k, acc, e, h, st => by
    have s0 := st 0 d acc e rfl h
    rw [lcD_cons]
    cases q : lcStep g is tt te vs d e with
    | ok o e4 =>
      rw [q] at s0
      obtain ⟨ss, e', h1, h2⟩ := lc_inv P ds (k + 1) (acc ++ o.toList) e4 s0 fun i d acc e hd hp => by
        have := st (i + 1) d acc e (by simpa using hd) (by rw [show k + (i + 1) = k + 1 + i from by omega]; exact hp)
        rw [show k + 1 + i = k + (i + 1) from by omega]
        exact this
      refine ⟨ss, e', h1, ?_⟩
      rw [show k + (d :: ds).length = k + 1 + ds.length from by rw [List.length_cons]; omega]
      exact h2
    | exc _ _ _ => rw [q] at s0; exact False.elim s0
    | bad => rw [q] at s0; exact False.elim s0
theorem lc_rng {n : Nat} (P : Nat → List S → Env → Prop) (e : Env) (h0 : P 0 [] e) (st : ∀ i acc e, i < n → P i acc e → OkP (fun o e' => P (i + 1) (acc ++ o.toList) e') (lcStep g is tt te vs (.int (i : Nat)) e)) : ∃ ss e', lcD g is tt te vs (rngD 0 1 n) [] e = .ok ss e' ∧ P n ss e' := by
  have := lc_inv (g := g) (is := is) (tt := tt) (te := te) (vs := vs) P (rngD 0 1 n) 0 [] e h0 fun i d acc e hd hp => by
    obtain ⟨h1, rfl⟩ := rng_get hd
    rw [Nat.zero_add] at hp ⊢
    have := st i acc e h1 hp
    rw [show (0 : Int) + (i : Nat) * 1 = (i : Nat) from by omega]
    exact this
  rw [rng_len, Nat.zero_add] at this
  exact this
theorem lc_all (ds : List D) (P : Nat → List S → Env → Prop) (e : Env) (h0 : P 0 [] e) (st : ∀ i d acc e, ds[i]? = some d → P i acc e → OkP (fun o e' => P (i + 1) (acc ++ o.toList) e') (lcStep g is tt te vs d e)) : ∃ ss e', lcD g is tt te vs ds [] e = .ok ss e' ∧ P ds.length ss e' := by
  have := lc_inv (g := g) (is := is) (tt := tt) (te := te) (vs := vs) P ds 0 [] e h0 fun i d acc e hd hp => by
    rw [Nat.zero_add] at hp ⊢
    exact st i d acc e hd hp
  rw [Nat.zero_add] at this
  exact this
theorem x_eLc {it : Env → Res (List D)} {env : Env} : eLc it g is tt te vs env = (it env).bind fun ds e => if ds.length ≤ sizeLine then match dropB vs e with
    | some e1 => match lcD g is tt te vs ds [] e1 with
      | .ok ss e2 => .ok (.l ss) (backB vs e e2)
      | _ => .bad
    | none => .bad
  else .bad := rfl
end
@[simp] theorem x_setsF0 (f : Nat → S) (e : Env) : setsF f [] e = e := rfl
@[simp] theorem x_setsFS (f : Nat → S) (i : Nat) (r : List Nat) (e : Env) : setsF f (i :: r) e = (setsF f r e).set i (f i) := rfl
theorem x_dropB (vs : List Nat) (e : Env) : dropB vs e = if clearOk vs e then some (setsF (fun _ => .u) vs e) else none := rfl
theorem x_clear (vs : List Nat) (e : Env) : clearOk vs e = vs.all fun i => match e[i]? with
  | some (.f _) => true
  | some .u => true
  | _ => false := rfl
theorem x_backB (vs : List Nat) (e0 e : Env) : backB vs e0 e = setsF (fun i => (e0[i]?).getD .u) vs e := rfl
@[simp] theorem x_b1 (d : D) : b1 d = some [d] := rfl
@[simp] theorem x_setsD0 (e : Env) : setsD [] [] e = e := rfl
@[simp] theorem x_setsDS (i : Nat) (is : List Nat) (d : D) (ds : List D) (e : Env) : setsD (i :: is) (d :: ds) e = setsD is ds (e.set i (.f d)) := rfl
@[simp] theorem x_tTrue (e : Env) : tTrue e = .ok true e := rfl
end Dn

/-! Dx4: the mirrors, run by rewriting: fields, stores, lists of ints and None. -/
namespace Dn
open PySem PySem.Spec PyProof.Rows L2
@[simp] theorem eq_bl (a b : Bool) : eqS (.f (.bl a)) (.f (.bl b)) = some (.f (.bl (a == b))) := by cases a <;> cases b <;> rfl
@[simp] theorem is_non (d : D) : isNS (.f d) (.f .non) = some (.f (.bl (match d with | .non => true | _ => false))) := by cases d <;> rfl
@[simp] theorem isnot_non (d : D) : notNS (.f d) (.f .non) = some (.f (.bl (match d with | .non => false | _ => true))) := by cases d <;> rfl
@[simp] theorem isnot_l (ss : List S) : notNS (.l ss) (.f .non) = some (.f (.bl true)) := rfl
section
variable {i c j n : Nat} {s : S} {e env : Env} {h : S → Option S} {r : List Nat} {d : D}
theorem x_mutF0w {ss : List S} : mutF 0 [] h (.w (.o c ss) :: e) = (h (.o c ss)).map fun y => .w y :: e := rfl
theorem x_mutF0 {ss : List S} : mutF 0 [] h (.o c ss :: e) = (h (.o c ss)).map fun y => y :: e := rfl
theorem x_mutFS : mutF (i + 1) r h (s :: e) = (mutF i r h e).map fun e2 => s :: e2 := by
  unfold mutF
  rw [List.getElem?_cons_succ]
  cases e[i]? with
  | none => rfl
  | some x =>
    have key : ∀ u : Option S, (match u with | some s0 => (match getP s0 r with | some x0 => (h x0).map fun y => (s :: e).set (i + 1) (wrapAs x (setP s0 r y)) | none => none) | none => none) = (match u with | some s0 => (match getP s0 r with | some x0 => (h x0).map fun y => e.set i (wrapAs x (setP s0 r y)) | none => none) | none => none).map fun e2 => s :: e2 := fun u => by
      cases u with
      | none => rfl
      | some s0 =>
        have key2 : ∀ u2 : Option S, (match u2 with | some x0 => (h x0).map fun y => (s :: e).set (i + 1) (wrapAs x (setP s0 r y)) | none => none) = (match u2 with | some x0 => (h x0).map fun y => e.set i (wrapAs x (setP s0 r y)) | none => none).map fun e2 => s :: e2 := fun u2 => by
          cases u2 with
          | none => rfl
          | some x0 => show (h x0).map _ = ((h x0).map _).map _; cases h x0 <;> rfl
        exact key2 (getP s0 r)
    exact key (mutS x)
theorem x_setFld (ss : List S) (y : S) : setFld c j y (.o c ss) = if j < ss.length then some (.o c (ss.set j y)) else if j = ss.length then some (.o c (ss ++ [y])) else none := by
  unfold setFld
  exact if_pos rfl
theorem x_sFldS {pf : Env → Option (List Nat)} {f : Env → Res S} : sFldS i c j pf f env = match f env with
  | .ok s e => match (pf e).bind fun r => mutF i r (setFld c j s) e with
    | some e2 => .nx e2
    | none => .bad
  | .exc c ds e => .exc c ds e
  | .bad => .bad := rfl
theorem x_augFld {a : Int → Int → Int} (k : Int) (x : S) : augFld a c j k x = match fldS c j x with
  | some (.f (.int m)) => setFld c j (.f (.int (a m k))) x
  | _ => none := rfl
theorem x_sFldAug {a : Int → Int → Int} {pf : Env → Option (List Nat)} {g : Env → Option S} : sFldAug' a i c j pf g env = match pf env, (g env).bind intS with
  | some r, some n => match mutF i r (augFld a c j n) env with
    | some e2 => .nx e2
    | none => .bad
  | _, _ => .bad := rfl
theorem x_bSub {pf : Env → Option (List Nat)} {g : Env → Option S} : bSub i pf g d env = match pf env, (g env).bind intS with
  | some r, some k => mutN i r (setM k d) env
  | _, _ => none := rfl
theorem x_mutN : mutN i r h env = (mutE i r (fun x => (h x).map fun y => (y, .u)) env).map (·.2) := rfl
end
theorem for_to {g : D → Env → Option Env} {b : Env → SRes} (P : Nat → Env → Prop) : ∀ (n : Nat) (ds : List D) (k : Nat) (env : Env), n ≤ ds.length → P k env → (∀ i d env, i < n → ds[i]? = some d → P (k + i) env → NxP (P (k + i + 1)) (stepD g b d env)) → ∃ e', forD g b ds env = forD g b (ds.drop n) e' ∧ P (k + n) e'
  | 0, ds, k, env, _, h, _ => ⟨env, by rw [List.drop_zero], h⟩
  | n + 1, [], k, env, hl, h, st => by simp at hl
  | n + 1, d :: ds, k, env, hl, h, st => by
    have s0 := st 0 d env (by omega) rfl h
    unfold stepD at s0
    cases e : g d env with
    | none => rw [e] at s0; exact False.elim s0
    | some e1 =>
      rw [e] at s0
      have s0 : NxP (P (k + 1)) (b e1) := s0
      have next : ∀ e2, P (k + 1) e2 → ∃ e', forD g b ds e2 = forD g b ((d :: ds).drop (n + 1)) e' ∧ P (k + (n + 1)) e' := fun e2 p2 => by
        obtain ⟨e', q1, q2⟩ := for_to P n ds (k + 1) e2 (by simpa using hl) p2 fun i d env hi hd hp => by
          have := st (i + 1) d env (by omega) (by simpa using hd) (by rw [show k + (i + 1) = k + 1 + i from by omega]; exact hp)
          rw [show k + 1 + i = k + (i + 1) from by omega]
          exact this
        refine ⟨e', q1, ?_⟩
        rw [show k + (n + 1) = k + 1 + n from by omega]
        exact q2
      have un : forD g b (d :: ds) env = match b e1 with | .nx e2 => forD g b ds e2 | .ct e2 => forD g b ds e2 | .bk e2 => .nx e2 | o => o := by
        show (match g d env with | none => _ | some e => _) = _
        first | (rw [e]; done) | (rw [e]; rfl)
      rw [un]
      cases e2 : b e1 with
      | nx e3 => rw [e2] at s0; exact next e3 s0
      | ct e3 => rw [e2] at s0; exact next e3 s0
      | _ => rw [e2] at s0; exact False.elim s0
/-- a turn that leaves the def -/
theorem for_rt {g : D → Env → Option Env} {b : Env → SRes} {d : D} {ds : List D} {env e : Env} {s : S} (h : stepD g b d env = .rt s e) : forD g b (d :: ds) env = .rt s e := by
  unfold stepD at h
  show (match g d env with | none => _ | some e => _) = _
  cases k : g d env with
  | none => rw [k] at h; cases h
  | some e1 =>
    rw [k] at h
    have h : b e1 = .rt s e := h
    show (match b e1 with | .nx e2 => forD g b ds e2 | .ct e2 => forD g b ds e2 | .bk e2 => .nx e2 | o => o) = _
    rw [h]
theorem run_ret {p : SRes → Prop} {it : Env → Res (List D)} {t : D → Env → Option Env} {b g : Env → SRes} {env e1 e : Env} {ds : List D} {s : S} (hi : it env = .ok ds e1) (hf : forD t b ds e1 = .rt s e) (k : p (.rt s e)) : p (sSeq (sFor it t b) g env) := by
  have : sSeq (sFor it t b) g env = .rt s e := by
    show (sFor it t b env).then g = _
    rw [for_ok hi hf]
    rfl
  rw [this]; exact k
/-! ### lists of ints and None -/
def oD : Option Int → D
  | none => .non
  | some i => .int i
def SL (X : List (Option Int)) : S := .l (X.map fun o => .f (oD o))
section
variable {X : List (Option Int)} {L : List Int} {e : Env} {k : Nat} {n : Int}
@[simp] theorem oD_none : oD none = .non := rfl
@[simp] theorem oD_some (i : Int) : oD (some i) = .int i := rfl
@[simp] theorem SL_root : rootS (SL X) = some (SL X) := rfl
@[simp] theorem SL_isL : S.isL (SL X) = true := rfl
@[simp] theorem SL_frz : (SL X).frz = .lst (X.map oD) := by
  show D.lst (S.frzL (X.map fun i => .f (oD i))) = _
  rw [frzL_map]
theorem len_SL : lenL [SL X] = some (.f (.int X.length)) := by
  show some (S.f (.int ((X.map fun i => S.f (oD i)).length : Nat))) = _
  rw [List.length_map]
theorem len_lst (ds : List D) : lenL [.f (.lst ds)] = some (.f (.int ds.length)) := by
  show some (S.f (.int ((ds.map S.f).length : Nat))) = _
  rw [List.length_map]
theorem ix_SL {o : Option Int} (h : X[k]? = some o) : ixS (SL X) (.f (.int k)) = some (.f (oD o)) := by
  rw [ix_it (s := SL X) (ss := X.map fun o => .f (oD o)) rfl, List.getElem?_map, h]; rfl
theorem ix_lst {ds : List D} {d : D} (h : ds[k]? = some d) : ixS (.f (.lst ds)) (.f (.int k)) = some (.f d) := by
  rw [ix_it (s := .f (.lst ds)) (ss := ds.map S.f) rfl, List.getElem?_map, h]; rfl
theorem ixN_nat {m k : Nat} (h : k < m) : ixN m (k : Int) = some k := by
  unfold ixN
  rw [if_pos (Int.natCast_nonneg k), if_pos (by omega), Int.toNat_natCast]
theorem set_SL {o : Option Int} (h : k < X.length) : setM (k : Int) (oD o) (SL X) = some (SL (X.set k o)) := by
  show (ixN (X.map fun o => S.f (oD o)).length (k : Int)).map (fun j => S.l ((X.map fun o => S.f (oD o)).set j (.f (oD o)))) = _
  rw [List.length_map, ixN_nat h]
  show some (S.l ((X.map fun o => S.f (oD o)).set k (.f (oD o)))) = _
  unfold SL
  rw [List.map_set]
@[simp] theorem SL_mut0 {h : S → Option (S × S)} : mutE 0 [] h (SL X :: e) = (h (SL X)).map fun yz => (yz.2, yz.1 :: e) := rfl
@[simp] theorem SL_mv : eMove 0 (SL X :: e) = .ok (SL X) (.u :: e) := rfl
theorem rep_non {m : Nat} (h : m ≤ 1000000) : repL (.l [.f .non]) (.f (.int m)) = some (SL (List.replicate m none)) := by
  show (if (m : Int).natAbs < 9223372036854775808 ∧ 1 * (m : Int).toNat ≤ sizeLine then some (S.l ((List.replicate (m : Int).toNat [D.non]).flatten.map S.f)) else none) = _
  have hz : sizeLine = 16777216 := rfl
  rw [if_pos (by rw [hz]; omega), Int.toNat_natCast]
  unfold SL
  congr 2
  rw [List.map_replicate]
  induction m with
  | zero => rfl
  | succ m ih =>
    rw [List.replicate_succ, List.flatten_cons, List.map_append, ih (by omega), List.replicate_succ]
    rfl
theorem LI_cat {A B : List Int} (h : A.length + B.length ≤ 1000000) : addS (LI A) (LI B) = some (LI (A ++ B)) := by
  have h1 : addS (LI A) (LI B) = (catL (LI A) (LI B)).or (catT (LI A) (LI B)) := rfl
  have h2 : catL (LI A) (LI B) = some (LI (A ++ B)) := by
    show (match fzs (A.map fun i => S.f (.int i)), fzs (B.map fun i => S.f (.int i)) with
      | some xs, some ys => if xs.length + ys.length ≤ sizeLine then some (S.l ((xs ++ ys).map .f)) else none
      | _, _ => none) = _
    rw [fzs_mapf, fzs_mapf]
    show (if (A.map D.int).length + (B.map D.int).length ≤ sizeLine then some (S.l ((A.map D.int ++ B.map D.int).map .f)) else none) = _
    have hz : sizeLine = 16777216 := rfl
    rw [List.length_map, List.length_map, if_pos (by rw [hz]; omega), ← List.map_append, List.map_map]
    rfl
  rw [h1, h2]; rfl
theorem LI_fz : (LI L).fz = some (L.map D.int) := by
  show fzs (L.map fun i => .f (.int i)) = _
  rw [fzs_mapf]
end
end Dn

/-! Dx5: equality of lists of ints. -/
namespace Dn
open PySem PySem.Spec PyProof.Rows L2
theorem toPL_ints : ∀ L : List Int, D.toPL (L.map D.int) = some (L.map PyData.int)
  | [] => rfl
  | x :: r => by
    rw [List.map_cons, D.toPL, toPL_ints r]
    rfl
theorem toP_LI (L : List Int) : (LI L).toP = some (.list (L.map PyData.int)) := by
  show (match fzs (L.map fun i => S.f (.int i)) with | some ds => (D.toPL ds).map PyData.list | none => none) = _
  rw [fzs_mapf]
  show (D.toPL (L.map D.int)).map PyData.list = _
  rw [toPL_ints]; rfl
theorem toP_FI (L : List Int) : (S.f (FI L)).toP = some (.list (L.map PyData.int)) := by
  show (D.toPL (L.map D.int)).map PyData.list = _
  rw [toPL_ints]; rfl
theorem eqvAll_ints : ∀ A B : List Int, PyData.eqvAll (A.map PyData.int) (B.map PyData.int) = decide (A = B)
  | [], [] => by simp [PyData.eqvAll]
  | [], b :: B => by simp [PyData.eqvAll]
  | a :: A, [] => by simp [PyData.eqvAll]
  | a :: A, b :: B => by
    rw [List.map_cons, List.map_cons, PyData.eqvAll, eqvAll_ints A B, PyData.eqv]
    by_cases h : a = b
    · subst h; simp
    · simp [h]
theorem lay_ints : ∀ L : List Int, PyData.canLayAll0 (L.map PyData.int) = true
  | [] => by rw [List.map_nil, PyData.canLayAll0]
  | x :: r => by rw [List.map_cons, PyData.canLayAll0, lay_ints r, PyData.canLay0]; rfl
theorem depth_ints : ∀ L : List Int, PyData.depthAll (L.map PyData.int) = 0
  | [] => by rw [List.map_nil, PyData.depthAll]
  | x :: r => by rw [List.map_cons, PyData.depthAll, depth_ints r, PyData.depth]; rfl
theorem shaped_ints (L : List Int) : SeqAt.shaped (.list (L.map PyData.int)) = true := by
  unfold SeqAt.shaped
  rw [PyData.canLay0, lay_ints, PyData.depth, depth_ints]
  decide
theorem eqP_LI (A B : List Int) : eqP (LI A) (LI B) = some (decide (A = B)) := by
  have h : eqP (LI A) (LI B) = match (LI A).toP, (LI B).toP with
    | some x, some y => if SeqAt.shaped x && SeqAt.shaped y then some (PyData.eqv x y) else none
    | _, _ => none := rfl
  rw [h, toP_LI, toP_LI]
  show (if SeqAt.shaped (.list (A.map PyData.int)) && SeqAt.shaped (.list (B.map PyData.int)) then some (PyData.eqv (.list (A.map PyData.int)) (.list (B.map PyData.int))) else none) = _
  rw [shaped_ints, shaped_ints]
  show some (PyData.eqvAll (A.map PyData.int) (B.map PyData.int)) = _
  rw [eqvAll_ints]
theorem ne_LI (A B : List Int) : neS (LI A) (LI B) = some (.f (.bl (!decide (A = B)))) := by unfold neS; rw [eqP_LI]; rfl
theorem eq_LI (A B : List Int) : eqS (LI A) (LI B) = some (.f (.bl (decide (A = B)))) := by unfold eqS; rw [eqP_LI]; rfl
end Dn

namespace K60
open PySem PySem.Spec PyProof.Rows L2 Dn
def top (i : Nat) : Stmt := PySem.Challenge.pw_betweenanytwosteps_k60_whole_rings_word.main.body.getD i (.Pass ⟨0, 0, 0, 0⟩)
abbrev s_RingPlay_init : Stmt := inClass (top 1) 0
abbrev s_may_put : Stmt := top 2
abbrev s_may_take : Stmt := top 3
abbrev s_put_word : Stmt := top 4
abbrev s_take_word : Stmt := top 5
abbrev s_handler_block : Stmt := top 6
abbrev s_word_step : Stmt := top 7
abbrev s_main_step : Stmt := top 8
abbrev s_ring_played : Stmt := top 9
abbrev s_ring_fault : Stmt := top 10
abbrev s__law_tape : Stmt := top 12
abbrev s__law_draw : Stmt := top 13
abbrev s__law_cells : Stmt := top 14
abbrev s__law_words : Stmt := top 15
abbrev s__law_blocks : Stmt := top 16
abbrev s__law_is : Stmt := top 17
abbrev s__law_same : Stmt := top 18
abbrev s__law_counts : Stmt := top 19
abbrev s__law_slots : Stmt := top 20
abbrev s__law_right : Stmt := top 21
abbrev s__law_spoilt : Stmt := top 22
abbrev s_law : Stmt := top 23
/-! ### what each def computes -/
-- RingPlay_init(self:bw, places:rd); slots: 0=self 1=places
def b_RingPlay_init : Dn.Env → SRes :=
 (sSeq (sFldS 0 0 0 (pVar 0) (eK (kLst kNil)))
 (sSeq (sFldS 0 0 1 (pVar 0) (vK (kC (.int 0))))
 (sSeq (sFldS 0 0 2 (pVar 0) (vK (kC (.int 0))))
 (sSeq (sFldS 0 0 3 (pVar 0) (vK (kC (.int 0))))
 (sFldS 0 0 4 (pVar 0) (eK (kOp2 repL (kLst (kCons (pK (kC .non)) kNil)) (kVar 1))))))))
def m_RingPlay_init : List S → Fo := fnC [.bw, .rd] 2 b_RingPlay_init
-- may_put(play:rd, words:rd); slots: 0=play 1=words
def b_may_put : Dn.Env → SRes :=
 (sRet (eAnd (vK (kOp2 ltS (kOp2 subS (kFld 0 1 (kVar 0)) (kFld 0 2 (kVar 0))) (kFn lenL (kCons (kFld 0 4 (kVar 0)) kNil)))) (vK (kOp2 ltS (kFld 0 1 (kVar 0)) (kFn lenL (kCons (kVar 1) kNil))))))
def m_may_put : List S → Fo := fnC [.rd, .rd] 2 b_may_put
-- may_take(play:rd); slots: 0=play
def b_may_take : Dn.Env → SRes :=
 (sRet (vK (kOp2 ltS (kFld 0 2 (kVar 0)) (kFld 0 1 (kVar 0)))))
def m_may_take : List S → Fo := fnC [.rd] 1 b_may_take
-- put_word(play:bw, number:rd, words:rd); slots: 0=play 1=number 2=words
def b_put_word : Dn.Env → SRes :=
 (sAsg (vK (kOp2 ixS (kVar 2) (kVar 1))) (bSub 0 (pFld 0 0 4 (pVar 0)) (kOp2 modS (kVar 1) (kFn lenL (kCons (kFld 0 4 (kVar 0)) kNil)))))
def m_put_word : List S → Fo := fnC [.bw, .rd, .rd] 3 b_put_word
-- take_word(play:bw, number:rd); slots: 0=play 1=number
def b_take_word : Dn.Env → SRes :=
 (sExpr (eMutP 0 (pFld 0 0 0 (pVar 0)) appendM (kCons (pK (kOp2 ixS (kFld 0 4 (kVar 0)) (kOp2 modS (kVar 1) (kFn lenL (kCons (kFld 0 4 (kVar 0)) kNil))))) kNil)))
def m_take_word : List S → Fo := fnC [.bw, .rd] 2 b_take_word
-- handler_block(play:bw, side:rd, words:rd); slots: 0=play 1=side 2=words
def b_handler_block : Dn.Env → SRes :=
 (sIf (tK (kOp2 eqS (kVar 1) (kC (.str "takes"))))
 (sIf (tE (eCall m_may_put [some 0, some 2] [.rd, .rd] (aVar 0 (aVar 2 aNil))))
 (sSeq (sExpr (eCall m_put_word [some 0, none, some 2] [.bw, .rd, .rd] (aVar 0 (aVal (vK (kFld 0 1 (kVar 0))) (aVar 2 aNil)))))
 (sFldAug' (fun i j => i + j) 0 0 1 (pVar 0) (kC (.int 1))))
 sNil)
 (sIf (tE (eCall m_may_take [some 0] [.rd] (aVar 0 aNil)))
 (sSeq (sExpr (eCall m_take_word [some 0, none] [.bw, .rd] (aVar 0 (aVal (vK (kFld 0 2 (kVar 0))) aNil))))
 (sFldAug' (fun i j => i + j) 0 0 2 (pVar 0) (kC (.int 1))))
 sNil))
def m_handler_block : List S → Fo := fnC [.bw, .rd, .rd] 3 b_handler_block
-- word_step(play:bw, side:rd, order:rd, words:rd); slots: 0=play 1=side 2=order 3=words 4=back
def b_word_step : Dn.Env → SRes :=
 (sSeq (sSet 4 (eIf (tK (kOp2 eqS (kVar 2) (kC (.str "count")))) (vK (kC (.int 1))) (vK (kC (.int 0)))))
 (sIf (tK (kOp2 eqS (kVar 1) (kC (.str "takes"))))
 (sExpr (eCall m_take_word [some 0, none] [.bw, .rd] (aVar 0 (aVal (eK (kOp2 subS (kFld 0 2 (kVar 0)) (kVar 4))) aNil))))
 (sExpr (eCall m_put_word [some 0, none, some 3] [.bw, .rd, .rd] (aVar 0 (aVal (eK (kOp2 subS (kFld 0 1 (kVar 0)) (kVar 4))) (aVar 3 aNil)))))))
def m_word_step : List S → Fo := fnC [.bw, .rd, .rd, .rd] 5 b_word_step
-- main_step(play:bw, side:rd, order:rd, words:rd); slots: 0=play 1=side 2=order 3=words 4=ready
def b_main_step : Dn.Env → SRes :=
 (sSeq (sIf (tK (kOp2 eqS (kFld 0 3 (kVar 0)) (kC (.int 0))))
 (sSeq (sSet 4 (eIf (tK (kOp2 eqS (kVar 1) (kC (.str "takes")))) (eCall m_may_take [some 0] [.rd] (aVar 0 aNil)) (eCall m_may_put [some 0, some 3] [.rd, .rd] (aVar 0 (aVar 3 aNil)))))
 (sSeq (sFldS 0 0 3 (pVar 0) (eIf (tK (kVar 4)) (vK (kC (.int 1))) (vK (kC (.int 0)))))
 sRetN))
 sNil)
 (sSeq (sIf (tK (kOp2 eqS (kOp2 eqS (kFld 0 3 (kVar 0)) (kC (.int 1))) (kOp2 eqS (kVar 2) (kC (.str "word")))))
 (sExpr (eCall m_word_step [some 0, some 1, some 2, some 3] [.bw, .rd, .rd, .rd] (aVar 0 (aVar 1 (aVar 2 (aVar 3 aNil))))))
 (sIf (tK (kOp2 eqS (kVar 1) (kC (.str "takes"))))
 (sFldAug' (fun i j => i + j) 0 0 2 (pVar 0) (kC (.int 1)))
 (sFldAug' (fun i j => i + j) 0 0 1 (pVar 0) (kC (.int 1)))))
 (sFldS 0 0 3 (pVar 0) (eIf (tK (kOp2 eqS (kFld 0 3 (kVar 0)) (kC (.int 1)))) (vK (kC (.int 2))) (vK (kC (.int 0)))))))
def m_main_step : List S → Fo := fnC [.bw, .rd, .rd, .rd] 5 b_main_step
-- ring_played(places:rd, side:rd, order:rd, blocks:rd, words:rd); slots: 0=places 1=side 2=order 3=blocks 4=words 5=play 6=many 7=_
def l_ring_played_47 : Dn.Env → SRes :=
 (sExpr (eCall m_handler_block [some 5, some 1, some 4] [.bw, .rd, .rd] (aVar 5 (aVar 1 (aVar 4 aNil)))))
def l_ring_played_46 : Dn.Env → SRes :=
 (sSeq (sFor (iA r1D (eCons (eUse 6) eNil)) (bName 7)
 l_ring_played_47)
 (sExpr (eCall m_main_step [some 5, some 1, some 2, some 4] [.bw, .rd, .rd, .rd] (aVar 5 (aVar 1 (aVar 2 (aVar 4 aNil)))))))
def b_ring_played : Dn.Env → SRes :=
 (sSeq (sSet 5 (eMake 0 m_RingPlay_init [some 0] [.rd] (aVar 0 aNil)))
 (sSeq (sFor (iR 3) (bName 6)
 l_ring_played_46)
 (sRet (eMove 5))))
def m_ring_played : List S → Fo := fnC [.rd, .rd, .rd, .rd, .rd] 8 b_ring_played
-- ring_fault(words:rd, taken:v); slots: 0=words 1=taken 2=index 3=word
def l_ring_fault_52 : Dn.Env → SRes :=
 (sIf (tOrD (tK (kOp2 geS (kVar 2) (kFn lenL (kCons (kVar 0) kNil)))) (tK (kOp2 neS (kVar 3) (kOp2 ixS (kVar 0) (kVar 2)))))
 (sRet (eMove 2))
 sNil)
def b_ring_fault : Dn.Env → SRes :=
 (sSeq (sFor (iA enD (eCons (eUse 1) eNil)) (bTup 2 (bsCons (bName 2) (bsCons (bName 3) bsNil)))
 l_ring_fault_52)
 (sRet (vK (kC .non))))
def m_ring_fault : List S → Fo := fnC [.rd, .v] 4 b_ring_fault
-- _law_tape(script:rd); slots: 0=script 1=rows 2=seed 3=k 4=cell 5=turn 6=first
def l__law_tape_60 : Dn.Env → SRes :=
 (sIf (tK (kOp2 ltS (kVar 3) (kFn lenL (kCons (kVar 0) kNil))))
 (sSet 2 (eK (kOp2 modS (kFn intC (kCons (kOp2 addS (kOp2 mulS (kVar 2) (kC (.int 31))) (kOp2 ixS (kVar 0) (kVar 3))) kNil)) (kC (.int 2147483647)))))
 sNil)
def l__law_tape_63 : Dn.Env → SRes :=
 (sSeq (sSet 2 (eK (kOp2 modS (kFn intC (kCons (kOp2 addS (kOp2 addS (kOp2 mulS (kVar 2) (kC (.int 48271))) (kOp2 mulS (kC (.int 7)) (kVar 3))) (kC (.int 3))) kNil)) (kC (.int 2147483647)))))
 (sExpr (eMutV 1 appendM (eCons (eK (kOp2 divS (kVar 2) (kC (.int 13)))) eNil))))
def l__law_tape_70 : Dn.Env → SRes :=
 (sIf (tK (kOp2 gtS (kVar 4) (kC (.int 0))))
 (sSeq (sExpr (eMutV 1 appendM (eCons (eK (kOp2 modS (kFn intC (kCons (kVar 4) kNil)) (kC (.int 5040)))) eNil)))
 (sSet 4 (eK (kOp2 divS (kVar 4) (kC (.int 5040))))))
 sNil)
def l__law_tape_66 : Dn.Env → SRes :=
 (sIf (tK (kOp2 ltS (kVar 3) (kFn lenL (kCons (kVar 0) kNil))))
 (sSeq (sSet 4 (vK (kOp2 ixS (kVar 0) (kVar 3))))
 (sIf (tK (kOp2 geS (kVar 4) (kOp2 powS (kC (.int 10)) (kC (.int 18)))))
 (sFor (iA r1D (eCons (vK (kC (.int 24))) eNil)) (bName 5)
 l__law_tape_70)
 (sSeq (sSet 6 (eK (kOp2 modS (kFn intC (kCons (kOp2 addS (kOp2 addS (kOp2 mulS (kVar 4) (kC (.int 48271))) (kOp2 mulS (kVar 3) (kC (.int 69621)))) (kC (.int 11))) kNil)) (kC (.int 2147483647)))))
 (sSeq (sExpr (eMutV 1 appendM (eCons (eK (kOp2 divS (kOp2 modS (kFn intC (kCons (kOp2 addS (kOp2 mulS (kVar 6) (kC (.int 16807))) (kVar 3)) kNil)) (kC (.int 2147483629))) (kC (.int 7)))) eNil)))
 (sExpr (eMutV 1 appendM (eCons (eK (kOp2 divS (kOp2 modS (kFn intC (kCons (kOp2 addS (kOp2 mulS (kVar 6) (kC (.int 39373))) (kC (.int 5))) kNil)) (kC (.int 2147483587))) (kC (.int 11)))) eNil)))))))
 sNil)
def b__law_tape : Dn.Env → SRes :=
 (sSeq (sSet 1 (eK (kLst kNil)))
 (sSeq (sSet 2 (eK (kOp2 addS (kOp2 mulS (kFn lenL (kCons (kVar 0) kNil)) (kC (.int 977))) (kC (.int 1)))))
 (sSeq (sFor (iA r1D (eCons (vK (kC (.int 63))) eNil)) (bName 3)
 l__law_tape_60)
 (sSeq (sFor (iA r1D (eCons (vK (kC (.int 420))) eNil)) (bName 3)
 l__law_tape_63)
 (sSeq (sFor (iA r1D (eCons (vK (kC (.int 63))) eNil)) (bName 3)
 l__law_tape_66)
 (sRet (eMove 1)))))))
def m__law_tape : List S → Fo := fnC [.rd] 7 b__law_tape
-- _law_draw(rows:bw, size:rd); slots: 0=rows 1=size
def b__law_draw : Dn.Env → SRes :=
 (sSeq (sIf (tK (kOp2 eqS (kFn lenL (kCons (kVar 0) kNil)) (kC (.int 0))))
 (sRet (vK (kC (.int 0))))
 sNil)
 (sRet (eOp2 modS (eFn intC (eCons (eMutP 0 (pVar 0) popM kNil) eNil)) (eUse 1))))
def m__law_draw : List S → Fo := fnC [.bw, .rd] 2 b__law_draw
-- _law_cells(rows:bw, count:rd); slots: 0=rows 1=count 2=seed 3=cells 4=k
def l__law_cells_88 : Dn.Env → SRes :=
 (sSeq (sSet 2 (eK (kOp2 modS (kFn intC (kCons (kOp2 addS (kOp2 addS (kOp2 mulS (kVar 2) (kC (.int 48271))) (kOp2 mulS (kC (.int 11)) (kVar 4))) (kC (.int 5))) kNil)) (kC (.int 2147483647)))))
 (sExpr (eMutV 3 appendM (eCons (eK (kOp2 divS (kVar 2) (kC (.int 7)))) eNil))))
def b__law_cells : Dn.Env → SRes :=
 (sSeq (sIf (tK (kOp2 geS (kFn lenL (kCons (kVar 0) kNil)) (kOp2 addS (kVar 1) (kC (.int 40)))))
 (sRet (eLc (iA r1D (eCons (eUse 1) eNil)) b1 [4] tTrue (eCall m__law_draw [some 0, none] [.bw, .rd] (aVar 0 (aVal (vK (kC (.int 5040))) aNil))) [4]))
 sNil)
 (sSeq (sSet 2 (eCall m__law_draw [some 0, none] [.bw, .rd] (aVar 0 (aVal (vK (kC (.int 2147483647))) aNil))))
 (sSeq (sSet 3 (eK (kLst kNil)))
 (sSeq (sFor (iA r1D (eCons (eUse 1) eNil)) (bName 4)
 l__law_cells_88)
 (sRet (eMove 3))))))
def m__law_cells : List S → Fo := fnC [.bw, .rd] 5 b__law_cells
-- _law_words(rows:bw); slots: 0=rows 1=cells 2=way 3=words 4=k
def l__law_words_96 : Dn.Env → SRes :=
 (sIf (tK (kOp2 eqS (kVar 2) (kC (.int 0))))
 (sExpr (eMutV 3 appendM (eCons (eK (kOp2 subS (kOp2 modS (kFn intC (kCons (kOp2 ixS (kVar 1) (kVar 4)) kNil)) (kC (.int 5))) (kC (.int 2)))) eNil)))
 (sIf (tK (kOp2 eqS (kVar 2) (kC (.int 1))))
 (sExpr (eMutV 3 appendM (eCons (eK (kOp2 addS (kOp2 mulS (kC (.int 1000)) (kVar 4)) (kOp2 modS (kFn intC (kCons (kOp2 ixS (kVar 1) (kVar 4)) kNil)) (kC (.int 1000))))) eNil)))
 (sExpr (eMutV 3 appendM (eCons (eK (kOp2 addS (kOp2 mulS (kOp2 subS (kOp2 modS (kFn intC (kCons (kOp2 ixS (kVar 1) (kVar 4)) kNil)) (kC (.int 5040))) (kC (.int 2520))) (kOp2 powS (kC (.int 10)) (kC (.int 18)))) (kVar 4))) eNil)))))
def b__law_words : Dn.Env → SRes :=
 (sSeq (sSet 1 (eCall m__law_cells [some 0, none] [.bw, .rd] (aVar 0 (aVal (eCall m__law_draw [some 0, none] [.bw, .rd] (aVar 0 (aVal (eIx (eK (kLst (kCons (pK (kC (.int 13))) (kCons (pK (kC (.int 201))) kNil)))) (eCall m__law_draw [some 0, none] [.bw, .rd] (aVar 0 (aVal (vK (kC (.int 2))) aNil)))) aNil))) aNil))))
 (sSeq (sSet 2 (eCall m__law_draw [some 0, none] [.bw, .rd] (aVar 0 (aVal (vK (kC (.int 3))) aNil))))
 (sSeq (sSet 3 (eK (kLst kNil)))
 (sSeq (sFor (iA r1D (eCons (eK (kFn lenL (kCons (kVar 1) kNil))) eNil)) (bName 4)
 l__law_words_96)
 (sRet (eMove 3))))))
def m__law_words : List S → Fo := fnC [.bw] 5 b__law_words
-- _law_blocks(rows:bw, places:rd); slots: 0=rows 1=places 2=cells 3=blocks 4=cell 5=size
def l__law_blocks_107 : Dn.Env → SRes :=
 (sSeq (sSet 5 (vK (kOp2 ixS (kLst (kCons (pK (kC (.int 2))) (kCons (pK (kC (.int 2))) (kCons (pK (kC (.int 2))) (kCons (pK (kC (.int 4))) (kCons (pK (kC (.int 4))) (kCons (kOp2 addS (kVar 1) (kC (.int 3))) (kCons (kOp2 addS (kVar 1) (kC (.int 3))) (kCons (pK (kC (.int 201))) kNil))))))))) (kOp2 modS (kFn intC (kCons (kOp2 divS (kVar 4) (kC (.int 16))) kNil)) (kC (.int 8))))))
 (sExpr (eMutV 3 appendM (eCons (eK (kOp2 modS (kFn intC (kCons (kVar 4) kNil)) (kVar 5))) eNil))))
def b__law_blocks : Dn.Env → SRes :=
 (sSeq (sSet 2 (eCall m__law_cells [some 0, none] [.bw, .rd] (aVar 0 (aVal (eCall m__law_draw [some 0, none] [.bw, .rd] (aVar 0 (aVal (eIx (eK (kLst (kCons (pK (kC (.int 13))) (kCons (pK (kC (.int 41))) (kCons (pK (kC (.int 201))) kNil))))) (eCall m__law_draw [some 0, none] [.bw, .rd] (aVar 0 (aVal (vK (kC (.int 3))) aNil)))) aNil))) aNil))))
 (sSeq (sSet 3 (eK (kLst kNil)))
 (sSeq (sFor (iV (eUse 2)) (bName 4)
 l__law_blocks_107)
 (sRet (eMove 3)))))
def m__law_blocks : List S → Fo := fnC [.bw, .rd] 6 b__law_blocks
-- _law_is(told:rd, due:rd); slots: 0=told 1=due
def b__law_is : Dn.Env → SRes :=
 (sRet (eAnd (vK (kIs "int" (kVar 0))) (eAnd (eNot (vK (kIs "bool" (kVar 0)))) (vK (kOp2 eqS (kVar 0) (kVar 1))))))
def m__law_is : List S → Fo := fnC [.rd, .rd] 2 b__law_is
-- _law_same(told:rd, due:rd); slots: 0=told 1=due 2=k
def l__law_same_116 : Dn.Env → SRes :=
 (sSeq (sIf (tAndD (tK (kOp2 isNS (kOp2 ixS (kVar 1) (kVar 2)) (kC .non))) (tK (kOp2 notNS (kOp2 ixS (kVar 0) (kVar 2)) (kC .non))))
 (sRet (vK (kC (.bl false))))
 sNil)
 (sIf (tAndD (tK (kOp2 notNS (kOp2 ixS (kVar 1) (kVar 2)) (kC .non))) (tNotD (tE (eCall m__law_is [none, none] [.rd, .rd] (aVal (vK (kOp2 ixS (kVar 0) (kVar 2))) (aVal (vK (kOp2 ixS (kVar 1) (kVar 2))) aNil))))))
 (sRet (vK (kC (.bl false))))
 sNil))
def b__law_same : Dn.Env → SRes :=
 (sSeq (sIf (tOrD (tNotD (tK (kIs "list" (kVar 0)))) (tK (kOp2 neS (kFn lenL (kCons (kVar 0) kNil)) (kFn lenL (kCons (kVar 1) kNil)))))
 (sRet (vK (kC (.bl false))))
 sNil)
 (sSeq (sFor (iA r1D (eCons (eK (kFn lenL (kCons (kVar 1) kNil))) eNil)) (bName 2)
 l__law_same_116)
 (sRet (vK (kC (.bl true))))))
def m__law_same : List S → Fo := fnC [.rd, .rd] 3 b__law_same
-- _law_counts(places:rd, side:rd, blocks:rd, many:rd); slots: 0=places 1=side 2=blocks 3=many 4=p 5=q 6=at 7=told 8=block
def l__law_counts_127 : Dn.Env → SRes :=
 (sSeq (sIf (tK (kOp2 eqS (kVar 1) (kC (.str "takes"))))
 (sSet 4 (eK (kOp2 addS (kVar 4) (kFn min3C (kCons (kVar 8) (kCons (kOp2 subS (kVar 0) (kOp2 subS (kVar 4) (kVar 5))) (kCons (kOp2 subS (kVar 3) (kVar 4)) kNil)))))))
 (sSet 5 (eK (kOp2 addS (kVar 5) (kFn minC (kCons (kVar 8) (kCons (kOp2 subS (kVar 4) (kVar 5)) kNil)))))))
 (sSeq (sIf (tK (kOp2 eqS (kVar 6) (kC (.int 0))))
 (sSeq (sIf (tAndD (tK (kOp2 eqS (kVar 1) (kC (.str "takes")))) (tK (kOp2 ltS (kVar 5) (kVar 4))))
 (sSet 6 (vK (kC (.int 1))))
 sNil)
 (sIf (tAndD (tK (kOp2 eqS (kVar 1) (kC (.str "puts")))) (tAndD (tK (kOp2 ltS (kOp2 subS (kVar 4) (kVar 5)) (kVar 0))) (tK (kOp2 ltS (kVar 4) (kVar 3)))))
 (sSet 6 (vK (kC (.int 1))))
 sNil))
 (sIf (tK (kOp2 eqS (kVar 6) (kC (.int 1))))
 (sSet 6 (vK (kC (.int 2))))
 (sSeq (sSet 6 (vK (kC (.int 0))))
 (sIf (tK (kOp2 eqS (kVar 1) (kC (.str "takes"))))
 (sSet 5 (eK (kOp2 addS (kVar 5) (kC (.int 1)))))
 (sSet 4 (eK (kOp2 addS (kVar 4) (kC (.int 1)))))))))
 (sExpr (eMutV 7 appendM (eCons (eTup (eCons (eUse 4) (eCons (eUse 5) (eCons (eUse 6) eNil)))) eNil)))))
def b__law_counts : Dn.Env → SRes :=
 (sSeq (sSet 4 (vK (kC (.int 0))))
 (sSeq (sSet 5 (vK (kC (.int 0))))
 (sSeq (sSet 6 (vK (kC (.int 0))))
 (sSeq (sSet 7 (eLst (eCons (vK (kTup (kCons (kC (.int 0)) (kCons (kC (.int 0)) (kCons (kC (.int 0)) kNil))))) eNil)))
 (sSeq (sFor (iR 2) (bName 8)
 l__law_counts_127)
 (sRet (eMove 7)))))))
def m__law_counts : List S → Fo := fnC [.rd, .rd, .rd, .rd] 9 b__law_counts
-- _law_slots(places:rd, words:rd, written:rd); slots: 0=places 1=words 2=written 3=slots 4=number
def l__law_slots_149 : Dn.Env → SRes :=
 (sAsg (vK (kOp2 ixS (kVar 1) (kVar 4))) (bSub 3 (pVar 3) (kOp2 modS (kFn intC (kCons (kVar 4) kNil)) (kVar 0))))
def b__law_slots : Dn.Env → SRes :=
 (sSeq (sSet 3 (eK (kOp2 repL (kLst (kCons (pK (kC .non)) kNil)) (kVar 0))))
 (sSeq (sFor (iA r1D (eCons (eUse 2) eNil)) (bName 4)
 l__law_slots_149)
 (sRet (eMove 3))))
def m__law_slots : List S → Fo := fnC [.rd, .rd, .rd] 5 b__law_slots
-- _law_right(play:rd, places:rd, side:rd, words:rd, counts:v); slots: 0=play 1=places 2=side 3=words 4=counts 5=p 6=q 7=at 8=behind 9=due 10=slots
def b__law_right : Dn.Env → SRes :=
 (sSeq (sAsg (eUse 4) (bTup 3 (bsCons (bName 5) (bsCons (bName 6) (bsCons (bName 7) bsNil)))))
 (sSeq (sIf (tOrD (tNotD (tK (kIsO 0 (kVar 0)))) (tOrD (tNotD (tE (eCall m__law_is [none, some 5] [.rd, .rd] (aVal (vK (kFld 0 1 (kVar 0))) (aVar 5 aNil))))) (tNotD (tE (eCall m__law_is [none, some 6] [.rd, .rd] (aVal (vK (kFld 0 2 (kVar 0))) (aVar 6 aNil)))))))
 (sRet (vK (kC (.bl false))))
 sNil)
 (sSeq (sIf (tOrD (tNotD (tE (eCall m__law_is [none, some 7] [.rd, .rd] (aVal (vK (kFld 0 3 (kVar 0))) (aVar 7 aNil))))) (tNotD (tK (kChain leS leS (kC (.int 0)) (kOp2 subS (kFld 0 1 (kVar 0)) (kFld 0 2 (kVar 0))) (kVar 1)))))
 (sRet (vK (kC (.bl false))))
 sNil)
 (sSeq (sSet 8 (eK (kFn intC (kCons (kOp2 eqS (kVar 7) (kC (.int 2))) kNil))))
 (sSeq (sIf (tK (kOp2 eqS (kVar 2) (kC (.str "takes"))))
 (sSeq (sSet 9 (eK (kSl (kVar 3) kNoPart (kPart (kOp2 addS (kVar 6) (kVar 8))))))
 (sSet 10 (eCall m__law_slots [some 1, some 3, some 5] [.rd, .rd, .rd] (aVar 1 (aVar 3 (aVar 5 aNil))))))
 (sSeq (sSet 9 (eK (kSl (kVar 3) kNoPart (kPart (kVar 6)))))
 (sSet 10 (eCall m__law_slots [some 1, some 3, none] [.rd, .rd, .rd] (aVar 1 (aVar 3 (aVal (eK (kOp2 addS (kVar 5) (kVar 8))) aNil)))))))
 (sRet (eAnd (eCall m__law_same [none, some 9] [.rd, .rd] (aVal (vK (kFld 0 0 (kVar 0))) (aVar 9 aNil))) (eCall m__law_same [none, some 10] [.rd, .rd] (aVal (vK (kFld 0 4 (kVar 0))) (aVar 10 aNil))))))))))
def m__law_right : List S → Fo := fnC [.rd, .rd, .rd, .rd, .v] 11 b__law_right
-- _law_spoilt(at:rd, more:rd, taken:rd); slots: 0=at 1=more 2=taken 3=index
def b__law_spoilt : Dn.Env → SRes :=
 (sSeq (sIf (tK (kOp2 eqS (kFn lenL (kCons (kVar 2) kNil)) (kC (.int 0))))
 (sRet (eK (kLst (kCons (pK (kC .non)) kNil))))
 sNil)
 (sSeq (sSet 3 (eK (kOp2 modS (kFn intC (kCons (kVar 0) kNil)) (kFn lenL (kCons (kVar 2) kNil)))))
 (sRet (eK (kOp2 addS (kOp2 addS (kSl (kVar 2) kNoPart (kPart (kVar 3))) (kLst (kCons (kOp2 addS (kOp2 addS (kOp2 ixS (kVar 2) (kVar 3)) (kC (.int 1))) (kVar 1)) kNil))) (kSl (kVar 2) (kPart (kOp2 addS (kVar 3) (kC (.int 1)))) kNoPart))))))
def m__law_spoilt : List S → Fo := fnC [.rd, .rd, .rd] 4 b__law_spoilt
-- law(script:v); slots: 0=script 1=rows 2=places 3=side 4=at 5=more 6=cuts 7=words 8=blocks 9=counts 10=plays 11=cut 12=k 13=taken 14=spoilt 15=fault 16=row 17=given
def l_law_183 : Dn.Env → SRes :=
 (sSeq (sSet 16 (eK (kSl (kVar 8) kNoPart (kPart (kVar 11)))))
 (sSeq (sSet 17 (eK (kFn listC (kCons (kVar 7) kNil))))
 (sSeq (sExpr (eMutV 10 appendM (eCons (eFrz (eCall m_ring_played [some 2, some 3, none, some 16, some 17] [.rd, .rd, .rd, .rd, .rd] (aVar 2 (aVar 3 (aVal (vK (kC (.str "word"))) (aVar 16 (aVar 17 aNil))))))) eNil)))
 (sSeq (sIf (tOrD (tK (kOp2 neS (kVar 16) (kSl (kVar 8) kNoPart (kPart (kVar 11))))) (tK (kOp2 neS (kVar 17) (kVar 7))))
 (sRet (vK (kC (.bl false))))
 sNil)
 (sSeq (sExpr (eMutV 16 appendM (eCons (vK (kC (.int 1))) eNil)))
 (sExpr (eMutV 17 appendM (eCons (vK (kC (.int 7))) eNil))))))))
def l_law_191 : Dn.Env → SRes :=
 (sIf (tNotD (tE (eCall m__law_right [none, some 2, some 3, some 7, none] [.rd, .rd, .rd, .rd, .v] (aVal (vK (kOp2 ixS (kVar 10) (kVar 12))) (aVar 2 (aVar 3 (aVar 7 (aVal (vK (kOp2 ixS (kVar 9) (kOp2 ixS (kVar 6) (kVar 12)))) aNil))))))))
 (sRet (vK (kC (.bl false))))
 sNil)
def b_law : Dn.Env → SRes :=
 (sSeq (sSet 1 (eCall m__law_tape [some 0] [.rd] (aVar 0 aNil)))
 (sSeq (sSet 2 (eIx (eLst (eCons (vK (kC (.int 1))) (eCons (vK (kC (.int 2))) (eCons (vK (kC (.int 3))) (eCons (vK (kC (.int 7))) (eCons (vK (kC (.int 60))) (eCons (eOp2 addS (vK (kC (.int 1))) (eCall m__law_draw [some 1, none] [.bw, .rd] (aVar 1 (aVal (vK (kC (.int 60))) aNil)))) eNil))))))) (eCall m__law_draw [some 1, none] [.bw, .rd] (aVar 1 (aVal (vK (kC (.int 6))) aNil)))))
 (sSeq (sSet 3 (eIx (eK (kLst (kCons (pK (kC (.str "puts"))) (kCons (pK (kC (.str "takes"))) kNil)))) (eCall m__law_draw [some 1, none] [.bw, .rd] (aVar 1 (aVal (vK (kC (.int 2))) aNil)))))
 (sSeq (sSet 4 (eCall m__law_draw [some 1, none] [.bw, .rd] (aVar 1 (aVal (vK (kC (.int 5040))) aNil))))
 (sSeq (sSet 5 (eCall m__law_draw [some 1, none] [.bw, .rd] (aVar 1 (aVal (vK (kC (.int 3))) aNil))))
 (sSeq (sSet 6 (eLst (eCons (eCall m__law_draw [some 1, none] [.bw, .rd] (aVar 1 (aVal (vK (kC (.int 5040))) aNil))) (eCons (eCall m__law_draw [some 1, none] [.bw, .rd] (aVar 1 (aVal (vK (kC (.int 5040))) aNil))) eNil))))
 (sSeq (sSet 7 (eCall m__law_words [some 1] [.bw] (aVar 1 aNil)))
 (sSeq (sSet 8 (eCall m__law_blocks [some 1, some 2] [.bw, .rd] (aVar 1 (aVar 2 aNil))))
 (sSeq (sSet 6 (eOp2 addS (eK (kLst (kCons (kFn lenL (kCons (kVar 8) kNil)) kNil))) (eLc (iV (eUse 6)) b1 [11] tTrue (eK (kOp2 modS (kFn intC (kCons (kVar 11) kNil)) (kOp2 addS (kFn lenL (kCons (kVar 8) kNil)) (kC (.int 1))))) [11])))
 (sSeq (sSet 9 (eCall m__law_counts [some 2, some 3, some 8, none] [.rd, .rd, .rd, .rd] (aVar 2 (aVar 3 (aVar 8 (aVal (eK (kFn lenL (kCons (kVar 7) kNil))) aNil))))))
 (sSeq (sSet 10 (eK (kLst kNil)))
 (sSeq (sFor (iV (eUse 6)) (bName 11)
 l_law_183)
 (sSeq (sFor (iA r1D (eCons (eK (kFn lenL (kCons (kVar 6) kNil))) eNil)) (bName 12)
 l_law_191)
 (sSeq (sSet 13 (eK (kFn listC (kCons (kFld 0 0 (kOp2 ixS (kVar 10) (kC (.int 0)))) kNil))))
 (sSeq (sIf (tE (eOp2 notNS (eCall m_ring_fault [none, none] [.rd, .v] (aVal (eK (kFn listC (kCons (kVar 7) kNil))) (aVal (eK (kFn listC (kCons (kVar 13) kNil))) aNil))) (vK (kC .non))))
 (sRet (vK (kC (.bl false))))
 sNil)
 (sSeq (sSet 14 (eCall m__law_spoilt [some 4, some 5, some 13] [.rd, .rd, .rd] (aVar 4 (aVar 5 (aVar 13 aNil)))))
 (sSeq (sSet 15 (vK (kC (.int 0))))
 (sSeq (sIf (tK (kOp2 gtS (kFn lenL (kCons (kVar 13) kNil)) (kC (.int 0))))
 (sSet 15 (eK (kOp2 modS (kFn intC (kCons (kVar 4) kNil)) (kFn lenL (kCons (kVar 13) kNil)))))
 sNil)
 (sRet (eCall m__law_is [none, some 15] [.rd, .rd] (aVal (eCall m_ring_fault [none, none] [.rd, .v] (aVal (eK (kFn listC (kCons (kVar 7) kNil))) (aVal (eUse 14) aNil))) (aVar 15 aNil))))))))))))))))))))))
def m_law : List S → Fo := fnC [.v] 18 b_law
/-! ### what the top has made -/
structure Tops (K : PySem.W.Frag) (mg : Str → Option Value) where
  C : CT
  c0 : Addr
  hc0 : C.cls 0 = some (c0, [("taken" : Str), ("p" : Str), ("q" : Str), ("at" : Str), ("slots" : Str)])
  cl0 : Cls K c0
  ic0 : IsiC K c0
  mc0 : mg "RingPlay" = some (.ref c0)
  na0_0 : NoAttr K c0 "taken"
  na0_1 : NoAttr K c0 "p"
  na0_2 : NoAttr K c0 "q"
  na0_3 : NoAttr K c0 "at"
  na0_4 : NoAttr K c0 "slots"
  f_RingPlay_init : Addr
  d_RingPlay_init : FuncData
  F_RingPlay_init : Fun K "__init__" "RingPlay.__init__" s_RingPlay_init f_RingPlay_init d_RingPlay_init
  b_RingPlay_init : Binds K d_RingPlay_init ["self", "places"] []
  mk0 : Mk K c0 f_RingPlay_init
  f_may_put : Addr
  d_may_put : FuncData
  F_may_put : Fun K "may_put" "may_put" s_may_put f_may_put d_may_put
  b_may_put : Binds K d_may_put ["play", "words"] []
  m_may_put : mg "may_put" = some (.ref f_may_put)
  f_may_take : Addr
  d_may_take : FuncData
  F_may_take : Fun K "may_take" "may_take" s_may_take f_may_take d_may_take
  b_may_take : Binds K d_may_take ["play"] []
  m_may_take : mg "may_take" = some (.ref f_may_take)
  f_put_word : Addr
  d_put_word : FuncData
  F_put_word : Fun K "put_word" "put_word" s_put_word f_put_word d_put_word
  b_put_word : Binds K d_put_word ["play", "number", "words"] []
  m_put_word : mg "put_word" = some (.ref f_put_word)
  f_take_word : Addr
  d_take_word : FuncData
  F_take_word : Fun K "take_word" "take_word" s_take_word f_take_word d_take_word
  b_take_word : Binds K d_take_word ["play", "number"] []
  m_take_word : mg "take_word" = some (.ref f_take_word)
  f_handler_block : Addr
  d_handler_block : FuncData
  F_handler_block : Fun K "handler_block" "handler_block" s_handler_block f_handler_block d_handler_block
  b_handler_block : Binds K d_handler_block ["play", "side", "words"] []
  m_handler_block : mg "handler_block" = some (.ref f_handler_block)
  f_word_step : Addr
  d_word_step : FuncData
  F_word_step : Fun K "word_step" "word_step" s_word_step f_word_step d_word_step
  b_word_step : Binds K d_word_step ["play", "side", "order", "words"] []
  m_word_step : mg "word_step" = some (.ref f_word_step)
  f_main_step : Addr
  d_main_step : FuncData
  F_main_step : Fun K "main_step" "main_step" s_main_step f_main_step d_main_step
  b_main_step : Binds K d_main_step ["play", "side", "order", "words"] []
  m_main_step : mg "main_step" = some (.ref f_main_step)
  f_ring_played : Addr
  d_ring_played : FuncData
  F_ring_played : Fun K "ring_played" "ring_played" s_ring_played f_ring_played d_ring_played
  b_ring_played : Binds K d_ring_played ["places", "side", "order", "blocks", "words"] []
  m_ring_played : mg "ring_played" = some (.ref f_ring_played)
  f_ring_fault : Addr
  d_ring_fault : FuncData
  F_ring_fault : Fun K "ring_fault" "ring_fault" s_ring_fault f_ring_fault d_ring_fault
  b_ring_fault : Binds K d_ring_fault ["words", "taken"] []
  m_ring_fault : mg "ring_fault" = some (.ref f_ring_fault)
  f__law_tape : Addr
  d__law_tape : FuncData
  F__law_tape : Fun K "_law_tape" "_law_tape" s__law_tape f__law_tape d__law_tape
  b__law_tape : Binds K d__law_tape ["script"] []
  m__law_tape : mg "_law_tape" = some (.ref f__law_tape)
  f__law_draw : Addr
  d__law_draw : FuncData
  F__law_draw : Fun K "_law_draw" "_law_draw" s__law_draw f__law_draw d__law_draw
  b__law_draw : Binds K d__law_draw ["rows", "size"] []
  m__law_draw : mg "_law_draw" = some (.ref f__law_draw)
  f__law_cells : Addr
  d__law_cells : FuncData
  F__law_cells : Fun K "_law_cells" "_law_cells" s__law_cells f__law_cells d__law_cells
  b__law_cells : Binds K d__law_cells ["rows", "count"] []
  m__law_cells : mg "_law_cells" = some (.ref f__law_cells)
  f__law_words : Addr
  d__law_words : FuncData
  F__law_words : Fun K "_law_words" "_law_words" s__law_words f__law_words d__law_words
  b__law_words : Binds K d__law_words ["rows"] []
  m__law_words : mg "_law_words" = some (.ref f__law_words)
  f__law_blocks : Addr
  d__law_blocks : FuncData
  F__law_blocks : Fun K "_law_blocks" "_law_blocks" s__law_blocks f__law_blocks d__law_blocks
  b__law_blocks : Binds K d__law_blocks ["rows", "places"] []
  m__law_blocks : mg "_law_blocks" = some (.ref f__law_blocks)
  f__law_is : Addr
  d__law_is : FuncData
  F__law_is : Fun K "_law_is" "_law_is" s__law_is f__law_is d__law_is
  b__law_is : Binds K d__law_is ["told", "due"] []
  m__law_is : mg "_law_is" = some (.ref f__law_is)
  f__law_same : Addr
  d__law_same : FuncData
  F__law_same : Fun K "_law_same" "_law_same" s__law_same f__law_same d__law_same
  b__law_same : Binds K d__law_same ["told", "due"] []
  m__law_same : mg "_law_same" = some (.ref f__law_same)
  f__law_counts : Addr
  d__law_counts : FuncData
  F__law_counts : Fun K "_law_counts" "_law_counts" s__law_counts f__law_counts d__law_counts
  b__law_counts : Binds K d__law_counts ["places", "side", "blocks", "many"] []
  m__law_counts : mg "_law_counts" = some (.ref f__law_counts)
  f__law_slots : Addr
  d__law_slots : FuncData
  F__law_slots : Fun K "_law_slots" "_law_slots" s__law_slots f__law_slots d__law_slots
  b__law_slots : Binds K d__law_slots ["places", "words", "written"] []
  m__law_slots : mg "_law_slots" = some (.ref f__law_slots)
  f__law_right : Addr
  d__law_right : FuncData
  F__law_right : Fun K "_law_right" "_law_right" s__law_right f__law_right d__law_right
  b__law_right : Binds K d__law_right ["play", "places", "side", "words", "counts"] []
  m__law_right : mg "_law_right" = some (.ref f__law_right)
  f__law_spoilt : Addr
  d__law_spoilt : FuncData
  F__law_spoilt : Fun K "_law_spoilt" "_law_spoilt" s__law_spoilt f__law_spoilt d__law_spoilt
  b__law_spoilt : Binds K d__law_spoilt ["at", "more", "taken"] []
  m__law_spoilt : mg "_law_spoilt" = some (.ref f__law_spoilt)
  f_law : Addr
  d_law : FuncData
  F_law : Fun K "law" "law" s_law f_law d_law
  b_law : Binds K d_law ["script"] []
  m_law : mg "law" = some (.ref f_law)
  n_bool : mg "bool" = none
  n_enumerate : mg "enumerate" = none
  n_int : mg "int" = none
  n_isinstance : mg "isinstance" = none
  n_len : mg "len" = none
  n_list : mg "list" = none
  n_min : mg "min" = none
  n_range : mg "range" = none
section
variable {K : PySem.W.Frag} {mg : Str → Option Value}
theorem Tops.few0 (T : Tops K mg) : ClsFew T.C 0 := ⟨fun Ca ns h => by rw [T.hc0] at h; cases h; decide⟩
theorem Tops.fo0_0 (T : Tops K mg) : FldOk K T.C 0 0 "taken" := ⟨⟨T.c0, _, T.hc0, rfl, by decide, T.cl0, T.na0_0⟩⟩
theorem Tops.fo0_1 (T : Tops K mg) : FldOk K T.C 0 1 "p" := ⟨⟨T.c0, _, T.hc0, rfl, by decide, T.cl0, T.na0_1⟩⟩
theorem Tops.fo0_2 (T : Tops K mg) : FldOk K T.C 0 2 "q" := ⟨⟨T.c0, _, T.hc0, rfl, by decide, T.cl0, T.na0_2⟩⟩
theorem Tops.fo0_3 (T : Tops K mg) : FldOk K T.C 0 3 "at" := ⟨⟨T.c0, _, T.hc0, rfl, by decide, T.cl0, T.na0_3⟩⟩
theorem Tops.fo0_4 (T : Tops K mg) : FldOk K T.C 0 4 "slots" := ⟨⟨T.c0, _, T.hc0, rfl, by decide, T.cl0, T.na0_4⟩⟩
end
section
variable {P : Program} {w : World} {K : PySem.W.Frag} {mg : Str → Option Value} {base : Heap}
theorem sc_RingPlay_init : FnScope [("self" : Str), "places"] [("self" : Str), "places"] (defScope s_RingPlay_init) := ⟨rfl, rfl, rfl, by decide +kernel, rfl, by decide +kernel, by decide +kernel⟩
theorem ok_RingPlay_init (T : Tops K mg) : FnOk P w K mg base CX0 1 T.f_RingPlay_init T.d_RingPlay_init [("self" : Str), "places"] (spD ⟨K, T.C.cls, T.C.exc⟩ [.bw, .rd] m_RingPlay_init) := by
  refine fn_ok (C := T.C) (N := [("self" : Str), "places"]) T.F_RingPlay_init sc_RingPlay_init rfl (by decide) (fun cdv A outer s H E hr => ?_)
  have hu := hu64 hr
  have hu65 := hu65 hr
  unfold b_RingPlay_init
  exact (dss_cons (ds_fld (pl_var 0) T.fo0_0 T.few0 (de_ofP (dp_lst dpl_nil)))
 (dss_cons (ds_fld (pl_var 0) T.fo0_1 T.few0 (de_of dk_int))
 (dss_cons (ds_fld (pl_var 0) T.fo0_2 T.few0 (de_of dk_int))
 (dss_cons (ds_fld (pl_var 0) T.fo0_3 T.few0 (de_of dk_int))
 (dss_one (ds_fld (pl_var 0) T.fo0_4 T.few0 (de_ofP (dp_op op_rep opn_repL (dk_of (dp_lst (dpl_cons (dp_of dk_non) dpl_nil))) (dk_var 1)))))))))
theorem sc_may_put : FnScope [("play" : Str), "words"] [("play" : Str), "words"] (defScope s_may_put) := ⟨rfl, rfl, rfl, by decide +kernel, rfl, by decide +kernel, by decide +kernel⟩
theorem ok_may_put (T : Tops K mg) : FnOk P w K mg base CX0 1 T.f_may_put T.d_may_put [("play" : Str), "words"] (spD ⟨K, T.C.cls, T.C.exc⟩ [.rd, .rd] m_may_put) := by
  refine fn_ok (C := T.C) (N := [("play" : Str), "words"]) T.F_may_put sc_may_put rfl (by decide) (fun cdv A outer s H E hr => ?_)
  have hu := hu64 hr
  have hu65 := hu65 hr
  unfold b_may_put
  exact (dss_one (ds_ret (de_and (de_of (dk_cmp op_lt opn_lt (dk_op op_sub opn_sub (dk_fld (dk_var 0) T.fo0_1) (dk_fld (dk_var 0) T.fo0_2)) (dk_of (dp_callB call_lenU fn_len (by rfl) T.n_len PySem.boot_len (dl_cons (dk_fld (dk_var 0) T.fo0_4) dl_nil))) (nomark _))) (de_one (de_of (dk_cmp op_lt opn_lt (dk_fld (dk_var 0) T.fo0_1) (dk_of (dp_callB call_lenU fn_len (by rfl) T.n_len PySem.boot_len (dl_cons (dk_var 1) dl_nil))) (nomark _)))))))
theorem sc_may_take : FnScope [("play" : Str)] [("play" : Str)] (defScope s_may_take) := ⟨rfl, rfl, rfl, by decide +kernel, rfl, by decide +kernel, by decide +kernel⟩
theorem ok_may_take (T : Tops K mg) : FnOk P w K mg base CX0 1 T.f_may_take T.d_may_take [("play" : Str)] (spD ⟨K, T.C.cls, T.C.exc⟩ [.rd] m_may_take) := by
  refine fn_ok (C := T.C) (N := [("play" : Str)]) T.F_may_take sc_may_take rfl (by decide) (fun cdv A outer s H E hr => ?_)
  have hu := hu64 hr
  have hu65 := hu65 hr
  unfold b_may_take
  exact (dss_one (ds_ret (de_of (dk_cmp op_lt opn_lt (dk_fld (dk_var 0) T.fo0_2) (dk_fld (dk_var 0) T.fo0_1) (nomark _)))))
theorem sc_put_word : FnScope [("play" : Str), "number", "words"] [("play" : Str), "number", "words"] (defScope s_put_word) := ⟨rfl, rfl, rfl, by decide +kernel, rfl, by decide +kernel, by decide +kernel⟩
theorem ok_put_word (T : Tops K mg) : FnOk P w K mg base CX0 1 T.f_put_word T.d_put_word [("play" : Str), "number", "words"] (spD ⟨K, T.C.cls, T.C.exc⟩ [.bw, .rd, .rd] m_put_word) := by
  refine fn_ok (C := T.C) (N := [("play" : Str), "number", "words"]) T.F_put_word sc_put_word rfl (by decide) (fun cdv A outer s H E hr => ?_)
  have hu := hu64 hr
  have hu65 := hu65 hr
  unfold b_put_word
  exact (dss_one (ds_asg (de_of (dk_ix (dk_var 2) (dk_var 1))) (dg_sub (pl_fld (pl_var 0) T.fo0_4) (dk_op op_modN opn_mod (dk_var 1) (dk_of (dp_callB call_lenU fn_len (by rfl) T.n_len PySem.boot_len (dl_cons (dk_fld (dk_var 0) T.fo0_4) dl_nil)))))))
theorem sc_take_word : FnScope [("play" : Str), "number"] [("play" : Str), "number"] (defScope s_take_word) := ⟨rfl, rfl, rfl, by decide +kernel, rfl, by decide +kernel, by decide +kernel⟩
theorem ok_take_word (T : Tops K mg) : FnOk P w K mg base CX0 1 T.f_take_word T.d_take_word [("play" : Str), "number"] (spD ⟨K, T.C.cls, T.C.exc⟩ [.bw, .rd] m_take_word) := by
  refine fn_ok (C := T.C) (N := [("play" : Str), "number"]) T.F_take_word sc_take_word rfl (by decide) (fun cdv A outer s H E hr => ?_)
  have hu := hu64 hr
  have hu65 := hu65 hr
  unfold b_take_word
  exact (dss_one (ds_expr (de_mutP PySem.F.slot_list_append PySem.F.type_list_append mt_append mutR_append (pl_fld (pl_var 0) T.fo0_0) (dpl_cons (dp_of (dk_ix (dk_fld (dk_var 0) T.fo0_4) (dk_op op_modN opn_mod (dk_var 1) (dk_of (dp_callB call_lenU fn_len (by rfl) T.n_len PySem.boot_len (dl_cons (dk_fld (dk_var 0) T.fo0_4) dl_nil)))))) dpl_nil))))
theorem sc_handler_block : FnScope [("play" : Str), "side", "words"] [("play" : Str), "side", "words"] (defScope s_handler_block) := ⟨rfl, rfl, rfl, by decide +kernel, rfl, by decide +kernel, by decide +kernel⟩
theorem ok_handler_block (T : Tops K mg) : FnOk P w K mg base CX0 2 T.f_handler_block T.d_handler_block [("play" : Str), "side", "words"] (spD ⟨K, T.C.cls, T.C.exc⟩ [.bw, .rd, .rd] m_handler_block) := by
  refine fn_ok (C := T.C) (N := [("play" : Str), "side", "words"]) T.F_handler_block sc_handler_block rfl (by decide) (fun cdv A outer s H E hr => ?_)
  have hu := hu64 hr
  have hu65 := hu65 hr
  unfold b_handler_block
  exact (dss_one (ds_if (dt_cmpK (op_eqU hu) opn_eq (dk_var 1) dk_str (nomark _))
 (dss_one (ds_if (dt_val (de_call (ok_may_put T) (hr.mono (by decide)) (by rfl) T.m_may_put T.F_may_put.kp T.b_may_put (dar_var 0 (dar_var 2 dar_nil)) fnC_noexc))
 (dss_cons (ds_expr (de_call (ok_put_word T) (hr.mono (by decide)) (by rfl) T.m_put_word T.F_put_word.kp T.b_put_word (dar_var 0 (dar_val (de_of (dk_fld (dk_var 0) T.fo0_1)) (dar_var 2 dar_nil))) fnC_noexc))
 (dss_one (ds_fldaug (pl_var 0) T.fo0_1 T.few0 dk_int in_add)))
 dss_nil))
 (dss_one (ds_if (dt_val (de_call (ok_may_take T) (hr.mono (by decide)) (by rfl) T.m_may_take T.F_may_take.kp T.b_may_take (dar_var 0 dar_nil) fnC_noexc))
 (dss_cons (ds_expr (de_call (ok_take_word T) (hr.mono (by decide)) (by rfl) T.m_take_word T.F_take_word.kp T.b_take_word (dar_var 0 (dar_val (de_of (dk_fld (dk_var 0) T.fo0_2)) dar_nil)) fnC_noexc))
 (dss_one (ds_fldaug (pl_var 0) T.fo0_2 T.few0 dk_int in_add)))
 dss_nil))))
theorem sc_word_step : FnScope [("play" : Str), "side", "order", "words", "back"] [("play" : Str), "side", "order", "words"] (defScope s_word_step) := ⟨rfl, rfl, rfl, by decide +kernel, rfl, by decide +kernel, by decide +kernel⟩
theorem ok_word_step (T : Tops K mg) : FnOk P w K mg base CX0 2 T.f_word_step T.d_word_step [("play" : Str), "side", "order", "words"] (spD ⟨K, T.C.cls, T.C.exc⟩ [.bw, .rd, .rd, .rd] m_word_step) := by
  refine fn_ok (C := T.C) (N := [("play" : Str), "side", "order", "words", "back"]) T.F_word_step sc_word_step rfl (by decide) (fun cdv A outer s H E hr => ?_)
  have hu := hu64 hr
  have hu65 := hu65 hr
  unfold b_word_step
  exact (dss_cons (ds_set 4 sc_word_step.nd (de_if (dt_cmpK (op_eqU hu) opn_eq (dk_var 2) dk_str (nomark _)) (de_of dk_int) (de_of dk_int)))
 (dss_one (ds_if (dt_cmpK (op_eqU hu) opn_eq (dk_var 1) dk_str (nomark _))
 (dss_one (ds_expr (de_call (ok_take_word T) (hr.mono (by decide)) (by rfl) T.m_take_word T.F_take_word.kp T.b_take_word (dar_var 0 (dar_val (de_ofP (dp_op op_sub opn_sub (dk_fld (dk_var 0) T.fo0_2) (dk_var 4))) dar_nil)) fnC_noexc)))
 (dss_one (ds_expr (de_call (ok_put_word T) (hr.mono (by decide)) (by rfl) T.m_put_word T.F_put_word.kp T.b_put_word (dar_var 0 (dar_val (de_ofP (dp_op op_sub opn_sub (dk_fld (dk_var 0) T.fo0_1) (dk_var 4))) (dar_var 3 dar_nil))) fnC_noexc))))))
theorem sc_main_step : FnScope [("play" : Str), "side", "order", "words", "ready"] [("play" : Str), "side", "order", "words"] (defScope s_main_step) := ⟨rfl, rfl, rfl, by decide +kernel, rfl, by decide +kernel, by decide +kernel⟩
theorem ok_main_step (T : Tops K mg) : FnOk P w K mg base CX0 3 T.f_main_step T.d_main_step [("play" : Str), "side", "order", "words"] (spD ⟨K, T.C.cls, T.C.exc⟩ [.bw, .rd, .rd, .rd] m_main_step) := by
  refine fn_ok (C := T.C) (N := [("play" : Str), "side", "order", "words", "ready"]) T.F_main_step sc_main_step rfl (by decide) (fun cdv A outer s H E hr => ?_)
  have hu := hu64 hr
  have hu65 := hu65 hr
  unfold b_main_step
  exact (dss_cons (ds_if (dt_cmpK (op_eqU hu) opn_eq (dk_fld (dk_var 0) T.fo0_3) dk_int (nomark _))
 (dss_cons (ds_set 4 sc_main_step.nd (de_if (dt_cmpK (op_eqU hu) opn_eq (dk_var 1) dk_str (nomark _)) (de_call (ok_may_take T) (hr.mono (by decide)) (by rfl) T.m_may_take T.F_may_take.kp T.b_may_take (dar_var 0 dar_nil) fnC_noexc) (de_call (ok_may_put T) (hr.mono (by decide)) (by rfl) T.m_may_put T.F_may_put.kp T.b_may_put (dar_var 0 (dar_var 3 dar_nil)) fnC_noexc)))
 (dss_cons (ds_fld (pl_var 0) T.fo0_3 T.few0 (de_if (dt_valK (dk_var 4)) (de_of dk_int) (de_of dk_int)))
 (dss_one ds_retN)))
 dss_nil)
 (dss_cons (ds_if (dt_cmpK (op_eqU hu) opn_eq (dk_cmp (op_eqU hu) opn_eq (dk_fld (dk_var 0) T.fo0_3) dk_int (nomark _)) (dk_cmp (op_eqU hu) opn_eq (dk_var 2) dk_str (nomark _)) (nomark _))
 (dss_one (ds_expr (de_call (ok_word_step T) (hr.mono (by decide)) (by rfl) T.m_word_step T.F_word_step.kp T.b_word_step (dar_var 0 (dar_var 1 (dar_var 2 (dar_var 3 dar_nil)))) fnC_noexc)))
 (dss_one (ds_if (dt_cmpK (op_eqU hu) opn_eq (dk_var 1) dk_str (nomark _))
 (dss_one (ds_fldaug (pl_var 0) T.fo0_2 T.few0 dk_int in_add))
 (dss_one (ds_fldaug (pl_var 0) T.fo0_1 T.few0 dk_int in_add)))))
 (dss_one (ds_fld (pl_var 0) T.fo0_3 T.few0 (de_if (dt_cmpK (op_eqU hu) opn_eq (dk_fld (dk_var 0) T.fo0_3) dk_int (nomark _)) (de_of dk_int) (de_of dk_int))))))
theorem sc_ring_played : FnScope [("places" : Str), "side", "order", "blocks", "words", "play", "many", "_"] [("places" : Str), "side", "order", "blocks", "words"] (defScope s_ring_played) := ⟨rfl, rfl, rfl, by decide +kernel, rfl, by decide +kernel, by decide +kernel⟩
theorem ok_ring_played (T : Tops K mg) : FnOk P w K mg base CX0 4 T.f_ring_played T.d_ring_played [("places" : Str), "side", "order", "blocks", "words"] (spD ⟨K, T.C.cls, T.C.exc⟩ [.rd, .rd, .rd, .rd, .rd] m_ring_played) := by
  refine fn_ok (C := T.C) (N := [("places" : Str), "side", "order", "blocks", "words", "play", "many", "_"]) T.F_ring_played sc_ring_played rfl (by decide) (fun cdv A outer s H E hr => ?_)
  have hu := hu64 hr
  have hu65 := hu65 hr
  unfold b_ring_played l_ring_played_46 l_ring_played_47
  exact (dss_cons (ds_set 5 sc_ring_played.nd (de_make T.mk0 (ok_RingPlay_init T) (hr.mono (by decide)) (by rfl) T.mc0 T.b_RingPlay_init T.hc0 (dar_var 0 dar_nil) fnC_noexc))
 (dss_cons (ds_for PassesOwn.never rfl (di_rd 3) (dg_name 6 sc_ring_played.nd)
 (dss_cons (ds_for PassesOwn.never rfl (di_r1 (by rfl) T.n_range (da_cons (de_use 6) da_nil)) (dg_name 7 sc_ring_played.nd)
 (dss_one (ds_expr (de_call (ok_handler_block T) (hr.mono (by decide)) (by rfl) T.m_handler_block T.F_handler_block.kp T.b_handler_block (dar_var 5 (dar_var 1 (dar_var 4 dar_nil))) fnC_noexc))))
 (dss_one (ds_expr (de_call (ok_main_step T) (hr.mono (by decide)) (by rfl) T.m_main_step T.F_main_step.kp T.b_main_step (dar_var 5 (dar_var 1 (dar_var 2 (dar_var 4 dar_nil)))) fnC_noexc)))))
 (dss_one (ds_ret (de_move 5)))))
theorem sc_ring_fault : FnScope [("words" : Str), "taken", "index", "word"] [("words" : Str), "taken"] (defScope s_ring_fault) := ⟨rfl, rfl, rfl, by decide +kernel, rfl, by decide +kernel, by decide +kernel⟩
theorem ok_ring_fault (T : Tops K mg) : FnOk P w K mg base CX0 1 T.f_ring_fault T.d_ring_fault [("words" : Str), "taken"] (spD ⟨K, T.C.cls, T.C.exc⟩ [.rd, .v] m_ring_fault) := by
  refine fn_ok (C := T.C) (N := [("words" : Str), "taken", "index", "word"]) T.F_ring_fault sc_ring_fault rfl (by decide) (fun cdv A outer s H E hr => ?_)
  have hu := hu64 hr
  have hu65 := hu65 hr
  unfold b_ring_fault l_ring_fault_52
  exact (dss_cons (ds_for PassesOwn.never rfl (di_en (by rfl) T.n_enumerate (da_cons (de_use 1) da_nil)) (dg_tup rfl (dgs_cons (dg_name 2 sc_ring_fault.nd) (dgs_cons (dg_name 3 sc_ring_fault.nd) dgs_nil)))
 (dss_one (ds_if (dw_pt (dw_or (dt_cmpK op_ge opn_ge (dk_var 2) (dk_of (dp_callB call_lenU fn_len (by rfl) T.n_len PySem.boot_len (dl_cons (dk_var 0) dl_nil))) (nomark _)) (dw_or1 (dt_cmpK (op_neU hu) opn_ne (dk_var 3) (dk_ix (dk_var 0) (dk_var 2)) (nomark _)))))
 (dss_one (ds_ret (de_move 2)))
 dss_nil)))
 (dss_one (ds_ret (de_of dk_non))))
theorem sc__law_tape : FnScope [("script" : Str), "rows", "seed", "k", "cell", "turn", "first"] [("script" : Str)] (defScope s__law_tape) := ⟨rfl, rfl, rfl, by decide +kernel, rfl, by decide +kernel, by decide +kernel⟩
theorem ok__law_tape (T : Tops K mg) : FnOk P w K mg base CX0 1 T.f__law_tape T.d__law_tape [("script" : Str)] (spD ⟨K, T.C.cls, T.C.exc⟩ [.rd] m__law_tape) := by
  refine fn_ok (C := T.C) (N := [("script" : Str), "rows", "seed", "k", "cell", "turn", "first"]) T.F__law_tape sc__law_tape rfl (by decide) (fun cdv A outer s H E hr => ?_)
  have hu := hu64 hr
  have hu65 := hu65 hr
  unfold b__law_tape l__law_tape_66 l__law_tape_70 l__law_tape_63 l__law_tape_60
  exact (dss_cons (ds_set 1 sc__law_tape.nd (de_ofP (dp_lst dpl_nil)))
 (dss_cons (ds_set 2 sc__law_tape.nd (de_ofP (dp_op op_addU opn_add (dk_op op_mul opn_mul (dk_of (dp_callB call_lenU fn_len (by rfl) T.n_len PySem.boot_len (dl_cons (dk_var 0) dl_nil))) dk_int) dk_int)))
 (dss_cons (ds_for PassesOwn.never rfl (di_r1 (by rfl) T.n_range (da_cons (de_of dk_int) da_nil)) (dg_name 3 sc__law_tape.nd)
 (dss_one (ds_if (dt_cmpK op_lt opn_lt (dk_var 3) (dk_of (dp_callB call_lenU fn_len (by rfl) T.n_len PySem.boot_len (dl_cons (dk_var 0) dl_nil))) (nomark _))
 (dss_one (ds_set 2 sc__law_tape.nd (de_ofP (dp_op op_modN opn_mod (dk_of (dp_callT call_int1 fn_int (by rfl) T.n_int PySem.Pv.boot_int (dl_cons (dk_op op_addU opn_add (dk_op op_mul opn_mul (dk_var 2) dk_int) (dk_ix (dk_var 0) (dk_var 3))) dl_nil))) dk_int))))
 dss_nil)))
 (dss_cons (ds_for PassesOwn.never rfl (di_r1 (by rfl) T.n_range (da_cons (de_of dk_int) da_nil)) (dg_name 3 sc__law_tape.nd)
 (dss_cons (ds_set 2 sc__law_tape.nd (de_ofP (dp_op op_modN opn_mod (dk_of (dp_callT call_int1 fn_int (by rfl) T.n_int PySem.Pv.boot_int (dl_cons (dk_op op_addU opn_add (dk_op op_addU opn_add (dk_op op_mul opn_mul (dk_var 2) dk_int) (dk_op op_mul opn_mul dk_int (dk_var 3))) dk_int) dl_nil))) dk_int)))
 (dss_one (ds_expr (de_mutV PySem.F.slot_list_append PySem.F.type_list_append mt_append mutR_append 1 (pl_var 1) (da_cons (de_ofP (dp_op op_fdivN opn_div (dk_var 2) dk_int)) da_nil))))))
 (dss_cons (ds_for PassesOwn.never rfl (di_r1 (by rfl) T.n_range (da_cons (de_of dk_int) da_nil)) (dg_name 3 sc__law_tape.nd)
 (dss_one (ds_if (dt_cmpK op_lt opn_lt (dk_var 3) (dk_of (dp_callB call_lenU fn_len (by rfl) T.n_len PySem.boot_len (dl_cons (dk_var 0) dl_nil))) (nomark _))
 (dss_cons (ds_set 4 sc__law_tape.nd (de_of (dk_ix (dk_var 0) (dk_var 3))))
 (dss_one (ds_if (dt_cmpK op_ge opn_ge (dk_var 4) (dk_op op_pow opn_pow dk_int dk_int) (nomark _))
 (dss_one (ds_for PassesOwn.never rfl (di_r1 (by rfl) T.n_range (da_cons (de_of dk_int) da_nil)) (dg_name 5 sc__law_tape.nd)
 (dss_one (ds_if (dt_cmpK op_gt opn_gt (dk_var 4) dk_int (nomark _))
 (dss_cons (ds_expr (de_mutV PySem.F.slot_list_append PySem.F.type_list_append mt_append mutR_append 1 (pl_var 1) (da_cons (de_ofP (dp_op op_modN opn_mod (dk_of (dp_callT call_int1 fn_int (by rfl) T.n_int PySem.Pv.boot_int (dl_cons (dk_var 4) dl_nil))) dk_int)) da_nil)))
 (dss_one (ds_set 4 sc__law_tape.nd (de_ofP (dp_op op_fdivN opn_div (dk_var 4) dk_int)))))
 dss_nil))))
 (dss_cons (ds_set 6 sc__law_tape.nd (de_ofP (dp_op op_modN opn_mod (dk_of (dp_callT call_int1 fn_int (by rfl) T.n_int PySem.Pv.boot_int (dl_cons (dk_op op_addU opn_add (dk_op op_addU opn_add (dk_op op_mul opn_mul (dk_var 4) dk_int) (dk_op op_mul opn_mul (dk_var 3) dk_int)) dk_int) dl_nil))) dk_int)))
 (dss_cons (ds_expr (de_mutV PySem.F.slot_list_append PySem.F.type_list_append mt_append mutR_append 1 (pl_var 1) (da_cons (de_ofP (dp_op op_fdivN opn_div (dk_op op_modN opn_mod (dk_of (dp_callT call_int1 fn_int (by rfl) T.n_int PySem.Pv.boot_int (dl_cons (dk_op op_addU opn_add (dk_op op_mul opn_mul (dk_var 6) dk_int) (dk_var 3)) dl_nil))) dk_int) dk_int)) da_nil)))
 (dss_one (ds_expr (de_mutV PySem.F.slot_list_append PySem.F.type_list_append mt_append mutR_append 1 (pl_var 1) (da_cons (de_ofP (dp_op op_fdivN opn_div (dk_op op_modN opn_mod (dk_of (dp_callT call_int1 fn_int (by rfl) T.n_int PySem.Pv.boot_int (dl_cons (dk_op op_addU opn_add (dk_op op_mul opn_mul (dk_var 6) dk_int) dk_int) dl_nil))) dk_int) dk_int)) da_nil)))))))))
 dss_nil)))
 (dss_one (ds_ret (de_move 1))))))))
theorem sc__law_draw : FnScope [("rows" : Str), "size"] [("rows" : Str), "size"] (defScope s__law_draw) := ⟨rfl, rfl, rfl, by decide +kernel, rfl, by decide +kernel, by decide +kernel⟩
theorem ok__law_draw (T : Tops K mg) : FnOk P w K mg base CX0 1 T.f__law_draw T.d__law_draw [("rows" : Str), "size"] (spD ⟨K, T.C.cls, T.C.exc⟩ [.bw, .rd] m__law_draw) := by
  refine fn_ok (C := T.C) (N := [("rows" : Str), "size"]) T.F__law_draw sc__law_draw rfl (by decide) (fun cdv A outer s H E hr => ?_)
  have hu := hu64 hr
  have hu65 := hu65 hr
  unfold b__law_draw
  exact (dss_cons (ds_if (dt_cmpK (op_eqU hu) opn_eq (dk_of (dp_callB call_lenU fn_len (by rfl) T.n_len PySem.boot_len (dl_cons (dk_var 0) dl_nil))) dk_int (nomark _))
 (dss_one (ds_ret (de_of dk_int)))
 dss_nil)
 (dss_one (ds_ret (de_op op_modN opn_mod (de_callT call_int1 fn_int (by rfl) T.n_int PySem.Pv.boot_int (da_cons (de_mut0 PySem.F.slot_list_pop PySem.F.type_list_pop mt_pop mutR_pop (pl_var 0)) da_nil)) (de_use 1)))))
theorem sc__law_cells : FnScope [("rows" : Str), "count", "seed", "cells", "k"] [("rows" : Str), "count"] (defScope s__law_cells) := ⟨rfl, rfl, rfl, by decide +kernel, rfl, by decide +kernel, by decide +kernel⟩
theorem ok__law_cells (T : Tops K mg) : FnOk P w K mg base CX0 2 T.f__law_cells T.d__law_cells [("rows" : Str), "count"] (spD ⟨K, T.C.cls, T.C.exc⟩ [.bw, .rd] m__law_cells) := by
  refine fn_ok (C := T.C) (N := [("rows" : Str), "count", "seed", "cells", "k"]) T.F__law_cells sc__law_cells rfl (by decide) (fun cdv A outer s H E hr => ?_)
  have hu := hu64 hr
  have hu65 := hu65 hr
  unfold b__law_cells l__law_cells_88
  exact (dss_cons (ds_if (dt_cmpK op_ge opn_ge (dk_of (dp_callB call_lenU fn_len (by rfl) T.n_len PySem.boot_len (dl_cons (dk_var 0) dl_nil))) (dk_op op_addU opn_add (dk_var 1) dk_int) (nomark _))
 (dss_one (ds_ret (de_lc rfl sc__law_cells.nd (di_r1 (by rfl) T.n_range (da_cons (de_use 1) da_nil)) (blkOk_by (own := [("k", 4)]) (by rfl)) (dgb_name 4 sc__law_cells.nd (by intros; first | exact Or.inl rfl | exact Or.inr rfl) (by intros; first | exact Or.inr rfl | exact Or.inl rfl)) dts_nil (fun _ _ _ _ _ => (de_call (ok__law_draw T) (hr.mono (by decide)) (by rfl) T.m__law_draw T.F__law_draw.kp T.b__law_draw (dar_var 0 (dar_val (de_of dk_int) dar_nil)) fnC_noexc)))))
 dss_nil)
 (dss_cons (ds_set 2 sc__law_cells.nd (de_call (ok__law_draw T) (hr.mono (by decide)) (by rfl) T.m__law_draw T.F__law_draw.kp T.b__law_draw (dar_var 0 (dar_val (de_of dk_int) dar_nil)) fnC_noexc))
 (dss_cons (ds_set 3 sc__law_cells.nd (de_ofP (dp_lst dpl_nil)))
 (dss_cons (ds_for PassesOwn.never rfl (di_r1 (by rfl) T.n_range (da_cons (de_use 1) da_nil)) (dg_name 4 sc__law_cells.nd)
 (dss_cons (ds_set 2 sc__law_cells.nd (de_ofP (dp_op op_modN opn_mod (dk_of (dp_callT call_int1 fn_int (by rfl) T.n_int PySem.Pv.boot_int (dl_cons (dk_op op_addU opn_add (dk_op op_addU opn_add (dk_op op_mul opn_mul (dk_var 2) dk_int) (dk_op op_mul opn_mul dk_int (dk_var 4))) dk_int) dl_nil))) dk_int)))
 (dss_one (ds_expr (de_mutV PySem.F.slot_list_append PySem.F.type_list_append mt_append mutR_append 3 (pl_var 3) (da_cons (de_ofP (dp_op op_fdivN opn_div (dk_var 2) dk_int)) da_nil))))))
 (dss_one (ds_ret (de_move 3)))))))
theorem sc__law_words : FnScope [("rows" : Str), "cells", "way", "words", "k"] [("rows" : Str)] (defScope s__law_words) := ⟨rfl, rfl, rfl, by decide +kernel, rfl, by decide +kernel, by decide +kernel⟩
theorem ok__law_words (T : Tops K mg) : FnOk P w K mg base CX0 3 T.f__law_words T.d__law_words [("rows" : Str)] (spD ⟨K, T.C.cls, T.C.exc⟩ [.bw] m__law_words) := by
  refine fn_ok (C := T.C) (N := [("rows" : Str), "cells", "way", "words", "k"]) T.F__law_words sc__law_words rfl (by decide) (fun cdv A outer s H E hr => ?_)
  have hu := hu64 hr
  have hu65 := hu65 hr
  unfold b__law_words l__law_words_96
  exact (dss_cons (ds_set 1 sc__law_words.nd (de_call (ok__law_cells T) (hr.mono (by decide)) (by rfl) T.m__law_cells T.F__law_cells.kp T.b__law_cells (dar_var 0 (dar_val (de_call (ok__law_draw T) (hr.mono (by decide)) (by rfl) T.m__law_draw T.F__law_draw.kp T.b__law_draw (dar_var 0 (dar_val (de_ix (de_ofP (dp_lst (dpl_cons (dp_of dk_int) (dpl_cons (dp_of dk_int) dpl_nil)))) (de_call (ok__law_draw T) (hr.mono (by decide)) (by rfl) T.m__law_draw T.F__law_draw.kp T.b__law_draw (dar_var 0 (dar_val (de_of dk_int) dar_nil)) fnC_noexc)) dar_nil)) fnC_noexc) dar_nil)) fnC_noexc))
 (dss_cons (ds_set 2 sc__law_words.nd (de_call (ok__law_draw T) (hr.mono (by decide)) (by rfl) T.m__law_draw T.F__law_draw.kp T.b__law_draw (dar_var 0 (dar_val (de_of dk_int) dar_nil)) fnC_noexc))
 (dss_cons (ds_set 3 sc__law_words.nd (de_ofP (dp_lst dpl_nil)))
 (dss_cons (ds_for PassesOwn.never rfl (di_r1 (by rfl) T.n_range (da_cons (de_ofP (dp_callB call_lenU fn_len (by rfl) T.n_len PySem.boot_len (dl_cons (dk_var 1) dl_nil))) da_nil)) (dg_name 4 sc__law_words.nd)
 (dss_one (ds_if (dt_cmpK (op_eqU hu) opn_eq (dk_var 2) dk_int (nomark _))
 (dss_one (ds_expr (de_mutV PySem.F.slot_list_append PySem.F.type_list_append mt_append mutR_append 3 (pl_var 3) (da_cons (de_ofP (dp_op op_sub opn_sub (dk_op op_modN opn_mod (dk_of (dp_callT call_int1 fn_int (by rfl) T.n_int PySem.Pv.boot_int (dl_cons (dk_ix (dk_var 1) (dk_var 4)) dl_nil))) dk_int) dk_int)) da_nil))))
 (dss_one (ds_if (dt_cmpK (op_eqU hu) opn_eq (dk_var 2) dk_int (nomark _))
 (dss_one (ds_expr (de_mutV PySem.F.slot_list_append PySem.F.type_list_append mt_append mutR_append 3 (pl_var 3) (da_cons (de_ofP (dp_op op_addU opn_add (dk_op op_mul opn_mul dk_int (dk_var 4)) (dk_op op_modN opn_mod (dk_of (dp_callT call_int1 fn_int (by rfl) T.n_int PySem.Pv.boot_int (dl_cons (dk_ix (dk_var 1) (dk_var 4)) dl_nil))) dk_int))) da_nil))))
 (dss_one (ds_expr (de_mutV PySem.F.slot_list_append PySem.F.type_list_append mt_append mutR_append 3 (pl_var 3) (da_cons (de_ofP (dp_op op_addU opn_add (dk_op op_mul opn_mul (dk_op op_sub opn_sub (dk_op op_modN opn_mod (dk_of (dp_callT call_int1 fn_int (by rfl) T.n_int PySem.Pv.boot_int (dl_cons (dk_ix (dk_var 1) (dk_var 4)) dl_nil))) dk_int) dk_int) (dk_op op_pow opn_pow dk_int dk_int)) (dk_var 4))) da_nil)))))))))
 (dss_one (ds_ret (de_move 3)))))))
theorem sc__law_blocks : FnScope [("rows" : Str), "places", "cells", "blocks", "cell", "size"] [("rows" : Str), "places"] (defScope s__law_blocks) := ⟨rfl, rfl, rfl, by decide +kernel, rfl, by decide +kernel, by decide +kernel⟩
theorem ok__law_blocks (T : Tops K mg) : FnOk P w K mg base CX0 3 T.f__law_blocks T.d__law_blocks [("rows" : Str), "places"] (spD ⟨K, T.C.cls, T.C.exc⟩ [.bw, .rd] m__law_blocks) := by
  refine fn_ok (C := T.C) (N := [("rows" : Str), "places", "cells", "blocks", "cell", "size"]) T.F__law_blocks sc__law_blocks rfl (by decide) (fun cdv A outer s H E hr => ?_)
  have hu := hu64 hr
  have hu65 := hu65 hr
  unfold b__law_blocks l__law_blocks_107
  exact (dss_cons (ds_set 2 sc__law_blocks.nd (de_call (ok__law_cells T) (hr.mono (by decide)) (by rfl) T.m__law_cells T.F__law_cells.kp T.b__law_cells (dar_var 0 (dar_val (de_call (ok__law_draw T) (hr.mono (by decide)) (by rfl) T.m__law_draw T.F__law_draw.kp T.b__law_draw (dar_var 0 (dar_val (de_ix (de_ofP (dp_lst (dpl_cons (dp_of dk_int) (dpl_cons (dp_of dk_int) (dpl_cons (dp_of dk_int) dpl_nil))))) (de_call (ok__law_draw T) (hr.mono (by decide)) (by rfl) T.m__law_draw T.F__law_draw.kp T.b__law_draw (dar_var 0 (dar_val (de_of dk_int) dar_nil)) fnC_noexc)) dar_nil)) fnC_noexc) dar_nil)) fnC_noexc))
 (dss_cons (ds_set 3 sc__law_blocks.nd (de_ofP (dp_lst dpl_nil)))
 (dss_cons (ds_for PassesOwn.never rfl (di_val (de_use 2)) (dg_name 4 sc__law_blocks.nd)
 (dss_cons (ds_set 5 sc__law_blocks.nd (de_of (dk_ix (dk_of (dp_lst (dpl_cons (dp_of dk_int) (dpl_cons (dp_of dk_int) (dpl_cons (dp_of dk_int) (dpl_cons (dp_of dk_int) (dpl_cons (dp_of dk_int) (dpl_cons (dp_op op_addU opn_add (dk_var 1) dk_int) (dpl_cons (dp_op op_addU opn_add (dk_var 1) dk_int) (dpl_cons (dp_of dk_int) dpl_nil)))))))))) (dk_op op_modN opn_mod (dk_of (dp_callT call_int1 fn_int (by rfl) T.n_int PySem.Pv.boot_int (dl_cons (dk_op op_fdivN opn_div (dk_var 4) dk_int) dl_nil))) dk_int))))
 (dss_one (ds_expr (de_mutV PySem.F.slot_list_append PySem.F.type_list_append mt_append mutR_append 3 (pl_var 3) (da_cons (de_ofP (dp_op op_modN opn_mod (dk_of (dp_callT call_int1 fn_int (by rfl) T.n_int PySem.Pv.boot_int (dl_cons (dk_var 4) dl_nil))) (dk_var 5))) da_nil))))))
 (dss_one (ds_ret (de_move 3))))))
theorem sc__law_is : FnScope [("told" : Str), "due"] [("told" : Str), "due"] (defScope s__law_is) := ⟨rfl, rfl, rfl, by decide +kernel, rfl, by decide +kernel, by decide +kernel⟩
theorem ok__law_is (T : Tops K mg) : FnOk P w K mg base CX0 1 T.f__law_is T.d__law_is [("told" : Str), "due"] (spD ⟨K, T.C.cls, T.C.exc⟩ [.rd, .rd] m__law_is) := by
  refine fn_ok (C := T.C) (N := [("told" : Str), "due"]) T.F__law_is sc__law_is rfl (by decide) (fun cdv A outer s H E hr => ?_)
  have hu := hu64 hr
  have hu65 := hu65 hr
  unfold b__law_is
  exact (dss_one (ds_ret (de_and (de_of (dk_is kitN_int (by rfl) T.n_isinstance (by rfl) T.n_int PySem.Pv.boot_int (dk_var 0))) (de_and (de_not (de_of (dk_is kitN_bool (by rfl) T.n_isinstance (by rfl) T.n_bool PySem.Pv.boot_bool (dk_var 0)))) (de_one (de_of (dk_cmp (op_eqU hu) opn_eq (dk_var 0) (dk_var 1) (nomark _))))))))
theorem sc__law_same : FnScope [("told" : Str), "due", "k"] [("told" : Str), "due"] (defScope s__law_same) := ⟨rfl, rfl, rfl, by decide +kernel, rfl, by decide +kernel, by decide +kernel⟩
theorem ok__law_same (T : Tops K mg) : FnOk P w K mg base CX0 2 T.f__law_same T.d__law_same [("told" : Str), "due"] (spD ⟨K, T.C.cls, T.C.exc⟩ [.rd, .rd] m__law_same) := by
  refine fn_ok (C := T.C) (N := [("told" : Str), "due", "k"]) T.F__law_same sc__law_same rfl (by decide) (fun cdv A outer s H E hr => ?_)
  have hu := hu64 hr
  have hu65 := hu65 hr
  unfold b__law_same l__law_same_116
  exact (dss_cons (ds_if (dw_pt (dw_or (dt_not (dt_valK (dk_is kitN_list (by rfl) T.n_isinstance (by rfl) T.n_list PySem.Pv.boot_list (dk_var 0)))) (dw_or1 (dt_cmpK (op_neU hu) opn_ne (dk_of (dp_callB call_lenU fn_len (by rfl) T.n_len PySem.boot_len (dl_cons (dk_var 0) dl_nil))) (dk_of (dp_callB call_lenU fn_len (by rfl) T.n_len PySem.boot_len (dl_cons (dk_var 1) dl_nil))) (nomark _)))))
 (dss_one (ds_ret (de_of dk_bl)))
 dss_nil)
 (dss_cons (ds_for PassesOwn.never rfl (di_r1 (by rfl) T.n_range (da_cons (de_ofP (dp_callB call_lenU fn_len (by rfl) T.n_len PySem.boot_len (dl_cons (dk_var 1) dl_nil))) da_nil)) (dg_name 2 sc__law_same.nd)
 (dss_cons (ds_if (dw_pt (dw_and (dt_cmpK op_isNB opn_is (dk_ix (dk_var 1) (dk_var 2)) dk_non (nomark _)) (dw_and1 (dt_cmpK op_notNB opn_isnot (dk_ix (dk_var 0) (dk_var 2)) dk_non (nomark _)))))
 (dss_one (ds_ret (de_of dk_bl)))
 dss_nil)
 (dss_one (ds_if (dw_pt (dw_and (dt_cmpK op_notNB opn_isnot (dk_ix (dk_var 1) (dk_var 2)) dk_non (nomark _)) (dw_and1 (dt_not (dt_val (de_call (ok__law_is T) (hr.mono (by decide)) (by rfl) T.m__law_is T.F__law_is.kp T.b__law_is (dar_val (de_of (dk_ix (dk_var 0) (dk_var 2))) (dar_val (de_of (dk_ix (dk_var 1) (dk_var 2))) dar_nil)) fnC_noexc))))))
 (dss_one (ds_ret (de_of dk_bl)))
 dss_nil))))
 (dss_one (ds_ret (de_of dk_bl)))))
theorem sc__law_counts : FnScope [("places" : Str), "side", "blocks", "many", "p", "q", "at", "told", "block"] [("places" : Str), "side", "blocks", "many"] (defScope s__law_counts) := ⟨rfl, rfl, rfl, by decide +kernel, rfl, by decide +kernel, by decide +kernel⟩
theorem ok__law_counts (T : Tops K mg) : FnOk P w K mg base CX0 1 T.f__law_counts T.d__law_counts [("places" : Str), "side", "blocks", "many"] (spD ⟨K, T.C.cls, T.C.exc⟩ [.rd, .rd, .rd, .rd] m__law_counts) := by
  refine fn_ok (C := T.C) (N := [("places" : Str), "side", "blocks", "many", "p", "q", "at", "told", "block"]) T.F__law_counts sc__law_counts rfl (by decide) (fun cdv A outer s H E hr => ?_)
  have hu := hu64 hr
  have hu65 := hu65 hr
  unfold b__law_counts l__law_counts_127
  exact (dss_cons (ds_set 4 sc__law_counts.nd (de_of dk_int))
 (dss_cons (ds_set 5 sc__law_counts.nd (de_of dk_int))
 (dss_cons (ds_set 6 sc__law_counts.nd (de_of dk_int))
 (dss_cons (ds_set 7 sc__law_counts.nd (de_lst (da_cons (de_of (dk_tup (dl_cons dk_int (dl_cons dk_int (dl_cons dk_int dl_nil))))) da_nil)))
 (dss_cons (ds_for PassesOwn.never rfl (di_rd 2) (dg_name 8 sc__law_counts.nd)
 (dss_cons (ds_if (dt_cmpK (op_eqU hu) opn_eq (dk_var 1) dk_str (nomark _))
 (dss_one (ds_set 4 sc__law_counts.nd (de_ofP (dp_op op_addU opn_add (dk_var 4) (dk_of (dp_callB (call_min3Nu rfl) fn_min3 (by rfl) T.n_min PyProof.Rows.boot_min (dl_cons (dk_var 8) (dl_cons (dk_op op_sub opn_sub (dk_var 0) (dk_op op_sub opn_sub (dk_var 4) (dk_var 5))) (dl_cons (dk_op op_sub opn_sub (dk_var 3) (dk_var 4)) dl_nil)))))))))
 (dss_one (ds_set 5 sc__law_counts.nd (de_ofP (dp_op op_addU opn_add (dk_var 5) (dk_of (dp_callB (call_min2 rfl) fn_min (by rfl) T.n_min PyProof.Rows.boot_min (dl_cons (dk_var 8) (dl_cons (dk_op op_sub opn_sub (dk_var 4) (dk_var 5)) dl_nil)))))))))
 (dss_cons (ds_if (dt_cmpK (op_eqU hu) opn_eq (dk_var 6) dk_int (nomark _))
 (dss_cons (ds_if (dw_pt (dw_and (dt_cmpK (op_eqU hu) opn_eq (dk_var 1) dk_str (nomark _)) (dw_and1 (dt_cmpK op_lt opn_lt (dk_var 5) (dk_var 4) (nomark _)))))
 (dss_one (ds_set 6 sc__law_counts.nd (de_of dk_int)))
 dss_nil)
 (dss_one (ds_if (dw_pt (dw_and (dt_cmpK (op_eqU hu) opn_eq (dk_var 1) dk_str (nomark _)) (dw_and (dt_cmpK op_lt opn_lt (dk_op op_sub opn_sub (dk_var 4) (dk_var 5)) (dk_var 0) (nomark _)) (dw_and1 (dt_cmpK op_lt opn_lt (dk_var 4) (dk_var 3) (nomark _))))))
 (dss_one (ds_set 6 sc__law_counts.nd (de_of dk_int)))
 dss_nil)))
 (dss_one (ds_if (dt_cmpK (op_eqU hu) opn_eq (dk_var 6) dk_int (nomark _))
 (dss_one (ds_set 6 sc__law_counts.nd (de_of dk_int)))
 (dss_cons (ds_set 6 sc__law_counts.nd (de_of dk_int))
 (dss_one (ds_if (dt_cmpK (op_eqU hu) opn_eq (dk_var 1) dk_str (nomark _))
 (dss_one (ds_set 5 sc__law_counts.nd (de_ofP (dp_op op_addU opn_add (dk_var 5) dk_int))))
 (dss_one (ds_set 4 sc__law_counts.nd (de_ofP (dp_op op_addU opn_add (dk_var 4) dk_int))))))))))
 (dss_one (ds_expr (de_mutV PySem.F.slot_list_append PySem.F.type_list_append mt_append mutR_append 7 (pl_var 7) (da_cons (de_tup (da_cons (de_use 4) (da_cons (de_use 5) (da_cons (de_use 6) da_nil)))) da_nil)))))))
 (dss_one (ds_ret (de_move 7))))))))
theorem sc__law_slots : FnScope [("places" : Str), "words", "written", "slots", "number"] [("places" : Str), "words", "written"] (defScope s__law_slots) := ⟨rfl, rfl, rfl, by decide +kernel, rfl, by decide +kernel, by decide +kernel⟩
theorem ok__law_slots (T : Tops K mg) : FnOk P w K mg base CX0 1 T.f__law_slots T.d__law_slots [("places" : Str), "words", "written"] (spD ⟨K, T.C.cls, T.C.exc⟩ [.rd, .rd, .rd] m__law_slots) := by
  refine fn_ok (C := T.C) (N := [("places" : Str), "words", "written", "slots", "number"]) T.F__law_slots sc__law_slots rfl (by decide) (fun cdv A outer s H E hr => ?_)
  have hu := hu64 hr
  have hu65 := hu65 hr
  unfold b__law_slots l__law_slots_149
  exact (dss_cons (ds_set 3 sc__law_slots.nd (de_ofP (dp_op op_rep opn_repL (dk_of (dp_lst (dpl_cons (dp_of dk_non) dpl_nil))) (dk_var 0))))
 (dss_cons (ds_for PassesOwn.never rfl (di_r1 (by rfl) T.n_range (da_cons (de_use 2) da_nil)) (dg_name 4 sc__law_slots.nd)
 (dss_one (ds_asg (de_of (dk_ix (dk_var 1) (dk_var 4))) (dg_sub (pl_var 3) (dk_op op_modN opn_mod (dk_of (dp_callT call_int1 fn_int (by rfl) T.n_int PySem.Pv.boot_int (dl_cons (dk_var 4) dl_nil))) (dk_var 0))))))
 (dss_one (ds_ret (de_move 3)))))
theorem sc__law_right : FnScope [("play" : Str), "places", "side", "words", "counts", "p", "q", "at", "behind", "due", "slots"] [("play" : Str), "places", "side", "words", "counts"] (defScope s__law_right) := ⟨rfl, rfl, rfl, by decide +kernel, rfl, by decide +kernel, by decide +kernel⟩
theorem ok__law_right (T : Tops K mg) : FnOk P w K mg base CX0 3 T.f__law_right T.d__law_right [("play" : Str), "places", "side", "words", "counts"] (spD ⟨K, T.C.cls, T.C.exc⟩ [.rd, .rd, .rd, .rd, .v] m__law_right) := by
  refine fn_ok (C := T.C) (N := [("play" : Str), "places", "side", "words", "counts", "p", "q", "at", "behind", "due", "slots"]) T.F__law_right sc__law_right rfl (by decide) (fun cdv A outer s H E hr => ?_)
  have hu := hu64 hr
  have hu65 := hu65 hr
  unfold b__law_right
  exact (dss_cons (ds_asg (de_use 4) (dg_tup rfl (dgs_cons (dg_name 5 sc__law_right.nd) (dgs_cons (dg_name 6 sc__law_right.nd) (dgs_cons (dg_name 7 sc__law_right.nd) dgs_nil)))))
 (dss_cons (ds_if (dw_pt (dw_or (dt_not (dt_valK (dk_isO T.ic0 T.hc0 (by rfl) T.n_isinstance (by rfl) T.mc0 (dk_var 0)))) (dw_or (dt_not (dt_val (de_call (ok__law_is T) (hr.mono (by decide)) (by rfl) T.m__law_is T.F__law_is.kp T.b__law_is (dar_val (de_of (dk_fld (dk_var 0) T.fo0_1)) (dar_var 5 dar_nil)) fnC_noexc))) (dw_or1 (dt_not (dt_val (de_call (ok__law_is T) (hr.mono (by decide)) (by rfl) T.m__law_is T.F__law_is.kp T.b__law_is (dar_val (de_of (dk_fld (dk_var 0) T.fo0_2)) (dar_var 6 dar_nil)) fnC_noexc)))))))
 (dss_one (ds_ret (de_of dk_bl)))
 dss_nil)
 (dss_cons (ds_if (dw_pt (dw_or (dt_not (dt_val (de_call (ok__law_is T) (hr.mono (by decide)) (by rfl) T.m__law_is T.F__law_is.kp T.b__law_is (dar_val (de_of (dk_fld (dk_var 0) T.fo0_3)) (dar_var 7 dar_nil)) fnC_noexc))) (dw_or1 (dt_not (dt_chain op_le op_le opn_le opn_le dk_int (dk_op op_sub opn_sub (dk_fld (dk_var 0) T.fo0_1) (dk_fld (dk_var 0) T.fo0_2)) (dk_var 1))))))
 (dss_one (ds_ret (de_of dk_bl)))
 dss_nil)
 (dss_cons (ds_set 8 sc__law_right.nd (de_ofP (dp_callT call_int1 fn_int (by rfl) T.n_int PySem.Pv.boot_int (dl_cons (dk_cmp (op_eqU hu) opn_eq (dk_var 7) dk_int (nomark _)) dl_nil))))
 (dss_cons (ds_if (dt_cmpK (op_eqU hu) opn_eq (dk_var 2) dk_str (nomark _))
 (dss_cons (ds_set 9 sc__law_right.nd (de_ofP (dp_sl (dk_var 3) do_none (do_some (dk_op op_addU opn_add (dk_var 6) (dk_var 8))))))
 (dss_one (ds_set 10 sc__law_right.nd (de_call (ok__law_slots T) (hr.mono (by decide)) (by rfl) T.m__law_slots T.F__law_slots.kp T.b__law_slots (dar_var 1 (dar_var 3 (dar_var 5 dar_nil))) fnC_noexc))))
 (dss_cons (ds_set 9 sc__law_right.nd (de_ofP (dp_sl (dk_var 3) do_none (do_some (dk_var 6)))))
 (dss_one (ds_set 10 sc__law_right.nd (de_call (ok__law_slots T) (hr.mono (by decide)) (by rfl) T.m__law_slots T.F__law_slots.kp T.b__law_slots (dar_var 1 (dar_var 3 (dar_val (de_ofP (dp_op op_addU opn_add (dk_var 5) (dk_var 8))) dar_nil))) fnC_noexc)))))
 (dss_one (ds_ret (de_and (de_call (ok__law_same T) (hr.mono (by decide)) (by rfl) T.m__law_same T.F__law_same.kp T.b__law_same (dar_val (de_of (dk_fld (dk_var 0) T.fo0_0)) (dar_var 9 dar_nil)) fnC_noexc) (de_one (de_call (ok__law_same T) (hr.mono (by decide)) (by rfl) T.m__law_same T.F__law_same.kp T.b__law_same (dar_val (de_of (dk_fld (dk_var 0) T.fo0_4)) (dar_var 10 dar_nil)) fnC_noexc))))))))))
theorem sc__law_spoilt : FnScope [("at" : Str), "more", "taken", "index"] [("at" : Str), "more", "taken"] (defScope s__law_spoilt) := ⟨rfl, rfl, rfl, by decide +kernel, rfl, by decide +kernel, by decide +kernel⟩
theorem ok__law_spoilt (T : Tops K mg) : FnOk P w K mg base CX0 1 T.f__law_spoilt T.d__law_spoilt [("at" : Str), "more", "taken"] (spD ⟨K, T.C.cls, T.C.exc⟩ [.rd, .rd, .rd] m__law_spoilt) := by
  refine fn_ok (C := T.C) (N := [("at" : Str), "more", "taken", "index"]) T.F__law_spoilt sc__law_spoilt rfl (by decide) (fun cdv A outer s H E hr => ?_)
  have hu := hu64 hr
  have hu65 := hu65 hr
  unfold b__law_spoilt
  exact (dss_cons (ds_if (dt_cmpK (op_eqU hu) opn_eq (dk_of (dp_callB call_lenU fn_len (by rfl) T.n_len PySem.boot_len (dl_cons (dk_var 2) dl_nil))) dk_int (nomark _))
 (dss_one (ds_ret (de_ofP (dp_lst (dpl_cons (dp_of dk_non) dpl_nil)))))
 dss_nil)
 (dss_cons (ds_set 3 sc__law_spoilt.nd (de_ofP (dp_op op_modN opn_mod (dk_of (dp_callT call_int1 fn_int (by rfl) T.n_int PySem.Pv.boot_int (dl_cons (dk_var 0) dl_nil))) (dk_of (dp_callB call_lenU fn_len (by rfl) T.n_len PySem.boot_len (dl_cons (dk_var 2) dl_nil))))))
 (dss_one (ds_ret (de_ofP (dp_op op_addU opn_add (dk_op op_addU opn_add (dk_sl (dk_var 2) do_none (do_some (dk_var 3))) (dk_of (dp_lst (dpl_cons (dp_op op_addU opn_add (dk_op op_addU opn_add (dk_ix (dk_var 2) (dk_var 3)) dk_int) (dk_var 1)) dpl_nil)))) (dk_sl (dk_var 2) (do_some (dk_op op_addU opn_add (dk_var 3) dk_int)) do_none)))))))
theorem sc_law : FnScope [("script" : Str), "rows", "places", "side", "at", "more", "cuts", "words", "blocks", "counts", "plays", "cut", "k", "taken", "spoilt", "fault", "row", "given"] [("script" : Str)] (defScope s_law) := ⟨rfl, rfl, rfl, by decide +kernel, rfl, by decide +kernel, by decide +kernel⟩
theorem ok_law (T : Tops K mg) : FnOk P w K mg base CX0 5 T.f_law T.d_law [("script" : Str)] (spD ⟨K, T.C.cls, T.C.exc⟩ [.v] m_law) := by
  refine fn_ok (C := T.C) (N := [("script" : Str), "rows", "places", "side", "at", "more", "cuts", "words", "blocks", "counts", "plays", "cut", "k", "taken", "spoilt", "fault", "row", "given"]) T.F_law sc_law rfl (by decide) (fun cdv A outer s H E hr => ?_)
  have hu := hu64 hr
  have hu65 := hu65 hr
  unfold b_law l_law_191 l_law_183
  exact (dss_cons (ds_set 1 sc_law.nd (de_call (ok__law_tape T) (hr.mono (by decide)) (by rfl) T.m__law_tape T.F__law_tape.kp T.b__law_tape (dar_var 0 dar_nil) fnC_noexc))
 (dss_cons (ds_set 2 sc_law.nd (de_ix (de_lst (da_cons (de_of dk_int) (da_cons (de_of dk_int) (da_cons (de_of dk_int) (da_cons (de_of dk_int) (da_cons (de_of dk_int) (da_cons (de_op op_addU opn_add (de_of dk_int) (de_call (ok__law_draw T) (hr.mono (by decide)) (by rfl) T.m__law_draw T.F__law_draw.kp T.b__law_draw (dar_var 1 (dar_val (de_of dk_int) dar_nil)) fnC_noexc)) da_nil))))))) (de_call (ok__law_draw T) (hr.mono (by decide)) (by rfl) T.m__law_draw T.F__law_draw.kp T.b__law_draw (dar_var 1 (dar_val (de_of dk_int) dar_nil)) fnC_noexc)))
 (dss_cons (ds_set 3 sc_law.nd (de_ix (de_ofP (dp_lst (dpl_cons (dp_of dk_str) (dpl_cons (dp_of dk_str) dpl_nil)))) (de_call (ok__law_draw T) (hr.mono (by decide)) (by rfl) T.m__law_draw T.F__law_draw.kp T.b__law_draw (dar_var 1 (dar_val (de_of dk_int) dar_nil)) fnC_noexc)))
 (dss_cons (ds_set 4 sc_law.nd (de_call (ok__law_draw T) (hr.mono (by decide)) (by rfl) T.m__law_draw T.F__law_draw.kp T.b__law_draw (dar_var 1 (dar_val (de_of dk_int) dar_nil)) fnC_noexc))
 (dss_cons (ds_set 5 sc_law.nd (de_call (ok__law_draw T) (hr.mono (by decide)) (by rfl) T.m__law_draw T.F__law_draw.kp T.b__law_draw (dar_var 1 (dar_val (de_of dk_int) dar_nil)) fnC_noexc))
 (dss_cons (ds_set 6 sc_law.nd (de_lst (da_cons (de_call (ok__law_draw T) (hr.mono (by decide)) (by rfl) T.m__law_draw T.F__law_draw.kp T.b__law_draw (dar_var 1 (dar_val (de_of dk_int) dar_nil)) fnC_noexc) (da_cons (de_call (ok__law_draw T) (hr.mono (by decide)) (by rfl) T.m__law_draw T.F__law_draw.kp T.b__law_draw (dar_var 1 (dar_val (de_of dk_int) dar_nil)) fnC_noexc) da_nil))))
 (dss_cons (ds_set 7 sc_law.nd (de_call (ok__law_words T) (hr.mono (by decide)) (by rfl) T.m__law_words T.F__law_words.kp T.b__law_words (dar_var 1 dar_nil) fnC_noexc))
 (dss_cons (ds_set 8 sc_law.nd (de_call (ok__law_blocks T) (hr.mono (by decide)) (by rfl) T.m__law_blocks T.F__law_blocks.kp T.b__law_blocks (dar_var 1 (dar_var 2 dar_nil)) fnC_noexc))
 (dss_cons (ds_set 6 sc_law.nd (de_op op_addU opn_add (de_ofP (dp_lst (dpl_cons (dp_callB call_lenU fn_len (by rfl) T.n_len PySem.boot_len (dl_cons (dk_var 8) dl_nil)) dpl_nil))) (de_lc rfl sc_law.nd (di_val (de_use 6)) (blkOk_by (own := [("cut", 11)]) (by rfl)) (dgb_name 11 sc_law.nd (by intros; first | exact Or.inl rfl | exact Or.inr rfl) (by intros; first | exact Or.inr rfl | exact Or.inl rfl)) dts_nil (fun _ _ _ _ _ => (de_ofP (dp_op op_modN opn_mod (dk_of (dp_callT call_int1 fn_int (by rfl) T.n_int PySem.Pv.boot_int (dl_cons (dk_var 11) dl_nil))) (dk_op op_addU opn_add (dk_of (dp_callB call_lenU fn_len (by rfl) T.n_len PySem.boot_len (dl_cons (dk_var 8) dl_nil))) dk_int)))))))
 (dss_cons (ds_set 9 sc_law.nd (de_call (ok__law_counts T) (hr.mono (by decide)) (by rfl) T.m__law_counts T.F__law_counts.kp T.b__law_counts (dar_var 2 (dar_var 3 (dar_var 8 (dar_val (de_ofP (dp_callB call_lenU fn_len (by rfl) T.n_len PySem.boot_len (dl_cons (dk_var 7) dl_nil))) dar_nil)))) fnC_noexc))
 (dss_cons (ds_set 10 sc_law.nd (de_ofP (dp_lst dpl_nil)))
 (dss_cons (ds_for PassesOwn.never rfl (di_val (de_use 6)) (dg_name 11 sc_law.nd)
 (dss_cons (ds_set 16 sc_law.nd (de_ofP (dp_sl (dk_var 8) do_none (do_some (dk_var 11)))))
 (dss_cons (ds_set 17 sc_law.nd (de_ofP (dp_callT call_list_of fn_list (by rfl) T.n_list PySem.Pv.boot_list (dl_cons (dk_var 7) dl_nil))))
 (dss_cons (ds_expr (de_mutV PySem.F.slot_list_append PySem.F.type_list_append mt_append mutR_append 10 (pl_var 10) (da_cons (de_frz (de_call (ok_ring_played T) (hr.mono (by decide)) (by rfl) T.m_ring_played T.F_ring_played.kp T.b_ring_played (dar_var 2 (dar_var 3 (dar_val (de_of dk_str) (dar_var 16 (dar_var 17 dar_nil))))) fnC_noexc)) da_nil)))
 (dss_cons (ds_if (dw_pt (dw_or (dt_cmpK (op_neU hu) opn_ne (dk_var 16) (dk_sl (dk_var 8) do_none (do_some (dk_var 11))) (nomark _)) (dw_or1 (dt_cmpK (op_neU hu) opn_ne (dk_var 17) (dk_var 7) (nomark _)))))
 (dss_one (ds_ret (de_of dk_bl)))
 dss_nil)
 (dss_cons (ds_expr (de_mutV PySem.F.slot_list_append PySem.F.type_list_append mt_append mutR_append 16 (pl_var 16) (da_cons (de_of dk_int) da_nil)))
 (dss_one (ds_expr (de_mutV PySem.F.slot_list_append PySem.F.type_list_append mt_append mutR_append 17 (pl_var 17) (da_cons (de_of dk_int) da_nil))))))))))
 (dss_cons (ds_for PassesOwn.never rfl (di_r1 (by rfl) T.n_range (da_cons (de_ofP (dp_callB call_lenU fn_len (by rfl) T.n_len PySem.boot_len (dl_cons (dk_var 6) dl_nil))) da_nil)) (dg_name 12 sc_law.nd)
 (dss_one (ds_if (dt_not (dt_val (de_call (ok__law_right T) (hr.mono (by decide)) (by rfl) T.m__law_right T.F__law_right.kp T.b__law_right (dar_val (de_of (dk_ix (dk_var 10) (dk_var 12))) (dar_var 2 (dar_var 3 (dar_var 7 (dar_val (de_of (dk_ix (dk_var 9) (dk_ix (dk_var 6) (dk_var 12)))) dar_nil))))) fnC_noexc)))
 (dss_one (ds_ret (de_of dk_bl)))
 dss_nil)))
 (dss_cons (ds_set 13 sc_law.nd (de_ofP (dp_callT call_list_of fn_list (by rfl) T.n_list PySem.Pv.boot_list (dl_cons (dk_fld (dk_ix (dk_var 10) dk_int) T.fo0_0) dl_nil))))
 (dss_cons (ds_if (dt_cmp op_notNB opn_isnot (de_call (ok_ring_fault T) (hr.mono (by decide)) (by rfl) T.m_ring_fault T.F_ring_fault.kp T.b_ring_fault (dar_val (de_ofP (dp_callT call_list_of fn_list (by rfl) T.n_list PySem.Pv.boot_list (dl_cons (dk_var 7) dl_nil))) (dar_val (de_ofP (dp_callT call_list_of fn_list (by rfl) T.n_list PySem.Pv.boot_list (dl_cons (dk_var 13) dl_nil))) dar_nil)) fnC_noexc) (de_of dk_non) (nomark _))
 (dss_one (ds_ret (de_of dk_bl)))
 dss_nil)
 (dss_cons (ds_set 14 sc_law.nd (de_call (ok__law_spoilt T) (hr.mono (by decide)) (by rfl) T.m__law_spoilt T.F__law_spoilt.kp T.b__law_spoilt (dar_var 4 (dar_var 5 (dar_var 13 dar_nil))) fnC_noexc))
 (dss_cons (ds_set 15 sc_law.nd (de_of dk_int))
 (dss_cons (ds_if (dt_cmpK op_gt opn_gt (dk_of (dp_callB call_lenU fn_len (by rfl) T.n_len PySem.boot_len (dl_cons (dk_var 13) dl_nil))) dk_int (nomark _))
 (dss_one (ds_set 15 sc_law.nd (de_ofP (dp_op op_modN opn_mod (dk_of (dp_callT call_int1 fn_int (by rfl) T.n_int PySem.Pv.boot_int (dl_cons (dk_var 4) dl_nil))) (dk_of (dp_callB call_lenU fn_len (by rfl) T.n_len PySem.boot_len (dl_cons (dk_var 13) dl_nil)))))))
 dss_nil)
 (dss_one (ds_ret (de_call (ok__law_is T) (hr.mono (by decide)) (by rfl) T.m__law_is T.F__law_is.kp T.b__law_is (dar_val (de_call (ok_ring_fault T) (hr.mono (by decide)) (by rfl) T.m_ring_fault T.F_ring_fault.kp T.b_ring_fault (dar_val (de_ofP (dp_callT call_list_of fn_list (by rfl) T.n_list PySem.Pv.boot_list (dl_cons (dk_var 7) dl_nil))) (dar_val (de_use 14) dar_nil)) fnC_noexc) (dar_var 15 dar_nil)) fnC_noexc)))))))))))))))))))))
end
end K60

namespace K60
open PySem PySem.Spec PyProof.Rows L2 Dn
theorem draw_nil (n : Int) : m__law_draw [LI [], .f (.int n)] = .ret (.f (.int 0)) [LI [], .u] := by
  refine fn_rt (body := b__law_draw) (env := [.w (LI []), .r (.f (.int n))]) (env' := [.w (LI []), .r (.f (.int n))]) ?_ (by simp)
  unfold b__law_draw
  simp [x_sIf, x_sRet, len_LI]
theorem draw_cons (L : List Int) (x n : Int) (hn : 0 < n) : m__law_draw [LI (L ++ [x]), .f (.int n)] = .ret (.f (.int (x % n))) [LI L, .u] := by
  refine fn_rt (body := b__law_draw) (env := [.w (LI (L ++ [x])), .r (.f (.int n))]) (env' := [.w (LI L), .r (.f (.int n))]) ?_ (by simp)
  unfold b__law_draw
  have h0 : ((L.length : Int) + 1 = 0) = False := by simp; omega
  simp [x_sIf, x_sRet, len_LI, x_mutP, x_mut0w, LI_pop, x_mod _ _ hn, h0]
/-- what a draw gives, what it leaves -/
def drw (L : List Int) (n : Int) : Int := match L.getLast? with | some x => x % n | none => 0
theorem drw_lt {L : List Int} {n : Int} (h : 0 < n) : 0 ≤ drw L n ∧ drw L n < n := by
  unfold drw
  cases L.getLast? with
  | none => exact ⟨Int.le_refl 0, h⟩
  | some x => exact ⟨Int.emod_nonneg _ (by omega), Int.emod_lt_of_pos _ h⟩
theorem draw_ok (L : List Int) {n : Int} (h : 0 < n) : m__law_draw [LI L, .f (.int n)] = .ret (.f (.int (drw L n))) [LI L.dropLast, .u] := by
  rcases List.eq_nil_or_concat L with rfl | ⟨L', x, rfl⟩
  · exact draw_nil n
  · rw [List.concat_eq_append, draw_cons L' x n h]
    unfold drw
    simp
abbrev SC (ns : List Int) : S := .r (.f (.scr (ns.map D.int)))
theorem sz : sizeLine = 16777216 := rfl
theorem app_lt {L : List Int} {i : Int} (h : L.length < 16777216) : appendM (LI L) [.f (.int i)] = some (LI (L ++ [i]), .f .non) := by rw [LI_app, if_pos (by rw [sz]; exact h)]
def TapeP (ns : List Int) (r : SRes) : Prop := ∃ L : List Int, ∃ e, r = .rt (LI L) (SC ns :: e) ∧ L.length ≤ 2100
def Tp1 (ns : List Int) (e : Dn.Env) : Prop := ∃ (s : Int) (x : S), e = [SC ns, LI [], .f (.int s), x, .u, .u, .u]
def Tp2 (ns : List Int) (i : Nat) (e : Dn.Env) : Prop := ∃ (s : Int) (x : S) (L : List Int), e = [SC ns, LI L, .f (.int s), x, .u, .u, .u] ∧ L.length = i
def Tp3 (ns : List Int) (i : Nat) (e : Dn.Env) : Prop := ∃ (s x y z w : S) (L : List Int), e = [SC ns, LI L, s, x, y, z, w] ∧ L.length ≤ 420 + 24 * i
def Tp4 (ns : List Int) (s x w : S) (m i : Nat) (e : Dn.Env) : Prop := ∃ (c : Int) (z : S) (L : List Int), e = [SC ns, LI L, s, x, .f (.int c), z, w] ∧ L.length ≤ m + i
theorem tape_ok (ns : List Int) (h : ns.length ≤ 63) : ∃ L : List Int, m__law_tape [.f (.scr (ns.map D.int))] = .ret (LI L) [.u] ∧ L.length ≤ 2100 := by
  have key : TapeP ns (b__law_tape [SC ns, .u, .u, .u, .u, .u, .u]) := by
    unfold b__law_tape
    refine run_nx (e := [SC ns, LI [], .u, .u, .u, .u, .u]) (by simp [x_sSet]) ?_
    refine run_nx (e := [SC ns, LI [], .f (.int (ns.length * 977 + 1)), .u, .u, .u, .u]) (by simp [x_sSet, len_scr, x_mulR]) ?_
    obtain ⟨e1, h1, s1, x1, rfl⟩ := loop_rng (g := bName 3) (b := l__law_tape_60) (n := 63) (fun _ => Tp1 ns) [SC ns, LI [], .f (.int (ns.length * 977 + 1)), .u, .u, .u, .u] ⟨_, _, rfl⟩ (by
        rintro i _ hi ⟨s, x, rfl⟩
        rw [step_name _ _ _ _ (by simp)]
        unfold l__law_tape_60
        by_cases hl : i < ns.length
        · simp [x_sIf, x_sSet, len_scr, hl, ix_scr (List.getElem?_eq_getElem hl), x_mulR, x_mod]
          exact ⟨_, _, rfl⟩
        · simp [x_sIf, x_sSet, len_scr, hl]
          exact ⟨_, _, rfl⟩)
    refine run_for (by simp [x_vKs, r1_ok]) h1 ?_
    obtain ⟨e2, h2, s2, x2, L2, rfl, hL2⟩ := loop_rng (g := bName 3) (b := l__law_tape_63) (n := 420) (Tp2 ns) [SC ns, LI [], .f (.int s1), x1, .u, .u, .u] ⟨_, _, _, rfl, rfl⟩ (by
        rintro i _ hi ⟨s, x, L, rfl, hL⟩
        rw [step_name _ _ _ _ (by simp)]
        unfold l__law_tape_63
        simp [x_sExpr, x_sSet, x_mulR, x_mulL, x_mod, x_div, x_mutV, x_mutS, app_lt (L := L) (by omega)]
        exact ⟨_, _, _, rfl, by simp [hL]⟩)
    refine run_for (by simp [x_vKs, r1_ok]) h2 ?_
    obtain ⟨e3, h3, s3, x3, y3, z3, w3, L3, rfl, hL3⟩ := loop_rng (g := bName 3) (b := l__law_tape_66) (n := 63) (Tp3 ns) [SC ns, LI L2, .f (.int s2), x2, .u, .u, .u] ⟨_, _, _, _, _, _, rfl, by omega⟩ (by
        rintro i _ hi ⟨s, x, y, z, w, L, rfl, hL⟩
        rw [step_name _ _ _ _ (by simp)]
        unfold l__law_tape_66
        by_cases hl : i < ns.length
        · by_cases hc : (10 : Int) ^ 18 ≤ ns[i]
          · have h18 : (1000000000000000000 : Int) ≤ ns[i] := hc
            obtain ⟨e4, h4, c4, z4, L4, rfl, hL4⟩ := loop_rng (g := bName 5) (b := l__law_tape_70) (n := 24) (Tp4 ns s (.f (.int i)) w L.length) [SC ns, LI L, s, .f (.int i), .f (.int ns[i]), z, w] ⟨_, _, _, rfl, by omega⟩ (by
              rintro j _ hj ⟨c, z, L1, rfl, hL1⟩
              rw [step_name _ _ _ _ (by simp)]
              unfold l__law_tape_70
              by_cases hc0 : 0 < c
              · simp [x_sIf, x_sExpr, x_sSet, x_mod, x_div, x_mutV, x_mutS, app_lt (L := L1) (by omega), hc0]
                exact ⟨_, _, _, rfl, by simp; omega⟩
              · simp [x_sIf, hc0]
                exact ⟨_, _, _, rfl, by omega⟩)
            simp [x_sIf, x_sExpr, x_sSet, len_scr, hl, x_vKs, ix_scr (List.getElem?_eq_getElem hl), x_pow, h18, x_sFor, r1_ok, h4]
            exact ⟨_, _, _, _, _, _, rfl, by omega⟩
          · have h18 : ¬ (1000000000000000000 : Int) ≤ ns[i] := hc
            simp [x_sIf, x_sExpr, x_sSet, len_scr, hl, x_vKs, ix_scr (List.getElem?_eq_getElem hl), x_pow, h18, x_mulR, x_mod, x_div, x_mutV, x_mutS, app_lt (L := L) (by omega), app_lt (L := L ++ [_]) (by simp; omega)]
            exact ⟨_, _, _, _, _, _, rfl, by simp; omega⟩
        · simp [x_sIf, x_sSet, len_scr, hl]
          exact ⟨_, _, _, _, _, _, rfl, by omega⟩)
    refine run_for (by simp [x_vKs, r1_ok]) h3 ?_
    simp [x_sRet]
    exact ⟨_, _, rfl, by omega⟩
  obtain ⟨L, e, h1, h2⟩ := key
  exact ⟨L, fn_rt h1 (by simp), h2⟩
end K60

namespace K60
open PySem PySem.Spec PyProof.Rows L2 Dn
abbrev I (n : Int) : S := .f (.int n)
def Ce1 (n : Nat) (i : Nat) (ss : List S) (e : Dn.Env) : Prop := ∃ L C : List Int, e = [.w (LI L), .r (I n), .u, .u, .u] ∧ ss = C.map (fun i => I i) ∧ C.length = i
def Ce2 (n : Nat) (i : Nat) (e : Dn.Env) : Prop := ∃ (s : Int) (x : S) (L C : List Int), e = [.w (LI L), .r (I n), I s, LI C, x] ∧ C.length = i
def CeP (n : Nat) (r : SRes) : Prop := ∃ (C L : List Int) (e : Dn.Env), r = .rt (LI C) (.w (LI L) :: .r (I n) :: e) ∧ C.length = n
@[simp] theorem wrapw (s : S) (e : Dn.Env) : (S.w s :: e).getD 0 .u = .w s := rfl
theorem cells_ok (L : List Int) (n : Nat) (hn : n ≤ 1000) : ∃ C L' : List Int, m__law_cells [LI L, I n] = .ret (LI C) [LI L', .u] ∧ C.length = n := by
  have key : CeP n (b__law_cells [.w (LI L), .r (I n), .u, .u, .u]) := by
    unfold b__law_cells
    by_cases hb : (n : Int) + 40 ≤ L.length
    · obtain ⟨ss, e1, h1, L1, C1, rfl, rfl, hC1⟩ := lc_rng (g := b1) (is := [4]) (tt := tTrue) (te := eCall m__law_draw [some 0, none] [.bw, .rd] (aVar 0 (aVal (vK (kC (.int 5040))) aNil))) (vs := [4]) (n := n) (Ce1 n) [.w (LI L), .r (I n), .u, .u, .u] ⟨L, [], rfl, rfl, rfl⟩ (by
        rintro i acc _ hi ⟨L1, C1, rfl, rfl, hC⟩
        unfold lcStep
        simp [x_vKs, x_callD, x_lokb, draw_ok, x_dropB, x_clear]
        exact ⟨_, C1 ++ [drw L1 5040], rfl, by simp, by simp [hC]⟩)
      have hz : n ≤ sizeLine := by rw [sz]; omega
      simp [x_sIf, x_sRet, len_LI, hb, x_eLc, r1_ok, rng_len, x_dropB, x_clear, x_backB, h1, hz, show n < 4611686018427387904 by omega]
      exact ⟨C1, L1, _, rfl, hC1⟩
    · refine run_nx (e := [.w (LI L), .r (I n), .u, .u, .u]) (by simp [x_sIf, len_LI, hb]) ?_
      refine run_nx (e := [.w (LI L.dropLast), .r (I n), I (drw L 2147483647), .u, .u]) (by simp [x_sSet, x_vKs, x_callD, x_lokb, draw_ok]) ?_
      refine run_nx (e := [.w (LI L.dropLast), .r (I n), I (drw L 2147483647), LI [], .u]) (by simp [x_sSet]) ?_
      obtain ⟨e1, h1, s1, x1, L1, C1, rfl, hC1⟩ := loop_rng (g := bName 4) (b := l__law_cells_88) (n := n) (Ce2 n) [.w (LI L.dropLast), .r (I n), I (drw L 2147483647), LI [], .u] ⟨_, _, _, _, rfl, rfl⟩ (by
        rintro i _ hi ⟨s, x, L1, C1, rfl, hC⟩
        rw [step_name _ _ _ _ (by simp)]
        unfold l__law_cells_88
        simp [x_sExpr, x_sSet, x_mulR, x_mulL, x_mod, x_div, x_mutV, x_mutS, app_lt (L := C1) (by omega)]
        exact ⟨_, _, _, _, rfl, by simp [hC]⟩)
      refine run_for (by simp [r1_ok, show n < 4611686018427387904 by omega]) h1 ?_
      simp [x_sRet]
      exact ⟨_, _, _, rfl, hC1⟩
  obtain ⟨C, L', e, h1, h2⟩ := key
  exact ⟨C, L', fn_rt h1 (by simp), h2⟩
end K60

namespace K60
open PySem PySem.Spec PyProof.Rows L2 Dn
theorem pick_ok (xs : List Int) (k : Int) (h : 0 ≤ k) (h2 : k < xs.length) : ∃ x ∈ xs, ixS (LI xs) (I k) = some (I x) := by
  obtain ⟨n, rfl⟩ := Int.eq_ofNat_of_zero_le h
  have hn : n < xs.length := by omega
  exact ⟨xs[n], List.getElem_mem hn, ix_LI (List.getElem?_eq_getElem hn)⟩
def WoP (r : SRes) : Prop := ∃ (W L : List Int) (e : Dn.Env), r = .rt (LI W) (.w (LI L) :: e) ∧ W.length ≤ 200
def Wo1 (L C : List Int) (w : Int) (i : Nat) (e : Dn.Env) : Prop := ∃ (x : S) (W : List Int), e = [.w (LI L), LI C, I w, LI W, x] ∧ W.length = i
theorem words_ok (L : List Int) : ∃ W L' : List Int, m__law_words [LI L] = .ret (LI W) [LI L'] ∧ W.length ≤ 200 := by
  have key : WoP (b__law_words [.w (LI L), .u, .u, .u, .u]) := by
    unfold b__law_words
    have d2 := drw_lt (L := L) (n := 2) (by decide)
    obtain ⟨x, hx, px⟩ := pick_ok [13, 201] (drw L 2) d2.1 d2.2
    have px : ixS (.l [I 13, I 201]) (I (drw L 2)) = some (I x) := px
    have x0 : 0 < x ∧ x ≤ 201 := by simp at hx; omega
    have d3 := drw_lt (L := L.dropLast) (n := x) x0.1
    obtain ⟨n, hn⟩ := Int.eq_ofNat_of_zero_le d3.1
    obtain ⟨C, L1, hC, hl⟩ := cells_ok L.dropLast.dropLast n (by omega)
    refine run_nx (e := [.w (LI L1), LI C, .u, .u, .u]) (by simp [x_sSet, x_vKs, x_callD, x_lokb, draw_ok, sz, px, x0.1, hn, hC]) ?_
    refine run_nx (e := [.w (LI L1.dropLast), LI C, I (drw L1 3), .u, .u]) (by simp [x_sSet, x_vKs, x_callD, x_lokb, draw_ok]) ?_
    refine run_nx (e := [.w (LI L1.dropLast), LI C, I (drw L1 3), LI [], .u]) (by simp [x_sSet]) ?_
    obtain ⟨e1, h1, x1, W1, rfl, hW1⟩ := loop_rng (g := bName 4) (b := l__law_words_96) (n := C.length) (Wo1 L1.dropLast C (drw L1 3)) [.w (LI L1.dropLast), LI C, I (drw L1 3), LI [], .u] ⟨_, _, rfl, rfl⟩ (by
      rintro i _ hi ⟨x, W, rfl, hW⟩
      rw [step_name _ _ _ _ (by simp)]
      unfold l__law_words_96
      have hc := ix_LI (List.getElem?_eq_getElem hi)
      have ha := fun j => app_lt (L := W) (i := j) (by omega)
      by_cases h0 : drw L1 3 = 0
      · simp [x_sIf, x_sExpr, h0, hc, x_mod, x_mutV, x_mutS, ha]
        exact ⟨_, _, rfl, by simp [hW]⟩
      · by_cases h1 : drw L1 3 = 1
        · simp [x_sIf, x_sExpr, h0, h1, hc, x_mod, x_mutV, x_mutS, ha, x_mulL]
          exact ⟨_, _, rfl, by simp [hW]⟩
        · simp [x_sIf, x_sExpr, h0, h1, hc, x_mod, x_mutV, x_mutS, ha, x_mulR, x_pow]
          exact ⟨_, _, rfl, by simp [hW]⟩)
    refine run_for (by simp [len_LI, r1_ok, show C.length < 4611686018427387904 by omega]) h1 ?_
    simp [x_sRet]
    exact ⟨_, _, _, rfl, by omega⟩
  obtain ⟨W, L', e, h1, h2⟩ := key
  exact ⟨W, L', fn_rt h1 (by simp), h2⟩
def BlP (r : SRes) : Prop := ∃ (B L : List Int) (p : S) (e : Dn.Env), r = .rt (LI B) (.w (LI L) :: p :: e) ∧ B.length ≤ 200 ∧ ∀ b ∈ B, 0 ≤ b ∧ b ≤ 300
def Bl1 (L C : List Int) (p : Int) (i : Nat) (e : Dn.Env) : Prop := ∃ (x y : S) (B : List Int), e = [.w (LI L), .r (I p), .f (FI C), LI B, x, y] ∧ B.length = i ∧ ∀ b ∈ B, 0 ≤ b ∧ b ≤ 300
theorem blocks_ok (L : List Int) (p : Int) (hp : 0 < p ∧ p ≤ 60) : ∃ B L' : List Int, m__law_blocks [LI L, I p] = .ret (LI B) [LI L', .u] ∧ B.length ≤ 200 ∧ ∀ b ∈ B, 0 ≤ b ∧ b ≤ 300 := by
  have key : BlP (b__law_blocks [.w (LI L), .r (I p), .u, .u, .u, .u]) := by
    unfold b__law_blocks
    have d2 := drw_lt (L := L) (n := 3) (by decide)
    obtain ⟨x, hx, px⟩ := pick_ok [13, 41, 201] (drw L 3) d2.1 d2.2
    have px : ixS (.l [I 13, I 41, I 201]) (I (drw L 3)) = some (I x) := px
    have x0 : 0 < x ∧ x ≤ 201 := by simp at hx; omega
    have d3 := drw_lt (L := L.dropLast) (n := x) x0.1
    obtain ⟨n, hn⟩ := Int.eq_ofNat_of_zero_le d3.1
    obtain ⟨C, L1, hC, hl⟩ := cells_ok L.dropLast.dropLast n (by omega)
    refine run_nx (e := [.w (LI L1), .r (I p), LI C, .u, .u, .u]) (by simp [x_sSet, x_vKs, x_callD, x_lokb, draw_ok, sz, px, x0.1, hn, hC]) ?_
    refine run_nx (e := [.w (LI L1), .r (I p), LI C, LI [], .u, .u]) (by simp [x_sSet]) ?_
    obtain ⟨e1, h1, x1, y1, B1, rfl, hB1, bB1⟩ := loop_inv (g := bName 4) (b := l__law_blocks_107) (Bl1 L1 C p) (C.map D.int) [.w (LI L1), .r (I p), .f (FI C), LI [], .u, .u] ⟨_, _, _, rfl, rfl, by simp⟩ (by
      rintro i d _ hd ⟨x, y, B, rfl, hB, bB⟩
      rw [List.getElem?_map] at hd
      have hi : i < C.length := by
        cases k : C[i]? with
        | none => rw [k] at hd; cases hd
        | some c => exact (List.getElem?_eq_some_iff.mp k).1
      rw [List.getElem?_eq_getElem hi] at hd
      cases hd
      rw [step_name _ _ _ _ (by simp)]
      unfold l__law_blocks_107
      have ha := fun j => app_lt (L := B) (i := j) (by omega)
      obtain ⟨z, hz, pz⟩ := pick_ok [2, 2, 2, 4, 4, p + 3, p + 3, 201] (C[i] / 16 % 8) (by omega) (by simp; omega)
      have pz : ixS (.l [I 2, I 2, I 2, I 4, I 4, I (p + 3), I (p + 3), I 201]) (I (C[i] / 16 % 8)) = some (I z) := pz
      have z0 : 0 < z ∧ z ≤ 300 := by simp at hz; omega
      simp [x_sExpr, x_sSet, x_vKs, x_mod, x_div, sz, pz, z0.1, x_mutV, x_mutS, ha]
      refine ⟨_, _, _, rfl, by simp [hB], fun b hb => ?_⟩
      rcases List.mem_append.mp hb with hb | hb
      · exact bB b hb
      · have : b = C[i] % z := by simpa using hb
        have := Int.emod_nonneg C[i] (show z ≠ 0 by omega)
        have := Int.emod_lt_of_pos C[i] z0.1
        omega)
    refine run_for (by simp; rfl) h1 ?_
    simp [x_sRet]
    rw [List.length_map] at hB1
    exact ⟨_, _, _, _, rfl, by omega, bB1⟩
  obtain ⟨W, L', q, e, h1, h2⟩ := key
  exact ⟨W, L', fn_rt h1 (by simp), h2⟩
end K60

namespace K60
open PySem PySem.Spec PyProof.Rows L2 Dn
abbrev OB (T : List Int) (p q a : Nat) (X : List (Option Int)) : S := .o 0 [LI T, I p, I q, I a, SL X]
theorem init_ok (n : Nat) (h : n ≤ 1000) : m_RingPlay_init [.o 0 [], I n] = .ret (.f .non) [OB [] 0 0 0 (List.replicate n none), .u] := by
  refine fn_nx (body := b_RingPlay_init) (env := [.w (.o 0 []), .r (I n)]) (env' := [.w (OB [] 0 0 0 (List.replicate n none)), .r (I n)]) ?_ (by simp)
  unfold b_RingPlay_init
  simp [x_sFldS, x_mutF0w, x_setFld, x_vKs, rep_non (m := n) (by omega), sz]
theorem mp_ok (T : List Int) (p q a : Nat) (X : List (Option Int)) (W : List Int) : m_may_put [OB T p q a X, LI W] = .ret (.f (.bl (decide ((p : Int) - q < X.length) && decide (p < W.length)))) [.u, .u] := by
  refine fn_rt (body := b_may_put) (env := [.r (OB T p q a X), .r (LI W)]) (env' := [.r (OB T p q a X), .r (LI W)]) ?_ (by simp)
  unfold b_may_put
  by_cases h : (p : Int) - q < X.length
  · simp [x_sRet, x_vKs, len_SL, len_LI, h]
  · simp [x_sRet, x_vKs, len_SL, len_LI, h]
theorem mt_ok (T : List Int) (p q a : Nat) (X : List (Option Int)) : m_may_take [OB T p q a X] = .ret (.f (.bl (decide (q < p)))) [.u] := by
  refine fn_rt (body := b_may_take) (env := [.r (OB T p q a X)]) (env' := [.r (OB T p q a X)]) ?_ (by simp)
  unfold b_may_take
  simp [x_sRet, x_vKs]
theorem modN (n m : Nat) (h : 0 < m) : modS (.f (.int n)) (.f (.int m)) = some (.f (.int ((n % m : Nat) : Int))) := by
  rw [x_mod _ _ (by omega)]; rfl
theorem pw_ok (T : List Int) (p q a : Nat) (X : List (Option Int)) (W : List Int) (n : Nat) (w : Int) (hw : W[n]? = some w) (hx : 0 < X.length) :
    m_put_word [OB T p q a X, I n, LI W] = .ret (.f .non) [OB T p q a (X.set (n % X.length) (some w)), .u, .u] := by
  refine fn_nx (body := b_put_word) (env := [.w (OB T p q a X), .r (I n), .r (LI W)]) (env' := [.w (OB T p q a (X.set (n % X.length) (some w))), .r (I n), .r (LI W)]) ?_ (by simp)
  unfold b_put_word
  have hs := set_SL (X := X) (k := n % X.length) (o := some w) (Nat.mod_lt _ hx)
  rw [oD_some] at hs
  simp [x_sAsg, x_vKs, ix_LI hw, x_bSub, x_pFld, len_SL, modN n X.length hx, x_mutN, x_mut0wo, hs, -Int.natCast_emod]
theorem tw_ok (T : List Int) (p q a : Nat) (X : List (Option Int)) (n : Nat) (w : Int) (hw : X[n % X.length]? = some (some w)) (hx : 0 < X.length) (hT : T.length < 1000) :
    m_take_word [OB T p q a X, I n] = .ret (.f .non) [OB (T ++ [w]) p q a X, .u] := by
  refine fn_nx (body := b_take_word) (env := [.w (OB T p q a X), .r (I n)]) (env' := [.w (OB (T ++ [w]) p q a X), .r (I n)]) ?_ (by simp)
  unfold b_take_word
  have hi := ix_SL hw
  rw [oD_some] at hi
  simp [x_sExpr, x_mutP, x_pFld, len_SL, modN n X.length hx, x_mut0wo, hi, app_lt (L := T) (by omega), -Int.natCast_emod]
end K60

namespace K60
open PySem PySem.Spec PyProof.Rows L2 Dn
def slotsOf (pl : Nat) (W : List Int) : Nat → List (Option Int)
  | 0 => List.replicate pl none
  | n + 1 => (slotsOf pl W n).set (n % pl) W[n]?
theorem slots_len (pl : Nat) (W : List Int) : ∀ n, (slotsOf pl W n).length = pl
  | 0 => List.length_replicate
  | n + 1 => by unfold slotsOf; rw [List.length_set, slots_len pl W n]
theorem slots_get {pl : Nat} {W : List Int} (h0 : 0 < pl) : ∀ {n q : Nat}, q < n → n ≤ q + pl → (slotsOf pl W n)[q % pl]? = some W[q]?
  | n + 1, q, h1, h2 => by
    unfold slotsOf
    by_cases e : q = n
    · subst e
      rw [List.getElem?_set_self (by rw [slots_len]; exact Nat.mod_lt _ h0)]
    · rw [List.getElem?_set_ne ?_]
      · exact slots_get h0 (by omega) (by omega)
      · intro k
        have := Nat.sub_mod_eq_zero_of_mod_eq k
        rw [Nat.mod_eq_of_lt (by omega)] at this
        omega
def tkS (tk : Bool) : Str := if tk then "takes" else "puts"
theorem s_takes (tk : Bool) : decide (tkS tk = "takes") = tk := by cases tk <;> decide +kernel
theorem s_puts (tk : Bool) : decide (tkS tk = "puts") = !tk := by cases tk <;> decide +kernel
theorem s_word : decide (("word" : Str) = "word") = true := by decide +kernel
theorem s_wc : decide (("word" : Str) = "count") = false := by decide +kernel
def tN (tk : Bool) (q a : Nat) : Nat := if tk && a == 2 then q + 1 else q
def xN (tk : Bool) (p a : Nat) : Nat := if !tk && a == 2 then p + 1 else p
/-- a play stands so -/
abbrev OW (tk : Bool) (W : List Int) (pl p q a : Nat) : S := OB (W.take (tN tk q a)) p q a (slotsOf pl W (xN tk p a))
structure Va (tk : Bool) (W : List Int) (pl p q a : Nat) : Prop where
  qp : q ≤ p
  pW : p ≤ W.length
  cap : p ≤ q + pl
  a2 : a ≤ 2
  t : tk = true → a ≠ 0 → q < p
  u : tk = false → a ≠ 0 → p < W.length ∧ p < q + pl
  p0 : 0 < pl
  pm : pl ≤ 60
  Wm : W.length ≤ 200
def hP (tk : Bool) (m pl p q : Nat) : Nat := if tk then (if p < q + pl ∧ p < m then p + 1 else p) else p
def hQ (tk : Bool) (p q : Nat) : Nat := if tk then q else (if q < p then q + 1 else q)
theorem take_snoc {W : List Int} {q : Nat} (h : q < W.length) : W.take q ++ [W[q]] = W.take (q + 1) := by rw [List.take_succ_eq_append_getElem h]
theorem hb_ok {tk : Bool} {W : List Int} {pl p q a : Nat} (v : Va tk W pl p q a) :
    m_handler_block [OW tk W pl p q a, .f (.str (tkS tk)), LI W] = .ret (.f .non) [OW tk W pl (hP tk W.length pl p q) (hQ tk p q) a, .u, .u] := by
  refine fn_nx (body := b_handler_block) (env := [.w (OW tk W pl p q a), .r (.f (.str (tkS tk))), .r (LI W)]) (env' := [.w (OW tk W pl (hP tk W.length pl p q) (hQ tk p q) a), .r (.f (.str (tkS tk))), .r (LI W)]) ?_ (by simp)
  unfold b_handler_block
  obtain ⟨h1, h2, h3, h4, h5, h6, h7, h8, h9⟩ := v
  cases tk with
  | true =>
    by_cases hc : p < q + pl ∧ p < W.length
    · have e1 : (p : Int) - q < pl := by omega
      have hw : W[p]? = some W[p] := List.getElem?_eq_getElem hc.2
      have hs : (slotsOf pl W (xN true p a)).set (p % pl) (some W[p]) = slotsOf pl W (xN true (p + 1) a) := by
        show (slotsOf pl W p).set _ _ = slotsOf pl W (p + 1)
        rw [← hw]; rfl
      have pw := pw_ok (W.take (tN true q a)) p q a (slotsOf pl W (xN true p a)) W p W[p] hw (by rw [slots_len]; exact h7)
      rw [slots_len, hs] at pw
      simp [x_sIf, s_takes, x_callD, mp_ok, slots_len, e1, hc, x_sExpr, x_vKs, pw, x_lokb, x_sFldAug, x_mutF0w, x_augFld, x_setFld, hP, hQ]
    · have e1 : ¬ ((p : Int) - q < pl ∧ p < W.length) := by omega
      have e2 : (decide ((p : Int) - q < pl) && decide (p < W.length)) = false := by simpa using e1
      simp [x_sIf, s_takes, x_callD, mp_ok, slots_len, e2, hc, hP, hQ]
  | false =>
    by_cases hc : q < p
    · have hq : q < W.length := by omega
      have hw : W[q]? = some W[q] := List.getElem?_eq_getElem hq
      have hx : (slotsOf pl W (xN false p a))[q % (slotsOf pl W (xN false p a)).length]? = some (some W[q]) := by
        rw [slots_len, slots_get h7, hw]
        · unfold xN; split <;> omega
        · unfold xN
          split
          · rename_i k
            have : a = 2 := by simpa using k
            have := h6 rfl (by omega)
            omega
          · omega
      have tw := tw_ok (W.take (tN false q a)) p q a (slotsOf pl W (xN false p a)) q W[q] hx (by rw [slots_len]; exact h7) (by rw [List.length_take]; omega)
      have hT : W.take (tN false q a) ++ [W[q]] = W.take (tN false (q + 1) a) := take_snoc hq
      rw [hT] at tw
      simp [x_sIf, s_takes, x_callD, mt_ok, hc, x_sExpr, x_vKs, tw, x_lokb, x_sFldAug, x_mutF0w, x_augFld, x_setFld, hP, hQ]
    · simp [x_sIf, s_takes, x_callD, mt_ok, hc, hP, hQ]
theorem hb_va {tk : Bool} {W : List Int} {pl p q a : Nat} (v : Va tk W pl p q a) : Va tk W pl (hP tk W.length pl p q) (hQ tk p q) a := by
  obtain ⟨h1, h2, h3, h4, h5, h6, h7, h8, h9⟩ := v
  cases tk with
  | true =>
    have := h5 rfl
    unfold hP hQ
    simp only [if_true]
    split
    · exact ⟨by omega, by omega, by omega, h4, fun _ k => by have := this k; omega, (fun k => nomatch k), h7, h8, h9⟩
    · exact ⟨h1, h2, h3, h4, fun _ => this, (fun k => nomatch k), h7, h8, h9⟩
  | false =>
    have := h6 rfl
    unfold hP hQ
    simp only [Bool.false_eq_true, if_false]
    split
    · exact ⟨by omega, by omega, by omega, h4, (fun k => nomatch k), fun _ k => by have := this k; omega, h7, h8, h9⟩
    · exact ⟨h1, h2, h3, h4, (fun k => nomatch k), fun _ => this, h7, h8, h9⟩
end K60

namespace K60
open PySem PySem.Spec PyProof.Rows L2 Dn
/-- what the main step makes of p, q, at -/
def mst (tk : Bool) (m pl p q a : Nat) : Nat × Nat × Nat :=
  if a = 0 then (p, q, if (if tk then q < p else p < q + pl ∧ p < m) then 1 else 0)
  else if a = 1 then (p, q, 2) else (if tk then (p, q + 1, 0) else (p + 1, q, 0))
abbrev OX (tk : Bool) (W : List Int) (pl : Nat) (x : Nat × Nat × Nat) : S := OW tk W pl x.1 x.2.1 x.2.2
abbrev Vx (tk : Bool) (W : List Int) (pl : Nat) (x : Nat × Nat × Nat) : Prop := Va tk W pl x.1 x.2.1 x.2.2
theorem ws_t {W : List Int} {pl p q : Nat} (v : Va true W pl p q 1) : m_word_step [OW true W pl p q 1, .f (.str (tkS true)), .f (.str "word"), LI W] = .ret (.f .non) [OB (W.take (q + 1)) p q 1 (slotsOf pl W p), .u, .u, .u] := by
  refine fn_nx (body := b_word_step) (env := [.w (OW true W pl p q 1), .r (.f (.str (tkS true))), .r (.f (.str "word")), .r (LI W), .u]) (env' := [.w (OB (W.take (q + 1)) p q 1 (slotsOf pl W p)), .r (.f (.str (tkS true))), .r (.f (.str "word")), .r (LI W), I 0]) ?_ (by simp)
  obtain ⟨h1, h2, h3, h4, h5, h6, h7, h8, h9⟩ := v
  have hc := h5 rfl (by omega)
  have hq : q < W.length := by omega
  have hw : W[q]? = some W[q] := List.getElem?_eq_getElem hq
  have hx : (slotsOf pl W (xN true p 1))[q % (slotsOf pl W (xN true p 1)).length]? = some (some W[q]) := by
    rw [slots_len, slots_get h7 (by exact hc) (by exact h3), hw]
  have tw := tw_ok (W.take (tN true q 1)) p q 1 (slotsOf pl W (xN true p 1)) q W[q] hx (by rw [slots_len]; exact h7) (by rw [List.length_take]; omega)
  have hT : W.take (tN true q 1) ++ [W[q]] = W.take (q + 1) := take_snoc hq
  rw [hT] at tw
  unfold b_word_step
  simp [x_sIf, s_takes, s_wc, x_callD, x_sSet, x_sExpr, x_vKs, x_lokb] at tw ⊢
  simp [tw, xN]
theorem ws_f {W : List Int} {pl p q : Nat} (v : Va false W pl p q 1) : m_word_step [OW false W pl p q 1, .f (.str (tkS false)), .f (.str "word"), LI W] = .ret (.f .non) [OB (W.take q) p q 1 (slotsOf pl W (p + 1)), .u, .u, .u] := by
  refine fn_nx (body := b_word_step) (env := [.w (OW false W pl p q 1), .r (.f (.str (tkS false))), .r (.f (.str "word")), .r (LI W), .u]) (env' := [.w (OB (W.take q) p q 1 (slotsOf pl W (p + 1))), .r (.f (.str (tkS false))), .r (.f (.str "word")), .r (LI W), I 0]) ?_ (by simp)
  obtain ⟨h1, h2, h3, h4, h5, h6, h7, h8, h9⟩ := v
  have hc := h6 rfl (by omega)
  have hw : W[p]? = some W[p] := List.getElem?_eq_getElem hc.1
  have hs : (slotsOf pl W (xN false p 1)).set (p % pl) (some W[p]) = slotsOf pl W (p + 1) := by
    rw [← hw]; rfl
  have pw := pw_ok (W.take (tN false q 1)) p q 1 (slotsOf pl W (xN false p 1)) W p W[p] hw (by rw [slots_len]; exact h7)
  rw [slots_len, hs] at pw
  unfold b_word_step
  simp [x_sIf, s_takes, s_wc, x_callD, x_sSet, x_sExpr, x_vKs, x_lokb] at pw ⊢
  simp [pw, tN]
theorem ms_ok {tk : Bool} {W : List Int} {pl p q a : Nat} (v : Va tk W pl p q a) :
    m_main_step [OW tk W pl p q a, .f (.str (tkS tk)), .f (.str "word"), LI W] = .ret (.f .non) [OX tk W pl (mst tk W.length pl p q a), .u, .u, .u] := by
  obtain ⟨h1, h2, h3, h4, h5, h6, h7, h8, h9⟩ := v
  have ha : a = 0 ∨ a = 1 ∨ a = 2 := by omega
  rcases ha with rfl | rfl | rfl
  · refine fn_rt (body := b_main_step) (env := [.w (OW tk W pl p q 0), .r (.f (.str (tkS tk))), .r (.f (.str "word")), .r (LI W), .u]) (env' := [.w (OX tk W pl (mst tk W.length pl p q 0)), .r (.f (.str (tkS tk))), .r (.f (.str "word")), .r (LI W), .f (.bl (if tk then decide (q < p) else decide ((p : Int) - q < pl) && decide (p < W.length)))]) ?_ (by simp)
    unfold b_main_step
    cases tk with
    | true =>
      by_cases hc : q < p
      · simp [x_sIf, s_takes, x_callD, mt_ok, x_sSet, x_sFldS, x_mutF0w, x_setFld, x_vKs, hc, mst, tN, xN]
      · simp [x_sIf, s_takes, x_callD, mt_ok, x_sSet, x_sFldS, x_mutF0w, x_setFld, x_vKs, hc, mst, tN, xN]
    | false =>
      by_cases hc : p < q + pl ∧ p < W.length
      · have e1 : (p : Int) - q < pl := by omega
        simp [x_sIf, s_takes, x_callD, mp_ok, x_sSet, x_sFldS, x_mutF0w, x_setFld, x_vKs, slots_len, e1, hc, mst, tN, xN]
      · have e1 : ¬ ((p : Int) - q < pl ∧ p < W.length) := by omega
        have e2 : (decide ((p : Int) - q < pl) && decide (p < W.length)) = false := by simpa using e1
        simp [x_sIf, s_takes, x_callD, mp_ok, x_sSet, x_sFldS, x_mutF0w, x_setFld, x_vKs, slots_len, e2, hc, mst, tN, xN]
  · refine fn_nx (body := b_main_step) (env := [.w (OW tk W pl p q 1), .r (.f (.str (tkS tk))), .r (.f (.str "word")), .r (LI W), .u]) (env' := [.w (OX tk W pl (mst tk W.length pl p q 1)), .r (.f (.str (tkS tk))), .r (.f (.str "word")), .r (LI W), .u]) ?_ (by simp)
    unfold b_main_step
    cases tk with
    | true =>
      have ws := ws_t ⟨h1, h2, h3, h4, h5, h6, h7, h8, h9⟩
      simp [x_sIf, x_callD, x_sExpr, x_lokb, x_sFldS, x_mutF0w, x_setFld, x_vKs, s_word] at ws ⊢
      simp [ws, x_sFldS, x_mutF0w, x_setFld, x_vKs, mst, tN, xN]
    | false =>
      have ws := ws_f ⟨h1, h2, h3, h4, h5, h6, h7, h8, h9⟩
      simp [x_sIf, x_callD, x_sExpr, x_lokb, x_sFldS, x_mutF0w, x_setFld, x_vKs, s_word] at ws ⊢
      simp [ws, x_sFldS, x_mutF0w, x_setFld, x_vKs, mst, tN, xN]
  · refine fn_nx (body := b_main_step) (env := [.w (OW tk W pl p q 2), .r (.f (.str (tkS tk))), .r (.f (.str "word")), .r (LI W), .u]) (env' := [.w (OX tk W pl (mst tk W.length pl p q 2)), .r (.f (.str (tkS tk))), .r (.f (.str "word")), .r (LI W), .u]) ?_ (by simp)
    unfold b_main_step
    cases tk with
    | true => simp [x_sIf, s_takes, s_word, x_sFldAug, x_augFld, x_sFldS, x_mutF0w, x_setFld, x_vKs, mst, tN, xN]
    | false => simp [x_sIf, s_takes, s_word, x_sFldAug, x_augFld, x_sFldS, x_mutF0w, x_setFld, x_vKs, mst, tN, xN]
theorem ms_va {tk : Bool} {W : List Int} {pl p q a : Nat} (v : Va tk W pl p q a) : Vx tk W pl (mst tk W.length pl p q a) := by
  obtain ⟨h1, h2, h3, h4, h5, h6, h7, h8, h9⟩ := v
  have ha : a = 0 ∨ a = 1 ∨ a = 2 := by omega
  unfold mst
  rcases ha with rfl | rfl | rfl
  · cases tk with
    | true =>
      by_cases hc : q < p
      · simp [hc]
        exact ⟨h1, h2, h3, by simp, fun _ _ => hc, (fun k => nomatch k), h7, h8, h9⟩
      · simp [hc]
        exact ⟨h1, h2, h3, by simp, fun _ k => absurd rfl k, (fun k => nomatch k), h7, h8, h9⟩
    | false =>
      by_cases hc : p < q + pl ∧ p < W.length
      · simp [hc]
        exact ⟨h1, h2, h3, by simp, (fun k => nomatch k), fun _ _ => ⟨hc.2, hc.1⟩, h7, h8, h9⟩
      · simp [hc]
        exact ⟨h1, h2, h3, by simp, (fun k => nomatch k), fun _ k => absurd rfl k, h7, h8, h9⟩
  · simp
    exact ⟨h1, h2, h3, by simp, fun k _ => h5 k (by omega), fun k _ => h6 k (by omega), h7, h8, h9⟩
  · cases tk with
    | true =>
      have := h5 rfl (by omega)
      simp
      exact ⟨by show q + 1 ≤ p; omega, h2, by show p ≤ q + 1 + pl; omega, by show 0 ≤ 2; omega, fun _ k => absurd rfl k, (fun k => nomatch k), h7, h8, h9⟩
    | false =>
      have := h6 rfl (by omega)
      simp
      exact ⟨by show q ≤ p + 1; omega, by show p + 1 ≤ W.length; omega, by show p + 1 ≤ q + pl; omega, by show 0 ≤ 2; omega, (fun k => nomatch k), fun _ k => absurd rfl k, h7, h8, h9⟩
end K60

namespace K60
open PySem PySem.Spec PyProof.Rows L2 Dn
abbrev nI (N : List Nat) : List Int := N.map fun n : Nat => (n : Int)
/-- b turns of the handler at once -/
def hPn (tk : Bool) (m pl p q b : Nat) : Nat := if tk then p + min b (min (pl - (p - q)) (m - p)) else p
def hQn (tk : Bool) (p q b : Nat) : Nat := if tk then q else q + min b (p - q)
theorem hP_step (tk : Bool) (m pl p q b : Nat) (h1 : q ≤ p) (h3 : p ≤ q + pl) (h2 : p ≤ m) : hP tk m pl (hPn tk m pl p q b) (hQn tk p q b) = hPn tk m pl p q (b + 1) ∧ hQ tk (hPn tk m pl p q b) (hQn tk p q b) = hQn tk p q (b + 1) := by
  unfold hP hQ hPn hQn
  cases tk with
  | true =>
    simp only [if_true]
    refine ⟨?_, trivial⟩
    split <;> omega
  | false =>
    simp only [Bool.false_eq_true, if_false]
    refine ⟨trivial, ?_⟩
    split <;> omega
/-- what a block makes of p, q, at -/
def blk (tk : Bool) (m pl : Nat) (x : Nat × Nat × Nat) (b : Nat) : Nat × Nat × Nat := mst tk m pl (hPn tk m pl x.1 x.2.1 b) (hQn tk x.1 x.2.1 b) x.2.2
def st (tk : Bool) (m pl : Nat) (B : List Nat) : Nat × Nat × Nat := B.foldl (blk tk m pl) (0, 0, 0)
abbrev Ev (tk : Bool) (W B : List Int) (pl : Nat) (s x y : S) : Dn.Env := [.r (I pl), .r (.f (.str (tkS tk))), .r (.f (.str "word")), .r (LI B), .r (LI W), s, x, y]
def Rp1 (tk : Bool) (W B : List Int) (pl p q a : Nat) (x : S) (i : Nat) (e : Dn.Env) : Prop := ∃ y, e = Ev tk W B pl (OW tk W pl (hPn tk W.length pl p q i) (hQn tk p q i) a) x y ∧ Va tk W pl (hPn tk W.length pl p q i) (hQn tk p q i) a
def Rp2 (tk : Bool) (W B : List Int) (pl : Nat) (N : List Nat) (i : Nat) (e : Dn.Env) : Prop := ∃ x y, e = Ev tk W B pl (OX tk W pl (st tk W.length pl (N.take i))) x y ∧ Vx tk W pl (st tk W.length pl (N.take i))
def RpP (tk : Bool) (W : List Int) (pl : Nat) (N : List Nat) (r : SRes) : Prop := ∃ a b c d f e, r = .rt (OX tk W pl (st tk W.length pl N)) (a :: b :: c :: d :: f :: e) ∧ Vx tk W pl (st tk W.length pl N)
theorem st_snoc (tk : Bool) (m pl : Nat) (N : List Nat) (i : Nat) (h : i < N.length) : st tk m pl (N.take (i + 1)) = blk tk m pl (st tk m pl (N.take i)) N[i] := by
  unfold st
  rw [List.take_succ_eq_append_getElem h, List.foldl_append]
  rfl
theorem rp_ok (tk : Bool) (W : List Int) (pl : Nat) (N : List Nat) (hpl : 0 < pl) (hpm : pl ≤ 60) (hW : W.length ≤ 200) (hN : ∀ n ∈ N, n ≤ 300) :
    m_ring_played [I pl, .f (.str (tkS tk)), .f (.str "word"), LI (nI N), LI W] = .ret (OX tk W pl (st tk W.length pl N)) [.u, .u, .u, .u, .u] ∧ Vx tk W pl (st tk W.length pl N) := by
  have key : RpP tk W pl N (b_ring_played (Ev tk W (nI N) pl .u .u .u)) := by
    unfold b_ring_played
    refine run_nx (e := Ev tk W (nI N) pl (OW tk W pl 0 0 0) .u .u) ?_ ?_
    · have hi := init_ok pl (by omega)
      simp [x_sSet, eMake, makeD, hi]
      simp [tN, xN, slotsOf]
    obtain ⟨e1, h1, x1, y1, rfl, v1⟩ := loop_inv (g := bName 6) (b := l_ring_played_46) (Rp2 tk W (nI N) pl N) ((nI N).map D.int) (Ev tk W (nI N) pl (OW tk W pl 0 0 0) .u .u)
      ⟨_, _, rfl, ⟨Nat.le_refl 0, Nat.zero_le _, Nat.zero_le _, Nat.zero_le _, fun _ k => absurd rfl k, fun _ k => absurd rfl k, hpl, hpm, hW⟩⟩ (by
        rintro i d _ hd ⟨x, y, rfl, v⟩
        have hi : i < N.length := by
          have := (List.getElem?_eq_some_iff.mp hd).1
          simpa using this
        have hd2 : d = .int (N[i] : Int) := by
          rw [List.map_map, List.getElem?_map, List.getElem?_eq_getElem hi] at hd
          exact (Option.some.inj hd).symm
        subst hd2
        have hb : N[i] ≤ 300 := hN _ (List.getElem_mem hi)
        rw [step_name _ _ _ _ (by simp)]
        unfold l_ring_played_46
        obtain ⟨e2, h2, y2, rfl, v2⟩ := loop_rng (g := bName 7) (b := l_ring_played_47) (n := N[i]) (Rp1 tk W (nI N) pl (st tk W.length pl (N.take i)).1 (st tk W.length pl (N.take i)).2.1 (st tk W.length pl (N.take i)).2.2 (I N[i]))
          (Ev tk W (nI N) pl (OX tk W pl (st tk W.length pl (N.take i))) (I N[i]) y) (by
            refine ⟨y, ?_, ?_⟩
            · cases tk <;> simp [hPn, hQn]
            · cases tk <;> simpa [hPn, hQn] using v) (by
            rintro j _ hj ⟨z, rfl, v'⟩
            rw [step_name _ _ _ _ (by simp)]
            unfold l_ring_played_47
            have hh := hb_ok v'
            have hs := hP_step tk W.length pl _ _ j v.qp v.cap v.pW
            have hv := hb_va v'
            rw [hs.1, hs.2] at hh hv
            simp [x_sExpr, x_callD, x_lokb, hh]
            exact ⟨_, rfl, hv⟩)
        have hm := ms_ok v2
        have hv := ms_va v2
        refine run_for (p := NxP _) (by simp [r1_ok, show N[i] < 4611686018427387904 by omega]) h2 ?_
        simp [x_sExpr, x_callD, x_lokb, hm]
        refine ⟨I N[i], y2, ?_, ?_⟩
        · rw [st_snoc _ _ _ _ _ hi]; rfl
        · rw [st_snoc _ _ _ _ _ hi]; exact hv)
    refine run_for (by simp [LI_fz]) h1 ?_
    simp only [List.length_map, List.take_length] at v1 ⊢
    simp [x_sRet]
    exact ⟨_, _, _, _, _, _, rfl, v1⟩
  obtain ⟨a, b, c, d, f, e, h1, h2⟩ := key
  exact ⟨fn_rt h1 (by simp), h2⟩
end K60

namespace K60
open PySem PySem.Spec PyProof.Rows L2 Dn
theorem is_ii (i : Int) : isS "int" (.f (.int i)) = some (.f (.bl true)) := by
  show some (S.f (.bl (isB "int" "int"))) = _
  rw [show isB "int" "int" = true from by decide]
theorem is_ib (i : Int) : isS "bool" (.f (.int i)) = some (.f (.bl false)) := by
  show some (S.f (.bl (isB "int" "bool"))) = _
  rw [show isB "int" "bool" = false from by decide]
theorem is_ll (ds : List D) : isS "list" (.f (.lst ds)) = some (.f (.bl true)) := by
  show some (S.f (.bl (isB "list" "list"))) = _
  rw [show isB "list" "list" = true from by decide]
theorem is_ok (i j : Int) : m__law_is [I i, I j] = .ret (.f (.bl (decide (i = j)))) [.u, .u] := by
  refine fn_rt (body := b__law_is) (env := [.r (I i), .r (I j)]) (env' := [.r (I i), .r (I j)]) ?_ (by simp)
  unfold b__law_is
  simp [x_sRet, x_vKs, is_ii, is_ib]
def Sm (X : List (Option Int)) (i : Nat) (e : Dn.Env) : Prop := ∃ x, e = [.r (.f (.lst (X.map oD))), .r (SL X), x]
theorem same_ok (X : List (Option Int)) (h : X.length ≤ 1000) : m__law_same [.f (.lst (X.map oD)), SL X] = .ret (.f (.bl true)) [.u, .u] := by
  have key : ∃ e, b__law_same [.r (.f (.lst (X.map oD))), .r (SL X), .u] = .rt (.f (.bl true)) (.r (.f (.lst (X.map oD))) :: .r (SL X) :: e) := by
    unfold b__law_same
    obtain ⟨e1, h1, x1, rfl⟩ := loop_rng (g := bName 2) (b := l__law_same_116) (n := X.length) (Sm X) [.r (.f (.lst (X.map oD))), .r (SL X), .u] ⟨_, rfl⟩ (by
      rintro i _ hi ⟨x, rfl⟩
      rw [step_name _ _ _ _ (by simp)]
      unfold l__law_same_116
      have hx : X[i]? = some X[i] := List.getElem?_eq_getElem hi
      have i1 := ix_SL hx
      have i2 : ixS (.f (.lst (X.map oD))) (.f (.int i)) = some (.f (oD X[i])) := ix_lst (by rw [List.getElem?_map, hx]; rfl)
      cases k : X[i] with
      | none =>
        rw [k] at i1 i2
        simp [x_sIf, i1, i2]
        exact ⟨_, rfl⟩
      | some w =>
        rw [k] at i1 i2
        simp [x_sIf, i1, i2, x_callD, x_vKs, is_ok]
        exact ⟨_, rfl⟩)
    simp [x_sIf, is_ll, len_lst, len_SL, x_sFor, r1_ok, h1, x_sRet, x_vKs, show X.length < 4611686018427387904 by omega]
  obtain ⟨e, h1⟩ := key
  exact fn_rt h1 (by simp)
def Sl1 (W : List Int) (pl n : Nat) (i : Nat) (e : Dn.Env) : Prop := ∃ x, e = [.r (I pl), .r (LI W), .r (I n), SL (slotsOf pl W i), x]
def SlP (W : List Int) (pl n : Nat) (r : SRes) : Prop := ∃ e, r = .rt (SL (slotsOf pl W n)) (.r (I pl) :: .r (LI W) :: .r (I n) :: e)
theorem slots_ok (W : List Int) (pl n : Nat) (hp : 0 < pl ∧ pl ≤ 60) (hn : n ≤ W.length) (hW : W.length ≤ 200) : m__law_slots [I pl, LI W, I n] = .ret (SL (slotsOf pl W n)) [.u, .u, .u] := by
  have key : SlP W pl n (b__law_slots [.r (I pl), .r (LI W), .r (I n), .u, .u]) := by
    unfold b__law_slots
    obtain ⟨e1, h1, x1, rfl⟩ := loop_rng (g := bName 4) (b := l__law_slots_149) (n := n) (Sl1 W pl n) [.r (I pl), .r (LI W), .r (I n), SL (List.replicate pl none), .u] ⟨_, rfl⟩ (by
      rintro i _ hi ⟨x, rfl⟩
      rw [step_name _ _ _ _ (by simp)]
      unfold l__law_slots_149
      have hw : W[i]? = some W[i] := List.getElem?_eq_getElem (by omega)
      have hs := set_SL (X := slotsOf pl W i) (k := i % pl) (o := some W[i]) (by rw [slots_len]; exact Nat.mod_lt _ hp.1)
      rw [oD_some, ← hw] at hs
      simp [x_sAsg, x_vKs, ix_LI hw, x_bSub, modN i pl hp.1, x_mutN, x_mutS, hs, -Int.natCast_emod]
      exact ⟨_, rfl⟩)
    refine run_nx (e := [.r (I pl), .r (LI W), .r (I n), SL (List.replicate pl none), .u]) (by simp [x_sSet, sz, rep_non (m := pl) (by omega)]) ?_
    refine run_for (by simp [r1_ok, show n < 4611686018427387904 by omega]) h1 ?_
    simp [x_sRet]
    exact ⟨_, rfl⟩
  obtain ⟨e, h1⟩ := key
  exact fn_rt h1 (by simp)
end K60

namespace K60
open PySem PySem.Spec PyProof.Rows L2 Dn
theorem hn_va {tk : Bool} {W : List Int} {pl p q a : Nat} (v : Va tk W pl p q a) : ∀ b, Va tk W pl (hPn tk W.length pl p q b) (hQn tk p q b) a
  | 0 => by cases tk <;> simpa [hPn, hQn] using v
  | b + 1 => by
    have hs := hP_step tk W.length pl p q b v.qp v.cap v.pW
    have hv := hb_va (hn_va v b)
    rw [hs.1, hs.2] at hv
    exact hv
theorem blk_va {tk : Bool} {W : List Int} {pl : Nat} {x : Nat × Nat × Nat} (v : Vx tk W pl x) (b : Nat) : Vx tk W pl (blk tk W.length pl x b) := ms_va (hn_va v b)
theorem v0 {tk : Bool} {W : List Int} {pl : Nat} (hpl : 0 < pl) (hpm : pl ≤ 60) (hW : W.length ≤ 200) : Vx tk W pl (0, 0, 0) :=
  ⟨Nat.le_refl 0, Nat.zero_le _, Nat.zero_le _, Nat.zero_le _, fun _ k => absurd rfl k, fun _ k => absurd rfl k, hpl, hpm, hW⟩
theorem st_va {tk : Bool} {W : List Int} {pl : Nat} (hpl : 0 < pl) (hpm : pl ≤ 60) (hW : W.length ≤ 200) (N : List Nat) : Vx tk W pl (st tk W.length pl N) := by
  unfold st
  have : ∀ (N : List Nat) (x : Nat × Nat × Nat), Vx tk W pl x → Vx tk W pl (N.foldl (blk tk W.length pl) x) := fun N => by
    induction N with
    | nil => exact fun x v => v
    | cons b N ih => exact fun x v => ih _ (blk_va v b)
  exact this N _ (v0 hpl hpm hW)
def tp (x : Nat × Nat × Nat) : D := .tup [.int x.1, .int x.2.1, .int x.2.2]
def CT (xs : List (Nat × Nat × Nat)) : S := .l (xs.map fun x => .f (tp x))
theorem CT_root (xs) : rootS (CT xs) = some (CT xs) := rfl
theorem CT_app (xs : List (Nat × Nat × Nat)) (p q a : Nat) (h : xs.length < 1000) : appendM (CT xs) [.f (.tup [.int p, .int q, .int a])] = some (CT (xs ++ [(p, q, a)]), .f .non) := by
  show (if (xs.map fun x => S.f (tp x)).length < sizeLine then _ else _) = _
  rw [List.length_map, if_pos (by rw [sz]; omega)]
  unfold CT
  rw [List.map_append]
  rfl
theorem min3N (b pl p q m : Nat) (h1 : q ≤ p) (h2 : p ≤ m) (h3 : p ≤ q + pl) : min3C [I b, .f (.int ((pl : Int) - ((p : Int) - q))), .f (.int ((m : Int) - p))] = some (I ((min b (min (pl - (p - q)) (m - p)) : Nat) : Int)) := by
  show some (S.f (.int _)) = some (S.f (.int _))
  congr 3
  split <;> split <;> omega
theorem min2N (b p q : Nat) (h1 : q ≤ p) : minC [I b, .f (.int ((p : Int) - q))] = some (I ((min b (p - q) : Nat) : Int)) := by
  show some (S.f (.int _)) = some (S.f (.int _))
  congr 3
  split <;> omega
abbrev Ec (tk : Bool) (B : S) (pl m p q a : Nat) (t x : S) : Dn.Env := [.r (I pl), .r (.f (.str (tkS tk))), .r B, .r (I m), I p, I q, I a, t, x]
def cts (tk : Bool) (m pl : Nat) (N : List Nat) (i : Nat) : List (Nat × Nat × Nat) := (List.range (i + 1)).map fun k => st tk m pl (N.take k)
def Co1 (tk : Bool) (W : List Int) (pl : Nat) (N : List Nat) (i : Nat) (e : Dn.Env) : Prop := ∃ y, e = Ec tk (LI (nI N)) pl W.length (st tk W.length pl (N.take i)).1 (st tk W.length pl (N.take i)).2.1 (st tk W.length pl (N.take i)).2.2 (CT (cts tk W.length pl N i)) y
theorem CT_mut0 {h : S → Option (S × S)} {e : Dn.Env} (xs) : mutE 0 [] h (CT xs :: e) = (h (CT xs)).map fun yz : S × S => (yz.2, yz.1 :: e) := rfl
theorem CT_isL (xs) : S.isL (CT xs) = true := rfl
theorem co_step (tk : Bool) (W : List Int) (pl : Nat) (B : S) (b p q a : Nat) (xs : List (Nat × Nat × Nat)) (hx : xs.length < 1000) (v : Va tk W pl p q a) :
    l__law_counts_127 (Ec tk B pl W.length p q a (CT xs) (I b)) = .nx (Ec tk B pl W.length (blk tk W.length pl (p, q, a) b).1 (blk tk W.length pl (p, q, a) b).2.1 (blk tk W.length pl (p, q, a) b).2.2 (CT (xs ++ [blk tk W.length pl (p, q, a) b])) (I b)) := by
  have vn := hn_va v b
  obtain ⟨h1, h2, h3, h4, h5, h6, h7, h8, h9⟩ := v
  have hap := fun p q a : Nat => CT_app xs p q a hx
  unfold l__law_counts_127 blk
  refine seq_nx (e := Ec tk B pl W.length (hPn tk W.length pl p q b) (hQn tk p q b) a (CT xs) (I b)) ?_ ?_
  · cases tk with
    | true =>
      have hm := min3N b pl p q W.length h1 h2 h3
      have e1 : hPn true W.length pl p q b = p + min b (min (pl - (p - q)) (W.length - p)) := rfl
      have e2 : hQn true p q b = q := rfl
      rw [e1, e2]
      generalize min b (min (pl - (p - q)) (W.length - p)) = M at hm ⊢
      simp [x_sIf, s_takes, x_sSet, hm]
    | false =>
      have hm := min2N b p q h1
      have e1 : hPn false W.length pl p q b = p := rfl
      have e2 : hQn false p q b = q + min b (p - q) := rfl
      rw [e1, e2]
      generalize min b (p - q) = M at hm ⊢
      simp [x_sIf, s_takes, x_sSet, hm]
  · simp only [] at vn ⊢
    generalize hPn tk W.length pl p q b = p' at vn ⊢
    generalize hQn tk p q b = q' at vn ⊢
    refine seq_nx (e := Ec tk B pl W.length (mst tk W.length pl p' q' a).1 (mst tk W.length pl p' q' a).2.1 (mst tk W.length pl p' q' a).2.2 (CT xs) (I b)) ?_ ?_
    · obtain ⟨g1, g2, g3, g4, g5, g6, g7, g8, g9⟩ := vn
      have ha : a = 0 ∨ a = 1 ∨ a = 2 := by omega
      unfold mst
      rcases ha with rfl | rfl | rfl
      · cases tk with
        | true =>
          by_cases hc : q' < p'
          · simp [x_sIf, s_takes, s_puts, x_sSet, x_vKs, hc]
          · simp [x_sIf, s_takes, s_puts, x_sSet, x_vKs, hc]
        | false =>
          by_cases hc : p' < q' + pl
          · have e1 : (p' : Int) - q' < pl := by omega
            by_cases hd : p' < W.length
            · simp [x_sIf, s_takes, s_puts, x_sSet, x_vKs, hc, hd, e1]
            · simp [x_sIf, s_takes, s_puts, x_sSet, x_vKs, hc, hd, e1]
          · have e1 : ¬ (p' : Int) - q' < pl := by omega
            simp [x_sIf, s_takes, s_puts, x_sSet, x_vKs, hc, e1]
      · simp [x_sIf, x_sSet, x_vKs]
      · cases tk <;> simp [x_sIf, s_takes, s_puts, x_sSet, x_vKs]
    · generalize mst tk W.length pl p' q' a = z
      simp [x_sExpr, x_mutV, CT_root, CT_isL, sz, x_mutS, CT_mut0, hap]
theorem cts_len (tk m pl N i) : (cts tk m pl N i).length = i + 1 := by unfold cts; rw [List.length_map, List.length_range]
theorem cts_snoc (tk : Bool) (m pl : Nat) (N : List Nat) (i : Nat) (h : i < N.length) : cts tk m pl N (i + 1) = cts tk m pl N i ++ [blk tk m pl (st tk m pl (N.take i)) N[i]] := by
  unfold cts
  rw [List.range_succ, List.map_append, List.map_singleton, st_snoc _ _ _ _ _ h]
def CoP (tk : Bool) (W : List Int) (pl : Nat) (N : List Nat) (r : SRes) : Prop := ∃ a b c d e, r = .rt (CT (cts tk W.length pl N N.length)) (a :: b :: c :: d :: e)
theorem counts_ok (tk : Bool) (W : List Int) (pl : Nat) (N : List Nat) (hpl : 0 < pl) (hpm : pl ≤ 60) (hW : W.length ≤ 200) (hN : N.length ≤ 200) :
    m__law_counts [I pl, .f (.str (tkS tk)), LI (nI N), I W.length] = .ret (CT (cts tk W.length pl N N.length)) [.u, .u, .u, .u] := by
  have key : CoP tk W pl N (b__law_counts [.r (I pl), .r (.f (.str (tkS tk))), .r (LI (nI N)), .r (I W.length), .u, .u, .u, .u, .u]) := by
    unfold b__law_counts
    refine run_nx (e := [.r (I pl), .r (.f (.str (tkS tk))), .r (LI (nI N)), .r (I W.length), I 0, .u, .u, .u, .u]) (by simp [x_sSet, x_vKs]) ?_
    refine run_nx (e := [.r (I pl), .r (.f (.str (tkS tk))), .r (LI (nI N)), .r (I W.length), I 0, I 0, .u, .u, .u]) (by simp [x_sSet, x_vKs]) ?_
    refine run_nx (e := [.r (I pl), .r (.f (.str (tkS tk))), .r (LI (nI N)), .r (I W.length), I 0, I 0, I 0, .u, .u]) (by simp [x_sSet, x_vKs]) ?_
    refine run_nx (e := Ec tk (LI (nI N)) pl W.length 0 0 0 (CT (cts tk W.length pl N 0)) .u) (by simp [x_sSet, x_vKs, fzs, sz]; rfl) ?_
    obtain ⟨e1, h1, y1, rfl⟩ := loop_inv (g := bName 8) (b := l__law_counts_127) (Co1 tk W pl N) ((nI N).map D.int) (Ec tk (LI (nI N)) pl W.length 0 0 0 (CT (cts tk W.length pl N 0)) .u) ⟨_, rfl⟩ (by
      rintro i d _ hd ⟨y, rfl⟩
      have hi : i < N.length := by
        have := (List.getElem?_eq_some_iff.mp hd).1
        simpa using this
      have hd2 : d = .int (N[i] : Int) := by
        rw [List.map_map, List.getElem?_map, List.getElem?_eq_getElem hi] at hd
        exact (Option.some.inj hd).symm
      subst hd2
      rw [step_name _ _ _ _ (by simp)]
      have hs := co_step tk W pl (LI (nI N)) N[i] _ _ _ (cts tk W.length pl N i) (by rw [cts_len]; omega) (st_va hpl hpm hW (N.take i))
      have : (Ec tk (LI (nI N)) pl W.length (st tk W.length pl (N.take i)).1 (st tk W.length pl (N.take i)).2.1 (st tk W.length pl (N.take i)).2.2 (CT (cts tk W.length pl N i)) y).set 8 (.f (.int (N[i] : Int))) = Ec tk (LI (nI N)) pl W.length (st tk W.length pl (N.take i)).1 (st tk W.length pl (N.take i)).2.1 (st tk W.length pl (N.take i)).2.2 (CT (cts tk W.length pl N i)) (I N[i]) := rfl
      rw [this, hs]
      refine ⟨I N[i], ?_⟩
      rw [st_snoc _ _ _ _ _ hi, cts_snoc _ _ _ _ _ hi])
    refine run_for (by simp [LI_fz]) h1 ?_
    rw [List.length_map, List.length_map]
    simp [x_sRet]
    exact ⟨_, _, _, _, _, rfl⟩
  obtain ⟨a, b, c, d, e, h1⟩ := key
  exact fn_rt h1 (by simp)
end K60

namespace K60
open PySem PySem.Spec PyProof.Rows L2 Dn
theorem x_chain (g g' : S → S → Option S) (ga gb gc : Dn.Env → Option S) (e : Dn.Env) : kChain g g' ga gb gc e = (ga e).bind fun x => (gb e).bind fun y => match g x y with
  | some (.f (.bl k)) => if k = true then (gc e).bind fun z => g' y z else some (.f (.bl false))
  | _ => none := rfl
theorem LI_SL (T : List Int) : LI T = SL (T.map some) := by unfold LI SL; rw [List.map_map]; rfl
theorem FI_SL (T : List Int) : FI T = .lst ((T.map some).map oD) := by unfold FI; rw [List.map_map]; rfl
theorem cut_gen (W : List Int) (lo hi : Option Int) : slS (LI W) lo hi = some (LI (Dn.cutD W lo hi)) := by
  show (fzs (W.map fun i => S.f (.int i))).map (fun ds => S.l ((Dn.cutD ds lo hi).map .f)) = _
  rw [fzs_mapf]
  show some (S.l ((Dn.cutD (W.map D.int) lo hi).map .f)) = _
  unfold Dn.cutD LI
  rw [← List.map_drop, ← List.map_take, List.map_map, List.length_map]
  rfl
theorem cut_hi (W : List Int) (n : Nat) : slS (LI W) none (some (n : Int)) = some (LI (W.take n)) := by
  rw [cut_gen]
  unfold Dn.cutD
  rw [HT.sIx_nat, HT.sIx_none, List.drop_zero, Nat.sub_zero]
  congr 2
  rw [List.take_eq_take_iff]
  omega
theorem cut_lo (W : List Int) (n : Nat) : slS (LI W) (some (n : Int)) none = some (LI (W.drop n)) := by
  rw [cut_gen]
  unfold Dn.cutD
  rw [HT.sIx_nat, HT.sIx_none]
  congr 2
  by_cases h : n ≤ W.length
  · rw [Nat.min_eq_left h, List.take_of_length_le (by rw [List.length_drop]; omega)]
  · rw [Nat.min_eq_right (by omega), List.drop_of_length_le (Nat.le_refl _), List.drop_of_length_le (by omega), List.take_nil]
abbrev OD (tk : Bool) (W : List Int) (pl : Nat) (x : Nat × Nat × Nat) : D := .obj 0 [FI (W.take (tN tk x.2.1 x.2.2)), .int x.1, .int x.2.1, .int x.2.2, .lst ((slotsOf pl W (xN tk x.1 x.2.2)).map oD)]
theorem OX_frz (tk : Bool) (W : List Int) (pl : Nat) (x : Nat × Nat × Nat) : (OX tk W pl x).frz = OD tk W pl x := by
  show D.obj 0 (S.frzL [LI _, I _, I _, I _, SL _]) = _
  simp
theorem taken_ok (T : List Int) (h : T.length ≤ 1000) : m__law_same [.f (FI T), LI T] = .ret (.f (.bl true)) [.u, .u] := by
  rw [FI_SL, LI_SL]
  exact same_ok _ (by rw [List.length_map]; exact h)
def RiP (a b c d f : S) (r : SRes) : Prop := ∃ e, r = .rt (.f (.bl true)) (a :: b :: c :: d :: f :: e)
theorem right_ok (tk : Bool) (W : List Int) (pl : Nat) (x : Nat × Nat × Nat) (v : Vx tk W pl x) :
    m__law_right [.f (OD tk W pl x), I pl, .f (.str (tkS tk)), LI W, .f (tp x)] = .ret (.f (.bl true)) [.u, .u, .u, .u, .u] := by
  obtain ⟨p, q, a⟩ := x
  obtain ⟨h1, h2, h3, h4, h5, h6, h7, h8, h9⟩ := v
  simp only [] at h1 h2 h3 h4 h5 h6
  have key : RiP (.r (.f (OD tk W pl (p, q, a)))) (.r (I pl)) (.r (.f (.str (tkS tk)))) (.r (LI W)) (.f (tp (p, q, a))) (b__law_right [.r (.f (OD tk W pl (p, q, a))), .r (I pl), .r (.f (.str (tkS tk))), .r (LI W), .f (tp (p, q, a)), .u, .u, .u, .u, .u, .u]) := by
    unfold b__law_right
    have c1 : (0 : Int) ≤ (p : Int) - q := by omega
    have c2 : (p : Int) - q ≤ pl := by omega
    have tk1 := taken_ok (W.take (tN tk q a)) (by rw [List.length_take]; omega)
    have sm1 := same_ok (slotsOf pl W (xN tk p a)) (by rw [slots_len]; omega)
    have sl1 := slots_ok W pl (xN tk p a) ⟨h7, h8⟩ (by
      unfold xN
      split
      · rename_i k
        have k1 : tk = false := by revert k; cases tk <;> simp
        have k2 : a = 2 := by revert k; cases tk <;> simp
        have := h6 k1 (by omega)
        omega
      · exact h2) h9
    refine run_nx (e := [.r (.f (OD tk W pl (p, q, a))), .r (I pl), .r (.f (.str (tkS tk))), .r (LI W), .f (tp (p, q, a)), I p, I q, I a, .u, .u, .u]) (by simp [x_sAsg, tp]) ?_
    refine run_nx (e := [.r (.f (OD tk W pl (p, q, a))), .r (I pl), .r (.f (.str (tkS tk))), .r (LI W), .f (tp (p, q, a)), I p, I q, I a, .u, .u, .u]) (by simp [x_sIf, x_callD, x_vKs, is_ok]) ?_
    refine run_nx (e := [.r (.f (OD tk W pl (p, q, a))), .r (I pl), .r (.f (.str (tkS tk))), .r (LI W), .f (tp (p, q, a)), I p, I q, I a, .u, .u, .u]) (by simp [x_sIf, x_callD, x_vKs, is_ok, x_chain, c1, c2, h1]) ?_
    refine run_nx (e := [.r (.f (OD tk W pl (p, q, a))), .r (I pl), .r (.f (.str (tkS tk))), .r (LI W), .f (tp (p, q, a)), I p, I q, I a, I ((if a = 2 then 1 else 0 : Nat) : Int), .u, .u]) ?_ ?_
    · by_cases ha : a = 2
      · subst ha; simp [x_sSet]
      · have : ¬ ((a : Int) = 2) := by omega
        simp [x_sSet, this, ha]
    refine run_nx (e := [.r (.f (OD tk W pl (p, q, a))), .r (I pl), .r (.f (.str (tkS tk))), .r (LI W), .f (tp (p, q, a)), I p, I q, I a, I ((if a = 2 then 1 else 0 : Nat) : Int), LI (W.take (tN tk q a)), SL (slotsOf pl W (xN tk p a))]) ?_ ?_
    · cases tk with
      | true =>
        have e1 : tN true q a = q + (if a = 2 then 1 else 0) := by unfold tN; by_cases ha : a = 2 <;> simp [ha]
        have ct := cut_hi W (tN true q a)
        rw [e1] at ct ⊢
        rw [Int.natCast_add] at ct
        generalize (if a = 2 then 1 else 0 : Nat) = z at ct ⊢
        have e2 : xN true p a = p := rfl
        rw [e2] at sl1 ⊢
        simp [x_sIf, s_takes, x_sSet, ct, x_callD, sl1]
      | false =>
        have e1 : tN false q a = q := rfl
        have ct := cut_hi W q
        have e2 : xN false p a = p + (if a = 2 then 1 else 0) := by unfold xN; by_cases ha : a = 2 <;> simp [ha]
        rw [e2] at sl1 ⊢
        rw [e1]
        generalize (if a = 2 then 1 else 0 : Nat) = z at sl1 ⊢
        rw [Int.natCast_add] at sl1
        simp [x_sIf, s_takes, x_sSet, ct, x_callD, sl1]
    simp [x_sRet, x_callD, x_vKs, tk1, sm1]
    exact ⟨_, rfl⟩
  obtain ⟨e, h⟩ := key
  exact fn_rt h (by simp)
end K60

namespace K60
open PySem PySem.Spec PyProof.Rows L2 Dn
def Fa1 (W : List Int) (T : D) (i : Nat) (e : Dn.Env) : Prop := ∃ x y, e = [.r (LI W), .f T, x, y]
def FaP (s : S) (W : List Int) (T : D) (r : SRes) : Prop := ∃ e, r = .rt s (.r (LI W) :: .f T :: e)
theorem en_get {ds : List D} {i : Nat} {d : D} (h : (ds.mapIdx fun i x => D.tup [.int (i : Nat), x])[i]? = some d) : ∃ x, ds[i]? = some x ∧ d = .tup [.int (i : Nat), x] := by
  rw [List.getElem?_mapIdx] at h
  cases k : ds[i]? with
  | none => rw [k] at h; cases h
  | some x => rw [k] at h; cases h; exact ⟨x, rfl, rfl⟩
theorem step_pair (i j : Nat) (b : Dn.Env → SRes) (x y : D) (env : Dn.Env) (h : i < env.length) (h2 : j < env.length) : stepD (bTup 2 (bsCons (bName i) (bsCons (bName j) bsNil))) b (.tup [x, y]) env = b ((env.set i (.f x)).set j (.f y)) := by
  rw [stepD_eq]
  simp [h, h2]
/-- no fault in a prefix -/
theorem fault_none (W : List Int) (n : Nat) (hW : W.length ≤ 200) : m_ring_fault [LI W, LI (W.take n)] = .ret (.f .non) [.u, .u] := by
  have key : FaP (.f .non) W (FI (W.take n)) (b_ring_fault [.r (LI W), LI (W.take n), .u, .u]) := by
    unfold b_ring_fault
    obtain ⟨e1, h1, x1, y1, rfl⟩ := loop_inv (g := bTup 2 (bsCons (bName 2) (bsCons (bName 3) bsNil))) (b := l_ring_fault_52) (Fa1 W (FI (W.take n))) (((W.take n).map D.int).mapIdx fun i x => .tup [.int (i : Nat), x]) [.r (LI W), .f (FI (W.take n)), .u, .u] ⟨_, _, rfl⟩ (by
      rintro i d _ hd ⟨x, y, rfl⟩
      obtain ⟨z, hz, rfl⟩ := en_get hd
      rw [List.getElem?_map] at hz
      cases k : (W.take n)[i]? with
      | none => rw [k] at hz; cases hz
      | some w =>
        rw [k] at hz; cases hz
        have hw : W[i]? = some w := by
          rw [List.getElem?_take] at k
          split at k
          · exact k
          · cases k
        have hi : i < W.length := (List.getElem?_eq_some_iff.mp hw).1
        rw [step_pair _ _ _ _ _ _ (by simp) (by simp)]
        unfold l_ring_fault_52
        simp [x_sIf, len_LI, ix_LI hw, hi, show ¬ W.length ≤ i by omega]
        exact ⟨_, _, rfl⟩)
    refine run_for ?_ h1 ?_
    · simp [enD, listD, FI]
    · simp [x_sRet, x_vKs]
      exact ⟨_, rfl⟩
  obtain ⟨e, h⟩ := key
  exact fn_rt (env := [.r (LI W), LI (W.take n), .u, .u]) h (by simp)
/-- the first fault -/
theorem fault_at (W : List Int) (ds : List D) (f : Nat) (d : D) (hW : W.length ≤ 200) (h1 : ∀ i, i < f → ∃ w, W[i]? = some w ∧ ds[i]? = some (.int w)) (h2 : ds[f]? = some d) (h3 : W.length ≤ f ∨ ∃ w, W[f]? = some w ∧ neS (.f d) (I w) = some (.f (.bl true))) :
    m_ring_fault [LI W, .f (.lst ds)] = .ret (I f) [.u, .u] := by
  have key : FaP (I f) W (.lst ds) (b_ring_fault [.r (LI W), .f (.lst ds), .u, .u]) := by
    unfold b_ring_fault
    have hl : f < ds.length := (List.getElem?_eq_some_iff.mp h2).1
    obtain ⟨e1, q1, x1, y1, rfl⟩ := for_to (g := bTup 2 (bsCons (bName 2) (bsCons (bName 3) bsNil))) (b := l_ring_fault_52) (Fa1 W (.lst ds)) f (ds.mapIdx fun i x => .tup [.int (i : Nat), x]) 0 [.r (LI W), .f (.lst ds), .u, .u] (by rw [List.length_mapIdx]; omega) ⟨_, _, rfl⟩ (by
      rintro i d hi hf hd ⟨x, y, rfl⟩
      obtain ⟨z, hz, rfl⟩ := en_get hd
      obtain ⟨w, hw, hz2⟩ := h1 i hf
      rw [hz2] at hz; cases hz
      have hi : i < W.length := (List.getElem?_eq_some_iff.mp hw).1
      rw [step_pair _ _ _ _ _ _ (by simp) (by simp)]
      unfold l_ring_fault_52
      simp [x_sIf, len_LI, ix_LI hw, hi, show ¬ W.length ≤ i by omega]
      exact ⟨_, _, rfl⟩)
    have hd : (ds.mapIdx fun i x => D.tup [.int (i : Nat), x]).drop f = .tup [.int (f : Nat), d] :: (ds.mapIdx fun i x => D.tup [.int (i : Nat), x]).drop (f + 1) := by
      rw [List.drop_eq_getElem_cons (by rw [List.length_mapIdx]; exact hl)]
      congr 1
      rw [List.getElem_mapIdx]
      rw [List.getElem?_eq_getElem hl] at h2
      rw [Option.some.inj h2]
    rw [hd] at q1
    have hs : stepD (bTup 2 (bsCons (bName 2) (bsCons (bName 3) bsNil))) l_ring_fault_52 (.tup [.int (f : Nat), d]) [.r (LI W), .f (.lst ds), x1, y1] = .rt (I f) [.r (LI W), .f (.lst ds), I f, .f d] := by
      rw [step_pair _ _ _ _ _ _ (by simp) (by simp)]
      unfold l_ring_fault_52
      rcases h3 with h3 | ⟨w, hw, hn⟩
      · simp [x_sIf, len_LI, h3, x_sRet]
      · have hi : f < W.length := (List.getElem?_eq_some_iff.mp hw).1
        simp [x_sIf, len_LI, ix_LI hw, hi, show ¬ W.length ≤ f by omega, hn, x_sRet]
    rw [for_rt hs] at q1
    refine run_ret ?_ q1 ⟨_, rfl⟩
    simp [enD, listD]
  obtain ⟨e, h⟩ := key
  exact fn_rt (env := [.r (LI W), .f (.lst ds), .u, .u]) h (by simp)
theorem spoilt_ok (T : List Int) (at' more : Int) (hT : T.length ≤ 1000) (h0 : T ≠ []) :
    ∃ f : Nat, (f : Int) = at' % T.length ∧ f < T.length ∧ m__law_spoilt [I at', I more, LI T] = .ret (LI (T.take f ++ [T[f]?.getD 0 + 1 + more] ++ T.drop (f + 1))) [.u, .u, .u] := by
  have hl : 0 < T.length := List.length_pos_iff.mpr h0
  obtain ⟨f, hf⟩ := Int.eq_ofNat_of_zero_le (Int.emod_nonneg at' (show (T.length : Int) ≠ 0 by omega))
  have hlt := Int.emod_lt_of_pos at' (show (0 : Int) < T.length by omega)
  have hf2 : f < T.length := by omega
  refine ⟨f, hf.symm, hf2, ?_⟩
  have key : b__law_spoilt [.r (I at'), .r (I more), .r (LI T), .u] = .rt (LI (T.take f ++ [T[f]?.getD 0 + 1 + more] ++ T.drop (f + 1))) [.r (I at'), .r (I more), .r (LI T), I f] := by
    unfold b__law_spoilt
    have hm : modS (I at') (I T.length) = some (I f) := by rw [x_mod _ _ (by omega), hf]
    have c1 := cut_hi T f
    have c2 := cut_lo T (f + 1)
    have hx := List.getElem?_eq_getElem hf2
    have ca : addS (LI (T.take f)) (.l [I (T[f] + 1 + more)]) = some (LI (T.take f ++ [T[f] + 1 + more])) := LI_cat (B := [T[f] + 1 + more]) (by rw [List.length_take]; simp; omega)
    have cb : addS (LI (T.take f ++ [T[f] + 1 + more])) (LI (T.drop (f + 1))) = some (LI (T.take f ++ [T[f] + 1 + more] ++ T.drop (f + 1))) := LI_cat (by simp; omega)
    rw [Int.natCast_add] at c2
    have c2 : slS (LI T) (some ((f : Int) + 1)) none = some (LI (T.drop (f + 1))) := c2
    have hg : T[f]?.getD 0 = T[f] := by rw [hx]; rfl
    rw [hg]
    refine seq_nx (e := [.r (I at'), .r (I more), .r (LI T), .u]) (by simp [x_sIf, len_LI, h0]) ?_
    refine seq_nx (e := [.r (I at'), .r (I more), .r (LI T), I f]) (by simp [x_sSet, len_LI, hm]) ?_
    simp only [List.append_assoc] at cb ⊢
    simp [x_sRet, c1, c2, ix_LI hx, sz, ca, cb]
  exact fn_rt key (by simp)
end K60

namespace K60
open PySem PySem.Spec PyProof.Rows L2 Dn
/-- the law's frame behind the drawing -/
abbrev Ef (ns : List Int) (R : List Int) (pl : Nat) (tk : Bool) (at' more : Int) (cu : S) (W : List Int) (N : List Nat) (cs ps x y z u v r g : S) : Dn.Env :=
  [.f (.scr (ns.map D.int)), LI R, I pl, .f (.str (tkS tk)), I at', I more, cu, LI W, LI (nI N), cs, ps, x, y, z, u, v, r, g]
def PL (tk : Bool) (W : List Int) (pl : Nat) (N : List Nat) (K : List Nat) : S := .l (K.map fun c => .f (OD tk W pl (st tk W.length pl (N.take c))))
theorem PL_app (tk : Bool) (W : List Int) (pl : Nat) (N K : List Nat) (c : Nat) (h : K.length < 1000) : appendM (PL tk W pl N K) [.f (OD tk W pl (st tk W.length pl (N.take c)))] = some (PL tk W pl N (K ++ [c]), .f .non) := by
  show (if (K.map fun c => S.f (OD tk W pl (st tk W.length pl (N.take c)))).length < sizeLine then _ else _) = _
  rw [List.length_map, if_pos (by rw [sz]; omega)]
  unfold PL
  rw [List.map_append]
  rfl
theorem PL_root (tk W pl N K) : rootS (PL tk W pl N K) = some (PL tk W pl N K) := rfl
theorem PL_isL (tk W pl N K) : S.isL (PL tk W pl N K) = true := rfl
theorem PL_mut0 (tk W pl N K) {h : S → Option (S × S)} {e : Dn.Env} : mutE 0 [] h (PL tk W pl N K :: e) = (h (PL tk W pl N K)).map fun yz : S × S => (yz.2, yz.1 :: e) := rfl
theorem PL_ix (tk : Bool) (W : List Int) (pl : Nat) (N K : List Nat) (i c : Nat) (h : K[i]? = some c) : ixS (PL tk W pl N K) (I i) = some (.f (OD tk W pl (st tk W.length pl (N.take c)))) := by
  rw [ix_it (s := PL tk W pl N K) (ss := K.map fun c => .f (OD tk W pl (st tk W.length pl (N.take c)))) rfl, List.getElem?_map, h]; rfl
theorem CT_ix (xs : List (Nat × Nat × Nat)) (i : Nat) (x) (h : xs[i]? = some x) : ixS (CT xs) (I i) = some (.f (tp x)) := by
  rw [ix_it (s := CT xs) (ss := xs.map fun x => .f (tp x)) rfl, List.getElem?_map, h]; rfl
theorem cts_get (tk : Bool) (m pl : Nat) (N : List Nat) (c : Nat) (h : c ≤ N.length) : (cts tk m pl N N.length)[c]? = some (st tk m pl (N.take c)) := by
  unfold cts
  rw [List.getElem?_map, List.getElem?_range (by omega)]
  rfl
theorem list_LI (L : List Int) : listC [LI L] = some (LI L) := by
  show (fzs (L.map fun i => S.f (.int i))).map (fun ds => S.l (ds.map .f)) = _
  rw [fzs_mapf]
  show some (S.l ((L.map D.int).map .f)) = _
  rw [List.map_map]; rfl
theorem list_FI (L : List Int) : listC [.f (FI L)] = some (LI L) := by
  show some (S.l ((L.map D.int).map .f)) = _
  rw [List.map_map]; rfl
theorem take_nI (N : List Nat) (c : Nat) : (nI N).take c = nI (N.take c) := List.map_take.symm
def Lw1 (ns R : List Int) (pl : Nat) (tk : Bool) (at' more : Int) (cu : S) (W : List Int) (N : List Nat) (cs : S) (K : List Nat) (i : Nat) (e : Dn.Env) : Prop :=
  ∃ x r g, e = Ef ns R pl tk at' more cu W N cs (PL tk W pl N (K.take i)) x .u .u .u .u r g
theorem turn1 (ns R : List Int) (pl : Nat) (tk : Bool) (at' more : Int) (cu : S) (W : List Int) (N : List Nat) (cs : S) (K : List Nat) (hK : K.length < 1000) (c : Nat) (r g : S) (hpl : 0 < pl) (hpm : pl ≤ 60) (hW : W.length ≤ 200) (hN : ∀ n ∈ N, n ≤ 300) (hl : N.length ≤ 200) :
    l_law_183 (Ef ns R pl tk at' more cu W N cs (PL tk W pl N K) (I c) .u .u .u .u r g) = .nx (Ef ns R pl tk at' more cu W N cs (PL tk W pl N (K ++ [c])) (I c) .u .u .u .u (LI (nI (N.take c) ++ [1])) (LI (W ++ [7]))) := by
  have rp := (rp_ok tk W pl (N.take c) hpl hpm hW (fun n h => hN n (List.mem_of_mem_take h))).1
  have cut := cut_hi (nI N) c
  rw [take_nI] at cut
  have ap := PL_app tk W pl N K c hK
  have hA : (nI (N.take c)).length ≤ 200 := by rw [List.length_map, List.length_take]; omega
  rw [← OX_frz] at ap
  generalize nI (N.take c) = A at rp cut hA ⊢
  generalize OX tk W pl (st tk W.length pl (N.take c)) = o at rp ap
  unfold l_law_183
  refine seq_nx (e := Ef ns R pl tk at' more cu W N cs (PL tk W pl N K) (I c) .u .u .u .u (LI A) g) (by simp [x_sSet, cut]) ?_
  refine seq_nx (e := Ef ns R pl tk at' more cu W N cs (PL tk W pl N K) (I c) .u .u .u .u (LI A) (LI W)) (by simp [x_sSet, list_LI]) ?_
  refine seq_nx (e := Ef ns R pl tk at' more cu W N cs (PL tk W pl N (K ++ [c])) (I c) .u .u .u .u (LI A) (LI W)) (by simp [x_sExpr, x_mutV, x_mutS, PL_root, PL_isL, PL_mut0, x_callD, x_vKs, rp, ap]) ?_
  refine seq_nx (e := Ef ns R pl tk at' more cu W N cs (PL tk W pl N (K ++ [c])) (I c) .u .u .u .u (LI A) (LI W)) (by simp [x_sIf, cut, ne_LI]) ?_
  refine seq_nx (e := Ef ns R pl tk at' more cu W N cs (PL tk W pl N (K ++ [c])) (I c) .u .u .u .u (LI (A ++ [1])) (LI W)) (by simp [x_sExpr, x_mutV, x_mutS, x_vKs, app_lt (L := A) (by omega)]) ?_
  simp [x_sExpr, x_mutV, x_mutS, x_vKs, app_lt (L := W) (by omega)]
end K60

namespace K60
open PySem PySem.Spec PyProof.Rows L2 Dn
def LawP (a : S) (r : SRes) : Prop := ∃ e, r = .rt (.f (.bl true)) (a :: e)
def Lw2 (ns R : List Int) (pl : Nat) (tk : Bool) (at' more : Int) (cu : S) (W : List Int) (N : List Nat) (cs ps x r g : S) (e : Dn.Env) : Prop := ∃ y, e = Ef ns R pl tk at' more cu W N cs ps x y .u .u .u r g
theorem nats (B : List Int) (h : ∀ b ∈ B, 0 ≤ b ∧ b ≤ 300) : ∃ N : List Nat, B = nI N ∧ ∀ n ∈ N, n ≤ 300 := by
  refine ⟨B.map Int.toNat, ?_, fun n hn => ?_⟩
  · show B = (B.map Int.toNat).map fun n : Nat => (n : Int)
    rw [List.map_map]
    conv => lhs; rw [← List.map_id B]
    exact List.map_congr_left fun b hb => by have := (h b hb).1; simp; omega
  · obtain ⟨b, hb, rfl⟩ := List.mem_map.mp hn
    have := h b hb
    omega
theorem turn2 (ns R : List Int) (pl : Nat) (tk : Bool) (at' more : Int) (W : List Int) (N K : List Nat) (x y r g : S) (i : Nat) (hi : i < K.length) (hpl : 0 < pl) (hpm : pl ≤ 60) (hW : W.length ≤ 200) (hK : ∀ c ∈ K, c ≤ N.length) :
    l_law_191 (Ef ns R pl tk at' more (.f (FI (nI K))) W N (CT (cts tk W.length pl N N.length)) (PL tk W pl N K) x (I i) .u .u .u r g) = .nx (Ef ns R pl tk at' more (.f (FI (nI K))) W N (CT (cts tk W.length pl N N.length)) (PL tk W pl N K) x (I i) .u .u .u r g) := by
  have hk : K[i]? = some K[i] := List.getElem?_eq_getElem hi
  have p1 := PL_ix tk W pl N K i _ hk
  have c1 := ix_FI (L := nI K) (k := i) (x := (K[i] : Int)) (by rw [List.getElem?_map, hk]; rfl)
  have c2 := CT_ix _ _ _ (cts_get tk W.length pl N K[i] (hK _ (List.getElem_mem hi)))
  have rt := right_ok tk W pl (st tk W.length pl (N.take K[i])) (st_va hpl hpm hW _)
  generalize st tk W.length pl (N.take K[i]) = z at p1 c2 rt
  unfold l_law_191
  simp [x_sIf, x_callD, x_vKs, PL_root, CT_root, p1, c1, c2, rt]
theorem side_ok (L : List Int) : ∃ tk : Bool, ixS (.l [.f (.str "puts"), .f (.str "takes")]) (I (drw L 2)) = some (.f (.str (tkS tk))) := by
  have d := drw_lt (L := L) (n := 2) (by decide)
  obtain ⟨k, hk⟩ := Int.eq_ofNat_of_zero_le d.1
  rw [hk, ix_it (s := .l [.f (.str "puts"), .f (.str "takes")]) (ss := [.f (.str "puts"), .f (.str "takes")]) rfl]
  have : k = 0 ∨ k = 1 := by omega
  rcases this with rfl | rfl
  · exact ⟨false, rfl⟩
  · exact ⟨true, rfl⟩
theorem take_snoc' {α : Type} {K : List α} {i : Nat} (h : i < K.length) : K.take i ++ [K[i]] = K.take (i + 1) := by rw [List.take_succ_eq_append_getElem h]
theorem spoilt_nil (at' more : Int) : m__law_spoilt [I at', I more, LI []] = .ret (.l [.f .non]) [.u, .u, .u] := by
  refine fn_rt (body := b__law_spoilt) (env := [.r (I at'), .r (I more), .r (LI []), .u]) (env' := [.r (I at'), .r (I more), .r (LI []), .u]) ?_ (by simp)
  unfold b__law_spoilt
  simp [x_sIf, len_LI, x_sRet, sz]
theorem ne_non (w : Int) : neS (.f .non) (I w) = some (.f (.bl true)) := by
  have : eqP (.f .non) (.f (.int w)) = if SeqAt.shaped .none && SeqAt.shaped (.int w) then some (PyData.eqv .none (.int w)) else none := rfl
  unfold neS
  rw [this]
  have h1 : SeqAt.shaped .none = true := by decide
  have h2 : SeqAt.shaped (.int w) = true := by
    unfold SeqAt.shaped
    rw [PyData.canLay0, PyData.depth]
    rfl
  rw [h1, h2, PyData.eqv]
  rfl
/-- the fault that the law names, and what it is asked for -/
theorem fault_law (W : List Int) (n : Nat) (at' more : Int) (m0 : 0 ≤ more) (hW : W.length ≤ 200) : ∃ (sp : S) (ds : List D) (f : Nat), m__law_spoilt [I at', I more, LI (W.take n)] = .ret sp [.u, .u, .u] ∧ (∀ e, eUse 0 (sp :: e) = .ok (.f (.lst ds)) (.f (.lst ds) :: e)) ∧ m_ring_fault [LI W, .f (.lst ds)] = .ret (I f) [.u, .u] ∧
    ((W.take n).length = 0 → f = 0) ∧ ((W.take n).length ≠ 0 → modS (I at') (I (W.take n).length) = some (I f)) := by
  by_cases h0 : W.take n = []
  · rw [h0]
    refine ⟨_, [.non], 0, spoilt_nil at' more, fun e => rfl, ?_, fun _ => rfl, fun k => absurd rfl k⟩
    refine fault_at W [.non] 0 .non hW (fun i hi => absurd hi (Nat.not_lt_zero i)) rfl ?_
    cases W with
    | nil => exact .inl (Nat.le_refl 0)
    | cons w W => exact .inr ⟨w, rfl, ne_non w⟩
  · have hTl : (W.take n).length ≤ W.length := by rw [List.length_take]; omega
    obtain ⟨f, hf, hl, hs⟩ := spoilt_ok (W.take n) at' more (by omega) h0
    have pre : ∀ i, i < (W.take n).length → (W.take n)[i]? = W[i]? := fun i hi => by
      rw [List.getElem?_take, if_pos]
      rw [List.length_take] at hi; omega
    have hx : (W.take n)[f]? = some (W.take n)[f] := List.getElem?_eq_getElem hl
    have hg : (W.take n)[f]?.getD 0 = (W.take n)[f] := by rw [hx]; rfl
    rw [hg] at hs
    refine ⟨_, ((W.take n).take f ++ [(W.take n)[f] + 1 + more] ++ (W.take n).drop (f + 1)).map D.int, f, hs, fun e => LI_use, ?_, fun k => by omega, fun k => ?_⟩
    · refine fault_at W _ f (.int ((W.take n)[f] + 1 + more)) hW (fun i hi => ?_) ?_ (.inr ⟨(W.take n)[f], ?_, ?_⟩)
      · have hi2 : i < (W.take n).length := by omega
        refine ⟨(W.take n)[i], by rw [← pre i hi2, List.getElem?_eq_getElem hi2], ?_⟩
        rw [List.getElem?_map, List.append_assoc, List.getElem?_append_left (by rw [List.length_take]; omega), List.getElem?_take, if_pos hi, List.getElem?_eq_getElem hi2]
        rfl
      · rw [List.getElem?_map, List.append_assoc, List.getElem?_append_right (by rw [List.length_take]; omega)]
        have : f - ((W.take n).take f).length = 0 := by rw [List.length_take]; omega
        rw [this]
        rfl
      · rw [← pre f hl, hx]
      · rw [Dn.ne_int]
        have : ¬ ((W.take n)[f] + 1 + more = (W.take n)[f]) := by omega
        rw [decide_eq_false this]
        rfl
    · rw [x_mod _ _ (by omega), ← hf]
theorem PL_nil (tk W pl N) : LI [] = PL tk W pl N [] := rfl
theorem lawTrue (ns : List Int) (h : ns.length ≤ 63) : ∃ o, m_law [.f (.scr (ns.map D.int))] = .ret (.f (.bl true)) o := by
  have key : LawP (.f (.scr (ns.map D.int))) (b_law (.f (.scr (ns.map D.int)) :: List.replicate 17 .u)) := by
    obtain ⟨L0, hT, hL0⟩ := tape_ok ns h
    unfold b_law
    refine run_nx (e := [.f (.scr (ns.map D.int)), LI L0, .u, .u, .u, .u, .u, .u, .u, .u, .u, .u, .u, .u, .u, .u, .u, .u]) (by simp [x_sSet, x_callD, hT, List.replicate]) ?_
    -- places
    have d1 := drw_lt (L := L0) (n := 60) (by decide)
    generalize hd1 : drw L0 60 = d60 at d1
    have d2 := drw_lt (L := L0.dropLast) (n := 6) (by decide)
    obtain ⟨pz, hpz, px⟩ := pick_ok [1, 2, 3, 7, 60, 1 + d60] (drw L0.dropLast 6) d2.1 d2.2
    have px : ixS (.l [I 1, I 2, I 3, I 7, I 60, I (1 + d60)]) (I (drw L0.dropLast 6)) = some (I pz) := px
    have pz0 : 0 < pz ∧ pz ≤ 60 := by simp at hpz; omega
    obtain ⟨pl, rfl⟩ := Int.eq_ofNat_of_zero_le (show 0 ≤ pz by omega)
    refine run_nx (e := [.f (.scr (ns.map D.int)), LI L0.dropLast.dropLast, I pl, .u, .u, .u, .u, .u, .u, .u, .u, .u, .u, .u, .u, .u, .u, .u]) (by simp [x_sSet, x_callD, x_lokb, x_vKs, draw_ok, sz, hd1, px]) ?_
    generalize L0.dropLast.dropLast = L1
    -- side
    obtain ⟨tk, hs⟩ := side_ok L1
    refine run_nx (e := [.f (.scr (ns.map D.int)), LI L1.dropLast, I pl, .f (.str (tkS tk)), .u, .u, .u, .u, .u, .u, .u, .u, .u, .u, .u, .u, .u, .u]) (by simp [x_sSet, x_callD, x_lokb, x_vKs, draw_ok, sz, hs]) ?_
    generalize L1.dropLast = L2
    refine run_nx (e := [.f (.scr (ns.map D.int)), LI L2.dropLast, I pl, .f (.str (tkS tk)), I (drw L2 5040), .u, .u, .u, .u, .u, .u, .u, .u, .u, .u, .u, .u, .u]) (by simp [x_sSet, x_callD, x_lokb, x_vKs, draw_ok]) ?_
    generalize drw L2 5040 = at'
    generalize L2.dropLast = L3
    refine run_nx (e := [.f (.scr (ns.map D.int)), LI L3.dropLast, I pl, .f (.str (tkS tk)), I at', I (drw L3 3), .u, .u, .u, .u, .u, .u, .u, .u, .u, .u, .u, .u]) (by simp [x_sSet, x_callD, x_lokb, x_vKs, draw_ok]) ?_
    have m0 := (drw_lt (L := L3) (n := 3) (by decide)).1
    generalize drw L3 3 = more at m0
    generalize L3.dropLast = L4
    refine run_nx (e := [.f (.scr (ns.map D.int)), LI L4.dropLast.dropLast, I pl, .f (.str (tkS tk)), I at', I more, LI [drw L4 5040, drw L4.dropLast 5040], .u, .u, .u, .u, .u, .u, .u, .u, .u, .u, .u]) (by simp [x_sSet, x_callD, x_lokb, x_vKs, draw_ok, sz]; rfl) ?_
    generalize drw L4 5040 = c1
    generalize drw L4.dropLast 5040 = c2
    generalize L4.dropLast.dropLast = L5
    -- words, blocks
    obtain ⟨W, L6, hWk, hW⟩ := words_ok L5
    refine run_nx (e := [.f (.scr (ns.map D.int)), LI L6, I pl, .f (.str (tkS tk)), I at', I more, LI [c1, c2], LI W, .u, .u, .u, .u, .u, .u, .u, .u, .u, .u]) (by simp [x_sSet, x_callD, x_lokb, x_vKs, hWk]) ?_
    obtain ⟨B, R, hB, hBl, hBb⟩ := blocks_ok L6 pl pz0
    obtain ⟨N, rfl, hN⟩ := nats B hBb
    have hNl : N.length ≤ 200 := by simpa using hBl
    refine run_nx (e := [.f (.scr (ns.map D.int)), LI R, I pl, .f (.str (tkS tk)), I at', I more, LI [c1, c2], LI W, LI (nI N), .u, .u, .u, .u, .u, .u, .u, .u, .u]) (by simp [x_sSet, x_callD, x_lokb, x_vKs, hB]) ?_
    -- cuts
    have cutN : ∀ c : Int, ∃ k : Nat, modS (I c) (I ((N.length : Int) + 1)) = some (I k) ∧ k ≤ N.length := fun c => by
      obtain ⟨k, hk⟩ := Int.eq_ofNat_of_zero_le (Int.emod_nonneg c (show ((N.length : Int) + 1) ≠ 0 by omega))
      have := Int.emod_lt_of_pos c (show (0 : Int) < (N.length : Int) + 1 by omega)
      exact ⟨k, by rw [x_mod _ _ (by omega), hk], by omega⟩
    obtain ⟨k1, hk1, lk1⟩ := cutN c1
    obtain ⟨k2, hk2, lk2⟩ := cutN c2
    have lnI : ((nI N).length : Int) = N.length := by rw [List.length_map]
    have cat3 : addS (.l [I N.length]) (.l [I k1, I k2]) = some (LI [(N.length : Int), k1, k2]) := LI_cat (A := [(N.length : Int)]) (B := [(k1 : Int), k2]) (by simp)
    refine run_nx (e := Ef ns R pl tk at' more (LI (nI [N.length, k1, k2])) W N .u .u .u .u .u .u .u .u .u) ?_ ?_
    · have l2 : itD (FI [c1, c2]) = some [.int c1, .int c2] := rfl
      generalize hBN : nI N = BN at lnI ⊢
      simp [x_sSet, len_LI, sz, x_eLc, lcD_cons, lcStep, lcD, l2, x_dropB, x_clear, x_backB, lnI, hk1, hk2, cat3]
      rw [hBN]
    -- counts
    have hct := counts_ok tk W pl N (by omega) (by omega) hW hNl
    refine run_nx (e := Ef ns R pl tk at' more (LI (nI [N.length, k1, k2])) W N (CT (cts tk W.length pl N N.length)) .u .u .u .u .u .u .u .u) ?_ ?_
    · generalize hBN : nI N = BN at hct ⊢
      generalize CT (cts tk W.length pl N N.length) = cs at hct ⊢
      show sSet _ _ [_, _, _, _, _, _, _, _, LI (nI N), _, _, _, _, _, _, _, _, _] = .nx [_, _, _, _, _, _, _, _, LI (nI N), _, _, _, _, _, _, _, _, _]
      rw [hBN]
      simp [x_sSet, x_callD, len_LI, hct]
    generalize hcs : CT (cts tk W.length pl N N.length) = cs
    refine run_nx (e := Ef ns R pl tk at' more (LI (nI [N.length, k1, k2])) W N cs (LI []) .u .u .u .u .u .u .u) (by simp [x_sSet]) ?_
    -- the plays
    generalize hK : [N.length, k1, k2] = K
    have hKl : K.length = 3 := by rw [← hK]; rfl
    have hKb : ∀ c ∈ K, c ≤ N.length := by rw [← hK]; simp; omega
    obtain ⟨e1, q1, x1, r1, g1, rfl⟩ := loop_inv (g := bName 11) (b := l_law_183) (Lw1 ns R pl tk at' more (.f (FI (nI K))) W N cs K) ((nI K).map D.int) (Ef ns R pl tk at' more (.f (FI (nI K))) W N cs (LI []) .u .u .u .u .u .u .u) ⟨_, _, _, rfl⟩ (by
      rintro i d _ hd ⟨x, r, g, rfl⟩
      have hi : i < K.length := by
        have := (List.getElem?_eq_some_iff.mp hd).1
        simpa using this
      have hd2 : d = .int (K[i] : Int) := by
        rw [List.map_map, List.getElem?_map, List.getElem?_eq_getElem hi] at hd
        exact (Option.some.inj hd).symm
      subst hd2
      rw [step_name _ _ _ _ (by simp)]
      have hs := turn1 ns R pl tk at' more (.f (FI (nI K))) W N cs (K.take i) (by rw [List.length_take]; omega) K[i] r g (by omega) (by omega) hW hN hNl
      have : (Ef ns R pl tk at' more (.f (FI (nI K))) W N cs (PL tk W pl N (K.take i)) x .u .u .u .u r g).set 11 (.f (.int (K[i] : Int))) = Ef ns R pl tk at' more (.f (FI (nI K))) W N cs (PL tk W pl N (K.take i)) (I K[i]) .u .u .u .u r g := rfl
      rw [this, hs, NxP_nx, take_snoc' hi]
      exact ⟨_, _, _, rfl⟩)
    rw [List.length_map, List.length_map, List.take_length] at q1
    refine run_for ?_ q1 ?_
    · generalize nI K = KK
      simp [FI]
    subst hcs
    -- judged
    obtain ⟨e2, q2, y2, rfl⟩ := loop_rng (g := bName 12) (b := l_law_191) (n := 3) (fun _ => Lw2 ns R pl tk at' more (.f (FI (nI K))) W N (CT (cts tk W.length pl N N.length)) (PL tk W pl N K) x1 r1 g1) _ ⟨.u, rfl⟩ (by
      rintro i _ hi ⟨y, rfl⟩
      rw [step_name _ _ _ _ (by simp)]
      have hs := turn2 ns R pl tk at' more W N K x1 y r1 g1 i (by omega) (by omega) (by omega) hW hKb
      have : (Ef ns R pl tk at' more (.f (FI (nI K))) W N (CT (cts tk W.length pl N N.length)) (PL tk W pl N K) x1 y .u .u .u r1 g1).set 12 (.f (.int (i : Int))) = Ef ns R pl tk at' more (.f (FI (nI K))) W N (CT (cts tk W.length pl N N.length)) (PL tk W pl N K) x1 (I i) .u .u .u r1 g1 := rfl
      rw [this, hs, NxP_nx]
      exact ⟨_, rfl⟩)
    refine run_for ?_ q2 ?_
    · have : ((nI K).length : Int) = 3 := by rw [List.length_map, hKl]; rfl
      generalize nI K = KK at this ⊢
      simp [len_FI, this, r1_ok]
    -- the faults
    have px0 := PL_ix tk W pl N K 0 N.length (by rw [← hK]; rfl)
    rw [List.take_length] at px0
    have px0 : ixS (PL tk W pl N K) (I 0) = some (.f (OD tk W pl (st tk W.length pl N))) := px0
    have pr0 := PL_root tk W pl N K
    generalize PL tk W pl N K = ps at px0 pr0
    generalize st tk W.length pl N = z at px0
    have px0 : ixS ps (I 0) = some (.f (.obj 0 [FI (W.take (tN tk z.2.1 z.2.2)), .int z.1, .int z.2.1, .int z.2.2, .lst ((slotsOf pl W (xN tk z.1 z.2.2)).map oD)])) := px0
    generalize hn : tN tk z.2.1 z.2.2 = n at px0
    generalize slotsOf pl W (xN tk z.1 z.2.2) = sx at px0
    generalize CT (cts tk W.length pl N N.length) = cs
    generalize S.f (FI (nI K)) = cu
    have hn0 := fault_none W n hW
    obtain ⟨sp, ds, f, hs1, hs2, hs3, hs4, hs5⟩ := fault_law W n at' more m0 hW
    generalize hT : W.take n = T at px0 hn0 hs1 hs4 hs5
    refine run_nx (e := [.f (.scr (ns.map D.int)), LI R, I pl, .f (.str (tkS tk)), I at', I more, cu, LI W, LI (nI N), cs, ps, x1, y2, LI T, .u, .u, r1, g1]) ?_ ?_
    · simp [x_sSet, pr0, px0, list_FI]
    refine run_nx (e := [.f (.scr (ns.map D.int)), LI R, I pl, .f (.str (tkS tk)), I at', I more, cu, LI W, LI (nI N), cs, ps, x1, y2, LI T, .u, .u, r1, g1]) ?_ ?_
    · simp [x_sIf, x_callD, list_LI, hn0, x_vKs]
    refine run_nx (e := [.f (.scr (ns.map D.int)), LI R, I pl, .f (.str (tkS tk)), I at', I more, cu, LI W, LI (nI N), cs, ps, x1, y2, LI T, sp, .u, r1, g1]) ?_ ?_
    · simp [x_sSet, x_callD, hs1]
    refine run_nx (e := [.f (.scr (ns.map D.int)), LI R, I pl, .f (.str (tkS tk)), I at', I more, cu, LI W, LI (nI N), cs, ps, x1, y2, LI T, sp, I 0, r1, g1]) ?_ ?_
    · simp [x_sSet, x_vKs]
    refine run_nx (e := [.f (.scr (ns.map D.int)), LI R, I pl, .f (.str (tkS tk)), I at', I more, cu, LI W, LI (nI N), cs, ps, x1, y2, LI T, sp, I f, r1, g1]) ?_ ?_
    · by_cases h0 : T.length = 0
      · have := hs4 h0
        subst this
        simp [x_sIf, len_LI, h0]
      · have hm := hs5 h0
        have : 0 < T.length := by omega
        simp [x_sIf, len_LI, this, x_sSet, hm]
    simp [x_sRet, x_callD, list_LI, hs2, hs3, is_ok]
    exact ⟨_, rfl⟩
  obtain ⟨e, h1⟩ := key
  exact ⟨[.u], fn_rt h1 (by simp)⟩
end K60

namespace K60
open PySem PySem.Spec PyProof.Rows L2 Dn
theorem all_mk {l : PySem.W.OpenLaw} {w : World} {K : PySem.W.Frag} {h : Heap} {mg : Str → Option Value} {fa C0 f_RingPlay_init f_may_put f_may_take f_put_word f_take_word f_handler_block f_word_step f_main_step f_ring_played f_ring_fault f__law_tape f__law_draw f__law_cells f__law_words f__law_blocks f__law_is f__law_same f__law_counts f__law_slots f__law_right f__law_spoilt f_law : Addr} (X : K.In h) (G : h.Ns mainGlobals mg) (hfa : mg "law" = some (.ref fa))
    {od_RingPlay_init an_RingPlay_init od_may_put an_may_put od_may_take an_may_take od_put_word an_put_word od_take_word an_take_word od_handler_block an_handler_block od_word_step an_word_step od_main_step an_main_step od_ring_played an_ring_played od_ring_fault an_ring_fault od__law_tape an__law_tape od__law_draw an__law_draw od__law_cells an__law_cells od__law_words an__law_words od__law_blocks an__law_blocks od__law_is an__law_is od__law_same an__law_same od__law_counts an__law_counts od__law_slots an__law_slots od__law_right an__law_right od__law_spoilt an__law_spoilt od_law an_law : Option Addr} {sl_RingPlay_init sl_may_put sl_may_take sl_put_word sl_take_word sl_handler_block sl_word_step sl_main_step sl_ring_played sl_ring_fault sl__law_tape sl__law_draw sl__law_cells sl__law_words sl__law_blocks sl__law_is sl__law_same sl__law_counts sl__law_slots sl__law_right sl__law_spoilt sl_law : Array (Option Value)} {oc_RingPlay_init kV_RingPlay_init dc_RingPlay_init pm_RingPlay_init cd_RingPlay_init ct_RingPlay_init oc_may_put kV_may_put dc_may_put pm_may_put cd_may_put ct_may_put oc_may_take kV_may_take dc_may_take pm_may_take cd_may_take ct_may_take oc_put_word kV_put_word dc_put_word pm_put_word cd_put_word ct_put_word oc_take_word kV_take_word dc_take_word pm_take_word cd_take_word ct_take_word oc_handler_block kV_handler_block dc_handler_block pm_handler_block cd_handler_block ct_handler_block oc_word_step kV_word_step dc_word_step pm_word_step cd_word_step ct_word_step oc_main_step kV_main_step dc_main_step pm_main_step cd_main_step ct_main_step oc_ring_played kV_ring_played dc_ring_played pm_ring_played cd_ring_played ct_ring_played oc_ring_fault kV_ring_fault dc_ring_fault pm_ring_fault cd_ring_fault ct_ring_fault oc__law_tape kV__law_tape dc__law_tape pm__law_tape cd__law_tape ct__law_tape oc__law_draw kV__law_draw dc__law_draw pm__law_draw cd__law_draw ct__law_draw oc__law_cells kV__law_cells dc__law_cells pm__law_cells cd__law_cells ct__law_cells oc__law_words kV__law_words dc__law_words pm__law_words cd__law_words ct__law_words oc__law_blocks kV__law_blocks dc__law_blocks pm__law_blocks cd__law_blocks ct__law_blocks oc__law_is kV__law_is dc__law_is pm__law_is cd__law_is ct__law_is oc__law_same kV__law_same dc__law_same pm__law_same cd__law_same ct__law_same oc__law_counts kV__law_counts dc__law_counts pm__law_counts cd__law_counts ct__law_counts oc__law_slots kV__law_slots dc__law_slots pm__law_slots cd__law_slots ct__law_slots oc__law_right kV__law_right dc__law_right pm__law_right cd__law_right ct__law_right oc__law_spoilt kV__law_spoilt dc__law_spoilt pm__law_spoilt cd__law_spoilt ct__law_spoilt oc_law kV_law dc_law pm_law cd_law ct_law : Value}
    (aC0 : PySem.W.nsIn K mainGlobals "RingPlay" = some (some (.ref C0)))
    (pg0 : PySem.W.plainGet K C0 Str.empty = true)
    (hd0 : PySem.W.hasDictIn K C0 = true)
    (po0 : PySem.W.plainOver K C0 = true)
    (sa0 : PySem.W.findIn K (.ref C0) "__setattr__" = some (some (.builtin "object.__setattr__")))
    (mkk0 : PySem.W.makesIn K C0 = true)
    (kc0 : PySem.W.keepIn K (.ref C0) = true)
    (ih0 : PySem.W.findIn K (.ref C0) "__class__" = some (some (.builtin "object.__class__")))
    (in0 : PySem.W.specialIn K (.builtin "object.__class__") "__get__" = some (some (.builtin "getset_descriptor.__get__")))
    (it0 : PySem.W.takesIn K (.builtin "object.__class__") = some true)
    (im0 : PySem.W.mroIn K C0 (.type "object") = some true)
    (na0_0 : PySem.W.findIn K (.ref C0) "taken" = some none)
    (na0_1 : PySem.W.findIn K (.ref C0) "p" = some none)
    (na0_2 : PySem.W.findIn K (.ref C0) "q" = some none)
    (na0_3 : PySem.W.findIn K (.ref C0) "at" = some none)
    (na0_4 : PySem.W.findIn K (.ref C0) "slots" = some none)
    (a_RingPlay_init : PySem.W.findIn K (.ref C0) "__init__" = some (some (.ref f_RingPlay_init)))
    (i_RingPlay_init : PySem.W.isFn K (.ref f_RingPlay_init) = true)
    (l_RingPlay_init : K.lookup f_RingPlay_init = some ⟨oc_RingPlay_init, od_RingPlay_init, .func (PySem.W.fnOf "__init__" "RingPlay.__init__" (defArgs s_RingPlay_init) (defBody s_RingPlay_init) (defScope s_RingPlay_init) .none kV_RingPlay_init dc_RingPlay_init pm_RingPlay_init an_RingPlay_init cd_RingPlay_init ct_RingPlay_init), sl_RingPlay_init⟩)
    (c_RingPlay_init : PySem.W.codeIn K cd_RingPlay_init "RingPlay.__init__" = true)
    (k_RingPlay_init : PySem.W.keepIn K (.ref f_RingPlay_init) = true)
    (a_may_put : PySem.W.nsIn K mainGlobals "may_put" = some (some (.ref f_may_put)))
    (l_may_put : K.lookup f_may_put = some ⟨oc_may_put, od_may_put, .func (PySem.W.fnOf "may_put" "may_put" (defArgs s_may_put) (defBody s_may_put) (defScope s_may_put) .none kV_may_put dc_may_put pm_may_put an_may_put cd_may_put ct_may_put), sl_may_put⟩)
    (c_may_put : PySem.W.codeIn K cd_may_put "may_put" = true)
    (k_may_put : PySem.W.keepIn K (.ref f_may_put) = true)
    (a_may_take : PySem.W.nsIn K mainGlobals "may_take" = some (some (.ref f_may_take)))
    (l_may_take : K.lookup f_may_take = some ⟨oc_may_take, od_may_take, .func (PySem.W.fnOf "may_take" "may_take" (defArgs s_may_take) (defBody s_may_take) (defScope s_may_take) .none kV_may_take dc_may_take pm_may_take an_may_take cd_may_take ct_may_take), sl_may_take⟩)
    (c_may_take : PySem.W.codeIn K cd_may_take "may_take" = true)
    (k_may_take : PySem.W.keepIn K (.ref f_may_take) = true)
    (a_put_word : PySem.W.nsIn K mainGlobals "put_word" = some (some (.ref f_put_word)))
    (l_put_word : K.lookup f_put_word = some ⟨oc_put_word, od_put_word, .func (PySem.W.fnOf "put_word" "put_word" (defArgs s_put_word) (defBody s_put_word) (defScope s_put_word) .none kV_put_word dc_put_word pm_put_word an_put_word cd_put_word ct_put_word), sl_put_word⟩)
    (c_put_word : PySem.W.codeIn K cd_put_word "put_word" = true)
    (k_put_word : PySem.W.keepIn K (.ref f_put_word) = true)
    (a_take_word : PySem.W.nsIn K mainGlobals "take_word" = some (some (.ref f_take_word)))
    (l_take_word : K.lookup f_take_word = some ⟨oc_take_word, od_take_word, .func (PySem.W.fnOf "take_word" "take_word" (defArgs s_take_word) (defBody s_take_word) (defScope s_take_word) .none kV_take_word dc_take_word pm_take_word an_take_word cd_take_word ct_take_word), sl_take_word⟩)
    (c_take_word : PySem.W.codeIn K cd_take_word "take_word" = true)
    (k_take_word : PySem.W.keepIn K (.ref f_take_word) = true)
    (a_handler_block : PySem.W.nsIn K mainGlobals "handler_block" = some (some (.ref f_handler_block)))
    (l_handler_block : K.lookup f_handler_block = some ⟨oc_handler_block, od_handler_block, .func (PySem.W.fnOf "handler_block" "handler_block" (defArgs s_handler_block) (defBody s_handler_block) (defScope s_handler_block) .none kV_handler_block dc_handler_block pm_handler_block an_handler_block cd_handler_block ct_handler_block), sl_handler_block⟩)
    (c_handler_block : PySem.W.codeIn K cd_handler_block "handler_block" = true)
    (k_handler_block : PySem.W.keepIn K (.ref f_handler_block) = true)
    (a_word_step : PySem.W.nsIn K mainGlobals "word_step" = some (some (.ref f_word_step)))
    (l_word_step : K.lookup f_word_step = some ⟨oc_word_step, od_word_step, .func (PySem.W.fnOf "word_step" "word_step" (defArgs s_word_step) (defBody s_word_step) (defScope s_word_step) .none kV_word_step dc_word_step pm_word_step an_word_step cd_word_step ct_word_step), sl_word_step⟩)
    (c_word_step : PySem.W.codeIn K cd_word_step "word_step" = true)
    (k_word_step : PySem.W.keepIn K (.ref f_word_step) = true)
    (a_main_step : PySem.W.nsIn K mainGlobals "main_step" = some (some (.ref f_main_step)))
    (l_main_step : K.lookup f_main_step = some ⟨oc_main_step, od_main_step, .func (PySem.W.fnOf "main_step" "main_step" (defArgs s_main_step) (defBody s_main_step) (defScope s_main_step) .none kV_main_step dc_main_step pm_main_step an_main_step cd_main_step ct_main_step), sl_main_step⟩)
    (c_main_step : PySem.W.codeIn K cd_main_step "main_step" = true)
    (k_main_step : PySem.W.keepIn K (.ref f_main_step) = true)
    (a_ring_played : PySem.W.nsIn K mainGlobals "ring_played" = some (some (.ref f_ring_played)))
    (l_ring_played : K.lookup f_ring_played = some ⟨oc_ring_played, od_ring_played, .func (PySem.W.fnOf "ring_played" "ring_played" (defArgs s_ring_played) (defBody s_ring_played) (defScope s_ring_played) .none kV_ring_played dc_ring_played pm_ring_played an_ring_played cd_ring_played ct_ring_played), sl_ring_played⟩)
    (c_ring_played : PySem.W.codeIn K cd_ring_played "ring_played" = true)
    (k_ring_played : PySem.W.keepIn K (.ref f_ring_played) = true)
    (a_ring_fault : PySem.W.nsIn K mainGlobals "ring_fault" = some (some (.ref f_ring_fault)))
    (l_ring_fault : K.lookup f_ring_fault = some ⟨oc_ring_fault, od_ring_fault, .func (PySem.W.fnOf "ring_fault" "ring_fault" (defArgs s_ring_fault) (defBody s_ring_fault) (defScope s_ring_fault) .none kV_ring_fault dc_ring_fault pm_ring_fault an_ring_fault cd_ring_fault ct_ring_fault), sl_ring_fault⟩)
    (c_ring_fault : PySem.W.codeIn K cd_ring_fault "ring_fault" = true)
    (k_ring_fault : PySem.W.keepIn K (.ref f_ring_fault) = true)
    (a__law_tape : PySem.W.nsIn K mainGlobals "_law_tape" = some (some (.ref f__law_tape)))
    (l__law_tape : K.lookup f__law_tape = some ⟨oc__law_tape, od__law_tape, .func (PySem.W.fnOf "_law_tape" "_law_tape" (defArgs s__law_tape) (defBody s__law_tape) (defScope s__law_tape) .none kV__law_tape dc__law_tape pm__law_tape an__law_tape cd__law_tape ct__law_tape), sl__law_tape⟩)
    (c__law_tape : PySem.W.codeIn K cd__law_tape "_law_tape" = true)
    (k__law_tape : PySem.W.keepIn K (.ref f__law_tape) = true)
    (a__law_draw : PySem.W.nsIn K mainGlobals "_law_draw" = some (some (.ref f__law_draw)))
    (l__law_draw : K.lookup f__law_draw = some ⟨oc__law_draw, od__law_draw, .func (PySem.W.fnOf "_law_draw" "_law_draw" (defArgs s__law_draw) (defBody s__law_draw) (defScope s__law_draw) .none kV__law_draw dc__law_draw pm__law_draw an__law_draw cd__law_draw ct__law_draw), sl__law_draw⟩)
    (c__law_draw : PySem.W.codeIn K cd__law_draw "_law_draw" = true)
    (k__law_draw : PySem.W.keepIn K (.ref f__law_draw) = true)
    (a__law_cells : PySem.W.nsIn K mainGlobals "_law_cells" = some (some (.ref f__law_cells)))
    (l__law_cells : K.lookup f__law_cells = some ⟨oc__law_cells, od__law_cells, .func (PySem.W.fnOf "_law_cells" "_law_cells" (defArgs s__law_cells) (defBody s__law_cells) (defScope s__law_cells) .none kV__law_cells dc__law_cells pm__law_cells an__law_cells cd__law_cells ct__law_cells), sl__law_cells⟩)
    (c__law_cells : PySem.W.codeIn K cd__law_cells "_law_cells" = true)
    (k__law_cells : PySem.W.keepIn K (.ref f__law_cells) = true)
    (a__law_words : PySem.W.nsIn K mainGlobals "_law_words" = some (some (.ref f__law_words)))
    (l__law_words : K.lookup f__law_words = some ⟨oc__law_words, od__law_words, .func (PySem.W.fnOf "_law_words" "_law_words" (defArgs s__law_words) (defBody s__law_words) (defScope s__law_words) .none kV__law_words dc__law_words pm__law_words an__law_words cd__law_words ct__law_words), sl__law_words⟩)
    (c__law_words : PySem.W.codeIn K cd__law_words "_law_words" = true)
    (k__law_words : PySem.W.keepIn K (.ref f__law_words) = true)
    (a__law_blocks : PySem.W.nsIn K mainGlobals "_law_blocks" = some (some (.ref f__law_blocks)))
    (l__law_blocks : K.lookup f__law_blocks = some ⟨oc__law_blocks, od__law_blocks, .func (PySem.W.fnOf "_law_blocks" "_law_blocks" (defArgs s__law_blocks) (defBody s__law_blocks) (defScope s__law_blocks) .none kV__law_blocks dc__law_blocks pm__law_blocks an__law_blocks cd__law_blocks ct__law_blocks), sl__law_blocks⟩)
    (c__law_blocks : PySem.W.codeIn K cd__law_blocks "_law_blocks" = true)
    (k__law_blocks : PySem.W.keepIn K (.ref f__law_blocks) = true)
    (a__law_is : PySem.W.nsIn K mainGlobals "_law_is" = some (some (.ref f__law_is)))
    (l__law_is : K.lookup f__law_is = some ⟨oc__law_is, od__law_is, .func (PySem.W.fnOf "_law_is" "_law_is" (defArgs s__law_is) (defBody s__law_is) (defScope s__law_is) .none kV__law_is dc__law_is pm__law_is an__law_is cd__law_is ct__law_is), sl__law_is⟩)
    (c__law_is : PySem.W.codeIn K cd__law_is "_law_is" = true)
    (k__law_is : PySem.W.keepIn K (.ref f__law_is) = true)
    (a__law_same : PySem.W.nsIn K mainGlobals "_law_same" = some (some (.ref f__law_same)))
    (l__law_same : K.lookup f__law_same = some ⟨oc__law_same, od__law_same, .func (PySem.W.fnOf "_law_same" "_law_same" (defArgs s__law_same) (defBody s__law_same) (defScope s__law_same) .none kV__law_same dc__law_same pm__law_same an__law_same cd__law_same ct__law_same), sl__law_same⟩)
    (c__law_same : PySem.W.codeIn K cd__law_same "_law_same" = true)
    (k__law_same : PySem.W.keepIn K (.ref f__law_same) = true)
    (a__law_counts : PySem.W.nsIn K mainGlobals "_law_counts" = some (some (.ref f__law_counts)))
    (l__law_counts : K.lookup f__law_counts = some ⟨oc__law_counts, od__law_counts, .func (PySem.W.fnOf "_law_counts" "_law_counts" (defArgs s__law_counts) (defBody s__law_counts) (defScope s__law_counts) .none kV__law_counts dc__law_counts pm__law_counts an__law_counts cd__law_counts ct__law_counts), sl__law_counts⟩)
    (c__law_counts : PySem.W.codeIn K cd__law_counts "_law_counts" = true)
    (k__law_counts : PySem.W.keepIn K (.ref f__law_counts) = true)
    (a__law_slots : PySem.W.nsIn K mainGlobals "_law_slots" = some (some (.ref f__law_slots)))
    (l__law_slots : K.lookup f__law_slots = some ⟨oc__law_slots, od__law_slots, .func (PySem.W.fnOf "_law_slots" "_law_slots" (defArgs s__law_slots) (defBody s__law_slots) (defScope s__law_slots) .none kV__law_slots dc__law_slots pm__law_slots an__law_slots cd__law_slots ct__law_slots), sl__law_slots⟩)
    (c__law_slots : PySem.W.codeIn K cd__law_slots "_law_slots" = true)
    (k__law_slots : PySem.W.keepIn K (.ref f__law_slots) = true)
    (a__law_right : PySem.W.nsIn K mainGlobals "_law_right" = some (some (.ref f__law_right)))
    (l__law_right : K.lookup f__law_right = some ⟨oc__law_right, od__law_right, .func (PySem.W.fnOf "_law_right" "_law_right" (defArgs s__law_right) (defBody s__law_right) (defScope s__law_right) .none kV__law_right dc__law_right pm__law_right an__law_right cd__law_right ct__law_right), sl__law_right⟩)
    (c__law_right : PySem.W.codeIn K cd__law_right "_law_right" = true)
    (k__law_right : PySem.W.keepIn K (.ref f__law_right) = true)
    (a__law_spoilt : PySem.W.nsIn K mainGlobals "_law_spoilt" = some (some (.ref f__law_spoilt)))
    (l__law_spoilt : K.lookup f__law_spoilt = some ⟨oc__law_spoilt, od__law_spoilt, .func (PySem.W.fnOf "_law_spoilt" "_law_spoilt" (defArgs s__law_spoilt) (defBody s__law_spoilt) (defScope s__law_spoilt) .none kV__law_spoilt dc__law_spoilt pm__law_spoilt an__law_spoilt cd__law_spoilt ct__law_spoilt), sl__law_spoilt⟩)
    (c__law_spoilt : PySem.W.codeIn K cd__law_spoilt "_law_spoilt" = true)
    (k__law_spoilt : PySem.W.keepIn K (.ref f__law_spoilt) = true)
    (a_law : PySem.W.nsIn K mainGlobals "law" = some (some (.ref f_law)))
    (l_law : K.lookup f_law = some ⟨oc_law, od_law, .func (PySem.W.fnOf "law" "law" (defArgs s_law) (defBody s_law) (defScope s_law) .none kV_law dc_law pm_law an_law cd_law ct_law), sl_law⟩)
    (c_law : PySem.W.codeIn K cd_law "law" = true)
    (k_law : PySem.W.keepIn K (.ref f_law) = true)
    (z_bool : PySem.W.nsIn K mainGlobals "bool" = some none)
    (z_enumerate : PySem.W.nsIn K mainGlobals "enumerate" = some none)
    (z_int : PySem.W.nsIn K mainGlobals "int" = some none)
    (z_isinstance : PySem.W.nsIn K mainGlobals "isinstance" = some none)
    (z_len : PySem.W.nsIn K mainGlobals "len" = some none)
    (z_list : PySem.W.nsIn K mainGlobals "list" = some none)
    (z_min : PySem.W.nsIn K mainGlobals "min" = some none)
    (z_range : PySem.W.nsIn K mainGlobals "range" = some none)
    : ∃ fd : FuncData, (∀ (s : Shared) (v : Value), BindsTo s fd ⟨[v], []⟩ [("script", v)]) ∧ ∀ base : Heap, K.In base → base.Ns mainGlobals mg → FnOk l.prog w K mg base CX0 5 fa fd ["script"] (spLaw K) := by
  have e := hfa.symm.trans (PySem.W.mg_of X G a_law)
  cases e
  have F_RingPlay_init := fun_mk (st := s_RingPlay_init) l_RingPlay_init c_RingPlay_init k_RingPlay_init
  have F_may_put := fun_mk (st := s_may_put) l_may_put c_may_put k_may_put
  have F_may_take := fun_mk (st := s_may_take) l_may_take c_may_take k_may_take
  have F_put_word := fun_mk (st := s_put_word) l_put_word c_put_word k_put_word
  have F_take_word := fun_mk (st := s_take_word) l_take_word c_take_word k_take_word
  have F_handler_block := fun_mk (st := s_handler_block) l_handler_block c_handler_block k_handler_block
  have F_word_step := fun_mk (st := s_word_step) l_word_step c_word_step k_word_step
  have F_main_step := fun_mk (st := s_main_step) l_main_step c_main_step k_main_step
  have F_ring_played := fun_mk (st := s_ring_played) l_ring_played c_ring_played k_ring_played
  have F_ring_fault := fun_mk (st := s_ring_fault) l_ring_fault c_ring_fault k_ring_fault
  have F__law_tape := fun_mk (st := s__law_tape) l__law_tape c__law_tape k__law_tape
  have F__law_draw := fun_mk (st := s__law_draw) l__law_draw c__law_draw k__law_draw
  have F__law_cells := fun_mk (st := s__law_cells) l__law_cells c__law_cells k__law_cells
  have F__law_words := fun_mk (st := s__law_words) l__law_words c__law_words k__law_words
  have F__law_blocks := fun_mk (st := s__law_blocks) l__law_blocks c__law_blocks k__law_blocks
  have F__law_is := fun_mk (st := s__law_is) l__law_is c__law_is k__law_is
  have F__law_same := fun_mk (st := s__law_same) l__law_same c__law_same k__law_same
  have F__law_counts := fun_mk (st := s__law_counts) l__law_counts c__law_counts k__law_counts
  have F__law_slots := fun_mk (st := s__law_slots) l__law_slots c__law_slots k__law_slots
  have F__law_right := fun_mk (st := s__law_right) l__law_right c__law_right k__law_right
  have F__law_spoilt := fun_mk (st := s__law_spoilt) l__law_spoilt c__law_spoilt k__law_spoilt
  have F_law := fun_mk (st := s_law) l_law c_law k_law
  have cl0 : Cls K C0 := ⟨pg0, hd0, po0, sa0⟩
  let T : Tops K mg := {
    C := ⟨fun n => if n = 0 then some (C0, [("taken" : Str), ("p" : Str), ("q" : Str), ("at" : Str), ("slots" : Str)]) else none, fun _ => none⟩
    c0 := C0
    hc0 := rfl
    cl0 := cl0
    ic0 := ⟨cl0, ih0, in0, it0, im0⟩
    mc0 := PySem.W.mg_of X G aC0
    na0_0 := na0_0
    na0_1 := na0_1
    na0_2 := na0_2
    na0_3 := na0_3
    na0_4 := na0_4
    f_RingPlay_init := f_RingPlay_init
    d_RingPlay_init := _
    F_RingPlay_init := F_RingPlay_init
    b_RingPlay_init := F_RingPlay_init.binds fun _ _ _ _ _ _ us hl => match us, hl with | [_, _], _ => rfl
    mk0 := ⟨mkk0, a_RingPlay_init, i_RingPlay_init, kc0⟩
    f_may_put := f_may_put
    d_may_put := _
    F_may_put := F_may_put
    b_may_put := F_may_put.binds fun _ _ _ _ _ _ us hl => match us, hl with | [_, _], _ => rfl
    m_may_put := PySem.W.mg_of X G a_may_put
    f_may_take := f_may_take
    d_may_take := _
    F_may_take := F_may_take
    b_may_take := F_may_take.binds fun _ _ _ _ _ _ us hl => match us, hl with | [_], _ => rfl
    m_may_take := PySem.W.mg_of X G a_may_take
    f_put_word := f_put_word
    d_put_word := _
    F_put_word := F_put_word
    b_put_word := F_put_word.binds fun _ _ _ _ _ _ us hl => match us, hl with | [_, _, _], _ => rfl
    m_put_word := PySem.W.mg_of X G a_put_word
    f_take_word := f_take_word
    d_take_word := _
    F_take_word := F_take_word
    b_take_word := F_take_word.binds fun _ _ _ _ _ _ us hl => match us, hl with | [_, _], _ => rfl
    m_take_word := PySem.W.mg_of X G a_take_word
    f_handler_block := f_handler_block
    d_handler_block := _
    F_handler_block := F_handler_block
    b_handler_block := F_handler_block.binds fun _ _ _ _ _ _ us hl => match us, hl with | [_, _, _], _ => rfl
    m_handler_block := PySem.W.mg_of X G a_handler_block
    f_word_step := f_word_step
    d_word_step := _
    F_word_step := F_word_step
    b_word_step := F_word_step.binds fun _ _ _ _ _ _ us hl => match us, hl with | [_, _, _, _], _ => rfl
    m_word_step := PySem.W.mg_of X G a_word_step
    f_main_step := f_main_step
    d_main_step := _
    F_main_step := F_main_step
    b_main_step := F_main_step.binds fun _ _ _ _ _ _ us hl => match us, hl with | [_, _, _, _], _ => rfl
    m_main_step := PySem.W.mg_of X G a_main_step
    f_ring_played := f_ring_played
    d_ring_played := _
    F_ring_played := F_ring_played
    b_ring_played := F_ring_played.binds fun _ _ _ _ _ _ us hl => match us, hl with | [_, _, _, _, _], _ => rfl
    m_ring_played := PySem.W.mg_of X G a_ring_played
    f_ring_fault := f_ring_fault
    d_ring_fault := _
    F_ring_fault := F_ring_fault
    b_ring_fault := F_ring_fault.binds fun _ _ _ _ _ _ us hl => match us, hl with | [_, _], _ => rfl
    m_ring_fault := PySem.W.mg_of X G a_ring_fault
    f__law_tape := f__law_tape
    d__law_tape := _
    F__law_tape := F__law_tape
    b__law_tape := F__law_tape.binds fun _ _ _ _ _ _ us hl => match us, hl with | [_], _ => rfl
    m__law_tape := PySem.W.mg_of X G a__law_tape
    f__law_draw := f__law_draw
    d__law_draw := _
    F__law_draw := F__law_draw
    b__law_draw := F__law_draw.binds fun _ _ _ _ _ _ us hl => match us, hl with | [_, _], _ => rfl
    m__law_draw := PySem.W.mg_of X G a__law_draw
    f__law_cells := f__law_cells
    d__law_cells := _
    F__law_cells := F__law_cells
    b__law_cells := F__law_cells.binds fun _ _ _ _ _ _ us hl => match us, hl with | [_, _], _ => rfl
    m__law_cells := PySem.W.mg_of X G a__law_cells
    f__law_words := f__law_words
    d__law_words := _
    F__law_words := F__law_words
    b__law_words := F__law_words.binds fun _ _ _ _ _ _ us hl => match us, hl with | [_], _ => rfl
    m__law_words := PySem.W.mg_of X G a__law_words
    f__law_blocks := f__law_blocks
    d__law_blocks := _
    F__law_blocks := F__law_blocks
    b__law_blocks := F__law_blocks.binds fun _ _ _ _ _ _ us hl => match us, hl with | [_, _], _ => rfl
    m__law_blocks := PySem.W.mg_of X G a__law_blocks
    f__law_is := f__law_is
    d__law_is := _
    F__law_is := F__law_is
    b__law_is := F__law_is.binds fun _ _ _ _ _ _ us hl => match us, hl with | [_, _], _ => rfl
    m__law_is := PySem.W.mg_of X G a__law_is
    f__law_same := f__law_same
    d__law_same := _
    F__law_same := F__law_same
    b__law_same := F__law_same.binds fun _ _ _ _ _ _ us hl => match us, hl with | [_, _], _ => rfl
    m__law_same := PySem.W.mg_of X G a__law_same
    f__law_counts := f__law_counts
    d__law_counts := _
    F__law_counts := F__law_counts
    b__law_counts := F__law_counts.binds fun _ _ _ _ _ _ us hl => match us, hl with | [_, _, _, _], _ => rfl
    m__law_counts := PySem.W.mg_of X G a__law_counts
    f__law_slots := f__law_slots
    d__law_slots := _
    F__law_slots := F__law_slots
    b__law_slots := F__law_slots.binds fun _ _ _ _ _ _ us hl => match us, hl with | [_, _, _], _ => rfl
    m__law_slots := PySem.W.mg_of X G a__law_slots
    f__law_right := f__law_right
    d__law_right := _
    F__law_right := F__law_right
    b__law_right := F__law_right.binds fun _ _ _ _ _ _ us hl => match us, hl with | [_, _, _, _, _], _ => rfl
    m__law_right := PySem.W.mg_of X G a__law_right
    f__law_spoilt := f__law_spoilt
    d__law_spoilt := _
    F__law_spoilt := F__law_spoilt
    b__law_spoilt := F__law_spoilt.binds fun _ _ _ _ _ _ us hl => match us, hl with | [_, _, _], _ => rfl
    m__law_spoilt := PySem.W.mg_of X G a__law_spoilt
    f_law := fa
    d_law := _
    F_law := F_law
    b_law := F_law.binds fun _ _ _ _ _ _ us hl => match us, hl with | [_], _ => rfl
    m_law := PySem.W.mg_of X G a_law
    n_bool := PySem.W.mg_none_of X G z_bool
    n_enumerate := PySem.W.mg_none_of X G z_enumerate
    n_int := PySem.W.mg_none_of X G z_int
    n_isinstance := PySem.W.mg_none_of X G z_isinstance
    n_len := PySem.W.mg_none_of X G z_len
    n_list := PySem.W.mg_none_of X G z_list
    n_min := PySem.W.mg_none_of X G z_min
    n_range := PySem.W.mg_none_of X G z_range }
  exact ⟨PySem.W.fnOf "law" "law" (defArgs s_law) (defBody s_law) (defScope s_law) .none kV_law dc_law pm_law an_law cd_law ct_law, fun s v => .of_eq rfl, fun base _ _ => (ok_law (P := l.prog) (w := w) (base := base) T).imp fun vs H Q E z => law_sp lawTrue z⟩
theorem walk {l : PySem.W.OpenLaw} {q : Program} {loose : List Str} {XP : (Str → Option Value) → Heap → Prop} {YP : World → Heap → Prop} {d : DefRec} {K : Params → PySem.W.Frag} (hn : l.most = some 63) (hdf : d.params.defaults = [])
    (hY : ∀ (w : World) (h : Heap), YP w h → (K w.params).In h)
    (F : ∀ (w : World) (mg : Str → Option Value) (fa : Addr) (h : Heap), (K w.params).In h → h.Ns mainGlobals mg → mg d.name = some (.ref fa) →
      ∃ fd : FuncData, (∀ (s : Shared) (u : Value), BindsTo s fd ⟨[u], []⟩ [("script", u)]) ∧ ∀ base : Heap, (K w.params).In base → base.Ns mainGlobals mg → FnOk l.prog w (K w.params) mg base CX0 5 fa fd ["script"] (spLaw (K w.params))) :
    PySem.W.WalkO q loose XP YP l.row.toRowW d [] (fun f vs => PySem.call f vs) :=
  L2.walk_of (n := 63) (k := 5) (x := "script") (CX := fun _ => CX0) (sp := fun w => spLaw (K w.params)) hn (by decide) hdf ⟨rfl, by decide, by decide⟩ hY F (fun _ _ a ns hl _ hS => ⟨a, ns, rfl, hS, hl, fun _ => rfl⟩) fun _ _ _ _ _ z => z
end K60
open PySem PySem.W PyProof.Rows
set_option maxRecDepth 100000 in
set_option maxHeartbeats 0 in
theorem PySem.Challenge.cw_betweenanytwosteps_k60_whole_rings_word_holds : PySem.Challenge.rw_betweenanytwosteps_k60_whole_rings_word.Holds := by
  w_on; o_law; k_head; (case hw => w_witness2)
  k_fill
  refine K60.walk (l := PySem.Challenge.rw_betweenanytwosteps_k60_whole_rings_word) rfl rfl (fun w h Y => PySem.W.kIn_of Y) ?F
  case F =>
    intro w mg fa h KX G hmg
    refine' K60.all_mk KX G hmg ?aC0 ?pg0 ?hd0 ?po0 ?sa0 ?mkk0 ?kc0 ?ih0 ?in0 ?it0 ?im0 ?na0_0 ?na0_1 ?na0_2 ?na0_3 ?na0_4 ?a_RingPlay_init ?i_RingPlay_init ?l_RingPlay_init ?c_RingPlay_init ?k_RingPlay_init ?a_may_put ?l_may_put ?c_may_put ?k_may_put ?a_may_take ?l_may_take ?c_may_take ?k_may_take ?a_put_word ?l_put_word ?c_put_word ?k_put_word ?a_take_word ?l_take_word ?c_take_word ?k_take_word ?a_handler_block ?l_handler_block ?c_handler_block ?k_handler_block ?a_word_step ?l_word_step ?c_word_step ?k_word_step ?a_main_step ?l_main_step ?c_main_step ?k_main_step ?a_ring_played ?l_ring_played ?c_ring_played ?k_ring_played ?a_ring_fault ?l_ring_fault ?c_ring_fault ?k_ring_fault ?a__law_tape ?l__law_tape ?c__law_tape ?k__law_tape ?a__law_draw ?l__law_draw ?c__law_draw ?k__law_draw ?a__law_cells ?l__law_cells ?c__law_cells ?k__law_cells ?a__law_words ?l__law_words ?c__law_words ?k__law_words ?a__law_blocks ?l__law_blocks ?c__law_blocks ?k__law_blocks ?a__law_is ?l__law_is ?c__law_is ?k__law_is ?a__law_same ?l__law_same ?c__law_same ?k__law_same ?a__law_counts ?l__law_counts ?c__law_counts ?k__law_counts ?a__law_slots ?l__law_slots ?c__law_slots ?k__law_slots ?a__law_right ?l__law_right ?c__law_right ?k__law_right ?a__law_spoilt ?l__law_spoilt ?c__law_spoilt ?k__law_spoilt ?a_law ?l_law ?c_law ?k_law ?z_bool ?z_enumerate ?z_int ?z_isinstance ?z_len ?z_list ?z_min ?z_range
    (case aC0 => k_is)
    (case pg0 => k_is)
    (case hd0 => k_is)
    (case po0 => k_is)
    (case sa0 => k_is)
    (case mkk0 => k_is)
    (case kc0 => k_is)
    (case ih0 => k_is)
    (case in0 => k_is)
    (case it0 => k_is)
    (case im0 => k_is)
    (case na0_0 => k_is)
    (case na0_1 => k_is)
    (case na0_2 => k_is)
    (case na0_3 => k_is)
    (case na0_4 => k_is)
    (case a_RingPlay_init => k_is)
    (case i_RingPlay_init => k_is)
    (case l_RingPlay_init => k_is)
    (case c_RingPlay_init => k_is)
    (case k_RingPlay_init => k_is)
    (case a_may_put => k_is)
    (case l_may_put => k_is)
    (case c_may_put => k_is)
    (case k_may_put => k_is)
    (case a_may_take => k_is)
    (case l_may_take => k_is)
    (case c_may_take => k_is)
    (case k_may_take => k_is)
    (case a_put_word => k_is)
    (case l_put_word => k_is)
    (case c_put_word => k_is)
    (case k_put_word => k_is)
    (case a_take_word => k_is)
    (case l_take_word => k_is)
    (case c_take_word => k_is)
    (case k_take_word => k_is)
    (case a_handler_block => k_is)
    (case l_handler_block => k_is)
    (case c_handler_block => k_is)
    (case k_handler_block => k_is)
    (case a_word_step => k_is)
    (case l_word_step => k_is)
    (case c_word_step => k_is)
    (case k_word_step => k_is)
    (case a_main_step => k_is)
    (case l_main_step => k_is)
    (case c_main_step => k_is)
    (case k_main_step => k_is)
    (case a_ring_played => k_is)
    (case l_ring_played => k_is)
    (case c_ring_played => k_is)
    (case k_ring_played => k_is)
    (case a_ring_fault => k_is)
    (case l_ring_fault => k_is)
    (case c_ring_fault => k_is)
    (case k_ring_fault => k_is)
    (case a__law_tape => k_is)
    (case l__law_tape => k_is)
    (case c__law_tape => k_is)
    (case k__law_tape => k_is)
    (case a__law_draw => k_is)
    (case l__law_draw => k_is)
    (case c__law_draw => k_is)
    (case k__law_draw => k_is)
    (case a__law_cells => k_is)
    (case l__law_cells => k_is)
    (case c__law_cells => k_is)
    (case k__law_cells => k_is)
    (case a__law_words => k_is)
    (case l__law_words => k_is)
    (case c__law_words => k_is)
    (case k__law_words => k_is)
    (case a__law_blocks => k_is)
    (case l__law_blocks => k_is)
    (case c__law_blocks => k_is)
    (case k__law_blocks => k_is)
    (case a__law_is => k_is)
    (case l__law_is => k_is)
    (case c__law_is => k_is)
    (case k__law_is => k_is)
    (case a__law_same => k_is)
    (case l__law_same => k_is)
    (case c__law_same => k_is)
    (case k__law_same => k_is)
    (case a__law_counts => k_is)
    (case l__law_counts => k_is)
    (case c__law_counts => k_is)
    (case k__law_counts => k_is)
    (case a__law_slots => k_is)
    (case l__law_slots => k_is)
    (case c__law_slots => k_is)
    (case k__law_slots => k_is)
    (case a__law_right => k_is)
    (case l__law_right => k_is)
    (case c__law_right => k_is)
    (case k__law_right => k_is)
    (case a__law_spoilt => k_is)
    (case l__law_spoilt => k_is)
    (case c__law_spoilt => k_is)
    (case k__law_spoilt => k_is)
    (case a_law => k_is)
    (case l_law => k_is)
    (case c_law => k_is)
    (case k_law => k_is)
    (case z_bool => k_is)
    (case z_enumerate => k_is)
    (case z_int => k_is)
    (case z_isinstance => k_is)
    (case z_len => k_is)
    (case z_list => k_is)
    (case z_min => k_is)
    (case z_range => k_is)

