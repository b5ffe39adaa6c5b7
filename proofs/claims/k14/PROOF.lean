import PyProof.Rows.All
import Wide.All
import OpenK.AllK
import Wide.FinOn
import HandS.ForMost
import HandS.ForExc
import HandS.TupAny
import HandS.Wide
import HandS.SortInts
import HandS.ExcIs
import HandS.TryOnly
import HandS.Rev
import HandS.RevRange
import HandS.WordsExc
import HandS.SetFor
import HandS.Strs
import HandS.Conv
import HandS.IsInst
import HandS.RevTup
import HandS.NamedTupSort
import HandS.SortRule
import HandS.Deep
import HandS.WideBits
import KE.DataMinMax
import HandS.Iter
import KE.GoesMore
import KE.SortData
import HandS.More
import HandS.Dict
import HandS.EndBits
import KE.RegKIsAll
import PySem.Challenge.RW_spanrow_k14_whole_rings_and_cuts
set_option Elab.async false
set_option linter.all false
set_option maxRecDepth 100000
namespace DL
open PySem L2

/-! ### data -/
inductive D where
  | un | non | bl (b : Bool) | int (i : Int) | str (x : Str)
  | sc (xs : List D) | ls (xs : List D) | tp (xs : List D) | ob (c : Nat) (fs : List D)
  | ol (xs : List D) | bo (xs : List D)
  | od (ks : List Key) (xs : List D) | bd (ks : List Key) (xs : List D)
  | oo (o : Option Addr) (c : Nat) (fs : List D) | bb (c : Nat) (fs : List D)
  | rf (a : Addr)

abbrev Cls := Nat → Option (Addr × List Str)
abbrev Env := List D

inductive Res (α : Type) where
  | ok (a : α) | xc (c : Nat) | bad
inductive Out where
  | nx (g : Env) | rt (d : D) | bk (g : Env) | ct (g : Env) | xc (c : Nat) (g : Env) | bad

def excV (cls : Cls) (c : Nat) : Value := match cls c with
  | some (C, _) => .ref C
  | none => .none

mutual
inductive Rp (K : PySem.W.Frag) (cls : Cls) (F : Hp) : V → D → Prop
  | non : Rp K cls F .non .non
  | bl (b : Bool) : Rp K cls F (.bl b) (.bl b)
  | int (i : Int) : Rp K cls F (.int i) (.int i)
  | str (x : Str) : Rp K cls F (.str x) (.str x)
  | rf (a : Addr) : Rp K cls F (.ref a) (.rf a)
  | sc {a : Addr} {vs : List V} {ds : List D} : SqL K F a vs → Rps K cls F vs ds → Rp K cls F (.ref a) (.sc ds)
  | ls {a : Addr} {vs : List V} {ds : List D} : F a = some (.lst vs) → Rps K cls F vs ds → Rp K cls F (.ref a) (.ls ds)
  | tp {a : Addr} {vs : List V} {ds : List D} : SqT K F a vs → Rps K cls F vs ds → Rp K cls F (.ref a) (.tp ds)
  | ob {a C dx : Addr} {c : Nat} {ns : List Str} {vs : List V} {ds : List D} : cls c = some (C, ns) → F a = some (.ins C dx (ns.zip vs)) → vs.length ≤ ns.length → Rps K cls F vs ds → Rp K cls F (.ref a) (.ob c ds)
inductive Rps (K : PySem.W.Frag) (cls : Cls) (F : Hp) : List V → List D → Prop
  | nil : Rps K cls F [] []
  | cons {v : V} {d : D} {vs : List V} {ds : List D} : Rp K cls F v d → Rps K cls F vs ds → Rps K cls F (v :: vs) (d :: ds)
end

mutual
inductive Ow (K : PySem.W.Frag) (cls : Cls) (F H : Hp) : V → D → List Addr → Prop
  | sh {v : V} {d : D} : Rp K cls F v d → Ow K cls F H v d []
  | ol {a : Addr} {vs : List V} {ds : List D} {O : List Addr} : F a = none → H a = some (.lst vs) → a ∉ O → Ows K cls F H vs ds O → Ow K cls F H (.ref a) (.ol ds) (a :: O)
  | od {a : Addr} {ks : List Key} {vs : List V} {ds : List D} {O : List Addr} : F a = none → H a = some (.dK (ks.zip vs)) → ks.length = vs.length → a ∉ O → Ows K cls F H vs ds O → Ow K cls F H (.ref a) (.od ks ds) (a :: O)
  | oo {o : Option Addr} {a C dx : Addr} {c : Nat} {ns : List Str} {vs : List V} {ds : List D} {O : List Addr} : (∀ x, o = some x → x = a) → cls c = some (C, ns) → F a = none → H a = some (.ins C dx (ns.zip vs)) → vs.length ≤ ns.length → a ∉ O → Ows K cls F H vs ds O → Ow K cls F H (.ref a) (.oo o c ds) (a :: O)
inductive Ows (K : PySem.W.Frag) (cls : Cls) (F H : Hp) : List V → List D → List Addr → Prop
  | nil : Ows K cls F H [] [] []
  | cons {v : V} {d : D} {vs : List V} {ds : List D} {O1 O2 O : List Addr} : Ow K cls F H v d O1 → Ows K cls F H vs ds O2 → (∀ a ∈ O1, a ∉ O2) → O = O1 ++ O2 → Ows K cls F H (v :: vs) (d :: ds) O
end

mutual
inductive Bo (K : PySem.W.Frag) (cls : Cls) (F H : Hp) : V → D → Prop
  | sh {v : V} {d : D} : Rp K cls F v d → Bo K cls F H v d
  | bo {a : Addr} {vs : List V} {ds : List D} : H a = some (.lst vs) → Bos K cls F H vs ds → Bo K cls F H (.ref a) (.bo ds)
  | bd {a : Addr} {ks : List Key} {vs : List V} {ds : List D} : H a = some (.dK (ks.zip vs)) → ks.length = vs.length → Bos K cls F H vs ds → Bo K cls F H (.ref a) (.bd ks ds)
  | bb {a C dx : Addr} {c : Nat} {ns : List Str} {vs : List V} {ds : List D} : cls c = some (C, ns) → H a = some (.ins C dx (ns.zip vs)) → vs.length ≤ ns.length → Bos K cls F H vs ds → Bo K cls F H (.ref a) (.bb c ds)
inductive Bos (K : PySem.W.Frag) (cls : Cls) (F H : Hp) : List V → List D → Prop
  | nil : Bos K cls F H [] []
  | cons {v : V} {d : D} {vs : List V} {ds : List D} : Bo K cls F H v d → Bos K cls F H vs ds → Bos K cls F H (v :: vs) (d :: ds)
end

def Tm (K : PySem.W.Frag) (cls : Cls) (F H : Hp) (v : V) (d : D) (O : List Addr) : Prop := Ow K cls F H v d O ∨ (Bo K cls F H v d ∧ O = [])

inductive Sts (K : PySem.W.Frag) (cls : Cls) (F H : Hp) : St → Env → List Addr → Prop
  | nil : Sts K cls F H [] [] []
  | un {o : Option V} {σ : St} {g : Env} {O : List Addr} : Sts K cls F H σ g O → Sts K cls F H (o :: σ) (.un :: g) O
  | cons {v : V} {d : D} {σ : St} {g : Env} {O1 O2 O : List Addr} : Ow K cls F H v d O1 → Sts K cls F H σ g O2 → (∀ a ∈ O1, a ∉ O2) → O = O1 ++ O2 → Sts K cls F H (some v :: σ) (d :: g) O

def Fresh (H : Hp) (O : List Addr) : Prop := ∀ a ∈ O, H a = none

structure Ext (F H F' H' : Hp) : Prop where
  ff : Same F F'
  hh : Same H H'
  fh : Same F' H'
  ow : ∀ a, F a = none → H a ≠ none → F' a = none

structure SExt (F H : Hp) (O : List Addr) (F' H' : Hp) (O' : List Addr) : Prop where
  ff : Same F F'
  fh : Same F' H'
  fr : ∀ a o, H a = some o → a ∉ O → H' a = some o
  ow : ∀ a, F a = none → H a ≠ none → a ∉ O → F' a = none
  oo : ∀ a ∈ O', a ∈ O ∨ H a = none

section
variable {K : PySem.W.Frag} {cls : Cls} {F H F' H' F'' H'' : Hp} {O O' O'' : List Addr}

theorem Ext.refl (s : Same F H) : Ext F H F H := ⟨.refl F, .refl H, s, fun _ h _ => h⟩
theorem Ext.trans (x : Ext F H F' H') (y : Ext F' H' F'' H'') : Ext F H F'' H'' :=
  ⟨x.ff.trans y.ff, x.hh.trans y.hh, y.fh, fun a h1 h2 => y.ow a (x.ow a h1 h2) (fun e => by
    cases q : H a with
    | none => exact h2 q
    | some o => rw [x.hh a o q] at e; cases e)⟩
theorem Ext.some (x : Ext F H F' H') {a : Addr} (h : H a ≠ none) : H' a ≠ none := fun e => by
  cases q : H a with
  | none => exact h q
  | some o => rw [x.hh a o q] at e; cases e
theorem Ext.fresh (x : Ext F H F' H') (h : Fresh H' O) : Fresh H O := fun a ha => x.hh.free (h a ha)
theorem Fresh.mono (s : Same H H') (h : Fresh H' O) : Fresh H O := fun a ha => s.free (h a ha)
theorem Fresh.nil : Fresh H [] := fun _ h => nomatch h
theorem SExt.refl (s : Same F H) : SExt F H O F H O := ⟨.refl F, s, fun _ _ h _ => h, fun _ h _ _ => h, fun _ h => .inl h⟩
theorem SExt.trans (x : SExt F H O F' H' O') (y : SExt F' H' O' F'' H'' O'') : SExt F H O F'' H'' O'' := by
  have no : ∀ a o, H a = .some o → a ∉ O → a ∉ O' := fun a o h n h' => by
    rcases x.oo a h' with e | e
    · exact n e
    · rw [h] at e; cases e
  have ne : ∀ a, H a ≠ none → ∃ o, H a = .some o := fun a h => by
    cases q : H a with
    | none => exact (h q).elim
    | some o => exact ⟨o, rfl⟩
  refine ⟨x.ff.trans y.ff, y.fh, fun a o h n => y.fr a o (x.fr a o h n) (no a o h n), fun a h1 h2 n => ?_, fun a h => ?_⟩
  · obtain ⟨o, q⟩ := ne a h2
    exact y.ow a (x.ow a h1 h2 n) (by rw [x.fr a o q n]; exact fun e => nomatch e) (no a o q n)
  · rcases y.oo a h with e | e
    · exact x.oo a e
    · cases q : H a with
      | none => exact .inr rfl
      | some o =>
        by_cases n : a ∈ O
        · exact .inl n
        · rw [x.fr a o q n] at e; cases e
theorem Ext.sext (x : Ext F H F' H') (h : ∀ a ∈ O', a ∈ O ∨ H a = none) : SExt F H O F' H' O' := ⟨x.ff, x.fh, fun a o e _ => x.hh a o e, fun a h1 h2 _ => x.ow a h1 h2, h⟩
theorem SExt.ext (x : SExt F H [] F' H' O') : Ext F H F' H' := ⟨x.ff, fun a o e => x.fr a o e (by simp), x.fh, fun a h1 h2 => x.ow a h1 h2 (by simp)⟩

/-! ### monotone -/
mutual
theorem Rp.mono (s : Same F F') : ∀ {v : V} {d : D}, Rp K cls F v d → Rp K cls F' v d
  | _, _, .non => .non
  | _, _, .bl b => .bl b
  | _, _, .int i => .int i
  | _, _, .str x => .str x
  | _, _, .rf x => .rf x
  | _, _, .sc h r => .sc (s.seq h) (Rps.mono s r)
  | _, _, .ls h r => .ls (s _ _ h) (Rps.mono s r)
  | _, _, .tp h r => .tp (by
      rcases h with (h | ⟨o, h⟩) | h
      · exact .inl (.inl (s _ _ h))
      · exact .inl (.inr ⟨o, s _ _ h⟩)
      · exact .inr h) (Rps.mono s r)
  | _, _, .ob c h l r => .ob c (s _ _ h) l (Rps.mono s r)
theorem Rps.mono (s : Same F F') : ∀ {v : List V} {d : List D}, Rps K cls F v d → Rps K cls F' v d
  | _, _, .nil => .nil
  | _, _, .cons h r => .cons (Rp.mono s h) (Rps.mono s r)
end
mutual
theorem Ow.frame (s : Same F F') : ∀ {v : V} {d : D} {O : List Addr}, Ow K cls F H v d O → (∀ a ∈ O, H' a = H a ∧ F' a = none) → Ow K cls F' H' v d O
  | _, _, _, .sh r, _ => .sh (r.mono s)
  | _, _, _, .ol h1 h2 h3 r, k => .ol (k _ (by simp)).2 ((k _ (by simp)).1.trans h2) h3 (Ows.frame s r fun a ha => k a (by simp [ha]))
  | _, _, _, .od h1 h2 hl h3 r, k => .od (k _ (by simp)).2 ((k _ (by simp)).1.trans h2) hl h3 (Ows.frame s r fun a ha => k a (by simp [ha]))
  | _, _, _, .oo ho hc h1 h2 hl h3 r, k => .oo ho hc (k _ (by simp)).2 ((k _ (by simp)).1.trans h2) hl h3 (Ows.frame s r fun a ha => k a (by simp [ha]))
theorem Ows.frame (s : Same F F') : ∀ {v : List V} {d : List D} {O : List Addr}, Ows K cls F H v d O → (∀ a ∈ O, H' a = H a ∧ F' a = none) → Ows K cls F' H' v d O
  | _, _, _, .nil, _ => .nil
  | _, _, _, .cons h r dj e, k => .cons (Ow.frame s h fun a ha => k a (by simp [e, ha])) (Ows.frame s r fun a ha => k a (by simp [e, ha])) dj e
end
mutual
theorem Ow.dom : ∀ {v : V} {d : D} {O : List Addr}, Ow K cls F H v d O → ∀ a ∈ O, F a = none ∧ H a ≠ none
  | _, _, _, .sh r, _, h => nomatch h
  | _, _, _, .ol h1 h2 h3 r, a, h => by
    rcases List.mem_cons.mp h with rfl | h
    · exact ⟨h1, by rw [h2]; exact fun e => nomatch e⟩
    · exact Ows.dom r a h
  | _, _, _, .od h1 h2 hl h3 r, a, h => by
    rcases List.mem_cons.mp h with rfl | h
    · exact ⟨h1, by rw [h2]; exact fun e => nomatch e⟩
    · exact Ows.dom r a h
  | _, _, _, .oo ho hc h1 h2 hl h3 r, a, h => by
    rcases List.mem_cons.mp h with rfl | h
    · exact ⟨h1, by rw [h2]; exact fun e => nomatch e⟩
    · exact Ows.dom r a h
theorem Ows.dom : ∀ {v : List V} {d : List D} {O : List Addr}, Ows K cls F H v d O → ∀ a ∈ O, F a = none ∧ H a ≠ none
  | _, _, _, .nil, _, h => nomatch h
  | _, _, _, .cons h r dj e, a, ha => by
    rw [e] at ha
    rcases List.mem_append.mp ha with q | q
    · exact Ow.dom h a q
    · exact Ows.dom r a q
end
theorem Ext.get (x : Ext F H F' H') {a : Addr} (h1 : F a = none) (h2 : H a ≠ none) : H' a = H a ∧ F' a = none := by
  refine ⟨?_, x.ow a h1 h2⟩
  cases q : H a with
  | none => exact (h2 q).elim
  | some o => exact x.hh a o q
theorem Ow.ext (x : Ext F H F' H') {v : V} {d : D} (h : Ow K cls F H v d O) : Ow K cls F' H' v d O :=
  h.frame x.ff fun a ha => x.get (h.dom a ha).1 (h.dom a ha).2
theorem Ows.ext (x : Ext F H F' H') {v : List V} {d : List D} (h : Ows K cls F H v d O) : Ows K cls F' H' v d O :=
  h.frame x.ff fun a ha => x.get (h.dom a ha).1 (h.dom a ha).2
mutual
theorem Bo.ext (x : Ext F H F' H') : ∀ {v : V} {d : D}, Bo K cls F H v d → Bo K cls F' H' v d
  | _, _, .sh r => .sh (r.mono x.ff)
  | _, _, .bo h r => .bo (x.hh _ _ h) (Bos.ext x r)
  | _, _, .bd h l r => .bd (x.hh _ _ h) l (Bos.ext x r)
  | _, _, .bb hc h l r => .bb hc (x.hh _ _ h) l (Bos.ext x r)
theorem Bos.ext (x : Ext F H F' H') : ∀ {v : List V} {d : List D}, Bos K cls F H v d → Bos K cls F' H' v d
  | _, _, .nil => .nil
  | _, _, .cons h r => .cons (Bo.ext x h) (Bos.ext x r)
end
theorem Tm.ext (x : Ext F H F' H') {v : V} {d : D} (h : Tm K cls F H v d O) : Tm K cls F' H' v d O := by
  rcases h with h | ⟨h, e⟩
  · exact .inl (h.ext x)
  · exact .inr ⟨h.ext x, e⟩
theorem Sts.dom : ∀ {σ : St} {g : Env} {O : List Addr}, Sts K cls F H σ g O → ∀ a ∈ O, F a = none ∧ H a ≠ none
  | _, _, _, .nil, _, h => nomatch h
  | _, _, _, .un r, a, h => r.dom a h
  | _, _, _, .cons h r dj e, a, ha => by
    rw [e] at ha
    rcases List.mem_append.mp ha with q | q
    · exact Ow.dom h a q
    · exact Sts.dom r a q
theorem Sts.frame (s : Same F F') : ∀ {σ : St} {g : Env} {O : List Addr}, Sts K cls F H σ g O → (∀ a ∈ O, H' a = H a ∧ F' a = none) → Sts K cls F' H' σ g O
  | _, _, _, .nil, _ => .nil
  | _, _, _, .un r, k => .un (r.frame s k)
  | _, _, _, .cons h r dj e, k => .cons (h.frame s fun a ha => k a (by simp [e, ha])) (r.frame s fun a ha => k a (by simp [e, ha])) dj e
theorem Sts.ext (x : Ext F H F' H') {σ : St} {g : Env} (h : Sts K cls F H σ g O) : Sts K cls F' H' σ g O :=
  h.frame x.ff fun a ha => x.get (h.dom a ha).1 (h.dom a ha).2
theorem Sts.len : ∀ {σ : St} {g : Env} {O : List Addr}, Sts K cls F H σ g O → σ.length = g.length
  | _, _, _, .nil => rfl
  | _, _, _, .un r => by simp [r.len]
  | _, _, _, .cons h r dj e => by simp [r.len]

/-! ### slots -/
/-- slot i, and what may stand there instead -/
theorem Sts.at : ∀ {σ : St} {g : Env} {O : List Addr} (i : Nat), Sts K cls F H σ g O → i < g.length → ∃ O1 : List Addr, (∀ a ∈ O1, a ∈ O) ∧
    (g[i]? = some .un ∧ O1 = [] ∨ ∃ v d, σ[i]? = some (some v) ∧ g[i]? = some d ∧ Ow K cls F H v d O1) ∧
    (∀ (F' H' : Hp) (v' : V) (d' : D) (O1' : List Addr), (∀ b ∈ O, b ∉ O1 → H' b = H b ∧ F' b = none) → Same F F' → Ow K cls F' H' v' d' O1' → (∀ a ∈ O1', a ∈ O → a ∈ O1) →
      ∃ O'', Sts K cls F' H' (σ.set i (some v')) (g.set i d') O'' ∧ ∀ a ∈ O'', a ∈ O ∨ a ∈ O1') ∧
    (∀ (F' H' : Hp) (o : Option V), (∀ b ∈ O, b ∉ O1 → H' b = H b ∧ F' b = none) → Same F F' →
      ∃ O'', Sts K cls F' H' (σ.set i o) (g.set i .un) O'' ∧ (∀ a ∈ O'', a ∈ O) ∧ ∀ a ∈ O'', a ∉ O1)
  | _, _, _, i, .nil, h => absurd h (Nat.not_lt_zero i)
  | _, _, _, 0, .un (o := o) (O := O) r, _ => by
    refine ⟨[], fun _ h => (nomatch h), .inl ⟨rfl, rfl⟩, fun F' H' v' d' O1' k s w dj => ⟨O1' ++ O, ?_, fun a ha => ?_⟩, fun F' H' o' k s => ⟨O, ?_, fun _ h => h, fun _ _ h => (nomatch h)⟩⟩
    · exact .cons w (r.frame s fun a ha => k a ha (by simp)) (fun a h1 h2 => (nomatch (dj a h1 h2))) rfl
    · rcases List.mem_append.mp ha with q | q
      · exact .inr q
      · exact .inl q
    · exact .un (r.frame s fun a ha => k a ha (by simp))
  | _, _, _, 0, .cons (v := v) (d := d) (O1 := O1) (O2 := O2) h r dj e, _ => by
    subst e
    refine ⟨O1, fun a h => List.mem_append_left _ h, .inr ⟨v, d, rfl, rfl, h⟩, fun F' H' v' d' O1' k s w dj' => ⟨O1' ++ O2, ?_, fun a ha => ?_⟩, fun F' H' o' k s => ⟨O2, ?_, fun a h => List.mem_append_right _ h, fun a h1 h2 => dj a h2 h1⟩⟩
    · refine .cons w (r.frame s fun a ha => k a (List.mem_append_right _ ha) fun q => dj a q ha) (fun a h1 h2 => ?_) rfl
      exact dj a (dj' a h1 (List.mem_append_right _ h2)) h2
    · rcases List.mem_append.mp ha with q | q
      · exact .inr q
      · exact .inl (List.mem_append_right _ q)
    · exact .un (r.frame s fun a ha => k a (List.mem_append_right _ ha) fun q => dj a q ha)
  | _, _, _, i + 1, .un (o := o) (O := O) r, hi => by
    obtain ⟨O1, h1, h2, h3, h4⟩ := r.at i (Nat.lt_of_succ_lt_succ hi)
    refine ⟨O1, h1, by simpa using h2, fun F' H' v' d' O1' k s w dj => ?_, fun F' H' o' k s => ?_⟩
    · obtain ⟨O'', q1, q2⟩ := h3 F' H' v' d' O1' k s w dj
      exact ⟨O'', .un q1, q2⟩
    · obtain ⟨O'', q1, q2⟩ := h4 F' H' o' k s
      exact ⟨O'', .un q1, q2⟩
  | _, _, _, i + 1, .cons (v := v) (d := d) (O1 := P1) (O2 := P2) h r dj e, hi => by
    subst e
    obtain ⟨O1, h1, h2, h3, h4⟩ := r.at i (Nat.lt_of_succ_lt_succ hi)
    have n1 : ∀ a ∈ P1, a ∉ O1 := fun a q q' => dj a q (h1 a q')
    refine ⟨O1, fun a q => List.mem_append_right _ (h1 a q), by simpa using h2, fun F' H' v' d' O1' k s w dj' => ?_, fun F' H' o' k s => ?_⟩
    · obtain ⟨O'', q1, q2⟩ := h3 F' H' v' d' O1' (fun b hb => k b (List.mem_append_right _ hb)) s w fun a q q' => dj' a q (List.mem_append_right _ q')
      refine ⟨P1 ++ O'', .cons (h.frame s fun a ha => k a (List.mem_append_left _ ha) (n1 a ha)) q1 (fun a ha hb => ?_) rfl, fun a ha => ?_⟩
      · rcases q2 a hb with z | z
        · exact dj a ha z
        · exact n1 a ha (dj' a z (List.mem_append_left _ ha))
      · rcases List.mem_append.mp ha with z | z
        · exact .inl (List.mem_append_left _ z)
        · rcases q2 a z with z | z
          · exact .inl (List.mem_append_right _ z)
          · exact .inr z
    · obtain ⟨O'', q1, q2, q3⟩ := h4 F' H' o' (fun b hb => k b (List.mem_append_right _ hb)) s
      refine ⟨P1 ++ O'', .cons (h.frame s fun a ha => k a (List.mem_append_left _ ha) (n1 a ha)) q1 (fun a ha hb => dj a ha (q2 a hb)) rfl, fun a ha => ?_, fun a ha hb => ?_⟩
      · rcases List.mem_append.mp ha with z | z
        · exact List.mem_append_left _ z
        · exact List.mem_append_right _ (q2 a z)
      · rcases List.mem_append.mp ha with z | z
        · exact n1 a z hb
        · exact q3 a z hb

/-! ### freezing -/
mutual
/-- a value all of whose lists are shared from now on -/
def frz : D → D
  | .ol xs => .ls (frzs xs)
  | .oo _ c xs => .ob c (frzs xs)
  | d => d
def frzs : List D → List D
  | [] => []
  | d :: ds => frz d :: frzs ds
end
mutual
/-- how an owned value is read -/
def brw : D → D
  | .ol xs => .bo (brws xs)
  | .od ks xs => .bd ks (brws xs)
  | .oo _ c xs => .bb c (brws xs)
  | d => d
def brws : List D → List D
  | [] => []
  | d :: ds => brw d :: brws ds
end
mutual
/-- a borrowed value as plain data -/
def pln : D → D
  | .bo xs => .ls (plns xs)
  | .bb c xs => .ob c (plns xs)
  | d => d
def plns : List D → List D
  | [] => []
  | d :: ds => pln d :: plns ds
end
mutual
theorem Ow.brw (s : Same F H) : ∀ {v : V} {d : D} {O : List Addr}, Ow K cls F H v d O → Bo K cls F H v (brw d)
  | _, _, _, .sh r => by cases r <;> exact .sh (by first | assumption | constructor <;> assumption | constructor)
  | _, _, _, .ol h1 h2 h3 r => .bo h2 (Ows.brws s r)
  | _, _, _, .od h1 h2 hl h3 r => .bd h2 hl (Ows.brws s r)
  | _, _, _, .oo ho hc h1 h2 hl h3 r => .bb hc h2 hl (Ows.brws s r)
theorem Ows.brws (s : Same F H) : ∀ {v : List V} {d : List D} {O : List Addr}, Ows K cls F H v d O → Bos K cls F H v (brws d)
  | _, _, _, .nil => .nil
  | _, _, _, .cons h r _ _ => .cons (Ow.brw s h) (Ows.brws s r)
end
end
end DL

namespace DL
open PySem L2

def Res.bind {α β : Type} (r : Res α) (f : α → Res β) : Res β := match r with
  | .ok a => f a
  | .xc c => .xc c
  | .bad => .bad
@[simp] theorem Res.bind_ok {α β : Type} (a : α) (f : α → Res β) : (Res.ok a).bind f = f a := rfl
@[simp] theorem Res.bind_xc {α β : Type} (c : Nat) (f : α → Res β) : (Res.xc c : Res α).bind f = .xc c := rfl
@[simp] theorem Res.bind_bad {α β : Type} (f : α → Res β) : (Res.bad : Res α).bind f = .bad := rfl
def Res.of {α : Type} : Option α → Res α
  | some a => .ok a
  | none => .bad
@[simp] theorem Res.of_some {α : Type} (a : α) : Res.of (some a) = .ok a := rfl
@[simp] theorem Res.of_none {α : Type} : Res.of (none : Option α) = .bad := rfl

/-! ### freezing, owning -/
mutual
@[simp] def nod : D → Bool
  | .od _ _ => false
  | .ol xs => nods xs
  | .oo _ _ xs => nods xs
  | _ => true
@[simp] def nods : List D → Bool
  | [] => true
  | d :: ds => nod d && nods ds
end
section
variable {K : PySem.W.Frag} {cls : Cls} {F H F' H' F'' H'' : Hp} {O O' O'' : List Addr}
mutual
theorem Ow.freeze (s : Same F F') : ∀ {v : V} {d : D} {O : List Addr}, Ow K cls F H v d O → (∀ a ∈ O, F' a = H a) → nod d = true → Rp K cls F' v (frz d)
  | _, d, _, .sh r, _, _ => by
    have r' := r.mono s
    cases r <;> (simp only [frz]; exact r')
  | _, _, _, .ol (ds := ds) h1 h2 h3 r, k, n => by
    simp only [frz]
    exact .ls ((k _ (by simp)).trans h2) (Ows.freeze s r (fun a ha => k a (by simp [ha])) (by simpa using n))
  | _, _, _, .od h1 h2 hl h3 r, k, n => by simp at n
  | _, _, _, .oo (ds := ds) ho hc h1 h2 hl h3 r, k, n => by
    simp only [frz]
    exact .ob hc ((k _ (by simp)).trans h2) hl (Ows.freeze s r (fun a ha => k a (by simp [ha])) (by simpa using n))
theorem Ows.freeze (s : Same F F') : ∀ {v : List V} {d : List D} {O : List Addr}, Ows K cls F H v d O → (∀ a ∈ O, F' a = H a) → nods d = true → Rps K cls F' v (frzs d)
  | _, _, _, .nil, _, _ => .nil
  | _, _, _, .cons h r dj e, k, n => by
    simp only [nods, Bool.and_eq_true] at n
    simp only [frzs]
    exact .cons (Ow.freeze s h (fun a ha => k a (by simp [e, ha])) n.1) (Ows.freeze s r (fun a ha => k a (by simp [e, ha])) n.2)
end
/-- the frozen heap with the owned places O -/
def addF (F H : Hp) (O : List Addr) : Hp := fun a => if a ∈ O then H a else F a
theorem addF_ext {F0 H0 : Hp} (x : Ext F0 H0 F H) (f : Fresh H0 O) (n : ∀ a ∈ O, F a = none) : Ext F0 H0 (addF F H O) H := by
  have s1 : Same F (addF F H O) := fun a o e => by
    unfold addF
    split
    · rename_i q; rw [n a q] at e; cases e
    · exact e
  refine ⟨x.ff.trans s1, x.hh, fun a o e => ?_, fun a h1 h2 => ?_⟩
  · unfold addF at e
    split at e
    · exact e
    · exact x.fh a o e
  · unfold addF
    rw [if_neg (fun q => h2 (f a q))]
    exact x.ow a h1 h2
theorem addF_same (n : ∀ a ∈ O, F a = none) : Same F (addF F H O) := fun a o e => by
  unfold addF
  split
  · rename_i q; rw [n a q] at e; cases e
  · exact e
theorem addF_at : ∀ a ∈ O, addF F H O a = H a := fun a h => by unfold addF; rw [if_pos h]
theorem addF_no {a : Addr} (h : a ∉ O) : addF F H O a = F a := by unfold addF; rw [if_neg h]

/-- an operand -/
def opd (d : D) : D := if nod d = true then frz d else brw d
theorem Rp.opd {v : V} {d : D} (r : Rp K cls F v d) : opd d = d := by cases r <;> rfl
theorem Bo.opd {v : V} {d : D} (r : Bo K cls F H v d) : opd d = d := by
  cases r with
  | sh r => exact r.opd
  | bo => rfl
  | bd => rfl
  | bb => rfl
@[simp] theorem opd_un : opd .un = .un := rfl
@[simp] theorem opd_non : opd .non = .non := rfl
@[simp] theorem opd_bl {b} : opd (.bl b) = .bl b := rfl
@[simp] theorem opd_int {b} : opd (.int b) = .int b := rfl
@[simp] theorem opd_str {b} : opd (.str b) = .str b := rfl
@[simp] theorem opd_sc {b} : opd (.sc b) = .sc b := rfl
@[simp] theorem opd_ls {b} : opd (.ls b) = .ls b := rfl
@[simp] theorem opd_tp {b} : opd (.tp b) = .tp b := rfl
@[simp] theorem opd_ob {c b} : opd (.ob c b) = .ob c b := rfl
@[simp] theorem opd_bo {b} : opd (.bo b) = .bo b := rfl
@[simp] theorem opd_bd {c b} : opd (.bd c b) = .bd c b := rfl
@[simp] theorem opd_od {c b} : opd (.od c b) = .bd c (brws b) := rfl
@[simp] theorem opd_rf {b} : opd (.rf b) = .rf b := rfl
@[simp] theorem opd_bb {c b} : opd (.bb c b) = .bb c b := rfl
@[simp] theorem opd_oo {o c b} : opd (.oo o c b) = if nods b = true then .ob c (frzs b) else .bb c (brws b) := rfl
@[simp] theorem opd_ol {b} : opd (.ol b) = if nods b = true then .ls (frzs b) else .bo (brws b) := by
  rfl
theorem Tm.operand {F0 H0 : Hp} {v : V} {d : D} (x : Ext F0 H0 F H) (f : Fresh H0 O) (t : Tm K cls F H v d O) : ∃ F', Ext F0 H0 F' H ∧ Same F F' ∧ (∀ a, a ∉ O → F' a = F a) ∧ Bo K cls F' H v (opd d) := by
  rcases t with t | ⟨t, e⟩
  · by_cases n : nod d = true
    · refine ⟨addF F H O, addF_ext x f fun a ha => (t.dom a ha).1, addF_same fun a ha => (t.dom a ha).1, fun a ha => addF_no ha, ?_⟩
      unfold DL.opd
      rw [if_pos n]
      exact .sh (t.freeze (addF_same fun a ha => (t.dom a ha).1) addF_at n)
    · refine ⟨F, x, .refl F, fun _ _ => rfl, ?_⟩
      unfold DL.opd
      rw [if_neg n]
      exact t.brw x.fh
  · refine ⟨F, x, .refl F, fun _ _ => rfl, ?_⟩
    rw [t.opd]
    exact t

/-- what may be kept -/
@[simp] def kp : D → Res D
  | .bo _ => .bad
  | .bd _ _ => .bad
  | .bb _ _ => .bad
  | d => .ok d
theorem Tm.keep {v : V} {d d' : D} (t : Tm K cls F H v d O) (e : kp d = .ok d') : Ow K cls F H v d' O := by
  rcases t with t | ⟨t, rfl⟩
  · have : d' = d := by
      cases t with
      | sh r => cases r <;> (simp at e; exact e.symm)
      | ol => simp at e; exact e.symm
      | od => simp at e; exact e.symm
      | oo => simp at e; exact e.symm
    rw [this]; exact t
  · cases t with
    | sh r =>
      have : d' = d := by cases r <;> (simp at e; exact e.symm)
      rw [this]; exact .sh r
    | bo => simp at e
    | bd => simp at e
    | bb => simp at e

/-! ### the judgements -/
def PostE (K : PySem.W.Frag) (cls : Cls) (W : WX) (σ : St) (F H : Hp) (Q : VK) : Res D → Prop
  | .ok d => ∀ v F' H' O', Ext F H F' H' → Fresh H O' → Tm K cls F' H' v d O' → Q v H'
  | .xc c => ∀ F' H', Ext F H F' H' → W (excV cls c) none σ H'
  | .bad => False
def PostB (K : PySem.W.Frag) (cls : Cls) (W : WX) (σ : St) (F H : Hp) (Q : VK) : Res D → Prop
  | .ok d => ∀ v F' H', Ext F H F' H' → Bo K cls F' H' v d → Q v H'
  | .xc c => ∀ F' H', Ext F H F' H' → W (excV cls c) none σ H'
  | .bad => False
def PostO (K : PySem.W.Frag) (cls : Cls) (W : WX) (σ : St) (F H : Hp) (Q : VK) : Res D → Prop
  | .ok d => ∀ v F' H' O', Ext F H F' H' → Fresh H O' → Ow K cls F' H' v d O' → Q v H'
  | .xc c => ∀ F' H', Ext F H F' H' → W (excV cls c) none σ H'
  | .bad => False
def PostT (cls : Cls) (W : WX) (σ : St) (F H : Hp) (Q : Bool → Hp → Prop) : Res Bool → Prop
  | .ok b => ∀ F' H', Ext F H F' H' → Q b H'
  | .xc c => ∀ F' H', Ext F H F' H' → W (excV cls c) none σ H'
  | .bad => False
/-- arguments: borrowed; kept -/
def PostA (K : PySem.W.Frag) (cls : Cls) (W : WX) (σ : St) (F H : Hp) (Q : List V → Hp → Prop) : Res (List D) → Prop
  | .ok d => ∀ v F' H', Ext F H F' H' → Bos K cls F' H' v d → Q v H'
  | .xc c => ∀ F' H', Ext F H F' H' → W (excV cls c) none σ H'
  | .bad => False
def PostAO (K : PySem.W.Frag) (cls : Cls) (W : WX) (σ : St) (F H : Hp) (Q : List V → Hp → Prop) : Res (List D) → Prop
  | .ok d => ∀ v F' H' O', Ext F H F' H' → Fresh H O' → Ows K cls F' H' v d O' → Q v H'
  | .xc c => ∀ F' H', Ext F H F' H' → W (excV cls c) none σ H'
  | .bad => False
def DE (K : PySem.W.Frag) (cls : Cls) (W : WX) (t : TE) (f : Env → Res D) : Prop :=
  ∀ σ F H g O Q, Same F H → Sts K cls F H σ g O → PostE K cls W σ F H Q (f g) → t σ H Q
def DB (K : PySem.W.Frag) (cls : Cls) (W : WX) (t : TE) (f : Env → Res D) : Prop :=
  ∀ σ F H g O Q, Same F H → Sts K cls F H σ g O → PostB K cls W σ F H Q (f g) → t σ H Q
def DO (K : PySem.W.Frag) (cls : Cls) (W : WX) (t : TE) (f : Env → Res D) : Prop :=
  ∀ σ F H g O Q, Same F H → Sts K cls F H σ g O → PostO K cls W σ F H Q (f g) → t σ H Q
def DT (K : PySem.W.Frag) (cls : Cls) (W : WX) (t : TT) (f : Env → Res Bool) : Prop :=
  ∀ σ F H g O Q, Same F H → Sts K cls F H σ g O → PostT cls W σ F H Q (f g) → t σ H Q
def DA (K : PySem.W.Frag) (cls : Cls) (W : WX) (t : TA) (f : Env → Res (List D)) : Prop :=
  ∀ σ F H g O Q, Same F H → Sts K cls F H σ g O → PostA K cls W σ F H Q (f g) → t σ H Q
def DAO (K : PySem.W.Frag) (cls : Cls) (W : WX) (t : TA) (f : Env → Res (List D)) : Prop :=
  ∀ σ F H g O Q, Same F H → Sts K cls F H σ g O → PostAO K cls W σ F H Q (f g) → t σ H Q

def bF (f : Env → Res D) : Env → Res D := fun g => (f g).bind fun d => .ok (opd d)
def oF (f : Env → Res D) : Env → Res D := fun g => (f g).bind kp
section
variable {f : Env → Res D} {g : Env}
theorem bF_ok {d : D} (e : f g = .ok d) : bF f g = .ok (opd d) := by unfold bF; rw [e]; rfl
theorem bF_xc {d : Nat} (e : f g = .xc d) : bF f g = .xc d := by unfold bF; rw [e]; rfl
theorem bF_bad (e : f g = .bad) : bF f g = .bad := by unfold bF; rw [e]; rfl
theorem oF_ok {d : D} (e : f g = .ok d) : oF f g = kp d := by unfold oF; rw [e]; rfl
theorem oF_xc {d : Nat} (e : f g = .xc d) : oF f g = .xc d := by unfold oF; rw [e]; rfl
theorem oF_bad (e : f g = .bad) : oF f g = .bad := by unfold oF; rw [e]; rfl
end
theorem kp_ok {d : D} : kp d = .ok d ∨ kp d = .bad := by cases d <;> simp
theorem DE.toB {W : WX} {t : TE} {f : Env → Res D} (h : DE K cls W t f) : DB K cls W t (bF f) := by
  intro σ F H g O Q s st p
  refine h σ F H g O Q s st ?_
  cases e : f g with
  | ok d =>
    rw [bF_ok e] at p
    intro v F' H' O' x fr tm
    obtain ⟨F2, x2, _, _, b⟩ := tm.operand x fr
    exact p v F2 H' x2 b
  | xc c => rw [bF_xc e] at p; exact p
  | bad => rw [bF_bad e] at p; exact p
theorem DE.toO {W : WX} {t : TE} {f : Env → Res D} (h : DE K cls W t f) : DO K cls W t (oF f) := by
  intro σ F H g O Q s st p
  refine h σ F H g O Q s st ?_
  cases e : f g with
  | ok d =>
    rw [oF_ok e] at p
    intro v F' H' O' x fr tm
    rcases kp_ok (d := d) with e2 | e2
    · rw [e2] at p; exact p v F' H' O' x fr (tm.keep e2)
    · rw [e2] at p; exact p.elim
  | xc c => rw [oF_xc e] at p; exact p
  | bad => rw [oF_bad e] at p; exact p

/-- one after another: what is wanted behind the second, from the first one's end -/
theorem PostE.mono {W : WX} {σ : St} {F H F1 H1 : Hp} {Q : VK} {r : Res D} (x : Ext F H F1 H1) (p : PostE K cls W σ F H Q r) : PostE K cls W σ F1 H1 Q r := by
  cases r with
  | ok d => exact fun v F' H' O' y fr tm => p v F' H' O' (x.trans y) (fr.mono x.hh) tm
  | xc c => exact fun F' H' y => p F' H' (x.trans y)
  | bad => exact p
theorem PostT.mono {W : WX} {σ : St} {F H F1 H1 : Hp} {Q : Bool → Hp → Prop} {r : Res Bool} (x : Ext F H F1 H1) (p : PostT cls W σ F H Q r) : PostT cls W σ F1 H1 Q r := by
  cases r with
  | ok d => exact fun F' H' y => p F' H' (x.trans y)
  | xc c => exact fun F' H' y => p F' H' (x.trans y)
  | bad => exact p
theorem PostA.mono {W : WX} {σ : St} {F H F1 H1 : Hp} {Q : List V → Hp → Prop} {r : Res (List D)} (x : Ext F H F1 H1) (p : PostA K cls W σ F H Q r) : PostA K cls W σ F1 H1 Q r := by
  cases r with
  | ok d => exact fun v F' H' y tm => p v F' H' (x.trans y) tm
  | xc c => exact fun F' H' y => p F' H' (x.trans y)
  | bad => exact p
theorem PostAO.mono {W : WX} {σ : St} {F H F1 H1 : Hp} {Q : List V → Hp → Prop} {r : Res (List D)} (x : Ext F H F1 H1) (p : PostAO K cls W σ F H Q r) : PostAO K cls W σ F1 H1 Q r := by
  cases r with
  | ok d => exact fun v F' H' O' y fr tm => p v F' H' O' (x.trans y) (fr.mono x.hh) tm
  | xc c => exact fun F' H' y => p F' H' (x.trans y)
  | bad => exact p

structure JE (X : Cx) (cls : Cls) (W : WX) (e : Expr) (f : Env → Res D) : Prop where
  ex : ∃ t, PE X e t ∧ DE X.K cls W t f
structure JT (X : Cx) (cls : Cls) (W : WX) (e : Expr) (f : Env → Res Bool) : Prop where
  ex : ∃ t, PT X e t ∧ DT X.K cls W t f
structure JW (X : Cx) (cls : Cls) (W : WX) (e : Expr) (f : Env → Res Bool) : Prop where
  ex : ∃ t, PW X e t ∧ DT X.K cls W t f
structure JA (X : Cx) (cls : Cls) (W : WX) (e : List Expr) (f : Env → Res (List D)) : Prop where
  ex : ∃ t, PA X e t ∧ DA X.K cls W t f
structure JAO (X : Cx) (cls : Cls) (W : WX) (e : List Expr) (f : Env → Res (List D)) : Prop where
  ex : ∃ t, PA X e t ∧ DAO X.K cls W t f
end

/-! ### names, constants -/
section
variable {X : Cx} {cls : Cls} {W : WX} {a b c : Expr} {es : List Expr} {fa fb fc : Env → Res D} {fs : Env → Res (List D)} {pos : Pos}
@[simp] def gv (g : Env) (i : Nat) : Res D := match g[i]? with
  | some .un => .bad
  | some d => .ok (brw d)
  | none => .bad
def eVar (i : Nat) : Env → Res D := fun g => gv g i
@[simp] theorem eVar_ (i : Nat) (g : Env) : eVar i g = gv g i := rfl
theorem de_var {K : PySem.W.Frag} (i : Nat) : DE K cls W (tVar i) (eVar i) := by
  intro σ F H g O Q s st p
  unfold eVar gv at p
  cases e : g[i]? with
  | none => rw [e] at p; exact p.elim
  | some d =>
    have hi : i < g.length := (List.getElem?_eq_some_iff.mp e).1
    obtain ⟨O1, h1, h2, _⟩ := st.at i hi
    rcases h2 with ⟨h2, _⟩ | ⟨v, d', h2, h3, ow⟩
    · rw [e] at h2; cases h2; rw [e] at p; exact p.elim
    · rw [e] at h3; cases h3
      refine ⟨v, h2, ?_⟩
      rw [e] at p
      have q : PostE K cls W σ F H Q (.ok (brw d)) := by
        cases d <;> first | exact p | exact p.elim
      exact q v F H [] (.refl s) Fresh.nil (.inr ⟨ow.brw s, rfl⟩)
theorem je_var (i : Nat) {x : Str} (hN : X.N[i]? = some x := by rfl) (hv : Vis X.env.scope x := by first | exact Or.inl rfl | exact Or.inr (Or.inl rfl) | exact Or.inr (Or.inr rfl)) (hd : (x == ("__debug__" : Str)) = false := by decide)
    (hcd : (x == ("__classdict__" : Str)) = false := by decide) : JE X cls W (.Name x pos) (eVar i) := ⟨_, pe_var hN hv hd hcd, de_var i⟩
def eC (d : D) : Env → Res D := fun _ => .ok d
@[simp] theorem eC_ (d : D) (g : Env) : eC d g = .ok d := rfl
theorem de_c {K : PySem.W.Frag} {v : V} {d : D} (h : ∀ F, Rp K cls F v d) : DE K cls W (tC v) (eC d) := by
  intro σ F H g O Q s st p
  exact p v F H [] (.refl s) Fresh.nil (.inl (.sh (h F)))
theorem je_int {i : Int} {j} : JE X cls W (.Constant (.int i) j pos) (eC (.int i)) := ⟨_, pe_int, de_c fun _ => .int i⟩
theorem je_bl {i : Bool} {j} : JE X cls W (.Constant (.bool i) j pos) (eC (.bl i)) := ⟨_, pe_bl, de_c fun _ => .bl i⟩
theorem je_non {j} : JE X cls W (.Constant .none j pos) (eC .non) := ⟨_, pe_non, de_c fun _ => .non⟩
theorem je_str {i : Str} {j} : JE X cls W (.Constant (.str i) j pos) (eC (.str i)) := ⟨_, pe_str, de_c fun _ => .str i⟩
/-- a module's int or text -/
theorem je_gint {x : Str} {i : Int} {t : Tok} (hm : X.mg x = some (.int i t)) (hg : Gl X x := by rfl) (hd : (x == ("__debug__" : Str)) = false := by decide) : JE X cls W (.Name x pos) (eC (.int i)) :=
  ⟨_, pe_glob (v := .int i) hg hm ⟨t, rfl⟩ hd, de_c fun _ => .int i⟩
theorem je_gstr {x i : Str} {t : Tok} (hm : X.mg x = some (.str i t)) (hg : Gl X x := by rfl) (hd : (x == ("__debug__" : Str)) = false := by decide) : JE X cls W (.Name x pos) (eC (.str i)) :=
  ⟨_, pe_glob (v := .str i) hg hm ⟨t, rfl⟩ hd, de_c fun _ => .str i⟩

/-! ### two operands -/
def R2Ok (K : PySem.W.Frag) (cls : Cls) (r : R2) (op : D → D → Option D) : Prop :=
  ∀ F H x y a b d Q, Same F H → Bo K cls F H x a → Bo K cls F H y b → op a b = some d → (∀ v F' H' O', Ext F H F' H' → Fresh H O' → Tm K cls F' H' v d O' → Q v H') → r x y H Q
def eBin (op : D → D → Option D) (fa fb : Env → Res D) : Env → Res D := fun g => (fa g).bind fun a => (fb g).bind fun b => .of (op (opd a) (opd b))
@[simp] theorem eBin_ (op : D → D → Option D) (fa fb : Env → Res D) (g : Env) : eBin op fa fb g = (fa g).bind fun a => (fb g).bind fun b => .of (op (opd a) (opd b)) := rfl
theorem de_bin {K : PySem.W.Frag} {r : R2} {op : D → D → Option D} {ta tb : TE} (hr : R2Ok K cls r op) (ha : DE K cls W ta fa) (hb : DE K cls W tb fb) : DE K cls W (tOp r ta tb) (eBin op fa fb) := by
  intro σ F H g O Q s st p
  have e0 : eBin op fa fb g = (fa g).bind fun a => (fb g).bind fun b => .of (op (opd a) (opd b)) := rfl
  rw [e0] at p
  refine ha.toB σ F H g O _ s st ?_
  cases ea : fa g with
  | xc c => rw [ea] at p; rw [bF_xc ea]; exact p
  | bad => rw [ea] at p; exact p.elim
  | ok a =>
    rw [ea] at p
    rw [bF_ok ea]
    intro x F1 H1 x1 b1
    refine hb.toB σ F1 H1 g O _ x1.fh (st.ext x1) ?_
    simp only [Res.bind] at p
    cases eb : fb g with
    | xc c => rw [eb] at p; rw [bF_xc eb]; exact p.mono x1
    | bad => rw [eb] at p; exact p.elim
    | ok b =>
      rw [eb] at p
      rw [bF_ok eb]
      simp only [] at p
      intro y F2 H2 x2 b2
      cases eo : op (opd a) (opd b) with
      | none => rw [eo] at p; exact p.elim
      | some d =>
        rw [eo] at p
        exact hr F2 H2 x y _ _ d Q x2.fh (b1.ext x2) b2 eo fun v F' H' O' x3 fr tm => p v F' H' O' (x1.trans (x2.trans x3)) (fr.mono (x1.trans x2).hh) tm
theorem je_bin {o : Operator} {r : R2} {op : D → D → Option D} (ho : OpR X (binaryOp o) r) (hr : R2Ok X.K cls r op) (ha : JE X cls W a fa) (hb : JE X cls W b fb) : JE X cls W (.BinOp a o b pos) (eBin op fa fb) := by
  obtain ⟨ta, pa, da⟩ := ha.ex
  obtain ⟨tb, pb, db⟩ := hb.ex
  exact ⟨_, pe_op ho pa pb, de_bin hr da db⟩
/-- comparisons: as a value, as a test -/
def C2Ok (K : PySem.W.Frag) (cls : Cls) (r : R2) (op : D → D → Option Bool) : Prop :=
  ∀ F H x y a b d Q, Same F H → Bo K cls F H x a → Bo K cls F H y b → op a b = some d → Q (.bl d) H → r x y H Q
def tC2 (op : D → D → Option Bool) (fa fb : Env → Res D) : Env → Res Bool := fun g => (fa g).bind fun a => (fb g).bind fun b => .of (op (opd a) (opd b))
@[simp] theorem tC2_ (op : D → D → Option Bool) (fa fb : Env → Res D) (g : Env) : tC2 op fa fb g = (fa g).bind fun a => (fb g).bind fun b => .of (op (opd a) (opd b)) := rfl
/-- a test's answer as a value -/
def eB (f : Env → Res Bool) : Env → Res D := fun g => (f g).bind fun b => .ok (.bl b)
@[simp] theorem eB_ (f : Env → Res Bool) (g : Env) : eB f g = (f g).bind fun b => .ok (.bl b) := rfl
theorem de_c2 {K : PySem.W.Frag} {r : R2} {op : D → D → Option Bool} {ta tb : TE} (hr : C2Ok K cls r op) (ha : DE K cls W ta fa) (hb : DE K cls W tb fb) : DE K cls W (tOp r ta tb) (eB (tC2 op fa fb)) := by
  have h : R2Ok K cls r (fun a b => (op a b).map D.bl) := fun F H x y a b d Q s b1 b2 e q => by
    have e : (op a b).map D.bl = some d := e
    cases eo : op a b with
    | none => rw [eo] at e; cases e
    | some k =>
      rw [eo] at e
      cases e
      exact hr F H x y a b k Q s b1 b2 eo (q _ F H [] (.refl s) Fresh.nil (.inl (.sh (.bl k))))
  have q := de_bin (W := W) h ha hb
  have e : eBin (fun a b => (op a b).map D.bl) fa fb = eB (tC2 op fa fb) := by
    funext g
    unfold eBin eB tC2
    cases fa g with
    | ok a =>
      cases fb g with
      | ok b => simp only [Res.bind]; cases op (opd a) (opd b) <;> rfl
      | xc c => rfl
      | bad => rfl
    | xc c => rfl
    | bad => rfl
  rw [e] at q
  exact q
theorem dt_of {K : PySem.W.Frag} {t : TE} {f : Env → Res Bool} (h : DE K cls W t (eB f)) : DT K cls W (tTest t) f := by
  intro σ F H g O Q s st p
  refine h σ F H g O _ s st ?_
  unfold eB
  cases e : f g with
  | ok k =>
    rw [e] at p
    intro v F' H' O' x fr tm
    have : v = .bl k := by
      rcases tm with t | ⟨t, _⟩
      · cases t with
        | sh r => cases r; rfl
      · cases t with
        | sh r => cases r; rfl
    subst this
    exact ⟨k, rfl, p F' H' x⟩
  | xc c => rw [e] at p; exact p
  | bad => rw [e] at p; exact p
theorem je_cmp {o : CmpOp} {r : R2} {op : D → D → Option Bool} (ho : OpR X (compareOp o) r) (hr : C2Ok X.K cls r op) (ha : JE X cls W a fa) (hb : JE X cls W b fb) (hm : behindInMarks o b = false) : JE X cls W (.Compare a [o] [b] pos) (eB (tC2 op fa fb)) := by
  obtain ⟨ta, pa, da⟩ := ha.ex
  obtain ⟨tb, pb, db⟩ := hb.ex
  exact ⟨_, pe_cmpR ho pa pb hm, de_c2 hr da db⟩
theorem jt_cmp {o : CmpOp} {r : R2} {op : D → D → Option Bool} (ho : OpR X (compareOp o) r) (hr : C2Ok X.K cls r op) (ha : JE X cls W a fa) (hb : JE X cls W b fb) (hm : behindInMarks o b = false) : JT X cls W (.Compare a [o] [b] pos) (tC2 op fa fb) := by
  obtain ⟨ta, pa, da⟩ := ha.ex
  obtain ⟨tb, pb, db⟩ := hb.ex
  exact ⟨_, pt_cmpR ho pa pb hm, dt_of (de_c2 hr da db)⟩
end
end DL

namespace DL
open PySem L2
section
variable {K : PySem.W.Frag} {cls : Cls} {W : WX} {X : Cx} {a b c : Expr} {es : List Expr} {fa fb fc : Env → Res D} {ga gb : Env → Res Bool} {fs : Env → Res (List D)} {pos : Pos}
  {F H F1 H1 : Hp} {Q : VK} {σ : St}

/-! ### one operand -/
def R1Ok (K : PySem.W.Frag) (cls : Cls) (r : V → Hp → VK → Prop) (op : D → Option D) : Prop :=
  ∀ F H x a d Q, Same F H → Bo K cls F H x a → op a = some d → (∀ v F' H' O', Ext F H F' H' → Fresh H O' → Tm K cls F' H' v d O' → Q v H') → r x H Q
def eUn (op : D → Option D) (fa : Env → Res D) : Env → Res D := fun g => (fa g).bind fun a => .of (op (opd a))
@[simp] theorem eUn_ (op : D → Option D) (fa : Env → Res D) (g : Env) : eUn op fa g = (fa g).bind fun a => .of (op (opd a)) := rfl
theorem de_un {r : V → Hp → VK → Prop} {op : D → Option D} {ta : TE} (hr : R1Ok K cls r op) (ha : DE K cls W ta fa) : DE K cls W (tUn r ta) (eUn op fa) := by
  intro σ F H g O Q s st p
  rw [eUn_] at p
  refine ha.toB σ F H g O _ s st ?_
  cases ea : fa g with
  | xc c => rw [ea] at p; rw [bF_xc ea]; exact p
  | bad => rw [ea] at p; exact p.elim
  | ok a =>
    rw [ea] at p
    rw [bF_ok ea]
    simp only [Res.bind] at p
    intro x F1 H1 x1 b1
    cases eo : op (opd a) with
    | none => rw [eo] at p; exact p.elim
    | some d =>
      rw [eo] at p
      exact hr F1 H1 x _ d Q x1.fh b1 eo fun v F' H' O' x3 fr tm => p v F' H' O' (x1.trans x3) (fr.mono x1.hh) tm
theorem je_un {o : UnaryOp} {r : V → Hp → VK → Prop} {op : D → Option D} (ho : UnR X (unaryOp o) r) (hr : R1Ok X.K cls r op) (ha : JE X cls W a fa) : JE X cls W (.UnaryOp o a pos) (eUn op fa) := by
  obtain ⟨ta, pa, da⟩ := ha.ex
  exact ⟨_, pe_un ho pa, de_un hr da⟩

/-! ### tests -/
theorem jt_val (h : JE X cls W a (eB ga)) (he : ∀ whole, isTrue a X.env whole = (do let v ← whole; standAt a.pos; holding [v] (truthy v)) := by intro _; rfl) : JT X cls W a ga := by
  obtain ⟨t, p, d⟩ := h.ex
  exact ⟨_, pt_val p he, dt_of d⟩
/-- a data's truth -/
def tru : D → Option Bool
  | .non => some false
  | .bl b => some b
  | .int i => some (i != 0)
  | .str y => if y.length ≤ 1000000 then some ((y.length : Int) != 0) else none
  | .sc xs => some (!xs.isEmpty)
  | .ls xs => some (!xs.isEmpty)
  | .bo xs => some (!xs.isEmpty)
  | .tp xs => some (!xs.isEmpty)
  | .bd ks xs => some (!ks.isEmpty)
  | _ => none
theorem Rps.empty {vs : List V} {ds : List D} (h : Rps K cls F vs ds) : (!vs.isEmpty) = !ds.isEmpty := by cases h <;> rfl
theorem Bos.empty {vs : List V} {ds : List D} (h : Bos K cls F H vs ds) : (!vs.isEmpty) = !ds.isEmpty := by cases h <;> rfl
theorem sameL {a : Addr} {xs : List V} (s : Same F H) (h : SqL K F a xs) : SqL K H a xs := s.seq h
theorem sameT {a : Addr} {xs : List V} (s : Same F H) (h : SqT K F a xs) : SqT K H a xs := by
  rcases h with (h | ⟨o, h⟩) | h
  · exact .inl (.inl (s _ _ h))
  · exact .inl (.inr ⟨o, s _ _ h⟩)
  · exact .inr h
theorem lim_line : (1000000 : Nat) < sizeLine := by rw [sizeLine_eq]; decide
theorem Bo.tru {v : V} {d : D} {k : Bool} (s : Same F H) (b : Bo K cls F H v d) (e : tru d = some k) : TruV K v H k := by
  cases b with
  | sh r =>
    cases r with
    | non => cases e; rfl
    | bl => cases e; rfl
    | int => cases e; rfl
    | str y =>
      have e : (if y.length ≤ 1000000 then some ((y.length : Int) != 0) else none) = some k := e
      split at e
      · rename_i hy
        cases e
        exact ⟨Nat.le_trans hy (Nat.le_of_lt lim_line), rfl⟩
      · cases e
    | sc h r => cases e; exact .inl ⟨_, sameL s h, r.empty.symm⟩
    | ls h r => cases e; exact .inl ⟨_, SqL.of (s _ _ h), r.empty.symm⟩
    | tp h r => cases e; exact .inr (.inl ⟨_, sameT s h, r.empty.symm⟩)
    | ob => cases e
    | rf => cases e
  | bo h r => cases e; exact .inl ⟨_, SqL.of h, r.empty.symm⟩
  | bd h l r =>
    cases e
    refine .inr (.inr ⟨_, h, ?_⟩)
    rename_i a ks vs ds
    cases ks <;> cases vs <;> first | rfl | (simp at l)
  | bb => cases e
def tTr (fa : Env → Res D) : Env → Res Bool := fun g => (fa g).bind fun a => .of (tru (opd a))
@[simp] theorem tTr_ (fa : Env → Res D) (g : Env) : tTr fa g = (fa g).bind fun a => .of (tru (opd a)) := rfl
theorem jt_truth (ha : JE X cls W a fa) (he : ∀ whole, isTrue a X.env whole = (do let v ← whole; standAt a.pos; holding [v] (truthy v)) := by intro _; rfl) : JT X cls W a (tTr fa) := by
  obtain ⟨ta, pa, da⟩ := ha.ex
  refine ⟨_, pt_truth pa he, ?_⟩
  intro σ F H g O Q s st p
  rw [tTr_] at p
  refine da.toB σ F H g O _ s st ?_
  cases ea : fa g with
  | xc c => rw [ea] at p; rw [bF_xc ea]; exact p
  | bad => rw [ea] at p; exact p.elim
  | ok a =>
    rw [ea] at p
    rw [bF_ok ea]
    simp only [Res.bind] at p
    intro x F1 H1 x1 b1
    cases eo : tru (opd a) with
    | none => rw [eo] at p; exact p.elim
    | some d =>
      rw [eo] at p
      exact ⟨d, b1.tru x1.fh eo, p F1 H1 x1⟩
def tAn (ga gb : Env → Res Bool) : Env → Res Bool := fun g => (ga g).bind fun k => if k = true then gb g else .ok false
def tOr_ (ga gb : Env → Res Bool) : Env → Res Bool := fun g => (ga g).bind fun k => if k = true then .ok true else gb g
def tNo (ga : Env → Res Bool) : Env → Res Bool := fun g => (ga g).bind fun k => .ok (!k)
@[simp] theorem tAn_ (ga gb : Env → Res Bool) (g : Env) : tAn ga gb g = (ga g).bind fun k => if k = true then gb g else .ok false := rfl
@[simp] theorem tOr__ (ga gb : Env → Res Bool) (g : Env) : tOr_ ga gb g = (ga g).bind fun k => if k = true then .ok true else gb g := rfl
@[simp] theorem tNo_ (ga : Env → Res Bool) (g : Env) : tNo ga g = (ga g).bind fun k => .ok (!k) := rfl
/-- a test, then what follows -/
theorem DT.go {t : TT} (ha : DT K cls W t ga) {σ : St} {F H : Hp} {g : Env} {O : List Addr} {Q : Bool → Hp → Prop} (s : Same F H) (st : Sts K cls F H σ g O)
    (hx : ∀ c, ga g = .xc c → ∀ F' H', Ext F H F' H' → W (excV cls c) none σ H') (hb : ga g ≠ .bad) (hk : ∀ k, ga g = .ok k → ∀ F' H', Ext F H F' H' → Q k H') : t σ H Q := by
  refine ha σ F H g O Q s st ?_
  cases e : ga g with
  | ok k => exact hk k e
  | xc c => exact hx c e
  | bad => exact (hb e).elim
theorem dt_and {ta tb : TT} (ha : DT K cls W ta ga) (hb : DT K cls W tb gb) : DT K cls W (tAnd ta tb) (tAn ga gb) := by
  intro σ F H g O Q s st p
  rw [tAn_] at p
  refine ha.go s st (fun c e => by rw [e] at p; exact p) (fun e => by rw [e] at p; exact p) fun k e F1 H1 x => ?_
  rw [e] at p
  simp only [Res.bind] at p
  cases k with
  | true =>
    rw [if_pos rfl] at p
    rw [if_pos rfl]
    exact hb σ F1 H1 g O Q x.fh (st.ext x) (p.mono x)
  | false =>
    rw [if_neg (by decide)] at p
    rw [if_neg (by decide)]
    exact p F1 H1 x
theorem dt_or {ta tb : TT} (ha : DT K cls W ta ga) (hb : DT K cls W tb gb) : DT K cls W (tOr ta tb) (tOr_ ga gb) := by
  intro σ F H g O Q s st p
  rw [tOr__] at p
  refine ha.go s st (fun c e => by rw [e] at p; exact p) (fun e => by rw [e] at p; exact p) fun k e F1 H1 x => ?_
  rw [e] at p
  simp only [Res.bind] at p
  cases k with
  | true =>
    rw [if_pos rfl] at p
    rw [if_pos rfl]
    exact p F1 H1 x
  | false =>
    rw [if_neg (by decide)] at p
    rw [if_neg (by decide)]
    exact hb σ F1 H1 g O Q x.fh (st.ext x) (p.mono x)
theorem dt_not {ta : TT} (ha : DT K cls W ta ga) : DT K cls W (tNot ta) (tNo ga) := by
  intro σ F H g O Q s st p
  rw [tNo_] at p
  refine ha.go s st (fun c e => by rw [e] at p; exact p) (fun e => by rw [e] at p; exact p) fun k e F1 H1 x => ?_
  rw [e] at p
  exact p F1 H1 x
theorem jw_and1 (h : JT X cls W a ga) : JW X cls W (.BoolOp .And [a] pos) ga := by
  obtain ⟨ta, pa, da⟩ := h.ex
  exact ⟨_, pw_and1 pa, da⟩
theorem jw_or1 (h : JT X cls W a ga) : JW X cls W (.BoolOp .Or [a] pos) ga := by
  obtain ⟨ta, pa, da⟩ := h.ex
  exact ⟨_, pw_or1 pa, da⟩
theorem jw_and (h : JT X cls W a ga) (h2 : JW X cls W (.BoolOp .And (b :: es) pos) gb) : JW X cls W (.BoolOp .And (a :: b :: es) pos) (tAn ga gb) := by
  obtain ⟨ta, pa, da⟩ := h.ex
  obtain ⟨tb, pb, db⟩ := h2.ex
  exact ⟨_, pw_and pa pb, dt_and da db⟩
theorem jw_or (h : JT X cls W a ga) (h2 : JW X cls W (.BoolOp .Or (b :: es) pos) gb) : JW X cls W (.BoolOp .Or (a :: b :: es) pos) (tOr_ ga gb) := by
  obtain ⟨ta, pa, da⟩ := h.ex
  obtain ⟨tb, pb, db⟩ := h2.ex
  exact ⟨_, pw_or pa pb, dt_or da db⟩
theorem jt_w (h : JW X cls W a ga) : JT X cls W a ga := by
  obtain ⟨ta, pa, da⟩ := h.ex
  exact ⟨_, pa.pt, da⟩
theorem jt_not (h : JT X cls W a ga) : JT X cls W (.UnaryOp .Not a pos) (tNo ga) := by
  obtain ⟨ta, pa, da⟩ := h.ex
  exact ⟨_, pt_not pa, dt_not da⟩
/-! .. as values (all of them True or False) -/
theorem DE.goB {t : TE} (ha : DE K cls W t (eB ga)) {σ : St} {F H : Hp} {g : Env} {O : List Addr} {Q : VK} (s : Same F H) (st : Sts K cls F H σ g O)
    (hx : ∀ c, ga g = .xc c → ∀ F' H', Ext F H F' H' → W (excV cls c) none σ H') (hb : ga g ≠ .bad) (hk : ∀ k, ga g = .ok k → ∀ F' H', Ext F H F' H' → Q (.bl k) H') : t σ H Q := by
  refine ha σ F H g O Q s st ?_
  rw [eB_]
  cases e : ga g with
  | ok k =>
    intro v F' H' O' x fr tm
    have : v = .bl k := by
      rcases tm with t | ⟨t, _⟩
      · cases t with
        | sh r => cases r; rfl
      · cases t with
        | sh r => cases r; rfl
    subst this
    exact hk k e F' H' x
  | xc c => exact hx c e
  | bad => exact (hb e).elim
theorem PostE.bl {k : Bool} {g : Env} (p : PostE K cls W σ F H Q (.ok (.bl k))) (x : Ext F H F1 H1) : Q (.bl k) H1 := p _ F1 H1 [] x Fresh.nil (.inl (.sh (.bl k)))
theorem de_and {ta tb : TE} (ha : DE K cls W ta (eB ga)) (hb : DE K cls W tb (eB gb)) : DE K cls W (tAndV ta tb) (eB (tAn ga gb)) := by
  intro σ F H g O Q s st p
  rw [eB_, tAn_] at p
  refine ha.goB s st (fun c e => by rw [e] at p; exact p) (fun e => by rw [e] at p; exact p) fun k e F1 H1 x => ?_
  rw [e] at p
  simp only [Res.bind] at p
  refine ⟨k, rfl, ?_⟩
  cases k with
  | true =>
    rw [if_pos rfl] at p
    rw [if_pos rfl]
    exact hb σ F1 H1 g O Q x.fh (st.ext x) (PostE.mono x p)
  | false =>
    rw [if_neg (by decide)] at p
    rw [if_neg (by decide)]
    exact p _ F1 H1 [] x Fresh.nil (.inl (.sh (.bl false)))
theorem de_or {ta tb : TE} (ha : DE K cls W ta (eB ga)) (hb : DE K cls W tb (eB gb)) : DE K cls W (tOrV ta tb) (eB (tOr_ ga gb)) := by
  intro σ F H g O Q s st p
  rw [eB_, tOr__] at p
  refine ha.goB s st (fun c e => by rw [e] at p; exact p) (fun e => by rw [e] at p; exact p) fun k e F1 H1 x => ?_
  rw [e] at p
  simp only [Res.bind] at p
  refine ⟨k, rfl, ?_⟩
  cases k with
  | true =>
    rw [if_pos rfl] at p
    rw [if_pos rfl]
    exact p _ F1 H1 [] x Fresh.nil (.inl (.sh (.bl true)))
  | false =>
    rw [if_neg (by decide)] at p
    rw [if_neg (by decide)]
    exact hb σ F1 H1 g O Q x.fh (st.ext x) (PostE.mono x p)
theorem de_not {ta : TE} (ha : DE K cls W ta (eB ga)) : DE K cls W (tNotV ta) (eB (tNo ga)) := by
  intro σ F H g O Q s st p
  rw [eB_, tNo_] at p
  refine ha.goB s st (fun c e => by rw [e] at p; exact p) (fun e => by rw [e] at p; exact p) fun k e F1 H1 x => ?_
  rw [e] at p
  exact ⟨k, rfl, p _ F1 H1 [] x Fresh.nil (.inl (.sh (.bl (!k))))⟩
theorem je_one {op} (h : JE X cls W a fa) : JE X cls W (.BoolOp op [a] pos) fa := by
  obtain ⟨ta, pa, da⟩ := h.ex
  exact ⟨_, pe_one pa, da⟩
theorem je_and (h : JE X cls W a (eB ga)) (h2 : JE X cls W (.BoolOp .And (b :: es) pos) (eB gb)) : JE X cls W (.BoolOp .And (a :: b :: es) pos) (eB (tAn ga gb)) := by
  obtain ⟨ta, pa, da⟩ := h.ex
  obtain ⟨tb, pb, db⟩ := h2.ex
  exact ⟨_, pe_and pa pb, de_and da db⟩
theorem je_or (h : JE X cls W a (eB ga)) (h2 : JE X cls W (.BoolOp .Or (b :: es) pos) (eB gb)) : JE X cls W (.BoolOp .Or (a :: b :: es) pos) (eB (tOr_ ga gb)) := by
  obtain ⟨ta, pa, da⟩ := h.ex
  obtain ⟨tb, pb, db⟩ := h2.ex
  exact ⟨_, pe_or pa pb, de_or da db⟩
theorem je_not (h : JE X cls W a (eB ga)) : JE X cls W (.UnaryOp .Not a pos) (eB (tNo ga)) := by
  obtain ⟨ta, pa, da⟩ := h.ex
  exact ⟨_, pe_not pa, de_not da⟩
/-- a value that is True or False, as the answer of a test -/
@[simp] def blv : D → Res Bool
  | .bl b => .ok b
  | _ => .bad
def tV (fa : Env → Res D) : Env → Res Bool := fun g => (fa g).bind blv
@[simp] theorem tV_ (fa : Env → Res D) (g : Env) : tV fa g = (fa g).bind blv := rfl
theorem je_tV (h : JE X cls W a fa) : JE X cls W a (eB (tV fa)) := by
  obtain ⟨ta, pa, da⟩ := h.ex
  refine ⟨ta, pa, ?_⟩
  intro σ F H g O Q s st p
  refine da σ F H g O Q s st ?_
  rw [eB_, tV_] at p
  cases e : fa g with
  | ok d =>
    rw [e] at p
    cases d <;> first | exact p | exact p.elim
  | xc c => rw [e] at p; exact p
  | bad => rw [e] at p; exact p
/-- a if t else b -/
def eIf (ga : Env → Res Bool) (fa fb : Env → Res D) : Env → Res D := fun g => (ga g).bind fun k => if k = true then fa g else fb g
@[simp] theorem eIf_ (ga : Env → Res Bool) (fa fb : Env → Res D) (g : Env) : eIf ga fa fb g = (ga g).bind fun k => if k = true then fa g else fb g := rfl
theorem je_if (hc : JT X cls W c ga) (ha : JE X cls W a fa) (hb : JE X cls W b fb) : JE X cls W (.IfExp c a b pos) (eIf ga fa fb) := by
  obtain ⟨tc, pc, dc⟩ := hc.ex
  obtain ⟨ta, pa, da⟩ := ha.ex
  obtain ⟨tb, pb, db⟩ := hb.ex
  refine ⟨_, pe_ifExp pc pa pb, ?_⟩
  intro σ F H g O Q s st p
  rw [eIf_] at p
  refine dc.go s st (fun c e => by rw [e] at p; exact p) (fun e => by rw [e] at p; exact p) fun k e F1 H1 x => ?_
  rw [e] at p
  simp only [Res.bind] at p
  cases k with
  | true =>
    rw [if_pos rfl] at p
    rw [if_pos rfl]
    exact da σ F1 H1 g O Q x.fh (st.ext x) (p.mono x)
  | false =>
    rw [if_neg (by decide)] at p
    rw [if_neg (by decide)]
    exact db σ F1 H1 g O Q x.fh (st.ext x) (p.mono x)
/-- a < b < c -/
def tCh (op op' : D → D → Option Bool) (fa fb fc : Env → Res D) : Env → Res Bool := fun g => (fa g).bind fun a => (fb g).bind fun b => (Res.of (op (opd a) (opd b))).bind fun k => if k = true then (fc g).bind fun c => .of (op' (opd b) (opd c)) else .ok false
@[simp] theorem tCh_ (op op' : D → D → Option Bool) (fa fb fc : Env → Res D) (g : Env) : tCh op op' fa fb fc g = (fa g).bind fun a => (fb g).bind fun b => (Res.of (op (opd a) (opd b))).bind fun k => if k = true then (fc g).bind fun c => .of (op' (opd b) (opd c)) else .ok false := rfl
/-- an operand, then what follows -/
theorem DE.go {t : TE} (ha : DE K cls W t fa) {σ : St} {F H : Hp} {g : Env} {O : List Addr} {Q : VK} (s : Same F H) (st : Sts K cls F H σ g O)
    (hx : ∀ c, fa g = .xc c → ∀ F' H', Ext F H F' H' → W (excV cls c) none σ H') (hb : fa g ≠ .bad) (hk : ∀ d, fa g = .ok d → ∀ v F' H', Ext F H F' H' → Bo K cls F' H' v (opd d) → Q v H') : t σ H Q := by
  refine ha.toB σ F H g O Q s st ?_
  cases e : fa g with
  | ok k => rw [bF_ok e]; exact hk k e
  | xc c => rw [bF_xc e]; exact hx c e
  | bad => exact (hb e).elim
theorem DE.goO {t : TE} (ha : DE K cls W t fa) {σ : St} {F H : Hp} {g : Env} {O : List Addr} {Q : VK} (s : Same F H) (st : Sts K cls F H σ g O)
    (hx : ∀ c, fa g = .xc c → ∀ F' H', Ext F H F' H' → W (excV cls c) none σ H') (hb : (fa g).bind kp ≠ .bad) (hk : ∀ d, (fa g).bind kp = .ok d → ∀ v F' H' O', Ext F H F' H' → Fresh H O' → Ow K cls F' H' v d O' → Q v H') : t σ H Q := by
  refine ha.toO σ F H g O Q s st ?_
  cases e : fa g with
  | ok k =>
    rw [oF_ok e]
    rw [e] at hb hk
    rcases kp_ok (d := k) with e2 | e2
    · rw [e2]; exact hk k e2
    · exact (hb e2).elim
  | xc c => rw [oF_xc e]; exact hx c e
  | bad => rw [e] at hb; exact (hb rfl).elim
theorem dt_chain {r r' : R2} {op op' : D → D → Option Bool} {ta tb tc : TE} (hr : C2Ok K cls r op) (hr' : C2Ok K cls r' op') (ha : DE K cls W ta fa) (hb : DE K cls W tb fb) (hc : DE K cls W tc fc) :
    DE K cls W (tChain r r' ta tb tc) (eB (tCh op op' fa fb fc)) := by
  intro σ F H g O Q s st p
  rw [eB_, tCh_] at p
  refine ha.go s st (fun c e => by rw [e] at p; exact p) (fun e => by rw [e] at p; exact p) fun da ea va F1 H1 x1 b1 => ?_
  rw [ea] at p
  simp only [Res.bind] at p
  refine hb.go x1.fh (st.ext x1) (fun c e F' H' x => by rw [e] at p; exact p F' H' (x1.trans x)) (fun e => by rw [e] at p; exact p) fun db eb vb F2 H2 x2 b2 => ?_
  rw [eb] at p
  simp only [] at p
  cases eo : op (opd da) (opd db) with
  | none => rw [eo] at p; exact p.elim
  | some k =>
    rw [eo] at p
    simp only [Res.of] at p
    refine hr F2 H2 va vb _ _ k _ x2.fh (b1.ext x2) b2 eo ⟨k, rfl, ?_⟩
    cases k with
    | true =>
      rw [if_pos rfl] at p
      rw [if_pos rfl]
      have x12 := x1.trans x2
      refine hc.go x2.fh ((st.ext x1).ext x2) (fun c e F' H' x => by rw [e] at p; exact p F' H' (x12.trans x)) (fun e => by rw [e] at p; exact p) fun dc ec vc F3 H3 x3 b3 => ?_
      rw [ec] at p
      simp only [] at p
      cases eo' : op' (opd db) (opd dc) with
      | none => rw [eo'] at p; exact p.elim
      | some k' =>
        rw [eo'] at p
        exact hr' F3 H3 vb vc _ _ k' _ x3.fh (b2.ext x3) b3 eo' (p _ F3 H3 [] (x12.trans x3) Fresh.nil (.inl (.sh (.bl k'))))
    | false =>
      rw [if_neg (by decide)] at p
      rw [if_neg (by decide)]
      exact p _ F2 H2 [] (x1.trans x2) Fresh.nil (.inl (.sh (.bl false)))
theorem je_chain {o o' : CmpOp} {r r' : R2} {op op' : D → D → Option Bool} (ho : OpR X (compareOp o) r) (ho' : OpR X (compareOp o') r') (hr : C2Ok X.K cls r op) (hr' : C2Ok X.K cls r' op') (ha : JE X cls W a fa) (hb : JE X cls W b fb) (hc : JE X cls W c fc)
    (hm : lastMarks [o, o'] [b, c] = false := by with_unfolding_all rfl) : JE X cls W (.Compare a [o, o'] [b, c] pos) (eB (tCh op op' fa fb fc)) := by
  obtain ⟨ta, pa, da⟩ := ha.ex
  obtain ⟨tb, pb, db⟩ := hb.ex
  obtain ⟨tc, pc, dc⟩ := hc.ex
  exact ⟨_, pe_chain ho ho' pa pb pc hm, dt_chain hr hr' da db dc⟩
theorem jt_chain {o o' : CmpOp} {r r' : R2} {op op' : D → D → Option Bool} (ho : OpR X (compareOp o) r) (ho' : OpR X (compareOp o') r') (hr : C2Ok X.K cls r op) (hr' : C2Ok X.K cls r' op') (ha : JE X cls W a fa) (hb : JE X cls W b fb) (hc : JE X cls W c fc)
    (hm : lastMarks [o, o'] [b, c] = false := by with_unfolding_all rfl) : JT X cls W (.Compare a [o, o'] [b, c] pos) (tCh op op' fa fb fc) := by
  obtain ⟨ta, pa, da⟩ := ha.ex
  obtain ⟨tb, pb, db⟩ := hb.ex
  obtain ⟨tc, pc, dc⟩ := hc.ex
  exact ⟨_, pt_chain ho ho' pa pb pc hm, dt_of (dt_chain hr hr' da db dc)⟩
end
end DL

namespace DL
open PySem L2
/-! ### the shapes of data -/
def shd1 : D → Bool
  | .bo _ => false
  | .bd _ _ => false
  | .bb _ _ => false
  | _ => true
@[simp] theorem shd1_bo {b} : shd1 (.bo b) = false := rfl
@[simp] theorem shd1_bd {k b} : shd1 (.bd k b) = false := rfl
@[simp] theorem shd1_bb {k b} : shd1 (.bb k b) = false := rfl
@[simp] theorem shd1_un : shd1 .un = true := rfl
@[simp] theorem shd1_non : shd1 .non = true := rfl
@[simp] theorem shd1_bl {b} : shd1 (.bl b) = true := rfl
@[simp] theorem shd1_int {b} : shd1 (.int b) = true := rfl
@[simp] theorem shd1_str {b} : shd1 (.str b) = true := rfl
@[simp] theorem shd1_sc {b} : shd1 (.sc b) = true := rfl
@[simp] theorem shd1_ls {b} : shd1 (.ls b) = true := rfl
@[simp] theorem shd1_tp {b} : shd1 (.tp b) = true := rfl
@[simp] theorem shd1_ob {k b} : shd1 (.ob k b) = true := rfl
@[simp] theorem shd1_rf {b} : shd1 (.rf b) = true := rfl
/-- all items may be kept -/
def shd (l : List D) : Bool := l.all shd1
@[simp] theorem shd_nil : shd [] = true := rfl
@[simp] theorem shd_cons (d : D) (l : List D) : shd (d :: l) = (shd1 d && shd l) := rfl
/-- a list whose items may be kept -/
@[simp] def lsv : D → Option (List D)
  | .ls xs => some xs
  | .bo xs => if shd xs = true then some xs else none
  | _ => none
/-- a list (the script too), any items -/
@[simp] def sqL : D → Option (List D)
  | .ls xs => some xs
  | .sc xs => some xs
  | .bo xs => some xs
  | _ => none
@[simp] def sqK : D → Option (List D)
  | .ls xs => some xs
  | .sc xs => some xs
  | .bo xs => if shd xs = true then some xs else none
  | _ => none
@[simp] def intOf : D → Option Int
  | .int i => some i
  | _ => none
@[simp] def strOf : D → Option Str
  | .str i => some i
  | _ => none
@[simp] def blOf : D → Option Bool
  | .bl i => some i
  | _ => none
def intsOf : List D → Option (List Int)
  | [] => some []
  | d :: ds => match intOf d, intsOf ds with
    | some i, some is => some (i :: is)
    | _, _ => none
def strsOf : List D → Option (List Str)
  | [] => some []
  | d :: ds => match strOf d, strsOf ds with
    | some i, some is => some (i :: is)
    | _, _ => none
def blsOf : List D → Option (List Bool)
  | [] => some []
  | d :: ds => match blOf d, blsOf ds with
    | some i, some is => some (i :: is)
    | _, _ => none
theorem intsOf_eq : ∀ {ds : List D} {ns : List Int}, intsOf ds = some ns → ds = ns.map D.int
  | [], ns, h => by simp [intsOf] at h; subst h; rfl
  | d :: ds, ns, h => by
    unfold intsOf at h
    cases d <;> simp at h
    cases q : intsOf ds with
    | none => rw [q] at h; simp at h
    | some is => rw [q] at h; simp at h; subst h; rw [intsOf_eq q]; rfl
theorem strsOf_eq : ∀ {ds : List D} {ns : List Str}, strsOf ds = some ns → ds = ns.map D.str
  | [], ns, h => by simp [strsOf] at h; subst h; rfl
  | d :: ds, ns, h => by
    unfold strsOf at h
    cases d <;> simp at h
    cases q : strsOf ds with
    | none => rw [q] at h; simp at h
    | some is => rw [q] at h; simp at h; subst h; rw [strsOf_eq q]; rfl
theorem blsOf_eq : ∀ {ds : List D} {ns : List Bool}, blsOf ds = some ns → ds = ns.map D.bl
  | [], ns, h => by simp [blsOf] at h; subst h; rfl
  | d :: ds, ns, h => by
    unfold blsOf at h
    cases d <;> simp at h
    cases q : blsOf ds with
    | none => rw [q] at h; simp at h
    | some is => rw [q] at h; simp at h; subst h; rw [blsOf_eq q]; rfl
@[simp] theorem intsOf_map : ∀ ns : List Int, intsOf (ns.map D.int) = some ns
  | [] => rfl
  | n :: ns => by simp [intsOf, intsOf_map ns]
@[simp] theorem intsOf_nil : intsOf [] = some [] := rfl
@[simp] theorem intsOf_cons (i : Int) (ds : List D) : intsOf (.int i :: ds) = (intsOf ds).map (i :: ·) := by
  simp only [intsOf, intOf]; cases intsOf ds <;> rfl
@[simp] theorem strsOf_map : ∀ ns : List Str, strsOf (ns.map D.str) = some ns
  | [] => rfl
  | n :: ns => by simp [strsOf, strsOf_map ns]
@[simp] theorem strsOf_nil : strsOf [] = some [] := rfl
@[simp] theorem strsOf_cons (i : Str) (ds : List D) : strsOf (.str i :: ds) = (strsOf ds).map (i :: ·) := by
  simp only [strsOf, strOf]; cases strsOf ds <;> rfl
@[simp] theorem blsOf_map : ∀ ns : List Bool, blsOf (ns.map D.bl) = some ns
  | [] => rfl
  | n :: ns => by simp [blsOf, blsOf_map ns]
@[simp] theorem blsOf_nil : blsOf [] = some [] := rfl
@[simp] theorem blsOf_cons (i : Bool) (ds : List D) : blsOf (.bl i :: ds) = (blsOf ds).map (i :: ·) := by
  simp only [blsOf, blOf]; cases blsOf ds <;> rfl

section
variable {K : PySem.W.Frag} {cls : Cls} {W : WX} {X : Cx} {F H F' H' : Hp} {Q : VK} {σ : St}
theorem Rps.len {vs : List V} {ds : List D} (h : Rps K cls F vs ds) : vs.length = ds.length := by
  induction ds generalizing vs with
  | nil => cases h; rfl
  | cons d ds ih => cases h with | cons a b => simp [ih b]
theorem Bos.len {vs : List V} {ds : List D} (h : Bos K cls F H vs ds) : vs.length = ds.length := by
  induction ds generalizing vs with
  | nil => cases h; rfl
  | cons d ds ih => cases h with | cons a b => simp [ih b]
theorem Ows.len {vs : List V} {ds : List D} {O : List Addr} (h : Ows K cls F H vs ds O) : vs.length = ds.length := by
  induction ds generalizing vs O with
  | nil => cases h; rfl
  | cons d ds ih => cases h with | cons a b => simp [ih b]
theorem Rps.toBos {vs : List V} {ds : List D} (h : Rps K cls F vs ds) : Bos K cls F H vs ds := by
  induction ds generalizing vs with
  | nil => cases h; exact .nil
  | cons d ds ih => cases h with | cons a b => exact .cons (.sh a) (ih b)
theorem Rps.toOws {vs : List V} {ds : List D} (h : Rps K cls F vs ds) : Ows K cls F H vs ds [] := by
  induction ds generalizing vs with
  | nil => cases h; exact .nil
  | cons d ds ih => cases h with | cons a b => exact .cons (.sh a) (ih b) (fun _ q => (nomatch q)) rfl
theorem Bo.toRp {v : V} {d : D} (h : Bo K cls F H v d) (e : shd1 d = true) : Rp K cls F v d := by
  cases h with
  | sh r => exact r
  | bo => simp at e
  | bd => simp at e
  | bb => simp at e
theorem Bos.toRps {vs : List V} {ds : List D} (h : Bos K cls F H vs ds) (e : shd ds = true) : Rps K cls F vs ds := by
  induction ds generalizing vs with
  | nil => cases h; exact .nil
  | cons d ds ih =>
    cases h with
    | cons a b =>
      simp only [shd, List.all_cons, Bool.and_eq_true] at e
      exact .cons (a.toRp e.1) (ih b e.2)
theorem Bos.get : ∀ {vs : List V} {ds : List D} {i : Nat} {d : D}, Bos K cls F H vs ds → ds[i]? = some d → ∃ v, vs[i]? = some v ∧ Bo K cls F H v d
  | _, _, _, _, .nil, e => by simp at e
  | _, _, 0, _, .cons r _, e => by simp at e; subst e; exact ⟨_, rfl, r⟩
  | _, _, i + 1, _, .cons _ t, e => by
    obtain ⟨v, h1, h2⟩ := Bos.get (i := i) t (by simpa using e)
    exact ⟨v, by simpa using h1, h2⟩
theorem Rps.get : ∀ {vs : List V} {ds : List D} {i : Nat} {d : D}, Rps K cls F vs ds → ds[i]? = some d → ∃ v, vs[i]? = some v ∧ Rp K cls F v d
  | _, _, _, _, .nil, e => by simp at e
  | _, _, 0, _, .cons r _, e => by simp at e; subst e; exact ⟨_, rfl, r⟩
  | _, _, i + 1, _, .cons _ t, e => by
    obtain ⟨v, h1, h2⟩ := Rps.get (i := i) t (by simpa using e)
    exact ⟨v, by simpa using h1, h2⟩
theorem Rps.getV : ∀ {vs : List V} {ds : List D} {i : Nat} {v : V}, Rps K cls F vs ds → vs[i]? = some v → ∃ d, ds[i]? = some d ∧ Rp K cls F v d
  | _, _, _, _, .nil, e => by simp at e
  | _, _, 0, _, .cons r _, e => by simp at e; subst e; exact ⟨_, rfl, r⟩
  | _, _, i + 1, _, .cons _ t, e => by
    obtain ⟨v, h1, h2⟩ := Rps.getV (i := i) t (by simpa using e)
    exact ⟨v, by simpa using h1, h2⟩
theorem Rps.append : ∀ {vs ws : List V} {ds es : List D}, Rps K cls F vs ds → Rps K cls F ws es → Rps K cls F (vs ++ ws) (ds ++ es)
  | _, _, _, _, .nil, h => h
  | _, _, _, _, .cons a b, h => .cons a (b.append h)
theorem Rps.take : ∀ {vs : List V} {ds : List D} (n : Nat), Rps K cls F vs ds → Rps K cls F (vs.take n) (ds.take n)
  | _, _, 0, _ => by simp; exact .nil
  | _, _, n + 1, .nil => by simp; exact .nil
  | _, _, n + 1, .cons a b => .cons a (b.take n)
theorem Rps.drop : ∀ {vs : List V} {ds : List D} (n : Nat), Rps K cls F vs ds → Rps K cls F (vs.drop n) (ds.drop n)
  | _, _, 0, h => h
  | _, _, n + 1, .nil => by simp; exact .nil
  | _, _, n + 1, .cons a b => b.drop n
theorem Rps.reverse {vs : List V} {ds : List D} (h : Rps K cls F vs ds) : Rps K cls F vs.reverse ds.reverse := by
  induction ds generalizing vs with
  | nil => cases h; exact .nil
  | cons d ds ih =>
    cases h with
    | cons a b =>
      rw [List.reverse_cons, List.reverse_cons]
      exact (ih b).append (.cons a .nil)
theorem Rps.ints {vs : List V} : ∀ {ns : List Int}, Rps K cls F vs (ns.map D.int) → vs = ns.map V.int := by
  intro ns
  induction ns generalizing vs with
  | nil => intro h; cases h; rfl
  | cons n ns ih => intro h; cases h with | cons a b => cases a; rw [ih b]; rfl
theorem Bos.ints {vs : List V} : ∀ {ns : List Int}, Bos K cls F H vs (ns.map D.int) → vs = ns.map V.int := by
  intro ns
  induction ns generalizing vs with
  | nil => intro h; cases h; rfl
  | cons n ns ih => intro h; cases h with | cons a b => cases a with | sh a => cases a; rw [ih b]; rfl
theorem Bos.strs {vs : List V} : ∀ {ns : List Str}, Bos K cls F H vs (ns.map D.str) → vs = ns.map V.str := by
  intro ns
  induction ns generalizing vs with
  | nil => intro h; cases h; rfl
  | cons n ns ih => intro h; cases h with | cons a b => cases a with | sh a => cases a; rw [ih b]; rfl
theorem Bos.bls {vs : List V} : ∀ {ns : List Bool}, Bos K cls F H vs (ns.map D.bl) → vs = ns.map V.bl := by
  intro ns
  induction ns generalizing vs with
  | nil => intro h; cases h; rfl
  | cons n ns ih => intro h; cases h with | cons a b => cases a with | sh a => cases a; rw [ih b]; rfl
theorem rps_ints : ∀ {ns : List Int}, Rps K cls F (ns.map V.int) (ns.map D.int)
  | [] => .nil
  | n :: ns => .cons (.int n) rps_ints
theorem rps_strs : ∀ {ns : List Str}, Rps K cls F (ns.map V.str) (ns.map D.str)
  | [] => .nil
  | n :: ns => .cons (.str n) rps_strs
theorem Bo.lsv {v : V} {d : D} {xs : List D} (s : Same F H) (b : Bo K cls F H v d) (e : lsv d = some xs) : ∃ a vs, v = .ref a ∧ H a = some (.lst vs) ∧ Rps K cls F vs xs := by
  cases b with
  | sh r => cases r <;> simp at e <;> (subst e; exact ⟨_, _, rfl, s _ _ (by assumption), by assumption⟩)
  | bo h r =>
    simp at e
    obtain ⟨e1, e2⟩ := e
    subst e2
    exact ⟨_, _, rfl, h, r.toRps (by simpa using e1)⟩
  | bd => simp at e
  | bb => simp at e
theorem Bo.sqL {v : V} {d : D} {xs : List D} (s : Same F H) (b : Bo K cls F H v d) (e : sqL d = some xs) : ∃ a vs, v = .ref a ∧ SqL K H a vs ∧ Bos K cls F H vs xs := by
  cases b with
  | sh r =>
    cases r <;> simp at e
    · subst e; exact ⟨_, _, rfl, s.seq (by assumption), Rps.toBos (by assumption)⟩
    · subst e; exact ⟨_, _, rfl, SqL.of (s _ _ (by assumption)), Rps.toBos (by assumption)⟩
  | bo h r => simp at e; subst e; exact ⟨_, _, rfl, SqL.of h, r⟩
  | bd => simp at e
  | bb => simp at e
theorem Bo.sqK {v : V} {d : D} {xs : List D} (s : Same F H) (b : Bo K cls F H v d) (e : sqK d = some xs) : ∃ a vs, v = .ref a ∧ SqL K H a vs ∧ Rps K cls F vs xs := by
  cases b with
  | sh r =>
    cases r <;> simp at e
    · subst e; exact ⟨_, _, rfl, s.seq (by assumption), by assumption⟩
    · subst e; exact ⟨_, _, rfl, SqL.of (s _ _ (by assumption)), by assumption⟩
  | bo h r =>
    simp at e
    obtain ⟨e1, e2⟩ := e
    subst e2
    exact ⟨_, _, rfl, SqL.of h, r.toRps (by simpa using e1)⟩
  | bd => simp at e
  | bb => simp at e
@[simp] def tpv : D → Option (List D)
  | .tp xs => some xs
  | _ => none
theorem Bo.tpv {v : V} {d : D} {xs : List D} (s : Same F H) (b : Bo K cls F H v d) (e : tpv d = some xs) : ∃ a vs, v = .ref a ∧ SqT K H a vs ∧ SqT K F a vs ∧ Rps K cls F vs xs := by
  cases b with
  | sh r => cases r <;> simp at e <;> (subst e; exact ⟨_, _, rfl, sameT s (by assumption), by assumption, by assumption⟩)
  | bo => simp at e
  | bd => simp at e
  | bb => simp at e
theorem Bo.int {v : V} {i : Int} (b : Bo K cls F H v (.int i)) : v = .int i := by cases b with | sh r => cases r; rfl
theorem Bo.str {v : V} {i : Str} (b : Bo K cls F H v (.str i)) : v = .str i := by cases b with | sh r => cases r; rfl
theorem Bo.bl {v : V} {i : Bool} (b : Bo K cls F H v (.bl i)) : v = .bl i := by cases b with | sh r => cases r; rfl
theorem Bo.non {v : V} (b : Bo K cls F H v .non) : v = .non := by cases b with | sh r => cases r; rfl

/-! ### new objects -/
theorem upd_same' {a : Addr} {o : HO} (hn : H a = none) : Same H (upd H a o) := fun b u e => by rw [upd_ne (ne_of_none e hn)]; exact e
/-- a new object that stays ours -/
theorem Ext.own {a : Addr} {o : HO} (s : Same F H) (hn : H a = none) : Ext F H F (upd H a o) := ⟨.refl F, upd_same' hn, s.trans (upd_same' hn), fun _ h _ => h⟩
/-- a new object that is shared -/
theorem Ext.put {a : Addr} {o : HO} (s : Same F H) (hn : H a = none) : Ext F H (upd F a o) (upd H a o) := by
  have hf : F a = none := by
    cases q : F a with
    | none => rfl
    | some u => rw [s a u q] at hn; cases hn
  refine ⟨upd_same' hf, upd_same' hn, fun b u e => ?_, fun b h1 h2 => ?_⟩
  · by_cases hb : b = a
    · subst hb; rw [upd_same] at e ⊢; exact e
    · rw [upd_ne hb] at e ⊢; exact s b u e
  · have hb : b ≠ a := fun z => h2 (by rw [z]; exact hn)
    rw [upd_ne hb]; exact h1
theorem ow_new {a : Addr} {vs : List V} {ds : List D} {O : List Addr} (s : Same F H) (hn : H a = none) (r : Ows K cls F H vs ds O) : Ow K cls F (upd H a (.lst vs)) (.ref a) (.ol ds) (a :: O) := by
  have hf : F a = none := by
    cases q : F a with
    | none => rfl
    | some u => rw [s a u q] at hn; cases hn
  have no : a ∉ O := fun q => (r.dom a q).2 hn
  exact .ol hf upd_same no (r.frame (.refl F) fun b hb => ⟨upd_ne fun z => no (z ▸ hb), (r.dom b hb).1⟩)
theorem fresh_new {a : Addr} (hn : H a = none) : Fresh H [a] := fun b hb => by simp at hb; subst hb; exact hn

/-! ### operators -/
@[simp] def mulOk (i j : Int) : Prop := ((-(2 ^ 64) < i ∧ i < 2 ^ 64) ∨ (-(2 ^ 64) < j ∧ j < 2 ^ 64)) ∨ i.natAbs.log2 + j.natAbs.log2 < 100000000
def divOk (j : Int) : Prop := j ≠ 0 ∧ (j.natAbs < 1073741824 ∨ j.natAbs.log2 < 9000)
instance (i j : Int) : Decidable (mulOk i j) := by unfold mulOk; infer_instance
instance (j : Int) : Decidable (divOk j) := by unfold divOk; infer_instance
instance (i j : Int) : Decidable (CPow i j) := by unfold CPow; infer_instance
def lim : Nat := 1000000
theorem lim_ok {n : Nat} (h : n ≤ lim) : n ≤ sizeLine := Nat.le_trans h (Nat.le_of_lt lim_line)
theorem lim_lt {n : Nat} (h : n < lim) : n < sizeLine := Nat.lt_trans h lim_line

def opAddL (a b : D) : Option D := match lsv a, lsv b with
    | some xs, some ys => if xs.length + ys.length ≤ lim then some (.ol (xs ++ ys)) else none
    | _, _ => none
def opAdd : D → D → Option D
  | .int i, .int j => some (.int (i + j))
  | .str x, .str y => if x.length + y.length ≤ lim then some (.str (x ++ y)) else none
  | .tp xs, .tp ys => if xs.length + ys.length ≤ lim then some (.tp (xs ++ ys)) else none
  | a, b => opAddL a b
def opSub : D → D → Option D
  | .int i, .int j => some (.int (i - j))
  | _, _ => none
def opMul : D → D → Option D
  | .int i, .int j => if mulOk i j then some (.int (i * j)) else none
  | a, .int k => match lsv a with
    | some xs => if k < 2 ^ 63 ∧ -(2 ^ 63) ≤ k ∧ xs.length * k.toNat ≤ lim then some (.ol (List.replicate k.toNat xs).flatten) else none
    | none => none
  | _, _ => none
def opDiv : D → D → Option D
  | .int i, .int j => if divOk j then some (.int (if 0 < j then i / j else i.fdiv j)) else none
  | _, _ => none
def opMod : D → D → Option D
  | .int i, .int j => if j ≠ 0 then some (.int (if 0 < j then i % j else i.fmod j)) else none
  | _, _ => none
def opPow : D → D → Option D
  | .int i, .int j => if CPow i j then some (.int (i ^ j.toNat)) else none
  | _, _ => none
def opNeg : D → Option D
  | .int i => some (.int (-i))
  | _ => none
def rAdd4 (K : PySem.W.Frag) : R2 := fun x y H Q => ((rI0 fun i j => .int (i + j)) x y H Q ∨ (∃ i j, x = .str i ∧ y = .str j ∧ i.length + j.length ≤ sizeLine ∧ Q (.str (i ++ j)) H)) ∨ (rCat x y H Q ∨ rCatA K x y H Q)
theorem op_add4 : OpR X (binaryOp .Add) (rAdd4 X.K) := (op_add.or op_add_str).or (op_cat.or op_catA)
theorem pi1 {v : V} {d : D} (s : Same F H) (r : Rp K cls F v d) (q : ∀ v F' H' O', Ext F H F' H' → Fresh H O' → Tm K cls F' H' v d O' → Q v H') : Q v H := q v F H [] (.refl s) Fresh.nil (.inl (.sh r))
theorem ok_add : R2Ok K cls (rAdd4 K) opAdd := by
  intro F H x y a b d Q s b1 b2 e q
  unfold opAdd at e
  split at e
  · cases e
    obtain rfl := b1.int
    obtain rfl := b2.int
    exact .inl (.inl ⟨_, _, rfl, rfl, pi1 s (.int _) q⟩)
  · split at e
    · rename_i h
      cases e
      obtain rfl := b1.str
      obtain rfl := b2.str
      exact .inl (.inr ⟨_, _, rfl, rfl, lim_ok h, pi1 s (.str _) q⟩)
    · cases e
  · rename_i xs ys
    split at e
    · rename_i h
      cases e
      obtain ⟨a1, vs, rfl, h1, f1, r1⟩ := b1.tpv s (xs := xs) rfl
      obtain ⟨a2, ws, rfl, h2, f2, r2⟩ := b2.tpv s (xs := ys) rfl
      have l1 := r1.len
      have l2 := r2.len
      refine .inr (.inr ⟨_, _, vs, ws, rfl, rfl, h1, h2, lim_ok (by rw [l1, l2]; exact h), fun e => ?_, fun e1 e2 => ?_, fun e1 e2 p hp => ?_⟩)
      · subst e
        cases r1
        exact pi1 s (.tp f2 r2) q
      · subst e2
        cases r2
        rw [List.append_nil] at q
        exact pi1 s (.tp f1 r1) q
      · exact q _ _ _ [] (Ext.put s hp) Fresh.nil (.inl (.sh (.tp (SqT.of upd_same) ((r1.append r2).mono (Ext.put s hp).ff))))
    · cases e
  · unfold opAddL at e
    split at e
    · rename_i xs ys q1 q2
      split at e
      · rename_i h
        cases e
        obtain ⟨a1, vs, rfl, h1, r1⟩ := b1.lsv s q1
        obtain ⟨a2, ws, rfl, h2, r2⟩ := b2.lsv s q2
        refine .inr (.inl ⟨_, _, _, _, rfl, rfl, h1, h2, lim_ok (by rw [r1.len, r2.len]; exact h), fun p hp => ?_⟩)
        exact q _ _ _ [p] (Ext.own s hp) (fresh_new hp) (.inl (ow_new s hp (r1.append r2).toOws))
      · cases e
    · cases e
theorem ok_sub : R2Ok K cls (rI0 fun i j => .int (i - j)) opSub := by
  intro F H x y a b d Q s b1 b2 e q
  unfold opSub at e
  split at e
  · cases e
    obtain rfl := b1.int
    obtain rfl := b2.int
    exact ⟨_, _, rfl, rfl, pi1 s (.int _) q⟩
  · cases e
theorem mulW_ok {a b : Int} (h : a.natAbs.log2 + b.natAbs.log2 < 100000000) : IntMulOk a b := by
  unfold IntMulOk Builtin.Int.intTooBig
  have h1 : ∀ z : Int, Builtin.Int.intBits z ≤ z.natAbs.log2 + 1 := fun z => by unfold Builtin.Int.intBits; split <;> omega
  have h3 := h1 a
  have h4 := h1 b
  have h5 := bitsLine_eq
  simp only [Bool.and_eq_true, decide_eq_true_eq]
  omega
theorem op_mulX : OpR X (binaryOp .Mult) (rI mulOk fun i j => .int (i * j)) := opI fun _ _ _ _ _ _ _ hc q => PyProof.Rows.mul_int q (by
  rcases hc with hc | hc
  · exact CMul.ok hc
  · exact mulW_ok hc)
theorem op_mul4 : OpR X (binaryOp .Mult) (fun x y H Q => (rI mulOk fun i j => .int (i * j)) x y H Q ∨ rRep x y H Q) := op_mulX.or op_rep
theorem Rps.rep {vs : List V} {ds : List D} (h : Rps K cls F vs ds) : ∀ k : Nat, Rps K cls F (List.replicate k vs).flatten (List.replicate k ds).flatten
  | 0 => by simp; exact .nil
  | k + 1 => by rw [List.replicate_succ, List.replicate_succ, List.flatten_cons, List.flatten_cons]; exact h.append (h.rep k)
theorem ok_mul : R2Ok K cls (fun x y H Q => (rI mulOk fun i j => .int (i * j)) x y H Q ∨ rRep x y H Q) opMul := by
  intro F H x y a b d Q s b1 b2 e q
  unfold opMul at e
  split at e
  · split at e
    · rename_i h
      cases e
      obtain rfl := b1.int
      obtain rfl := b2.int
      exact .inl ⟨_, _, rfl, rfl, h, pi1 s (.int _) q⟩
    · cases e
  · split at e
    · rename_i xs q1
      split at e
      · rename_i h
        cases e
        obtain rfl := b2.int
        obtain ⟨a1, vs, rfl, h1, r1⟩ := b1.lsv s q1
        refine .inr ⟨_, _, _, rfl, rfl, h1, h.2.1, h.1, lim_ok (by rw [r1.len]; exact h.2.2), fun p hp => ?_⟩
        exact q _ _ _ [p] (Ext.own s hp) (fresh_new hp) (.inl (ow_new s hp (r1.rep _).toOws))
      · cases e
    · cases e
  · cases e
theorem op_divX : OpR X (binaryOp .FloorDiv) (rI (fun _ j => divOk j) fun i j => .int (if 0 < j then i / j else i.fdiv j)) := opI fun i j _ _ _ _ _ hc q => by
  have e : (if 0 < j then i / j else i.fdiv j) = i.fdiv j := by
    split
    · rw [Int.fdiv_eq_ediv_of_nonneg i (by omega)]
    · rfl
  rw [e] at q
  rcases hc with ⟨h0, h | h⟩
  · exact PyProof.Rows.floordiv_int h0 q (.inl (PyProof.noPylong_small h))
  · exact PyProof.Rows.floordiv_int h0 q (.inl (PyProof.noPylong_of_log2 h))
theorem ok_div : R2Ok K cls (rI (fun _ j => divOk j) fun i j => .int (if 0 < j then i / j else i.fdiv j)) opDiv := by
  intro F H x y a b d Q s b1 b2 e q
  unfold opDiv at e
  split at e
  · rename_i i j
    by_cases h : divOk j
    · rw [if_pos h] at e
      cases e
      obtain rfl := b1.int
      obtain rfl := b2.int
      exact ⟨_, _, rfl, rfl, h, pi1 s (.int _) q⟩
    · rw [if_neg h] at e; cases e
  · cases e
theorem op_modX : OpR X (binaryOp .Mod) (rI (fun _ j => j ≠ 0) fun i j => .int (if 0 < j then i % j else i.fmod j)) := opI fun i j _ _ _ _ _ hc q => by
  have e : (if 0 < j then i % j else i.fmod j) = i.fmod j := by
    split
    · rw [Int.fmod_eq_emod_of_nonneg i (by omega)]
    · rfl
  rw [e] at q
  exact PyProof.Rows.mod_int' hc q
theorem ok_mod : R2Ok K cls (rI (fun _ j => j ≠ 0) fun i j => .int (if 0 < j then i % j else i.fmod j)) opMod := by
  intro F H x y a b d Q s b1 b2 e q
  unfold opMod at e
  split at e
  · rename_i i j
    by_cases h : j ≠ 0
    · rw [if_pos h] at e
      cases e
      obtain rfl := b1.int
      obtain rfl := b2.int
      exact ⟨_, _, rfl, rfl, h, pi1 s (.int _) q⟩
    · rw [if_neg h] at e; cases e
  · cases e
theorem ok_pow : R2Ok K cls (rI CPow fun i j => .int (i ^ j.toNat)) opPow := by
  intro F H x y a b d Q s b1 b2 e q
  unfold opPow at e
  split at e
  · rename_i i j
    by_cases h : CPow i j
    · rw [if_pos h] at e
      cases e
      obtain rfl := b1.int
      obtain rfl := b2.int
      exact ⟨_, _, rfl, rfl, h, pi1 s (.int _) q⟩
    · rw [if_neg h] at e; cases e
  · cases e
theorem ok_neg : R1Ok K cls (rU fun i => .int (-i)) opNeg := by
  intro F H x a d Q s b1 e q
  unfold opNeg at e
  split at e
  · cases e
    obtain rfl := b1.int
    exact ⟨_, rfl, pi1 s (.int _) q⟩
  · cases e

/-! ### comparisons -/
def cLt : D → D → Option Bool
  | .int i, .int j => some (decide (i < j))
  | _, _ => none
def cLe : D → D → Option Bool
  | .int i, .int j => some (decide (i ≤ j))
  | _, _ => none
def cGt : D → D → Option Bool
  | .int i, .int j => some (decide (j < i))
  | _, _ => none
def cGe : D → D → Option Bool
  | .int i, .int j => some (decide (j ≤ i))
  | _, _ => none
theorem ok_lt : C2Ok K cls (rI0 fun i j => .bl (decide (i < j))) cLt := by
  intro F H x y a b d Q s b1 b2 e q
  unfold cLt at e
  split at e
  · cases e
    obtain rfl := b1.int
    obtain rfl := b2.int
    exact ⟨_, _, rfl, rfl, q⟩
  · cases e
theorem ok_le : C2Ok K cls (rI0 fun i j => .bl (decide (i ≤ j))) cLe := by
  intro F H x y a b d Q s b1 b2 e q
  unfold cLe at e
  split at e
  · cases e
    obtain rfl := b1.int
    obtain rfl := b2.int
    exact ⟨_, _, rfl, rfl, q⟩
  · cases e
theorem ok_gt : C2Ok K cls (rI0 fun i j => .bl (decide (j < i))) cGt := by
  intro F H x y a b d Q s b1 b2 e q
  unfold cGt at e
  split at e
  · cases e
    obtain rfl := b1.int
    obtain rfl := b2.int
    exact ⟨_, _, rfl, rfl, q⟩
  · cases e
theorem ok_ge : C2Ok K cls (rI0 fun i j => .bl (decide (j ≤ i))) cGe := by
  intro F H x y a b d Q s b1 b2 e q
  unfold cGe at e
  split at e
  · cases e
    obtain rfl := b1.int
    obtain rfl := b2.int
    exact ⟨_, _, rfl, rfl, q⟩
  · cases e
mutual
def toPy : D → Option PyData
  | .non => some .none
  | .bl b => some (.bool b)
  | .int i => some (.int i)
  | .str x => some (.str x)
  | .sc xs => (toPys xs).map .list
  | .ls xs => (toPys xs).map .list
  | .bo xs => (toPys xs).map .list
  | .tp xs => (toPys xs).map .tuple
  | _ => none
def toPys : List D → Option (List PyData)
  | [] => some []
  | d :: ds => match toPy d, toPys ds with
    | some p, some ps => some (p :: ps)
    | _, _ => none
end
mutual
theorem Rp.dp (s : Same F H) : ∀ {v : V} {d : D} {p : PyData}, Rp K cls F v d → toPy d = some p → Dp K H v p
  | _, _, _, .non, e => by simp [toPy] at e; subst e; exact .non
  | _, _, _, .bl b, e => by simp [toPy] at e; subst e; exact .bl b
  | _, _, _, .int b, e => by simp [toPy] at e; subst e; exact .int b
  | _, _, _, .str b, e => by simp [toPy] at e; subst e; exact .str b
  | _, _, _, .sc (ds := ds) h r, e => by
    simp [toPy] at e
    obtain ⟨ps, e1, e2⟩ := e
    subst e2
    exact .lst (s.seq h) (Rps.dp s r e1)
  | _, _, _, .ls (ds := ds) h r, e => by
    simp [toPy] at e
    obtain ⟨ps, e1, e2⟩ := e
    subst e2
    exact .lst (SqL.of (s _ _ h)) (Rps.dp s r e1)
  | _, _, _, .tp (ds := ds) h r, e => by
    simp [toPy] at e
    obtain ⟨ps, e1, e2⟩ := e
    subst e2
    exact .tup (sameT s h) (Rps.dp s r e1)
  | _, _, _, .ob .., e => by simp [toPy] at e
theorem Rps.dp (s : Same F H) : ∀ {v : List V} {d : List D} {p : List PyData}, Rps K cls F v d → toPys d = some p → DpAll K H v p
  | _, _, _, .nil, e => by simp [toPys] at e; subst e; exact .nil
  | _, _, _, .cons (d := d) (ds := ds) a b, e => by
    unfold toPys at e
    cases q1 : toPy d with
    | none => rw [q1] at e; cases e
    | some p =>
      cases q2 : toPys ds with
      | none => rw [q1, q2] at e; cases e
      | some ps =>
        rw [q1, q2] at e
        cases e
        exact .cons (Rp.dp s a q1) (Rps.dp s b q2)
end
mutual
theorem Bo.dp (s : Same F H) : ∀ {v : V} {d : D} {p : PyData}, Bo K cls F H v d → toPy d = some p → Dp K H v p
  | _, _, _, .sh r, e => r.dp s e
  | _, _, _, .bo (ds := ds) h r, e => by
    simp [toPy] at e
    obtain ⟨ps, e1, e2⟩ := e
    subst e2
    exact .lst (SqL.of h) (Bos.dp s r e1)
  | _, _, _, .bd .., e => by simp [toPy] at e
theorem Bos.dp (s : Same F H) : ∀ {v : List V} {d : List D} {p : List PyData}, Bos K cls F H v d → toPys d = some p → DpAll K H v p
  | _, _, _, .nil, e => by simp [toPys] at e; subst e; exact .nil
  | _, _, _, .cons (d := d) (ds := ds) a b, e => by
    unfold toPys at e
    cases q1 : toPy d with
    | none => rw [q1] at e; cases e
    | some p =>
      cases q2 : toPys ds with
      | none => rw [q1, q2] at e; cases e
      | some ps =>
        rw [q1, q2] at e
        cases e
        exact .cons (Bo.dp s a q1) (Bos.dp s b q2)
end
def pyEq (a b : D) : Option Bool := match toPy a, toPy b with
  | some p, some q => if SeqAt.shaped p = true ∧ SeqAt.shaped q = true then some (PyData.eqv p q) else none
  | _, _ => none
def cEq : D → D → Option Bool
  | .int i, .int j => some (decide (i = j))
  | .str i, .str j => some (decide (i = j))
  | .bl i, .bl j => some (decide (i = j))
  | .non, .non => some true
  | .non, .int _ => some false
  | .int _, .non => some false
  | .int _, .str _ => some false
  | .str _, .int _ => some false
  | .non, .str _ => some false
  | .str _, .non => some false
  | a, b => pyEq a b
def cNe (a b : D) : Option Bool := (cEq a b).map (!·)
theorem cEq_ok {x y : V} {a b : D} {k : Bool} (s : Same F H) (b1 : Bo K cls F H x a) (b2 : Bo K cls F H y b) (e : cEq a b = some k) :
    (scal x y = true ∧ decide (x = y) = k) ∨ ∃ d e, Dp K H x d ∧ Dp K H y e ∧ SeqAt.shaped d = true ∧ SeqAt.shaped e = true ∧ PyData.eqv d e = k := by
  have py : ∀ {a b : D}, Bo K cls F H x a → Bo K cls F H y b → pyEq a b = some k → ∃ d e, Dp K H x d ∧ Dp K H y e ∧ SeqAt.shaped d = true ∧ SeqAt.shaped e = true ∧ PyData.eqv d e = k := fun {a b} b1 b2 e => by
    unfold pyEq at e
    split at e
    · rename_i p q h1 h2
      split at e
      · rename_i h
        cases e
        exact ⟨p, q, b1.dp s h1, b2.dp s h2, h.1, h.2, rfl⟩
      · cases e
    · cases e
  unfold cEq at e
  split at e
  · cases e; obtain rfl := b1.int; obtain rfl := b2.int; exact .inl ⟨rfl, by simp⟩
  · cases e; obtain rfl := b1.str; obtain rfl := b2.str; exact .inl ⟨rfl, by simp⟩
  · cases e; obtain rfl := b1.bl; obtain rfl := b2.bl; exact .inl ⟨rfl, by simp⟩
  · cases e; obtain rfl := b1.non; obtain rfl := b2.non; exact .inl ⟨rfl, by simp⟩
  · cases e; obtain rfl := b1.non; obtain rfl := b2.int; exact .inl ⟨rfl, by simp⟩
  · cases e; obtain rfl := b1.int; obtain rfl := b2.non; exact .inl ⟨rfl, by simp⟩
  · cases e; obtain rfl := b1.int; obtain rfl := b2.str; exact .inl ⟨rfl, by simp⟩
  · cases e; obtain rfl := b1.str; obtain rfl := b2.int; exact .inl ⟨rfl, by simp⟩
  · cases e; obtain rfl := b1.non; obtain rfl := b2.str; exact .inl ⟨rfl, by simp⟩
  · cases e; obtain rfl := b1.str; obtain rfl := b2.non; exact .inl ⟨rfl, by simp⟩
  · exact .inr (py b1 b2 e)
theorem ok_eq : C2Ok K cls (fun x y H Q => rEq x y H Q ∨ rEqD K x y H Q) cEq := by
  intro F H x y a b d Q s b1 b2 e q
  rcases cEq_ok s b1 b2 e with ⟨h1, h2⟩ | ⟨p, r, h1, h2, h3, h4, h5⟩
  · exact .inl ⟨h1, by rw [h2]; exact q⟩
  · exact .inr ⟨p, r, h1, h2, h3, h4, by rw [h5]; exact q⟩
theorem ok_ne : C2Ok K cls (fun x y H Q => rNe x y H Q ∨ rNeD K x y H Q) cNe := by
  intro F H x y a b d Q s b1 b2 e q
  unfold cNe at e
  cases e0 : cEq a b with
  | none => rw [e0] at e; cases e
  | some k =>
    rw [e0] at e
    cases e
    rcases cEq_ok s b1 b2 e0 with ⟨h1, h2⟩ | ⟨p, r, h1, h2, h3, h4, h5⟩
    · exact .inl ⟨h1, by rw [h2]; exact q⟩
    · exact .inr ⟨p, r, h1, h2, h3, h4, by rw [h5]; exact q⟩
theorem op_eq4 (hu : X.A.units + 64 < cLine) : OpR X (compareOp .Eq) (fun x y H Q => rEq x y H Q ∨ rEqD X.K x y H Q) := op_eq.or (op_eqD hu)
theorem op_ne4 (hu : X.A.units + 64 < cLine) : OpR X (compareOp .NotEq) (fun x y H Q => rNe x y H Q ∨ rNeD X.K x y H Q) := op_ne.or (op_neD hu)
def cIsN : D → D → Option Bool
  | .un, _ => none
  | a, .non => some (match a with | .non => true | _ => false)
  | _, _ => none
def cNotN (a b : D) : Option Bool := (cIsN a b).map (!·)
theorem cIsN_ok {x y : V} {a b : D} {k : Bool} (b1 : Bo K cls F H x a) (b2 : Bo K cls F H y b) (e : cIsN a b = some k) : y = .non ∧ decide (x = .non) = k := by
  unfold cIsN at e
  split at e
  · cases e
  · obtain rfl := b2.non
    refine ⟨rfl, ?_⟩
    cases e
    cases b1 with
    | sh r => cases r <;> simp
    | bo => simp
    | bd => simp
    | bb => simp
  · cases e
theorem ok_isN : C2Ok K cls (fun x y H Q => y = .non ∧ Q (.bl (decide (x = .non))) H) cIsN := by
  intro F H x y a b d Q s b1 b2 e q
  obtain ⟨h1, h2⟩ := cIsN_ok b1 b2 e
  exact ⟨h1, by rw [h2]; exact q⟩
theorem ok_notN : C2Ok K cls (fun x y H Q => y = .non ∧ Q (.bl (!decide (x = .non))) H) cNotN := by
  intro F H x y a b d Q s b1 b2 e q
  unfold cNotN at e
  cases e0 : cIsN a b with
  | none => rw [e0] at e; cases e
  | some k =>
    rw [e0] at e
    cases e
    obtain ⟨h1, h2⟩ := cIsN_ok b1 b2 e0
    exact ⟨h1, by rw [h2]; exact q⟩
end
end DL

namespace DL
open PySem L2
section
variable {K : PySem.W.Frag} {cls : Cls} {W : WX} {X : Cx} {F H F' H' : Hp} {Q : VK} {σ : St} {a b c e : Expr} {es : List Expr} {fa fb fc : Env → Res D} {ga gb : Env → Res Bool} {fs : Env → Res (List D)} {pos : Pos}

/-! ### in -/
theorem inV_ints (i : Int) (ns : List Int) : inV (.int i) (ns.map V.int) = decide (i ∈ ns) := by
  induction ns with
  | nil => rfl
  | cons n ns ih =>
    unfold inV at ih ⊢
    rw [List.map_cons, List.any_cons, ih]
    have : eqV (.int n) (.int i) = decide (i = n) := by
      show (n == i) = decide (i = n)
      by_cases h : n = i
      · subst h; simp
      · have h' : ¬ i = n := fun q => h q.symm
        simp [h, h']
    rw [this, ← Bool.decide_or]
    simp
theorem inV_strs (i : Str) (ns : List Str) : inV (.str i) (ns.map V.str) = decide (i ∈ ns) := by
  induction ns with
  | nil => rfl
  | cons n ns ih =>
    unfold inV at ih ⊢
    rw [List.map_cons, List.any_cons, ih]
    have : eqV (.str n) (.str i) = decide (i = n) := by
      show (n == i) = decide (i = n)
      by_cases h : n = i
      · subst h; simp
      · have h' : ¬ i = n := fun q => h q.symm
        simp [h, h']
    rw [this, ← Bool.decide_or]
    simp
@[simp] def sqA : D → Option (List D)
  | .ls xs => some xs
  | .sc xs => some xs
  | .bo xs => some xs
  | .tp xs => some xs
  | _ => none
def cIn : D → D → Option Bool
  | .int i, s => match sqA s with
    | some xs => match intsOf xs with
      | some ns => some (decide (i ∈ ns))
      | none => none
    | none => none
  | .str i, s => match sqA s with
    | some xs => match strsOf xs with
      | some ns => some (decide (i ∈ ns))
      | none => none
    | none => none
  | _, _ => none
def cNIn (a b : D) : Option Bool := (cIn a b).map (!·)
theorem Bo.sqA {v : V} {d : D} {xs : List D} (s : Same F H) (b : Bo K cls F H v d) (e : sqA d = some xs) : ∃ a vs, v = .ref a ∧ (SqL K H a vs ∨ SqT K H a vs) ∧ Bos K cls F H vs xs := by
  cases d with
  | tp ys => obtain ⟨a, vs, e1, h1, h2, r⟩ := b.tpv s (xs := xs) (by simpa using e); exact ⟨a, vs, e1, .inr h1, r.toBos⟩
  | ls ys => obtain ⟨a, vs, e1, h1, r⟩ := b.sqL s (xs := xs) (by simpa using e); exact ⟨a, vs, e1, .inl h1, r⟩
  | sc ys => obtain ⟨a, vs, e1, h1, r⟩ := b.sqL s (xs := xs) (by simpa using e); exact ⟨a, vs, e1, .inl h1, r⟩
  | bo ys => obtain ⟨a, vs, e1, h1, r⟩ := b.sqL s (xs := xs) (by simpa using e); exact ⟨a, vs, e1, .inl h1, r⟩
  | _ => simp at e
theorem flat_ints (ns : List Int) : (ns.map V.int).all flatV = true := by
  induction ns with
  | nil => rfl
  | cons n ns ih => rw [List.map_cons, List.all_cons, ih]; rfl
theorem flat_strs (ns : List Str) : (ns.map V.str).all flatV = true := by
  induction ns with
  | nil => rfl
  | cons n ns ih => rw [List.map_cons, List.all_cons, ih]; rfl
theorem cIn_ok {x y : V} {a b : D} {k : Bool} (s : Same F H) (b1 : Bo K cls F H x a) (b2 : Bo K cls F H y b) (e : cIn a b = some k) :
    ∃ p xs, y = .ref p ∧ (SqL K H p xs ∨ SqT K H p xs) ∧ flatV x = true ∧ xs.all flatV = true ∧ inV x xs = k := by
  unfold cIn at e
  split at e
  · split at e
    · rename_i xs h1
      split at e
      · rename_i ns h2
        cases e
        obtain rfl := b1.int
        obtain ⟨p, vs, rfl, h3, r⟩ := b2.sqA s h1
        rw [intsOf_eq h2] at r
        rw [r.ints] at h3
        exact ⟨p, _, rfl, h3, rfl, flat_ints ns, inV_ints _ _⟩
      · cases e
    · cases e
  · split at e
    · rename_i xs h1
      split at e
      · rename_i ns h2
        cases e
        obtain rfl := b1.str
        obtain ⟨p, vs, rfl, h3, r⟩ := b2.sqA s h1
        rw [strsOf_eq h2] at r
        rw [r.strs] at h3
        exact ⟨p, _, rfl, h3, rfl, flat_strs ns, inV_strs _ _⟩
      · cases e
    · cases e
  · cases e
theorem ok_in : C2Ok K cls (rIn K false) cIn := by
  intro F H x y a b d Q s b1 b2 e q
  obtain ⟨p, xs, e1, h1, h2, h3, h4⟩ := cIn_ok s b1 b2 e
  exact ⟨p, xs, e1, h1, h2, h3, by rw [if_neg (by decide), h4]; exact q⟩
theorem ok_nin : C2Ok K cls (rIn K true) cNIn := by
  intro F H x y a b d Q s b1 b2 e q
  unfold cNIn at e
  cases e0 : cIn a b with
  | none => rw [e0] at e; cases e
  | some k =>
    rw [e0] at e
    cases e
    obtain ⟨p, xs, e1, h1, h2, h3, h4⟩ := cIn_ok s b1 b2 e0
    exact ⟨p, xs, e1, h1, h2, h3, by rw [if_pos rfl, h4]; exact q⟩

/-! ### items -/
def opIx : D → D → Option D
  | .str z, .int i => if z.length ≤ lim then (atI z.cps.toList i).map fun c => .str ⟨#[c]⟩ else none
  | a, .int i => match sqA a with
    | some xs => atI xs i
    | none => none
  | _, _ => none
theorem atI_some {α : Type} {xs : List α} {i : Int} {d : α} (h : atI xs i = some d) : ∃ j, ixN xs.length i = some j ∧ xs[j]? = some d := by
  unfold atI at h
  cases q : ixN xs.length i with
  | none => rw [q] at h; cases h
  | some j => rw [q] at h; exact ⟨j, rfl, h⟩
theorem Bos.at {vs : List V} {ds : List D} {i : Int} {d : D} (h : Bos K cls F H vs ds) (e : atI ds i = some d) : ∃ v, atI vs i = some v ∧ Bo K cls F H v d := by
  obtain ⟨j, h1, h2⟩ := atI_some e
  obtain ⟨v, h3, h4⟩ := h.get h2
  refine ⟨v, ?_, h4⟩
  unfold atI
  rw [h.len, h1]
  exact h3
theorem ok_ix : R2Ok K cls (rIx K) opIx := by
  intro F H x y a b d Q s b1 b2 e q
  unfold opIx at e
  split at e
  · rename_i z i
    by_cases h : z.length ≤ lim
    · rw [if_pos h] at e
      obtain rfl := b1.str
      obtain rfl := b2.int
      cases e0 : atI z.cps.toList i with
      | none => rw [e0] at e; cases e
      | some c =>
        rw [e0] at e
        cases e
        exact .inr (.inr ⟨z, i, c, rfl, rfl, lim_ok h, e0, pi1 s (.str _) q⟩)
    · rw [if_neg h] at e; cases e
  · split at e
    · rename_i xs h1
      obtain rfl := b2.int
      obtain ⟨p, vs, rfl, h3, r⟩ := b1.sqA s h1
      obtain ⟨v, h4, h5⟩ := r.at e
      have q' : Q v H := q v F H [] (.refl s) Fresh.nil (.inr ⟨h5, rfl⟩)
      rcases h3 with h3 | h3
      · exact .inl ⟨p, vs, _, v, rfl, rfl, h3, h4, q'⟩
      · exact .inr (.inl ⟨p, vs, _, v, rfl, rfl, h3, h4, q'⟩)
    · cases e
  · cases e
theorem je_ix (ha : JE X cls W a fa) (hb : JE X cls W b fb) (hs : PlainIx b := by exact fun _ _ => rfl) : JE X cls W (.Subscript a b pos) (eBin opIx fa fb) := by
  obtain ⟨ta, pa, da⟩ := ha.ex
  obtain ⟨tb, pb, db⟩ := hb.ex
  exact ⟨_, pe_ix ix_seq pa pb hs, de_bin ok_ix da db⟩

/-! ### slices -/
def sIx (n d : Nat) : Option Int → Nat := HT.sIx n d
def cut {α : Type} (xs : List α) (lo hi : Option Int) : List α := (xs.drop (HT.sIx xs.length 0 lo)).take (HT.sIx xs.length xs.length hi - HT.sIx xs.length 0 lo)
def opSl (a : D) (lo hi : Option Int) : Option D := match a with
  | .tp xs => some (.tp (cut xs lo hi))
  | a => match sqK a with
    | some xs => some (.ol (cut xs lo hi))
    | none => none
def ePart (o : Option (Env → Res D)) : Env → Res (Option Int) := fun g => match o with
  | none => .ok none
  | some f => (f g).bind fun d => (Res.of (intOf (opd d))).bind fun i => .ok (some i)
@[simp] theorem ePart_none (g : Env) : ePart none g = .ok none := rfl
@[simp] theorem ePart_some (f : Env → Res D) (g : Env) : ePart (some f) g = (f g).bind fun d => (Res.of (intOf (opd d))).bind fun i => .ok (some i) := rfl
structure JP (X : Cx) (cls : Cls) (W : WX) (e : Option Expr) (f : Env → Res (Option Int)) : Prop where
  ex : ∃ t, PO X e t ∧ ∀ σ F H g O (Q : Option Int → Hp → Prop), Same F H → Sts X.K cls F H σ g O → (match f g with
    | .ok o => ∀ F' H', Ext F H F' H' → Q o H'
    | .xc c => ∀ F' H', Ext F H F' H' → W (excV cls c) none σ H'
    | .bad => False) → t σ H Q
theorem jp_none : JP X cls W none (ePart none) := ⟨_, po_none, fun σ F H g O Q s st p => p F H (.refl s)⟩
theorem jp_some (ha : JE X cls W a fa) : JP X cls W (some a) (ePart (some fa)) := by
  obtain ⟨ta, pa, da⟩ := ha.ex
  refine ⟨_, po_some pa, fun σ F H g O Q s st p => ?_⟩
  rw [ePart_some] at p
  refine da.go s st (fun c e => by rw [e] at p; exact p) (fun e => by rw [e] at p; exact p) fun d e v F' H' x b => ?_
  rw [e] at p
  simp only [Res.bind] at p
  cases e2 : intOf (opd d) with
  | none => rw [e2] at p; exact p.elim
  | some i =>
    rw [e2] at p
    have e3 : opd d = .int i := by
      cases e4 : opd d <;> rw [e4] at e2 <;> simp at e2
      rw [e2]
    rw [e3] at b
    exact ⟨i, b.int, p F' H' x⟩
def eSl (fa : Env → Res D) (lo hi : Env → Res (Option Int)) : Env → Res D := fun g => (fa g).bind fun a => (lo g).bind fun l => (hi g).bind fun h => .of (opSl (opd a) l h)
@[simp] theorem eSl_ (fa : Env → Res D) (lo hi : Env → Res (Option Int)) (g : Env) : eSl fa lo hi g = (fa g).bind fun a => (lo g).bind fun l => (hi g).bind fun h => .of (opSl (opd a) l h) := rfl
theorem Rps.cut {vs : List V} {ds : List D} (h : Rps K cls F vs ds) (lo hi : Option Int) : Rps K cls F (cutV vs lo hi) (cut ds lo hi) := by
  unfold cutV DL.cut
  rw [h.len]
  exact (h.drop _).take _
theorem cut_whole {α : Type} {xs : List α} {lo hi : Option Int} (h : HT.sIx xs.length 0 lo = 0 ∧ HT.sIx xs.length xs.length hi = xs.length) : cut xs lo hi = xs := by
  unfold cut
  rw [h.1, h.2]
  simp
theorem je_sl {lo hi : Option Expr} {fl fh : Env → Res (Option Int)} {p2 : Pos} (ha : JE X cls W a fa) (hl : JP X cls W lo fl) (hh : JP X cls W hi fh) : JE X cls W (.Subscript a (.Slice lo hi none p2) pos) (eSl fa fl fh) := by
  obtain ⟨ta, pa, da⟩ := ha.ex
  obtain ⟨tl, pl, dl⟩ := hl.ex
  obtain ⟨th, ph, dh⟩ := hh.ex
  refine ⟨_, pe_slice (sl_list.or sl_tupA) pa pl ph, ?_⟩
  intro σ F H g O Q s st p
  rw [eSl_] at p
  refine da.go s st (fun c e => by rw [e] at p; exact p) (fun e => by rw [e] at p; exact p) fun d e v F1 H1 x1 b1 => ?_
  rw [e] at p
  simp only [Res.bind] at p
  refine dl σ F1 H1 g O _ x1.fh (st.ext x1) ?_
  cases el : fl g with
  | bad => rw [el] at p; exact p.elim
  | xc c => rw [el] at p; exact fun F' H' x => p F' H' (x1.trans x)
  | ok l =>
    rw [el] at p
    simp only [] at p ⊢
    intro F2 H2 x2
    refine dh σ F2 H2 g O _ x2.fh ((st.ext x1).ext x2) ?_
    cases eh : fh g with
    | bad => rw [eh] at p; exact p.elim
    | xc c => rw [eh] at p; exact fun F' H' x => p F' H' ((x1.trans x2).trans x)
    | ok h =>
      rw [eh] at p
      simp only [] at p ⊢
      intro F3 H3 x3
      have x23 := x2.trans x3
      have x13 := x1.trans x23
      have b3 := b1.ext x23
      cases eo : opSl (opd d) l h with
      | none => rw [eo] at p; exact p.elim
      | some r =>
        rw [eo] at p
        have q : ∀ v F' H' O', Ext F3 H3 F' H' → Fresh H3 O' → Tm X.K cls F' H' v r O' → Q v H' := fun v F' H' O' y fr tm => p v F' H' O' (x13.trans y) (fr.mono x13.hh) tm
        unfold opSl at eo
        split at eo
        · rename_i xs ed
          cases eo
          rw [ed] at b3
          obtain ⟨a1, vs, rfl, h1, f1, r1⟩ := b3.tpv x3.fh (xs := xs) rfl
          refine .inr ⟨a1, vs, rfl, h1, fun w => ?_, fun w p hp => ?_⟩
          · rw [r1.len] at w
            exact q _ F3 H3 [] (.refl x3.fh) Fresh.nil (.inl (.sh (by rw [cut_whole w]; exact .tp f1 r1)))
          · exact q _ _ _ [] (Ext.put x3.fh hp) Fresh.nil (.inl (.sh (.tp (SqT.of upd_same) ((r1.cut l h).mono (Ext.put x3.fh hp).ff))))
        · split at eo
          · rename_i xs ek
            cases eo
            obtain ⟨a1, vs, rfl, h1, r1⟩ := b3.sqK x3.fh ek
            refine .inl ⟨a1, vs, rfl, h1, fun p hp => ?_⟩
            exact q _ _ _ [p] (Ext.own x3.fh hp) (fresh_new hp) (.inl (ow_new x3.fh hp (r1.cut l h).toOws))
          · cases eo

/-! ### arguments -/
def aNil : Env → Res (List D) := fun _ => .ok []
def aCons (fa : Env → Res D) (fs : Env → Res (List D)) : Env → Res (List D) := fun g => (fa g).bind fun a => (fs g).bind fun r => .ok (opd a :: r)
def aConsO (fa : Env → Res D) (fs : Env → Res (List D)) : Env → Res (List D) := fun g => (fa g).bind fun a => (kp a).bind fun a => (fs g).bind fun r => .ok (a :: r)
@[simp] theorem aNil_ (g : Env) : aNil g = .ok [] := rfl
@[simp] theorem aCons_ (fa : Env → Res D) (fs : Env → Res (List D)) (g : Env) : aCons fa fs g = (fa g).bind fun a => (fs g).bind fun r => .ok (opd a :: r) := rfl
@[simp] theorem aConsO_ (fa : Env → Res D) (fs : Env → Res (List D)) (g : Env) : aConsO fa fs g = (fa g).bind fun a => (kp a).bind fun a => (fs g).bind fun r => .ok (a :: r) := rfl
theorem ja_nil : JA X cls W [] aNil := ⟨_, pa_nil, fun σ F H g O Q s st p => p [] F H (.refl s) .nil⟩
theorem jao_nil : JAO X cls W [] aNil := ⟨_, pa_nil, fun σ F H g O Q s st p => p [] F H [] (.refl s) Fresh.nil .nil⟩
theorem DA.go {t : TA} (ha : DA K cls W t fs) {σ : St} {F H : Hp} {g : Env} {O : List Addr} {Q : List V → Hp → Prop} (s : Same F H) (st : Sts K cls F H σ g O)
    (hx : ∀ c, fs g = .xc c → ∀ F' H', Ext F H F' H' → W (excV cls c) none σ H') (hb : fs g ≠ .bad) (hk : ∀ d, fs g = .ok d → ∀ v F' H', Ext F H F' H' → Bos K cls F' H' v d → Q v H') : t σ H Q := by
  refine ha σ F H g O Q s st ?_
  cases e : fs g with
  | ok k => exact hk k e
  | xc c => exact hx c e
  | bad => exact (hb e).elim
theorem DAO.go {t : TA} (ha : DAO K cls W t fs) {σ : St} {F H : Hp} {g : Env} {O : List Addr} {Q : List V → Hp → Prop} (s : Same F H) (st : Sts K cls F H σ g O)
    (hx : ∀ c, fs g = .xc c → ∀ F' H', Ext F H F' H' → W (excV cls c) none σ H') (hb : fs g ≠ .bad) (hk : ∀ d, fs g = .ok d → ∀ v F' H' O', Ext F H F' H' → Fresh H O' → Ows K cls F' H' v d O' → Q v H') : t σ H Q := by
  refine ha σ F H g O Q s st ?_
  cases e : fs g with
  | ok k => exact hk k e
  | xc c => exact hx c e
  | bad => exact (hb e).elim
theorem ja_cons (ha : JE X cls W a fa) (hr : JA X cls W es fs) (hs : starEach (a :: es) X.env = (false, eval a X.env) :: starEach es X.env := by rfl) : JA X cls W (a :: es) (aCons fa fs) := by
  obtain ⟨ta, pa, da⟩ := ha.ex
  obtain ⟨tr, pr, dr⟩ := hr.ex
  refine ⟨_, pa_cons pa pr hs, ?_⟩
  intro σ F H g O Q s st p
  rw [aCons_] at p
  refine da.go s st (fun c e => by rw [e] at p; exact p) (fun e => by rw [e] at p; exact p) fun d e v F1 H1 x1 b1 => ?_
  rw [e] at p
  simp only [Res.bind] at p
  refine dr.go x1.fh (st.ext x1) (fun c e F' H' x => by rw [e] at p; exact p F' H' (x1.trans x)) (fun e => by rw [e] at p; exact p) fun ds es vs F2 H2 x2 b2 => ?_
  rw [es] at p
  exact p _ F2 H2 (x1.trans x2) (.cons (b1.ext x2) b2)
theorem jao_cons (ha : JE X cls W a fa) (hr : JAO X cls W es fs) (hs : starEach (a :: es) X.env = (false, eval a X.env) :: starEach es X.env := by rfl) : JAO X cls W (a :: es) (aConsO fa fs) := by
  obtain ⟨ta, pa, da⟩ := ha.ex
  obtain ⟨tr, pr, dr⟩ := hr.ex
  refine ⟨_, pa_cons pa pr hs, ?_⟩
  intro σ F H g O Q s st p
  rw [aConsO_] at p
  refine da.goO s st (fun c e => by rw [e] at p; exact p) (fun e => ?_) fun d e v F1 H1 O1 x1 fr1 b1 => ?_
  · cases q : fa g with
    | ok d => rw [q] at e p; simp only [Res.bind] at e p; rw [e] at p; exact p
    | xc c => rw [q] at e; cases e
    | bad => rw [q] at p; exact p
  have p : PostAO X.K cls W σ F H Q ((fs g).bind fun r => .ok (d :: r)) := by
    cases q : fa g with
    | ok d => rw [q] at e p; simp only [Res.bind] at e p; rw [e] at p; exact p
    | xc c => rw [q] at e; cases e
    | bad => rw [q] at e; cases e
  refine dr.go x1.fh (st.ext x1) (fun c e F' H' x => by rw [e] at p; exact p F' H' (x1.trans x)) (fun e => by rw [e] at p; exact p) fun ds es vs F2 H2 O2 x2 fr2 b2 => ?_
  rw [es] at p
  refine p _ F2 H2 (O1 ++ O2) (x1.trans x2) (fun a ha => ?_) (.cons (b1.ext x2) b2 (fun a h1 h2 => ?_) rfl)
  · rcases List.mem_append.mp ha with q | q
    · exact fr1 a q
    · exact x1.hh.free (fr2 a q)
  · exact (b1.dom a h1).2 (fr2 a h2)
/-! ### displays -/
def eLst (fs : Env → Res (List D)) : Env → Res D := fun g => (fs g).bind fun ds => if ds.length ≤ lim then .ok (.ol ds) else .bad
def eTup (fs : Env → Res (List D)) : Env → Res D := fun g => (fs g).bind fun ds => if ds.length ≤ lim ∧ nods ds = true then .ok (.tp (frzs ds)) else .bad
@[simp] theorem eLst_ (fs : Env → Res (List D)) (g : Env) : eLst fs g = (fs g).bind fun ds => if ds.length ≤ lim then .ok (.ol ds) else .bad := rfl
@[simp] theorem eTup_ (fs : Env → Res (List D)) (g : Env) : eTup fs g = (fs g).bind fun ds => if ds.length ≤ lim ∧ nods ds = true then .ok (.tp (frzs ds)) else .bad := rfl
theorem je_lst (h : JAO X cls W es fs) : JE X cls W (.List es pos) (eLst fs) := by
  obtain ⟨ta, pa, da⟩ := h.ex
  refine ⟨_, pe_lst pa, ?_⟩
  intro σ F H g O Q s st p
  rw [eLst_] at p
  refine da.go s st (fun c e => by rw [e] at p; exact p) (fun e => by rw [e] at p; exact p) fun ds e vs F1 H1 O1 x1 fr1 b1 => ?_
  rw [e] at p
  simp only [Res.bind] at p
  split at p
  · rename_i hl
    refine ⟨lim_ok (by rw [b1.len]; exact hl), fun q hq => ?_⟩
    exact p _ _ _ (q :: O1) (x1.trans (Ext.own x1.fh hq)) (fun a ha => by
      rcases List.mem_cons.mp ha with rfl | ha
      · exact x1.hh.free hq
      · exact fr1 a ha) (.inl (ow_new x1.fh hq b1))
  · exact p.elim
theorem je_tup {k : Nat} (h : JAO X cls W es fs) : JE X cls W (.Tuple es k pos) (eTup fs) := by
  obtain ⟨ta, pa, da⟩ := h.ex
  refine ⟨_, pe_tup pa, ?_⟩
  intro σ F H g O Q s st p
  rw [eTup_] at p
  refine da.go s st (fun c e => by rw [e] at p; exact p) (fun e => by rw [e] at p; exact p) fun ds e vs F1 H1 O1 x1 fr1 b1 => ?_
  rw [e] at p
  simp only [Res.bind] at p
  split at p
  · rename_i hl
    refine ⟨lim_ok (by rw [b1.len]; exact hl.1), fun q hq => ?_⟩
    have no : ∀ a ∈ O1, F1 a = none := fun a ha => (b1.dom a ha).1
    have x2 := addF_ext x1 fr1 no
    have r2 := b1.freeze (addF_same no) addF_at hl.2
    exact p _ _ _ [] (x2.trans (Ext.put x2.fh hq)) Fresh.nil (.inl (.sh (.tp (SqT.of upd_same) (r2.mono (Ext.put x2.fh hq).ff))))
  · exact p.elim

/-! ### calls of built-ins -/
def CaOk (K : PySem.W.Frag) (cls : Cls) (r : List V → Hp → VK → Prop) (op : List D → Option D) : Prop :=
  ∀ F H vs ds d Q, Same F H → Bos K cls F H vs ds → op ds = some d → (∀ v F' H' O', Ext F H F' H' → Fresh H O' → Tm K cls F' H' v d O' → Q v H') → r vs H Q
def eCall (op : List D → Option D) (fs : Env → Res (List D)) : Env → Res D := fun g => (fs g).bind fun ds => .of (op ds)
@[simp] theorem eCall_ (op : List D → Option D) (fs : Env → Res (List D)) (g : Env) : eCall op fs g = (fs g).bind fun ds => .of (op ds) := rfl
theorem de_call {r : List V → Hp → VK → Prop} {op : List D → Option D} {t : TA} (hr : CaOk K cls r op) (ha : DA K cls W t fs) : DE K cls W (tCB r t) (eCall op fs) := by
  intro σ F H g O Q s st p
  rw [eCall_] at p
  refine ha.go s st (fun c e => by rw [e] at p; exact p) (fun e => by rw [e] at p; exact p) fun ds e vs F1 H1 x1 b1 => ?_
  rw [e] at p
  simp only [Res.bind] at p
  cases eo : op ds with
  | none => rw [eo] at p; exact p.elim
  | some d =>
    rw [eo] at p
    exact hr F1 H1 vs ds d Q x1.fh b1 eo fun v F' H' O' y fr tm => p v F' H' O' (x1.trans y) (fr.mono x1.hh) tm
theorem je_callB {x : Str} {id : String} {p : Pos} {r : List V → Hp → VK → Prop} {op : List D → Option D} (hc : CallR X (.builtin id) r) (hr : CaOk X.K cls r op) (hm : X.mg x = none) (hv : bootBuiltins x = some (.builtin id)) (ha : JA X cls W (e :: es) fs)
    (hg : Gl X x := by rfl) (hn : x ≠ "__name__" := by decide) (hdb : (x == ("__debug__" : Str)) = false := by decide)
    (he : starEach (e :: es) X.env = (false, eval e X.env) :: starEach es X.env := by rfl) (hpl : (backTo pos (starEach es X.env)).any (·.1) = false := by rfl) : JE X cls W (.Call (.Name x p) (e :: es) [] pos) (eCall op fs) := by
  obtain ⟨ta, pa, da⟩ := ha.ex
  exact ⟨_, pe_callB hc hg hm hv pa hn hdb he hpl, de_call hr da⟩
theorem je_callTy {x : Str} {T : String} {p : Pos} {r : List V → Hp → VK → Prop} {op : List D → Option D} (hc : CallR X (.type T) r) (hr : CaOk X.K cls r op) (hm : X.mg x = none) (hv : bootBuiltins x = some (.type T)) (ha : JA X cls W (e :: es) fs)
    (hg : Gl X x := by rfl) (hn : x ≠ "__name__" := by decide) (hdb : (x == ("__debug__" : Str)) = false := by decide)
    (he : starEach (e :: es) X.env = (false, eval e X.env) :: starEach es X.env := by rfl) (hpl : (backTo pos (starEach es X.env)).any (·.1) = false := by rfl) : JE X cls W (.Call (.Name x p) (e :: es) [] pos) (eCall op fs) := by
  obtain ⟨ta, pa, da⟩ := ha.ex
  exact ⟨_, pe_callTy hc hg hm hv pa hn hdb he hpl, de_call hr da⟩
def caLen : List D → Option D
  | [.str z] => if z.length ≤ lim then some (.int z.length) else none
  | [d] => match sqA d with
    | some xs => some (.int xs.length)
    | none => match d with
      | .bd ks _ => none
      | _ => none
  | _ => none
theorem Bos.one {vs : List V} {d : D} (h : Bos K cls F H vs [d]) : ∃ v, vs = [v] ∧ Bo K cls F H v d := by
  cases h with | cons a b => cases b; exact ⟨_, rfl, a⟩
theorem Bos.two {vs : List V} {d d' : D} (h : Bos K cls F H vs [d, d']) : ∃ v v', vs = [v, v'] ∧ Bo K cls F H v d ∧ Bo K cls F H v' d' := by
  cases h with | cons a b => cases b with | cons a' b' => cases b'; exact ⟨_, _, rfl, a, a'⟩
theorem ok_len : CaOk K cls (fun xs H Q => ∃ x n, xs = [x] ∧ LenV K x H n ∧ Q (.int n) H) caLen := by
  intro F H vs ds d Q s b e q
  unfold caLen at e
  split at e
  · rename_i z
    by_cases h : z.length ≤ lim
    · rw [if_pos h] at e
      cases e
      obtain ⟨v, rfl, b1⟩ := b.one
      obtain rfl := b1.str
      exact ⟨_, _, rfl, ⟨lim_ok h, rfl⟩, pi1 s (.int _) q⟩
    · rw [if_neg h] at e; cases e
  · split at e
    · rename_i xs h1
      cases e
      obtain ⟨v, rfl, b1⟩ := b.one
      obtain ⟨p, vs, rfl, h3, r⟩ := b1.sqA s h1
      have q' : Q (.int (xs.length : Int)) H := pi1 s (.int _) q
      rw [← r.len] at q'
      rcases h3 with h3 | h3
      · exact ⟨_, vs.length, rfl, .inl ⟨vs, h3, rfl⟩, q'⟩
      · exact ⟨_, vs.length, rfl, .inr ⟨vs, h3, rfl⟩, q'⟩
    · split at e <;> cases e
  · cases e
def caMax2 : List D → Option D
  | [.int i, .int j] => some (.int (if j > i then j else i))
  | _ => none
def caMin2 : List D → Option D
  | [.int i, .int j] => some (.int (if j < i then j else i))
  | _ => none
theorem ok_max2 : CaOk K cls (fun xs H Q => ∃ i j, xs = [.int i, .int j] ∧ Q (.int (if j > i then j else i)) H) caMax2 := by
  intro F H vs ds d Q s b e q
  unfold caMax2 at e
  split at e
  · cases e
    obtain ⟨v, v', rfl, b1, b2⟩ := b.two
    obtain rfl := b1.int
    obtain rfl := b2.int
    exact ⟨_, _, rfl, pi1 s (.int _) q⟩
  · cases e
theorem ok_min2 : CaOk K cls (fun xs H Q => ∃ i j, xs = [.int i, .int j] ∧ Q (.int (if j < i then j else i)) H) caMin2 := by
  intro F H vs ds d Q s b e q
  unfold caMin2 at e
  split at e
  · cases e
    obtain ⟨v, v', rfl, b1, b2⟩ := b.two
    obtain rfl := b1.int
    obtain rfl := b2.int
    exact ⟨_, _, rfl, pi1 s (.int _) q⟩
  · cases e
def caAbs : List D → Option D
  | [.int i] => some (.int (if i < 0 then -i else i))
  | _ => none
theorem ok_abs : CaOk K cls (fun xs H Q => ∃ i, xs = [.int i] ∧ Q (.int (if i < 0 then -i else i)) H) caAbs := by
  intro F H vs ds d Q s b e q
  unfold caAbs at e
  split at e
  · cases e
    obtain ⟨v, rfl, b1⟩ := b.one
    obtain rfl := b1.int
    exact ⟨_, rfl, pi1 s (.int _) q⟩
  · cases e
def caInt : List D → Option D
  | [.int i] => some (.int i)
  | [.bl k] => some (.int (if k = true then 1 else 0))
  | _ => none
theorem ok_int : CaOk K cls (fun xs H Q => (∃ i, xs = [.int i] ∧ Q (.int i) H) ∨ ∃ k, xs = [.bl k] ∧ Q (.int (if k then 1 else 0)) H) caInt := by
  intro F H vs ds d Q s b e q
  unfold caInt at e
  split at e
  · cases e
    obtain ⟨v, rfl, b1⟩ := b.one
    obtain rfl := b1.int
    exact .inl ⟨_, rfl, pi1 s (.int _) q⟩
  · cases e
    obtain ⟨v, rfl, b1⟩ := b.one
    obtain rfl := b1.bl
    exact .inr ⟨_, rfl, pi1 s (.int _) q⟩
  · cases e
/-- list(xs) -/
@[simp] def sqKA : D → Option (List D)
  | .tp xs => some xs
  | d => sqK d
theorem Bo.sqKA {v : V} {d : D} {xs : List D} (s : Same F H) (b : Bo K cls F H v d) (e : sqKA d = some xs) : ∃ a vs, v = .ref a ∧ (SqL K H a vs ∨ SqT K H a vs) ∧ Rps K cls F vs xs := by
  cases d with
  | tp ys => obtain ⟨a, vs, e1, h1, h2, r⟩ := b.tpv s (xs := xs) (by simpa using e); exact ⟨a, vs, e1, .inr h1, r⟩
  | ls ys => obtain ⟨a, vs, e1, h1, r⟩ := b.sqK s (xs := xs) (by simpa using e); exact ⟨a, vs, e1, .inl h1, r⟩
  | sc ys => obtain ⟨a, vs, e1, h1, r⟩ := b.sqK s (xs := xs) (by simpa using e); exact ⟨a, vs, e1, .inl h1, r⟩
  | bo ys => obtain ⟨a, vs, e1, h1, r⟩ := b.sqK s (xs := xs) (by simpa using e); exact ⟨a, vs, e1, .inl h1, r⟩
  | _ => simp at e
def caList : List D → Option D
  | [d] => (sqKA d).map .ol
  | _ => none
theorem ok_list : CaOk K cls (fun xs H Q => ∃ p ys, xs = [.ref p] ∧ (SqL K H p ys ∨ SqT K H p ys) ∧ ∀ l, H l = none → Q (.ref l) (upd H l (.lst ys))) caList := by
  intro F H vs ds d Q s b e q
  unfold caList at e
  split at e
  · rename_i d0
    cases h1 : sqKA d0 with
    | none => rw [h1] at e; cases e
    | some xs =>
      rw [h1] at e
      cases e
      obtain ⟨v, rfl, b1⟩ := b.one
      obtain ⟨p, ws, rfl, h2, r⟩ := b1.sqKA s h1
      exact ⟨p, ws, rfl, h2, fun l hl => q _ _ _ [l] (Ext.own s hl) (fresh_new hl) (.inl (ow_new s hl r.toOws))⟩
  · cases e
def caTuple : List D → Option D
  | [d] => (sqKA d).map .tp
  | _ => none
theorem ok_tuple : CaOk K cls (fun xs H Q => ∃ p ys, xs = [.ref p] ∧ ((SqL K H p ys ∧ ∀ l, H l = none → Q (.ref l) (upd H l (.tup ys))) ∨ (SqT K H p ys ∧ Q (.ref p) H))) caTuple := by
  intro F H vs ds d Q s b e q
  unfold caTuple at e
  split at e
  · rename_i d0
    cases h1 : sqKA d0 with
    | none => rw [h1] at e; cases e
    | some xs =>
      rw [h1] at e
      cases e
      obtain ⟨v, rfl, b1⟩ := b.one
      have lst : ∀ {a : Addr} {ws : List V}, SqL K H a ws → Rps K cls F ws xs → ∀ l, H l = none → Q (.ref l) (upd H l (.tup ws)) := fun {a ws} h r l hl =>
        q _ _ _ [] (Ext.put s hl) Fresh.nil (.inl (.sh (.tp (SqT.of upd_same) (r.mono (Ext.put s hl).ff))))
      cases d0 with
      | tp ys =>
        obtain ⟨a, ws, rfl, h2, h3, r⟩ := b1.tpv s (xs := xs) (by simpa using h1)
        exact ⟨a, ws, rfl, .inr ⟨h2, pi1 s (.tp h3 r) q⟩⟩
      | ls ys => obtain ⟨a, ws, rfl, h2, r⟩ := b1.sqK s (xs := xs) (by simpa using h1); exact ⟨a, ws, rfl, .inl ⟨h2, lst h2 r⟩⟩
      | sc ys => obtain ⟨a, ws, rfl, h2, r⟩ := b1.sqK s (xs := xs) (by simpa using h1); exact ⟨a, ws, rfl, .inl ⟨h2, lst h2 r⟩⟩
      | bo ys => obtain ⟨a, ws, rfl, h2, r⟩ := b1.sqK s (xs := xs) (by simpa using h1); exact ⟨a, ws, rfl, .inl ⟨h2, lst h2 r⟩⟩
      | _ => simp at h1
  · cases e
def caSum : List D → Option D
  | [d] => match sqL d with
    | some xs => (intsOf xs).map fun ns => .int ns.sum
    | none => none
  | _ => none
theorem Bo.sqI {v : V} {d : D} {xs : List D} {ns : List Int} (s : Same F H) (b : Bo K cls F H v d) (e : DL.sqL d = some xs) (e2 : intsOf xs = some ns) : ∃ a, v = .ref a ∧ L2.SqL K H a (ns.map V.int) := by
  obtain ⟨a, vs, e1, h, r⟩ := Bo.sqL s b e
  rw [intsOf_eq e2] at r
  rw [r.ints] at h
  exact ⟨a, e1, h⟩
theorem ok_sum : CaOk K cls (rSum K) caSum := by
  intro F H vs ds d Q s b e q
  unfold caSum at e
  split at e
  · split at e
    · rename_i xs h1
      cases h2 : intsOf xs with
      | none => rw [h2] at e; cases e
      | some ns =>
        rw [h2] at e
        cases e
        obtain ⟨v, rfl, b1⟩ := b.one
        obtain ⟨a, rfl, h3⟩ := b1.sqI s h1 h2
        exact ⟨a, ns, rfl, h3, pi1 s (.int _) q⟩
    · cases e
  · cases e
/-- the greatest, the least -/
def gst : List Int → Int
  | [] => 0
  | [x] => x
  | x :: xs => if gst xs > x then gst xs else x
def lst_ : List Int → Int
  | [] => 0
  | [x] => x
  | x :: xs => if lst_ xs < x then lst_ xs else x
theorem gst_spec : ∀ {ns : List Int}, ns ≠ [] → gst ns ∈ ns ∧ ∀ y ∈ ns, y ≤ gst ns
  | [], h => (h rfl).elim
  | [x], _ => by simp [gst]
  | x :: y :: r, _ => by
    obtain ⟨h1, h2⟩ := gst_spec (ns := y :: r) (by simp)
    have e : gst (x :: y :: r) = if gst (y :: r) > x then gst (y :: r) else x := rfl
    rw [e]
    split
    · refine ⟨List.mem_cons_of_mem _ h1, fun z hz => ?_⟩
      rcases List.mem_cons.mp hz with rfl | hz
      · omega
      · exact h2 z hz
    · refine ⟨List.mem_cons_self, fun z hz => ?_⟩
      rcases List.mem_cons.mp hz with rfl | hz
      · omega
      · have := h2 z hz; omega
theorem lst_spec : ∀ {ns : List Int}, ns ≠ [] → lst_ ns ∈ ns ∧ ∀ y ∈ ns, lst_ ns ≤ y
  | [], h => (h rfl).elim
  | [x], _ => by simp [lst_]
  | x :: y :: r, _ => by
    obtain ⟨h1, h2⟩ := lst_spec (ns := y :: r) (by simp)
    have e : lst_ (x :: y :: r) = if lst_ (y :: r) < x then lst_ (y :: r) else x := rfl
    rw [e]
    split
    · refine ⟨List.mem_cons_of_mem _ h1, fun z hz => ?_⟩
      rcases List.mem_cons.mp hz with rfl | hz
      · omega
      · exact h2 z hz
    · refine ⟨List.mem_cons_self, fun z hz => ?_⟩
      rcases List.mem_cons.mp hz with rfl | hz
      · omega
      · have := h2 z hz; omega
def caMax : List D → Option D
  | [d] => match sqL d with
    | some xs => match intsOf xs with
      | some ns => if ns.isEmpty = true then none else some (.int (gst ns))
      | none => none
    | none => none
  | _ => none
def caMin : List D → Option D
  | [d] => match sqL d with
    | some xs => match intsOf xs with
      | some ns => if ns.isEmpty = true then none else some (.int (lst_ ns))
      | none => none
    | none => none
  | _ => none
theorem ok_max : CaOk K cls (rMax K) caMax := by
  intro F H vs ds d Q s b e q
  unfold caMax at e
  split at e
  · split at e
    · rename_i xs h1
      split at e
      · rename_i ns h2
        split at e
        · cases e
        · rename_i hne
          cases e
          obtain ⟨v, rfl, b1⟩ := b.one
          obtain ⟨a, rfl, h3⟩ := b1.sqI s h1 h2
          have hne' : ns ≠ [] := fun z => hne (by rw [z]; rfl)
          obtain ⟨g1, g2⟩ := gst_spec hne'
          refine ⟨a, ns, rfl, h3, List.length_pos_iff.mpr hne', fun m m1 m2 => ?_⟩
          have : m = gst ns := Int.le_antisymm (g2 m m1) (m2 _ g1)
          rw [this]
          exact pi1 s (.int _) q
      · cases e
    · cases e
  · cases e
theorem ok_min : CaOk K cls (rMin K) caMin := by
  intro F H vs ds d Q s b e q
  unfold caMin at e
  split at e
  · split at e
    · rename_i xs h1
      split at e
      · rename_i ns h2
        split at e
        · cases e
        · rename_i hne
          cases e
          obtain ⟨v, rfl, b1⟩ := b.one
          obtain ⟨a, rfl, h3⟩ := b1.sqI s h1 h2
          have hne' : ns ≠ [] := fun z => hne (by rw [z]; rfl)
          obtain ⟨g1, g2⟩ := lst_spec hne'
          refine ⟨a, ns, rfl, h3, List.length_pos_iff.mpr hne', fun m m1 m2 => ?_⟩
          have : m = lst_ ns := Int.le_antisymm (m2 _ g1) (g2 m m1)
          rw [this]
          exact pi1 s (.int _) q
      · cases e
    · cases e
  · cases e
/-- insertion sort: the sorted list of ints -/
def ins (x : Int) : List Int → List Int
  | [] => [x]
  | y :: r => if x ≤ y then x :: y :: r else y :: ins x r
def srt : List Int → List Int
  | [] => []
  | x :: r => ins x (srt r)
theorem ins_perm (x : Int) : ∀ l : List Int, (ins x l).Perm (x :: l)
  | [] => List.Perm.refl _
  | y :: r => by
    unfold ins
    split
    · exact List.Perm.refl _
    · exact ((ins_perm x r).cons y).trans (List.Perm.swap x y r)
theorem srt_perm : ∀ l : List Int, (srt l).Perm l
  | [] => List.Perm.refl _
  | x :: r => (ins_perm x _).trans ((srt_perm r).cons x)
theorem ins_sorted (x : Int) : ∀ {l : List Int}, l.Pairwise (· ≤ ·) → (ins x l).Pairwise (· ≤ ·)
  | [], _ => by simp [ins]
  | y :: r, h => by
    unfold ins
    obtain ⟨h1, h2⟩ := List.pairwise_cons.mp h
    split
    · rename_i hxy
      refine List.pairwise_cons.mpr ⟨fun z hz => ?_, h⟩
      rcases List.mem_cons.mp hz with rfl | hz
      · exact hxy
      · exact Int.le_trans hxy (h1 z hz)
    · rename_i hxy
      refine List.pairwise_cons.mpr ⟨fun z hz => ?_, ins_sorted x h2⟩
      rcases List.mem_cons.mp ((ins_perm x r).mem_iff.mp hz) with rfl | hz
      · omega
      · exact h1 z hz
theorem srt_sorted : ∀ l : List Int, (srt l).Pairwise (· ≤ ·)
  | [] => List.Pairwise.nil
  | x :: r => ins_sorted x (srt_sorted r)
theorem sorted_uniq : ∀ {l m : List Int}, l.Perm m → l.Pairwise (· ≤ ·) → m.Pairwise (· ≤ ·) → l = m
  | [], m, p, _, _ => (List.nil_perm.mp p).symm
  | x :: l, [], p, _, _ => absurd p.length_eq (by simp)
  | x :: l, y :: m, p, h1, h2 => by
    obtain ⟨a1, a2⟩ := List.pairwise_cons.mp h1
    obtain ⟨b1, b2⟩ := List.pairwise_cons.mp h2
    have e : x = y := by
      have hx : x ∈ y :: m := p.mem_iff.mp List.mem_cons_self
      have hy : y ∈ x :: l := p.mem_iff.mpr List.mem_cons_self
      rcases List.mem_cons.mp hx with q | q
      · exact q
      · rcases List.mem_cons.mp hy with q' | q'
        · exact q'.symm
        · exact Int.le_antisymm (a1 y q') (b1 x q)
    subst e
    rw [sorted_uniq (List.Perm.cons_inv p) a2 b2]
theorem srt_uniq {l m : List Int} (p : l.Perm m) (h : l.Pairwise (· ≤ ·)) : l = srt m := sorted_uniq (p.trans (srt_perm m).symm) h (srt_sorted m)
theorem srt_len (l : List Int) : (srt l).length = l.length := (srt_perm l).length_eq
/-- sorted(xs), ints, a list or a tuple -/
def caSorted : List D → Option D
  | [d] => match sqL d with
    | some xs => (intsOf xs).map fun ns => .ol ((srt ns).map D.int)
    | none => none
  | _ => none
theorem ok_sorted : CaOk K cls (rSortedI K) caSorted := by
  intro F H vs ds d Q s b e q
  unfold caSorted at e
  split at e
  · split at e
    · rename_i xs h1
      cases h2 : intsOf xs with
      | none => rw [h2] at e; cases e
      | some ns =>
        rw [h2] at e
        cases e
        obtain ⟨v, rfl, b1⟩ := b.one
        obtain ⟨a, rfl, h3⟩ := b1.sqI s h1 h2
        refine ⟨a, ns, rfl, h3, fun ns' p pm pw hp => ?_⟩
        obtain rfl := srt_uniq pm pw
        exact q _ _ _ [p] (Ext.own s hp) (fresh_new hp) (.inl (ow_new s hp rps_ints.toOws))
    · cases e
  · cases e
def caAny : List D → Option D
  | [d] => match sqL d with
    | some xs => (blsOf xs).map fun ns => .bl (ns.any id)
    | none => none
  | _ => none
def caAll : List D → Option D
  | [d] => match sqL d with
    | some xs => (blsOf xs).map fun ns => .bl (ns.all id)
    | none => none
  | _ => none
theorem ok_any : CaOk K cls (rAny K) caAny := by
  intro F H vs ds d Q s b e q
  unfold caAny at e
  split at e
  · split at e
    · rename_i xs h1
      cases h2 : blsOf xs with
      | none => rw [h2] at e; cases e
      | some ns =>
        rw [h2] at e
        cases e
        obtain ⟨v, rfl, b1⟩ := b.one
        obtain ⟨a, vs, rfl, h3, r⟩ := b1.sqL s h1
        rw [blsOf_eq h2] at r
        rw [r.bls] at h3
        exact ⟨a, ns, rfl, h3, pi1 s (.bl _) q⟩
    · cases e
  · cases e
theorem ok_all : CaOk K cls (rAll K) caAll := by
  intro F H vs ds d Q s b e q
  unfold caAll at e
  split at e
  · split at e
    · rename_i xs h1
      cases h2 : blsOf xs with
      | none => rw [h2] at e; cases e
      | some ns =>
        rw [h2] at e
        cases e
        obtain ⟨v, rfl, b1⟩ := b.one
        obtain ⟨a, vs, rfl, h3, r⟩ := b1.sqL s h1
        rw [blsOf_eq h2] at r
        rw [r.bls] at h3
        exact ⟨a, ns, rfl, h3, pi1 s (.bl _) q⟩
    · cases e
  · cases e
end
end DL

namespace DL
open PySem L2
theorem set_self {α : Type} : ∀ {l : List α} {i : Nat} {a : α}, l[i]? = some a → l.set i a = l
  | [], _, _, h => by simp at h
  | x :: l, 0, a, h => by simp at h; subst h; rfl
  | x :: l, i + 1, a, h => by rw [List.set_cons_succ, set_self (by simpa using h)]
/-- what a rule may ask of where it stands -/
structure Cn (X : Cx) (W : WX) (k : Nat) : Prop where
  tk : Takes X W
  hp : PassesOwn (model X.prog X.w) X.A X.env X.xe
  calm : X.calm = true
  nd : X.N.Nodup
  hr : Room k X.A
theorem Cn.mono {X : Cx} {W : WX} {j k : Nat} (c : Cn X W k) (h : j ≤ k) : Cn X W j := ⟨c.tk, c.hp, c.calm, c.nd, c.hr.mono h⟩
theorem Cn.eq {X : Cx} {W : WX} {k : Nat} (c : Cn X W k) : X.A.units + 64 < cLine := c.hr.units
abbrev W0 : WX := fun _ _ _ _ => False
theorem Cn.blk {X : Cx} {W : WX} {k : Nat} (c : Cn X W k) {s : Shared} {H : Hp} {scope : Scope} {cenv : PySem.Env} {fp : List Addr} : Cn (X.blk s H scope cenv fp) W0 k :=
  ⟨takes0, PassesOwn.never, c.calm, c.nd, c.hr⟩

/-! ### fields -/
structure ClsOk (K : PySem.W.Frag) (cls : Cls) (c : Nat) (C : Addr) (ns : List Str) : Prop where
  e : cls c = some (C, ns)
  nd : ns.Nodup
  cl : L2.Cls K C
  na : ∀ f ∈ ns, NoAttr K C f
theorem lookup_zip : ∀ {ns : List Str} {vs : List V} {i : Nat} {f : Str} {v : V}, ns.Nodup → ns[i]? = some f → vs[i]? = some v → (ns.zip vs).lookup f = some v
  | [], _, _, _, _, _, h, _ => by simp at h
  | n :: ns, [], _, _, _, _, _, h => by simp at h
  | n :: ns, w :: vs, 0, f, v, nd, h1, h2 => by
    simp at h1 h2
    subst h1 h2
    simp [List.lookup]
  | n :: ns, w :: vs, i + 1, f, v, nd, h1, h2 => by
    obtain ⟨a1, a2⟩ := List.nodup_cons.mp nd
    have h1' : ns[i]? = some f := by simpa using h1
    have : ¬ f = n := fun e => a1 (e ▸ List.mem_of_getElem? h1')
    rw [List.zip_cons_cons, List.lookup]
    have e : (f == n) = false := by simpa using this
    rw [e]
    exact lookup_zip a2 h1' (by simpa using h2)
def opFld (c i : Nat) : D → Option D
  | .ob c' ds => if c' = c then ds[i]? else none
  | .bb c' ds => if c' = c then ds[i]? else none
  | _ => none
section
variable {K : PySem.W.Frag} {cls : Cls} {W : WX} {X : Cx} {F H F' H' F1 H1 : Hp} {O O1 : List Addr} {Q : VK} {σ : St} {a b e : Expr} {es : List Expr} {fa fb fc : Env → Res D} {ga gb : Env → Res Bool} {fs : Env → Res (List D)} {pos : Pos}
theorem Bo.fld {c i : Nat} {C : Addr} {ns : List Str} {f : Str} {v : V} {d r : D} (s : Same F H) (T : ClsOk K cls c C ns) (hi : ns[i]? = some f) (b : Bo K cls F H v d) (e : opFld c i d = some r) :
    ∃ a dx fs w, v = .ref a ∧ H a = some (.ins C dx fs) ∧ fs.lookup f = some w ∧ Bo K cls F H w r := by
  cases d with
  | ob c' ds =>
    have e2 : (if c' = c then ds[i]? else none) = some r := e
    split at e2
    · rename_i hc
      subst hc
      cases b with
      | sh rr =>
        cases rr with
        | ob he hF hl hr =>
          have := he.symm.trans T.e
          cases this
          obtain ⟨w, h1, h2⟩ := hr.get e2
          exact ⟨_, _, _, w, rfl, s _ _ hF, lookup_zip T.nd hi h1, .sh h2⟩
    · cases e2
  | bb c' ds =>
    have e2 : (if c' = c then ds[i]? else none) = some r := e
    split at e2
    · rename_i hc
      subst hc
      cases b with
      | sh rr => cases rr
      | bb he hF hl hr =>
        have := he.symm.trans T.e
        cases this
        obtain ⟨w, h1, h2⟩ := hr.get e2
        exact ⟨_, _, _, w, rfl, hF, lookup_zip T.nd hi h1, h2⟩
    · cases e2
  | _ => cases e
theorem je_fld {c i : Nat} {C : Addr} {ns : List Str} {f : Str} (T : ClsOk X.K cls c C ns) (hi : ns[i]? = some f) (ha : JE X cls W a fa) (hb : attributeBase a f X.env (eval a X.env) = eval a X.env := by rfl) : JE X cls W (.Attribute a f pos) (eUn (opFld c i) fa) := by
  obtain ⟨ta, pa, da⟩ := ha.ex
  refine ⟨_, pe_fld pa hb, ?_⟩
  intro σ F H g O Q s st p
  rw [eUn_] at p
  refine da.go s st (fun c e => by rw [e] at p; exact p) (fun e => by rw [e] at p; exact p) fun d e v F1 H1 x1 b1 => ?_
  rw [e] at p
  simp only [Res.bind] at p
  cases eo : opFld c i (opd d) with
  | none => rw [eo] at p; exact p.elim
  | some r =>
    rw [eo] at p
    obtain ⟨a, dx, fs, w, rfl, h1, h2, h3⟩ := b1.fld x1.fh T hi eo
    exact ⟨_, _, _, _, w, rfl, h1, T.cl, T.na f (List.mem_of_getElem? hi), h2, p w F1 H1 [] x1 Fresh.nil (.inr ⟨h3, rfl⟩)⟩

/-! ### calls of the text's own defs -/
/-- the promise: on the data ds it gives what g says -/
def spD (K : PySem.W.Frag) (cls : Cls) (n : Nat) (g : List D → Res D) : Sp := fun vs H Q E => ∃ F ds, Same F H ∧ Rps K cls F vs ds ∧ ds.length = n ∧
  match g ds with
  | .ok d => ∀ v F' H' O', Ext F H F' H' → Fresh H O' → Ow K cls F' H' v d O' → Q v H'
  | .xc c => ∀ F' H', Ext F H F' H' → E (excV cls c) none H'
  | .bad => False
mutual
/-- nothing but scalars, in new lists -/
@[simp] def flat : D → Bool
  | .non => true
  | .bl _ => true
  | .int _ => true
  | .str _ => true
  | .ol xs => flats xs
  | _ => false
@[simp] def flats : List D → Bool
  | [] => true
  | d :: ds => flat d && flats ds
end
mutual
@[simp] def plok : D → Bool
  | .bd _ _ => false
  | .bo xs => ploks xs
  | .bb _ xs => ploks xs
  | _ => true
@[simp] def ploks : List D → Bool
  | [] => true
  | d :: ds => plok d && ploks ds
end
mutual
theorem Bo.pln (s : Same F H) : ∀ {v : V} {d : D}, Bo K cls F H v d → plok d = true → Rp K cls H v (pln d)
  | _, _, .sh r, _ => by
    have r' := r.mono s
    cases r <;> exact r'
  | _, _, .bo h r, e => by
    simp only [DL.pln]
    exact .ls h (Bos.plns s r (by simpa using e))
  | _, _, .bb hc h l r, e => by
    simp only [DL.pln]
    exact .ob hc h l (Bos.plns s r (by simpa using e))
  | _, _, .bd .., e => by simp at e
theorem Bos.plns (s : Same F H) : ∀ {v : List V} {d : List D}, Bos K cls F H v d → ploks d = true → Rps K cls H v (plns d)
  | _, _, .nil, _ => .nil
  | _, _, .cons a b, e => by
    simp only [ploks, Bool.and_eq_true] at e
    simp only [DL.plns]
    exact .cons (Bo.pln s a e.1) (Bos.plns s b e.2)
end
mutual
theorem Ow.flat : ∀ {v : V} {d : D} {O : List Addr}, Ow K cls F' H' v d O → flat d = true → (∀ a ∈ O, F a = none) → Ow K cls F H' v d O
  | _, _, _, .sh r, e, _ => by
    cases r with
    | non => exact .sh .non
    | bl b => exact .sh (.bl b)
    | int b => exact .sh (.int b)
    | str b => exact .sh (.str b)
    | _ => simp at e
  | _, _, _, .ol h1 h2 h3 r, e, k => .ol (k _ (by simp)) h2 h3 (Ows.flats r (by simpa using e) fun a ha => k a (by simp [ha]))
  | _, _, _, .od .., e, _ => by simp at e
  | _, _, _, .oo .., e, _ => by simp at e
theorem Ows.flats : ∀ {v : List V} {d : List D} {O : List Addr}, Ows K cls F' H' v d O → flats d = true → (∀ a ∈ O, F a = none) → Ows K cls F H' v d O
  | _, _, _, .nil, _, _ => .nil
  | _, _, _, .cons a b dj q, e, k => by
    simp only [DL.flats, Bool.and_eq_true] at e
    exact .cons (Ow.flat a e.1 fun x hx => k x (by simp [q, hx])) (Ows.flats b e.2 fun x hx => k x (by simp [q, hx])) dj q
end
/-- a call: shared arguments; borrowed ones, where the answer is all new -/
def calD (g : List D → Res D) (ds : List D) : Res D :=
  if shd ds = true then g ds
  else if ploks ds = true then (g (plns ds)).bind fun d => if flat d = true then .ok d else .bad
  else .bad
def eOwn (g : List D → Res D) (fs : Env → Res (List D)) : Env → Res D := fun e => (fs e).bind fun ds => calD g ds
@[simp] theorem eOwn_ (g : List D → Res D) (fs : Env → Res (List D)) (e : Env) : eOwn g fs e = (fs e).bind fun ds => calD g ds := rfl
theorem plns_len : ∀ ds : List D, (plns ds).length = ds.length
  | [] => rfl
  | d :: ds => by simp [plns, plns_len ds]
theorem spD_call {n : Nat} {g : List D → Res D} {vs : List V} {ds : List D} {E : XK} (s : Same F H) (b : Bos K cls F H vs ds) (hn : ds.length = n)
    (p : match calD g ds with
      | .ok d => ∀ v F' H' O', Ext F H F' H' → Fresh H O' → Ow K cls F' H' v d O' → Q v H'
      | .xc c => ∀ F' H', Ext F H F' H' → E (excV cls c) none H'
      | .bad => False) : spD K cls n g vs H Q E := by
  unfold calD at p
  by_cases h1 : shd ds = true
  · rw [if_pos h1] at p
    exact ⟨F, ds, s, b.toRps h1, hn, p⟩
  · rw [if_neg h1] at p
    by_cases h2 : ploks ds = true
    · rw [if_pos h2] at p
      refine ⟨H, plns ds, .refl H, b.plns s h2, by rw [plns_len]; exact hn, ?_⟩
      have up : ∀ {F' H'}, Ext H H F' H' → Ext F H F H' := fun x => ⟨.refl F, x.hh, s.trans x.hh, fun _ h _ => h⟩
      cases e : g (plns ds) with
      | ok d =>
        rw [e] at p
        simp only [Res.bind] at p ⊢
        by_cases h3 : flat d = true
        · rw [if_pos h3] at p
          intro v F' H' O' x fr ow
          refine p v F H' O' (up x) fr (ow.flat h3 fun a ha => ?_)
          cases q : F a with
          | none => rfl
          | some o => have := fr a ha; rw [s a o q] at this; cases this
        · rw [if_neg h3] at p; exact p.elim
      | xc c =>
        rw [e] at p
        exact fun F' H' x => p F H' (up x)
      | bad => rw [e] at p; exact p.elim
    · rw [if_neg h2] at p; exact p.elim
theorem je_own {x : Str} {f : Addr} {fd : FuncData} {ps : List Str} {k n : Nat} {g : List D → Res D} {p : Pos} (c : Cn X W k) (G : FnOk X.prog X.w X.K X.mg X.base (L2.CX X.prog X.w) k f fd ps (spD X.K cls n g))
    (hm : X.mg x = some (.ref f)) (hk : PySem.W.keepIn X.K (.ref f) = true) (hb : Binds X.K fd ps []) (ha : JA X cls W (e :: es) fs) (hn : ∀ g ds, fs g = .ok ds → ds.length = n) (hg : Gl X x := by rfl)
    (hdb : (x == ("__debug__" : Str)) = false := by decide) (he : starEach (e :: es) X.env = (false, eval e X.env) :: starEach es X.env := by rfl) (hpl : (backTo pos (starEach es X.env)).any (·.1) = false := by rfl) :
    JE X cls W (.Call (.Name x p) (e :: es) [] pos) (eOwn g fs) := by
  obtain ⟨ta, pa, da⟩ := ha.ex
  refine ⟨_, pe_callS G c.hr hg hm hk hb (fun σ => passAt c.tk σ) pa hdb he hpl, ?_⟩
  intro σ F H env O Q s st p
  rw [eOwn_] at p
  refine da.go s st (fun c e => by rw [e] at p; exact p) (fun e => by rw [e] at p; exact p) fun ds e vs F1 H1 x1 b1 => ?_
  rw [e] at p
  simp only [Res.bind] at p
  refine spD_call x1.fh b1 (hn env ds e) ?_
  cases eo : calD g ds with
  | ok d => rw [eo] at p; exact fun v F' H' O' y fr ow => p v F' H' O' (x1.trans y) (fr.mono x1.hh) (.inl ow)
  | xc c => rw [eo] at p; exact fun F' H' y => p F' H' (x1.trans y)
  | bad => rw [eo] at p; exact p
theorem an_len {g : Env} {ds : List D} {n : Nat} (h : ∀ g ds, fs g = .ok ds → ds.length = n) (e : aCons fa fs g = .ok ds) : ds.length = n + 1 := by
  rw [aCons_] at e
  cases q1 : fa g with
  | ok d =>
    rw [q1] at e
    simp only [Res.bind] at e
    cases q2 : fs g with
    | ok r => rw [q2] at e; cases e; simp [h g r q2]
    | xc c => rw [q2] at e; cases e
    | bad => rw [q2] at e; cases e
  | xc c => rw [q1] at e; cases e
  | bad => rw [q1] at e; cases e
theorem al0 : ∀ g ds, aNil g = .ok ds → ds.length = 0 := fun g ds e => by cases e; rfl
theorem alS {n : Nat} (h : ∀ g ds, fs g = .ok ds → ds.length = n) : ∀ g ds, aCons fa fs g = .ok ds → ds.length = n + 1 := fun g ds e => an_len h e

/-! ### statements -/
def PostS (K : PySem.W.Frag) (cls : Cls) (W : WX) (D : Ends) (F H : Hp) (O : List Addr) : Out → Prop
  | .nx g => ∀ σ' F' H' O', SExt F H O F' H' O' → Sts K cls F' H' σ' g O' → D.nx σ' H'
  | .rt d => ∀ v F' H' O', SExt F H O F' H' O' → Ow K cls F' H' v d O' → D.rt v H'
  | .bk g => ∀ σ' F' H' O', SExt F H O F' H' O' → Sts K cls F' H' σ' g O' → D.bk σ' H'
  | .ct g => ∀ σ' F' H' O', SExt F H O F' H' O' → Sts K cls F' H' σ' g O' → D.ct σ' H'
  | .xc c g => ∀ σ' F' H' O', SExt F H O F' H' O' → Sts K cls F' H' σ' g O' → W (excV cls c) none σ' H'
  | .bad => False
def DS (K : PySem.W.Frag) (cls : Cls) (W : WX) (t : TS) (f : Env → Out) : Prop :=
  ∀ D σ F H g O, Same F H → Sts K cls F H σ g O → PostS K cls W D F H O (f g) → t D σ H
structure JS (X : Cx) (cls : Cls) (W : WX) (st : Stmt) (f : Env → Out) : Prop where
  ex : ∃ t, PS X st t ∧ DS X.K cls W t f
structure JSs (X : Cx) (cls : Cls) (W : WX) (st : List Stmt) (f : Env → Out) : Prop where
  ex : ∃ t, PSs X st t ∧ DS X.K cls W t f
theorem PostS.mono {D : Ends} {r : Out} (x : SExt F H O F1 H1 O1) (p : PostS K cls W D F H O r) : PostS K cls W D F1 H1 O1 r := by
  cases r with
  | nx g => exact fun σ' F' H' O' y => p σ' F' H' O' (x.trans y)
  | rt d => exact fun v F' H' O' y => p v F' H' O' (x.trans y)
  | bk g => exact fun σ' F' H' O' y => p σ' F' H' O' (x.trans y)
  | ct g => exact fun σ' F' H' O' y => p σ' F' H' O' (x.trans y)
  | xc c g => exact fun σ' F' H' O' y => p σ' F' H' O' (x.trans y)
  | bad => exact p
/-- from expressions into statements -/
def Res.st {α : Type} (r : Res α) (g : Env) (f : α → Out) : Out := match r with
  | .ok a => f a
  | .xc c => .xc c g
  | .bad => .bad
@[simp] theorem Res.st_ok {α : Type} (a : α) (g : Env) (f : α → Out) : (Res.ok a).st g f = f a := rfl
@[simp] theorem Res.st_xc {α : Type} (c : Nat) (g : Env) (f : α → Out) : (Res.xc c : Res α).st g f = .xc c g := rfl
@[simp] theorem Res.st_bad {α : Type} (g : Env) (f : α → Out) : (Res.bad : Res α).st g f = .bad := rfl
theorem xc_st {D : Ends} {c : Nat} {g : Env} (st : Sts K cls F H σ g O) (p : PostS K cls W D F H O (.xc c g)) : ∀ F' H', Ext F H F' H' → W (excV cls c) none σ H' :=
  fun F' H' x => p σ F' H' O (x.sext fun a h => .inl h) (st.ext x)
def sSeq (f u : Env → Out) : Env → Out := fun g => match f g with
  | .nx g' => u g'
  | o => o
@[simp] theorem sSeq_ (f u : Env → Out) (g : Env) : sSeq f u g = match f g with
  | .nx g' => u g'
  | o => o := rfl
def sNil : Env → Out := fun g => .nx g
@[simp] theorem sNil_ (g : Env) : sNil g = .nx g := rfl
theorem ds_seq {t u : TS} {f1 f2 : Env → Out} (h1 : DS K cls W t f1) (h2 : DS K cls W u f2) : DS K cls W (tSeq t u) (sSeq f1 f2) := by
  intro D σ F H g O s st p
  rw [sSeq_] at p
  refine h1 _ σ F H g O s st ?_
  cases e : f1 g with
  | nx g' => rw [e] at p; exact fun σ' F' H' O' x st' => h2 D σ' F' H' g' O' x.fh st' (PostS.mono x p)
  | rt d => rw [e] at p; exact p
  | bk g' => rw [e] at p; exact p
  | ct g' => rw [e] at p; exact p
  | xc c g' => rw [e] at p; exact p
  | bad => rw [e] at p; exact p
theorem jss_nil : JSs X cls W [] sNil := ⟨_, pss_nil, fun D σ F H g O s st p => p σ F H O (.refl s) st⟩
theorem jss_cons {st : Stmt} {sts : List Stmt} {f1 f2 : Env → Out} (h1 : JS X cls W st f1) (h2 : JSs X cls W sts f2) : JSs X cls W (st :: sts) (sSeq f1 f2) := by
  obtain ⟨t, p, d⟩ := h1.ex
  obtain ⟨u, q, d'⟩ := h2.ex
  exact ⟨_, pss_cons p q, ds_seq d d'⟩
theorem jss_one {st : Stmt} {f1 : Env → Out} (h1 : JS X cls W st f1) : JSs X cls W [st] f1 := by
  obtain ⟨t, p, d⟩ := h1.ex
  exact ⟨_, pss_one p, d⟩
/-- code that is never reached -/
def sNever : Env → Out := fun _ => .bad
@[simp] theorem sNever_ (g : Env) : sNever g = .bad := rfl
theorem js_never {st : Stmt} : JS X cls W st sNever := ⟨_, ps_never, fun _ _ _ _ _ _ _ _ p => p⟩
theorem jss_never {st : List Stmt} : JSs X cls W st sNever := ⟨_, pss_never, fun _ _ _ _ _ _ _ _ p => p⟩
theorem js_pass : JS X cls W (.Pass pos) sNil := ⟨_, ps_pass, fun D σ F H g O s st p => p σ F H O (.refl s) st⟩
theorem js_doc {x j pos'} : JS X cls W (.Expr (.Constant (.str x) j pos) pos') sNil := ⟨_, ps_doc, fun D σ F H g O s st p => p σ F H O (.refl s) st⟩
def sBreak : Env → Out := fun g => .bk g
@[simp] theorem sBreak_ (g : Env) : sBreak g = .bk g := rfl
theorem js_break : JS X cls W (.Break pos) sBreak := ⟨_, ps_break, fun D σ F H g O s st p => p σ F H O (.refl s) st⟩
def sCont : Env → Out := fun g => .ct g
@[simp] theorem sCont_ (g : Env) : sCont g = .ct g := rfl
theorem js_continue : JS X cls W (.Continue pos) sCont := ⟨_, ps_continue, fun D σ F H g O s st p => p σ F H O (.refl s) st⟩
def sIf (c : Env → Res Bool) (f1 f2 : Env → Out) : Env → Out := fun g => (c g).st g fun k => if k = true then f1 g else f2 g
@[simp] theorem sIf_ (c : Env → Res Bool) (f1 f2 : Env → Out) (g : Env) : sIf c f1 f2 g = (c g).st g fun k => if k = true then f1 g else f2 g := rfl
theorem js_if {c : Expr} {s1 s2 : List Stmt} {f1 f2 : Env → Out} (hc : JT X cls W c ga) (h1 : JSs X cls W s1 f1) (h2 : JSs X cls W s2 f2) : JS X cls W (.If c s1 s2 pos) (sIf ga f1 f2) := by
  obtain ⟨tc, pc, dc⟩ := hc.ex
  obtain ⟨t1, p1, d1⟩ := h1.ex
  obtain ⟨t2, p2, d2⟩ := h2.ex
  refine ⟨_, ps_if pc p1 p2, ?_⟩
  intro D σ F H g O s st p
  rw [sIf_] at p
  refine dc.go s st (fun c e => by rw [e] at p; exact xc_st st p) (fun e => by rw [e] at p; exact p) fun k e F1 H1 x => ?_
  rw [e, Res.st_ok] at p
  have x' : SExt F H O F1 H1 O := x.sext fun a h => .inl h
  cases k with
  | true =>
    rw [if_pos rfl] at p
    rw [if_pos rfl]
    exact d1 D σ F1 H1 g O x.fh (st.ext x) (p.mono x')
  | false =>
    rw [if_neg (by decide)] at p
    rw [if_neg (by decide)]
    exact d2 D σ F1 H1 g O x.fh (st.ext x) (p.mono x')
/-- a kept value, then what follows -/
theorem DE.goS {t : TE} (ha : DE K cls W t fa) {σ : St} {F H : Hp} {g : Env} {O : List Addr} {Q : VK} {Dn : Ends} {f : D → Out} (s : Same F H) (st : Sts K cls F H σ g O)
    (p : PostS K cls W Dn F H O (((fa g).bind kp).st g f)) (hk : ∀ d, (fa g).bind kp = .ok d → PostS K cls W Dn F H O (f d) → ∀ v F' H' O', Ext F H F' H' → Fresh H O' → Ow K cls F' H' v d O' → Q v H') : t σ H Q := by
  refine ha.goO s st (fun c e => ?_) (fun e => by rw [e] at p; exact p) fun d e => ?_
  · have e' : (fa g).bind kp = .xc c := by rw [e]; rfl
    rw [e'] at p
    exact xc_st st p
  · rw [e] at p
    exact hk d e p
/-- name = value -/
def sAsg (i : Nat) (fa : Env → Res D) : Env → Out := fun g => ((fa g).bind kp).st g fun d => .nx (g.set i d)
@[simp] theorem sAsg_ (i : Nat) (fa : Env → Res D) (g : Env) : sAsg i fa g = ((fa g).bind kp).st g fun d => .nx (g.set i d) := rfl
/-- name = value, its lists shared from now on -/
def sAsgF (i : Nat) (fa : Env → Res D) : Env → Out := fun g => ((fa g).bind kp).st g fun d => if nod d = true then .nx (g.set i (frz d)) else .bad
@[simp] theorem sAsgF_ (i : Nat) (fa : Env → Res D) (g : Env) : sAsgF i fa g = ((fa g).bind kp).st g fun d => if nod d = true then .nx (g.set i (frz d)) else .bad := rfl
/-- a slot filled anew -/
theorem Sts.put {i : Nat} {v : V} {d : D} {g : Env} {Od : List Addr} (st : Sts K cls F H σ g O) (x : Ext F H F' H') (fr : Fresh H Od) (w : Ow K cls F' H' v d Od) :
    ∃ O'', Sts K cls F' H' (σ.set i (some v)) (g.set i d) O'' ∧ SExt F H O F' H' O'' := by
  have ne : ∀ a ∈ O, H a ≠ none := fun a ha => (st.dom a ha).2
  by_cases hi : i < g.length
  · obtain ⟨O1, h1, h2, h3, h4⟩ := st.at i hi
    obtain ⟨O'', q1, q2⟩ := h3 F' H' v d Od (fun b hb _ => x.get (st.dom b hb).1 (ne b hb)) x.ff w (fun a h1 h2 => absurd (fr a h1) (ne a h2))
    exact ⟨O'', q1, x.sext fun a ha => (q2 a ha).imp id (fr a)⟩
  · have hl := st.len
    rw [List.set_eq_of_length_le (by omega), List.set_eq_of_length_le (by omega)]
    exact ⟨O, st.ext x, x.sext fun a h => .inl h⟩
/-- .. by a shared value -/
theorem Sts.putS {i : Nat} {v : V} {d : D} {g : Env} (s : Same F H) (st : Sts K cls F H σ g O) (w : Rp K cls F v d) :
    ∃ O'', Sts K cls F H (σ.set i (some v)) (g.set i d) O'' ∧ SExt F H O F H O'' := st.put (.refl s) Fresh.nil (.sh w)
theorem ds_asg {t : TE} {i : Nat} (ha : DE K cls W t fa) : DS K cls W (tAsg t (gName i)) (sAsg i fa) := by
  intro D σ F H g O s st p
  refine ha.goS s st p fun d e p v F1 H1 O1 x fr w => ?_
  obtain ⟨O'', q1, q2⟩ := st.put (i := i) x fr w
  exact p _ F1 H1 O'' q2 q1
theorem ds_asgF {t : TE} {i : Nat} (ha : DE K cls W t fa) : DS K cls W (tAsg t (gName i)) (sAsgF i fa) := by
  intro D σ F H g O s st p
  refine ha.goS s st p fun d e p v F1 H1 O1 x fr w => ?_
  split at p
  · rename_i n
    have no : ∀ a ∈ O1, F1 a = none := fun a ha => (w.dom a ha).1
    have x2 := addF_ext x fr no
    obtain ⟨O'', q1, q2⟩ := st.put (i := i) x2 Fresh.nil (.sh (w.freeze (addF_same no) addF_at n))
    exact p _ _ H1 O'' q2 q1
  · exact p.elim
theorem js_set {i : Nat} {x : Str} {pos' : Pos} {k : Nat} (c : Cn X W k) (hi : X.N[i]? = some x) (hx : Loc X.env.scope x) (ha : JE X cls W a fa) (hs : swapsWith a (some (.Name x pos')) pos.line X.env = pure false := by rfl)
    (hf : X.fn x = true ∨ X.env.scope.names.lookup x = some .local := by first | exact .inl rfl | exact .inr rfl) : JS X cls W (.Assign [.Name x pos'] a pos) (sAsg i fa) := by
  obtain ⟨t, p, d⟩ := ha.ex
  exact ⟨_, ps_set c.nd hi hx p hs hf, ds_asg d⟩
theorem js_setF {i : Nat} {x : Str} {pos' : Pos} {k : Nat} (c : Cn X W k) (hi : X.N[i]? = some x) (hx : Loc X.env.scope x) (ha : JE X cls W a fa) (hs : swapsWith a (some (.Name x pos')) pos.line X.env = pure false := by rfl)
    (hf : X.fn x = true ∨ X.env.scope.names.lookup x = some .local := by first | exact .inl rfl | exact .inr rfl) : JS X cls W (.Assign [.Name x pos'] a pos) (sAsgF i fa) := by
  obtain ⟨t, p, d⟩ := ha.ex
  exact ⟨_, ps_set c.nd hi hx p hs hf, ds_asgF d⟩
/-- return -/
def sRet (fa : Env → Res D) : Env → Out := fun g => ((fa g).bind kp).st g .rt
@[simp] theorem sRet_ (fa : Env → Res D) (g : Env) : sRet fa g = ((fa g).bind kp).st g .rt := rfl
theorem js_ret (ha : JE X cls W a fa) : JS X cls W (.Return (some a) pos) (sRet fa) := by
  obtain ⟨t, p, d⟩ := ha.ex
  refine ⟨_, ps_ret p, ?_⟩
  intro D σ F H g O s st p
  exact d.goS s st p fun d e p v F1 H1 O1 x fr w => p v F1 H1 O1 (x.sext fun a h => .inr (fr a h)) w
/-- return name: what the name held goes out -/
def sRetV (i : Nat) : Env → Out := fun g => match g[i]? with
  | some .un => .bad
  | some d => .rt d
  | none => .bad
@[simp] theorem sRetV_ (i : Nat) (g : Env) : sRetV i g = match g[i]? with
  | some .un => .bad
  | some d => .rt d
  | none => .bad := rfl
theorem js_retV (i : Nat) {x : Str} {pos' : Pos} (hN : X.N[i]? = some x := by rfl) (hv : Vis X.env.scope x := by first | exact Or.inl rfl | exact Or.inr (Or.inl rfl) | exact Or.inr (Or.inr rfl)) (hd : (x == ("__debug__" : Str)) = false := by decide)
    (hcd : (x == ("__classdict__" : Str)) = false := by decide) : JS X cls W (.Return (some (.Name x pos')) pos) (sRetV i) := by
  refine ⟨_, ps_ret (pe_var hN hv hd hcd), ?_⟩
  intro D σ F H g O s st p
  rw [sRetV_] at p
  cases e : g[i]? with
  | none => rw [e] at p; exact p.elim
  | some d =>
    have hi : i < g.length := (List.getElem?_eq_some_iff.mp e).1
    obtain ⟨O1, h1, h2, _⟩ := st.at i hi
    rcases h2 with ⟨h2, _⟩ | ⟨v, d', h2, h3, ow⟩
    · rw [e] at h2; cases h2; rw [e] at p; exact p.elim
    · rw [e] at h3; cases h3
      rw [e] at p
      have q : PostS X.K cls W D F H O (.rt d) := by cases d <;> first | exact p | exact p.elim
      exact ⟨v, h2, q v F H O1 ⟨.refl F, s, fun _ _ h _ => h, fun _ h _ _ => h, fun a ha => .inl (h1 a ha)⟩ ow⟩
def sRetN : Env → Out := fun _ => .rt .non
@[simp] theorem sRetN_ (g : Env) : sRetN g = .rt .non := rfl
theorem js_retN : JS X cls W (.Return none pos) sRetN := ⟨_, ps_retN, fun D σ F H g O s st p => p .non F H [] ⟨.refl F, s, fun _ _ h _ => h, fun _ h _ _ => h, fun _ h => nomatch h⟩ (.sh .non)⟩
/-- an expression whose value is dropped -/
def sExp (fa : Env → Res D) : Env → Out := fun g => (fa g).st g fun _ => .nx g
@[simp] theorem sExp_ (fa : Env → Res D) (g : Env) : sExp fa g = (fa g).st g fun _ => .nx g := rfl
theorem js_exp (ha : JE X cls W a fa) (hs : swapsWith a none pos.line X.env = pure false := by rfl) : JS X cls W (.Expr a pos) (sExp fa) := by
  obtain ⟨t, p, d⟩ := ha.ex
  refine ⟨_, ps_expr p hs, ?_⟩
  intro D σ F H g O s st p
  rw [sExp_] at p
  exact d.go s st (fun c e => by rw [e] at p; exact xc_st st p) (fun e => by rw [e] at p; exact p) fun d e v F1 H1 x b => by
    rw [e] at p
    exact p σ F1 H1 O (x.sext fun a h => .inl h) (st.ext x)
/-- a slot shared from now on -/
def frzAt (g : Env) (i : Nat) : Env := match g[i]? with
  | some d => if nod d = true then g.set i (frz d) else g
  | none => g
def sFrz (i : Nat) (f : Env → Out) : Env → Out := fun g => f (frzAt g i)
@[simp] theorem sFrz_ (i : Nat) (f : Env → Out) (g : Env) : sFrz i f g = f (frzAt g i) := rfl
theorem Sts.frzAt (s : Same F H) {g : Env} (i : Nat) (st : Sts K cls F H σ g O) : ∃ F' O', SExt F H O F' H O' ∧ Sts K cls F' H σ (frzAt g i) O' := by
  unfold DL.frzAt
  cases e : g[i]? with
  | none => exact ⟨F, O, .refl s, st⟩
  | some d =>
    simp only []
    by_cases n : nod d = true
    · rw [if_pos n]
      have hi : i < g.length := (List.getElem?_eq_some_iff.mp e).1
      obtain ⟨O1, h1, h2, h3, h4⟩ := st.at i hi
      rcases h2 with ⟨h2, _⟩ | ⟨v, d', h2, h3', ow⟩
      · rw [e] at h2; cases h2
        rw [show frz .un = .un from rfl, set_self e]
        exact ⟨F, O, .refl s, st⟩
      · rw [e] at h3'; cases h3'
        have no : ∀ a ∈ O1, F a = none := fun a ha => (ow.dom a ha).1
        obtain ⟨O'', q1, q2⟩ := h3 (addF F H O1) H v (frz d) [] (fun b hb hn => ⟨rfl, by rw [addF_no hn]; exact (st.dom b hb).1⟩) (addF_same no) (.sh (ow.freeze (addF_same no) addF_at n)) (fun _ h => nomatch h)
        rw [set_self h2] at q1
        refine ⟨_, O'', ⟨addF_same no, fun a o e => ?_, fun _ _ h _ => h, fun a ha hb hc => ?_, fun a ha => .inl ((q2 a ha).resolve_right (fun h => nomatch h))⟩, q1⟩
        · unfold addF at e
          split at e
          · exact e
          · exact s a o e
        · rw [addF_no fun q => hc (h1 a q)]; exact ha
    · rw [if_neg n]; exact ⟨F, O, .refl s, st⟩
theorem ds_frz {t : TS} {f : Env → Out} {i : Nat} (h : DS K cls W t f) : DS K cls W t (sFrz i f) := by
  intro D σ F H g O s st p
  obtain ⟨F', O', x, st'⟩ := st.frzAt s i
  exact h D σ F' H (frzAt g i) O' x.fh st' (p.mono x)
theorem js_frz {st : Stmt} {f : Env → Out} (i : Nat) (h : JS X cls W st f) : JS X cls W st (sFrz i f) := by
  obtain ⟨t, p, d⟩ := h.ex
  exact ⟨t, p, ds_frz d⟩
theorem jss_frz {st : List Stmt} {f : Env → Out} (i : Nat) (h : JSs X cls W st f) : JSs X cls W st (sFrz i f) := by
  obtain ⟨t, p, d⟩ := h.ex
  exact ⟨t, p, ds_frz d⟩
end
end DL

namespace DL
open PySem L2
/-! ### slots forgotten -/
theorem wipe_set {σ : St} {i : Nat} {o : Option V} : ∀ {vs : List Nat}, wipe (σ.set i o) vs = if i ∈ vs then wipe σ vs else (wipe σ vs).set i o
  | [] => by simp [wipe]
  | v :: vs => by
    unfold wipe
    rw [wipe_set (vs := vs)]
    by_cases h : i = v
    · subst h
      simp only [List.mem_cons, true_or, if_true]
      split
      · rfl
      · rw [List.set_set]
    · by_cases h2 : i ∈ vs
      · simp [h2]
      · have : ¬ i ∈ v :: vs := by simp [h, h2]
        rw [if_neg this, if_neg h2, List.set_comm _ _ h]
theorem wipe_in {σ : St} {i : Nat} {o : Option V} {vs : List Nat} (h : i ∈ vs) : wipe (σ.set i o) vs = wipe σ vs := by rw [wipe_set, if_pos h]
theorem wipe_wipe {σ : St} : ∀ {us vs : List Nat}, (∀ i ∈ us, i ∈ vs) → wipe (wipe σ us) vs = wipe σ vs
  | [], _, _ => rfl
  | u :: us, vs, h => by
    show wipe ((wipe σ us).set u none) vs = _
    rw [wipe_in (h u (by simp))]
    exact wipe_wipe fun i hi => h i (by simp [hi])
def wipeG (g : Env) : List Nat → Env
  | [] => g
  | v :: vs => (wipeG g vs).set v .un
@[simp] theorem wipeG_nil (g : Env) : wipeG g [] = g := rfl
@[simp] theorem wipeG_cons (g : Env) (v : Nat) (vs : List Nat) : wipeG g (v :: vs) = (wipeG g vs).set v .un := rfl
section
variable {K : PySem.W.Frag} {cls : Cls} {W : WX} {X : Cx} {F H F' H' F1 H1 : Hp} {O O1 : List Addr} {Q : VK} {σ : St} {a b e tg iter : Expr} {es : List Expr} {fa fb fc : Env → Res D} {ga gb : Env → Res Bool} {fs : Env → Res (List D)} {pos : Pos}
theorem Sts.wipe (s : Same F H) {g : Env} (st : Sts K cls F H σ g O) : ∀ vs : List Nat, ∃ O', Sts K cls F H (wipe σ vs) (wipeG g vs) O' ∧ ∀ a ∈ O', a ∈ O
  | [] => ⟨O, st, fun _ h => h⟩
  | v :: vs => by
    obtain ⟨O', st', h'⟩ := st.wipe s vs
    by_cases hi : v < (wipeG g vs).length
    · obtain ⟨O1, h1, h2, h3, h4⟩ := st'.at v hi
      obtain ⟨O'', q1, q2, _⟩ := h4 F H none (fun b hb _ => ⟨rfl, (st'.dom b hb).1⟩) (.refl F)
      exact ⟨O'', q1, fun a ha => h' a (q2 a ha)⟩
    · have hl := st'.len
      refine ⟨O', ?_, h'⟩
      show Sts K cls F H ((L2.wipe σ vs).set v none) ((wipeG g vs).set v .un) O'
      rw [List.set_eq_of_length_le (by omega), List.set_eq_of_length_le (by omega)]
      exact st'

/-! ### targets -/
def DG (K : PySem.W.Frag) (cls : Cls) (t : TG) (f : D → Env → Option Env) (ss : List Nat) : Prop :=
  ∀ v d σ F H g O g' Q, Same F H → Sts K cls F H σ g O → Rp K cls F v d → f d g = some g' →
    (∀ σ' O', SExt F H O F H O' → Sts K cls F H σ' g' O' → (∀ vs : List Nat, (∀ i ∈ ss, i ∈ vs) → wipe σ' vs = wipe σ vs) → Q σ' H) → t v σ H Q
def DGs (K : PySem.W.Frag) (cls : Cls) (t : TGs) (f : List D → Env → Option Env) (ss : List Nat) : Prop :=
  ∀ v d σ F H g O g' Q, Same F H → Sts K cls F H σ g O → Rps K cls F v d → f d g = some g' →
    (∀ σ' O', SExt F H O F H O' → Sts K cls F H σ' g' O' → (∀ vs : List Nat, (∀ i ∈ ss, i ∈ vs) → wipe σ' vs = wipe σ vs) → Q σ' H) → t v σ H Q
structure JG (X : Cx) (cls : Cls) (e : Expr) (f : D → Env → Option Env) (ss : List Nat) : Prop where
  ex : ∃ t, PG X e t ∧ DG X.K cls t f ss
structure JGs (X : Cx) (cls : Cls) (e : List Expr) (f : List D → Env → Option Env) (ss : List Nat) : Prop where
  ex : ∃ t, PGs X e t ∧ DGs X.K cls t f ss
def gtN (i : Nat) : D → Env → Option Env := fun d g => some (g.set i d)
@[simp] theorem gtN_ (i : Nat) (d : D) (g : Env) : gtN i d g = some (g.set i d) := rfl
def gtNil : List D → Env → Option Env := fun ds g => match ds with | [] => some g | _ => none
@[simp] theorem gtNil_nil (g : Env) : gtNil [] g = some g := rfl
def gtCons (f : D → Env → Option Env) (fs : List D → Env → Option Env) : List D → Env → Option Env := fun ds g => match ds with
  | d :: r => match f d g with
    | some g1 => fs r g1
    | none => none
  | [] => none
@[simp] theorem gtCons_cons (f : D → Env → Option Env) (fs : List D → Env → Option Env) (d : D) (r : List D) (g : Env) : gtCons f fs (d :: r) g = match f d g with
    | some g1 => fs r g1
    | none => none := rfl
def gtT (n : Nat) (fs : List D → Env → Option Env) : D → Env → Option Env := fun d g => match d with
  | .tp ds => if ds.length = n then fs ds g else none
  | .ls ds => if ds.length = n then fs ds g else none
  | _ => none
@[simp] theorem gtT_tp (n : Nat) (fs : List D → Env → Option Env) (ds : List D) (g : Env) : gtT n fs (.tp ds) g = if ds.length = n then fs ds g else none := rfl
@[simp] theorem gtT_ls (n : Nat) (fs : List D → Env → Option Env) (ds : List D) (g : Env) : gtT n fs (.ls ds) g = if ds.length = n then fs ds g else none := rfl
theorem jg_name {i : Nat} {x : Str} (hN : X.N.Nodup) (hi : X.N[i]? = some x) (hx : Loc X.env.scope x) (hf : X.fn x = true ∨ X.env.scope.names.lookup x = some .local := by first | exact .inl rfl | exact .inr rfl) : JG X cls (.Name x pos) (gtN i) [i] := by
  refine ⟨_, pg_name hN hi hx hf, ?_⟩
  intro v d σ F H g O g' Q s st r e k
  cases e
  obtain ⟨O', q1, q2⟩ := st.putS (i := i) s r
  exact k _ O' q2 q1 fun vs h => wipe_in (h i (by simp))
theorem jgs_nil : JGs X cls [] gtNil [] := by
  refine ⟨_, pgs_nil, ?_⟩
  intro v d σ F H g O g' Q s st r e k
  cases r with
  | nil => cases e; exact ⟨rfl, k σ O (.refl s) st fun _ _ => rfl⟩
  | cons => cases e
theorem jgs_cons {f : D → Env → Option Env} {fs : List D → Env → Option Env} {ss us : List Nat} (h1 : JG X cls e f ss) (h2 : JGs X cls es fs us) (hs : (assignEach (e :: es) X.env).map (·.2) = assign e X.env :: (assignEach es X.env).map (·.2) := by rfl) :
    JGs X cls (e :: es) (gtCons f fs) (ss ++ us) := by
  obtain ⟨t, p, d⟩ := h1.ex
  obtain ⟨u, q, d'⟩ := h2.ex
  refine ⟨_, pgs_cons p q hs, ?_⟩
  intro v ds σ F H g O g' Q s st r e k
  cases r with
  | nil => cases e
  | cons r1 r2 =>
    rename_i v1 d1 vs1 ds1
    rw [gtCons_cons] at e
    cases e1 : f d1 g with
    | none => rw [e1] at e; cases e
    | some g1 =>
      rw [e1] at e
      refine ⟨v1, vs1, rfl, d v1 d1 σ F H g O g1 _ s st r1 e1 fun σ1 O1 x1 st1 w1 => ?_⟩
      refine d' vs1 ds1 σ1 F H g1 O1 g' _ s st1 r2 e fun σ2 O2 x2 st2 w2 => ?_
      exact k σ2 O2 (x1.trans x2) st2 fun vs h => (w2 vs fun i hi => h i (List.mem_append_right _ hi)).trans (w1 vs fun i hi => h i (List.mem_append_left _ hi))
theorem pg_or {t u : TG} (h : PG X tg t) (h' : PG X tg u) : PG X tg (fun v σ H Q => t v σ H Q ∨ u v σ H Q) :=
  ⟨fun pins s σ H v uu Q I r q => q.elim (h.run pins s σ H v uu Q I r) (h'.run pins s σ H v uu Q I r)⟩
theorem jg_tup {kk n : Nat} {fs : List D → Env → Option Env} {ss : List Nat} (hc : X.calm = true) (h : JGs X cls es fs ss)
    (hn : (assignEach es X.env).length = n := by rfl) (hst : (assignEach es X.env).findIdx? (·.1) = none := by rfl) : JG X cls (.Tuple es kk pos) (gtT n fs) ss := by
  obtain ⟨t, p, d⟩ := h.ex
  refine ⟨_, pg_or (pg_tup hc p hn hst) (pg_lst hc p hn hst), ?_⟩
  intro v dd σ F H g O g' Q s st r e k
  cases r with
  | tp hT hr =>
    rw [gtT_tp] at e
    split at e
    · rename_i hl
      exact .inl ⟨_, _, rfl, sameT s hT, by rw [hr.len]; exact hl, d _ _ σ F H g O g' Q s st hr e k⟩
    · cases e
  | ls hT hr =>
    rw [gtT_ls] at e
    split at e
    · rename_i hl
      exact .inr ⟨_, _, rfl, SqL.of (s _ _ hT), by rw [hr.len]; exact hl, d _ _ σ F H g O g' Q s st hr e k⟩
    · cases e
  | _ => cases e
/-- target = value, any target: the value is shared from now on -/
def sAsgT (tg : D → Env → Option Env) (fa : Env → Res D) : Env → Out := fun g => ((fa g).bind kp).st g fun d => if nod d = true then match tg (frz d) g with
  | some g' => .nx g'
  | none => .bad else .bad
@[simp] theorem sAsgT_ (tg : D → Env → Option Env) (fa : Env → Res D) (g : Env) : sAsgT tg fa g = ((fa g).bind kp).st g fun d => if nod d = true then match tg (frz d) g with
  | some g' => .nx g'
  | none => .bad else .bad := rfl
theorem js_asgT {ft : D → Env → Option Env} {ss : List Nat} (ha : JE X cls W a fa) (hg : JG X cls tg ft ss) (hs : swapsWithSole [tg] a pos.line X.env = pure false := by rfl) (hw : swappedStores [tg] a X.env = pure none := by rfl)
    (h1 : (assignEach [tg] X.env).map (·.2) = [assign tg X.env] := by rfl) : JS X cls W (.Assign [tg] a pos) (sAsgT ft fa) := by
  obtain ⟨t, p, d⟩ := ha.ex
  obtain ⟨u, q, d'⟩ := hg.ex
  refine ⟨_, ps_asg p q hs hw h1, ?_⟩
  intro D σ F H g O s st p
  rw [sAsgT_] at p
  refine d.goS s st p fun dd e p v F1 H1 O1 x fr w => ?_
  split at p
  · rename_i n
    have no : ∀ a ∈ O1, F1 a = none := fun a ha => (w.dom a ha).1
    have x2 := addF_ext x fr no
    have r := w.freeze (addF_same no) addF_at n
    cases eo : ft (frz dd) g with
    | none => rw [eo] at p; exact p.elim
    | some g' =>
      rw [eo] at p
      refine d' v (frz dd) σ _ H1 g O g' _ x2.fh (st.ext x2) r eo fun σ' O' y st' _ => ?_
      exact p σ' _ H1 O' ((x2.sext fun a h => .inl h).trans y) st'
  · exact p.elim
/-- a, b = x, y (two local names) -/
def sPar (i j : Nat) (fs : Env → Res (List D)) : Env → Out := fun g => (fs g).st g fun ds => if nods ds = true then match frzs ds with
  | [d, d'] => .nx ((g.set i d).set j d')
  | _ => .bad else .bad
@[simp] theorem sPar_ (i j : Nat) (fs : Env → Res (List D)) (g : Env) : sPar i j fs g = (fs g).st g fun ds => if nods ds = true then match frzs ds with
  | [d, d'] => .nx ((g.set i d).set j d')
  | _ => .bad else .bad := rfl
theorem js_par {i j : Nat} {x y : Str} {px py pt : Pos} {kt k2 pt2} {k : Nat} (c : Cn X W k) (hi : X.N[i]? = some x) (hj : X.N[j]? = some y) (hij : i ≠ j)
    (hx : X.env.scope.names.lookup x = some .local) (hy : X.env.scope.names.lookup y = some .local) (ha : JAO X cls W [a, b] fs)
    (hw : swappedStores [.Tuple [.Name x px, .Name y py] kt pt] (.Tuple [a, b] k2 pt2) X.env = pure (some [x, y]) := by rfl)
    (hs : swapsWithSole [.Tuple [.Name x px, .Name y py] kt pt] (.Tuple [a, b] k2 pt2) pos.line X.env = pure false := by rfl) :
    JS X cls W (.Assign [.Tuple [.Name x px, .Name y py] kt pt] (.Tuple [a, b] k2 pt2) pos) (sPar i j fs) := by
  obtain ⟨t, p, d⟩ := ha.ex
  refine ⟨_, ps_par c.calm c.nd hi hj hij hx hy p hw hs, ?_⟩
  intro D σ F H g O s st p
  rw [sPar_] at p
  refine d.go s st (fun c e => by rw [e] at p; exact xc_st st p) (fun e => by rw [e] at p; exact p) fun ds e vs F1 H1 O1 x fr w => ?_
  rw [e, Res.st_ok] at p
  split at p
  · rename_i n
    have no : ∀ a ∈ O1, F1 a = none := fun a ha => (w.dom a ha).1
    have x2 := addF_ext x fr no
    have r := w.freeze (addF_same no) addF_at n
    split at p
    · rename_i d1 d2 eq
      rw [eq] at r
      cases r with
      | cons r1 r2 =>
        cases r2 with
        | cons r2 r3 =>
          cases r3
          obtain ⟨O2, q1, q2⟩ := st.put (i := i) x2 Fresh.nil (.sh r1)
          obtain ⟨O3, z1, z2⟩ := q1.putS (i := j) x2.fh r2
          exact ⟨_, _, rfl, p _ _ H1 O3 (q2.trans z2) z1⟩
    · exact p.elim
  · exact p.elim
end
end DL

namespace DL
open PySem L2
section
variable {K : PySem.W.Frag} {cls : Cls} {W : WX} {X : Cx} {F H F' H' F1 H1 : Hp} {O O1 : List Addr} {Q : VK} {σ : St} {a b e tg iter : Expr} {es : List Expr} {fa fb fc : Env → Res D} {ga gb : Env → Res Bool} {fs : Env → Res (List D)} {pos : Pos}
/-! ### what is walked -/
/-- the walk J feeds the data ds, from F on -/
structure Feeds (K : PySem.W.Frag) (cls : Cls) (F : Hp) (J : It) (ds : List D) : Prop where
  go : ∀ i d, ds[i]? = some d → ∀ F' H', Same F F' → Same F' H' → J.go i H' ∧ ∀ x H'', J.yld i H' x H'' → ∃ F'', Ext F' H' F'' H'' ∧ Rp K cls F'' x d
  stop : ∀ F' H', Same F F' → Same F' H' → J.stop ds.length H'
def PostI (K : PySem.W.Frag) (cls : Cls) (W : WX) (σ : St) (F H : Hp) (R : It → Hp → Prop) : Res (List D) → Prop
  | .ok ds => ∀ J F' H', Ext F H F' H' → Feeds K cls F' J ds → R J H'
  | .xc c => ∀ F' H', Ext F H F' H' → W (excV cls c) none σ H'
  | .bad => False
def DI (K : PySem.W.Frag) (cls : Cls) (W : WX) (wi : TI) (f : Env → Res (List D)) : Prop :=
  ∀ σ F H g O (R : It → Hp → Prop), Same F H → Sts K cls F H σ g O → PostI K cls W σ F H R (f g) → wi σ H R
structure JI (X : Cx) (cls : Cls) (W : WX) (tg e : Expr) (f : Env → Res (List D)) : Prop where
  ex : ∃ wi, PI X tg e wi ∧ DI X.K cls W wi f
theorem pi_or {w1 w2 : TI} (h1 : PI X tg iter w1) (h2 : PI X tg iter w2) : PI X tg iter (fun σ H R => w1 σ H R ∨ w2 σ H R) :=
  ⟨fun pins s σ H R I q => q.elim (h1.run pins s σ H R I) (h2.run pins s σ H R I)⟩
theorem itl_same {a : Addr} {vs ws : List V} (h : H a = some (.lst vs)) (h' : SqL K H a ws) (kn : K.lookup a = none) : ws = vs := by
  rcases h' with (h' | ⟨o, h'⟩) | ⟨o, _, _, h', _⟩
  · rw [h] at h'; cases h'; rfl
  · rw [h] at h'; cases h'
  · rw [kn] at h'; cases h'
/-- the walk of a list as it stands: its items by the place -/
theorem feeds_list {a : Addr} {vs : List V} {ds : List D} (h : SqL K F a vs) (r : Rps K cls F vs ds) : Feeds K cls F (Itl K a) ds where
  go := fun i d e F' H' s1 s2 => by
    obtain ⟨v, h1, h2⟩ := r.get e
    have h' : SqL K H' a vs := (s1.trans s2).seq h
    refine ⟨⟨vs, v, h', h1⟩, fun x H'' y => ?_⟩
    obtain ⟨e1, y⟩ := y
    subst e1
    have := y vs h'
    rw [h1] at this
    cases this
    exact ⟨F', .refl s2, h2.mono s1⟩
  stop := fun F' H' s1 s2 => ⟨vs, (s1.trans s2).seq h, by rw [r.len]; exact Nat.le_refl _⟩
theorem feeds_tup {a : Addr} {vs : List V} {ds : List D} (h : SqT K F a vs) (r : Rps K cls F vs ds) : Feeds K cls F (Itt K a) ds where
  go := fun i d e F' H' s1 s2 => by
    obtain ⟨v, h1, h2⟩ := r.get e
    have h' : SqT K H' a vs := sameT (s1.trans s2) h
    refine ⟨⟨vs, v, h', h1⟩, fun x H'' y => ?_⟩
    obtain ⟨e1, y⟩ := y
    subst e1
    have := y vs h'
    rw [h1] at this
    cases this
    exact ⟨F', .refl s2, h2.mono s1⟩
  stop := fun F' H' s1 s2 => ⟨vs, sameT (s1.trans s2) h, by rw [r.len]; exact Nat.le_refl _⟩
/-- a shared list (or the script) -/
@[simp] def lsS : D → Option (List D)
  | .ls xs => some xs
  | .sc xs => some xs
  | _ => none
theorem Bo.lsS {v : V} {d : D} {xs : List D} (b : Bo K cls F H v d) (e : lsS d = some xs) : ∃ a vs, v = .ref a ∧ SqL K F a vs ∧ Rps K cls F vs xs := by
  cases b with
  | sh r =>
    cases r <;> simp at e
    · subst e; exact ⟨_, _, rfl, by assumption, by assumption⟩
    · subst e; exact ⟨_, _, rfl, SqL.of (by assumption), by assumption⟩
  | bo => simp at e
  | bd => simp at e
  | bb => simp at e
@[simp] def sqS : D → Option (List D)
  | .ls xs => some xs
  | .sc xs => some xs
  | .tp xs => some xs
  | _ => none
/-- for x in xs: a list or a tuple -/
def iSeq (fa : Env → Res D) : Env → Res (List D) := fun g => (fa g).bind fun a => .of (sqS (opd a))
@[simp] theorem iSeq_ (fa : Env → Res D) (g : Env) : iSeq fa g = (fa g).bind fun a => .of (sqS (opd a)) := rfl
theorem ji_seq (ha : JE X cls W iter fa) : JI X cls W tg iter (iSeq fa) := by
  obtain ⟨t, p, d⟩ := ha.ex
  refine ⟨_, pi_or (pi_list p) (pi_tup p), ?_⟩
  intro σ F H g O R s st p
  rw [iSeq_] at p
  cases ea : fa g with
  | xc c =>
    rw [ea] at p
    exact .inl (d.go s st (fun c e => by rw [ea] at e; cases e; exact p) (fun e => by rw [ea] at e; cases e) fun d e => by rw [ea] at e; cases e)
  | bad => rw [ea] at p; exact p.elim
  | ok dd =>
    rw [ea] at p
    simp only [Res.bind] at p
    have side : (∃ xs, lsS (opd dd) = some xs ∧ sqS (opd dd) = some xs) ∨ (∃ xs, tpv (opd dd) = some xs ∧ sqS (opd dd) = some xs) ∨ sqS (opd dd) = none := by
      cases opd dd <;> simp
    rcases side with ⟨xs, e1, e2⟩ | ⟨xs, e1, e2⟩ | e2
    · rw [e2] at p
      refine .inl (d.go s st (fun c e => by rw [ea] at e; cases e) (fun e => by rw [ea] at e; cases e) fun d e v F1 H1 x b => ?_)
      rw [ea] at e; cases e
      obtain ⟨a, vs, rfl, h, r⟩ := b.lsS e1
      exact ⟨a, rfl, ⟨vs, x.fh.seq h⟩, p _ F1 H1 x (feeds_list h r)⟩
    · rw [e2] at p
      refine .inr (d.go s st (fun c e => by rw [ea] at e; cases e) (fun e => by rw [ea] at e; cases e) fun d e v F1 H1 x b => ?_)
      rw [ea] at e; cases e
      obtain ⟨a, vs, rfl, h, h', r⟩ := b.tpv x.fh e1
      exact ⟨a, rfl, ⟨vs, h⟩, p _ F1 H1 x (feeds_tup h' r)⟩
    · rw [e2] at p; exact p.elim
/-- range -/
def rng (lo : Int) (n : Nat) : List D := (List.range n).map fun i : Nat => D.int (lo + (i : Int))
theorem rng_len (lo : Int) (n : Nat) : (rng lo n).length = n := by unfold rng; simp
theorem rng_get {lo : Int} {n i : Nat} {d : D} (h : (rng lo n)[i]? = some d) : i < n ∧ d = .int (lo + (i : Int)) := by
  unfold rng at h
  rw [List.getElem?_map] at h
  by_cases hi : i < n
  · rw [List.getElem?_range hi] at h
    cases h
    exact ⟨hi, rfl⟩
  · rw [List.getElem?_eq_none (by simpa using hi)] at h; cases h
theorem feeds_rng (lo : Int) (n : Nat) : Feeds K cls F (Itr lo n) (rng lo n) where
  go := fun i d e F' H' s1 s2 => by
    obtain ⟨h1, rfl⟩ := rng_get e
    refine ⟨h1, fun x H'' y => ?_⟩
    obtain ⟨e1, e2⟩ := y
    subst e1 e2
    exact ⟨F', .refl s2, .int _⟩
  stop := fun F' H' s1 s2 => by rw [rng_len]; exact Nat.le_refl _
/-- an end of a range that is small enough -/
def rgOk (i : Int) : Prop := i.natAbs ≤ 1000000000
theorem rgOk.lo {i : Int} (h : rgOk i) : -(2 ^ 62) ≤ i := by unfold rgOk at h; omega
theorem rgOk.hi {i : Int} (h : rgOk i) : i < 2 ^ 62 := by unfold rgOk at h; omega
instance (i : Int) : Decidable (rgOk i) := by unfold rgOk; infer_instance
theorem rgOk_of {i : Int} (h : -1000000000 ≤ i) (h' : i ≤ 1000000000) : rgOk i := by unfold rgOk; omega
def iRg1 (fs : Env → Res (List D)) : Env → Res (List D) := fun g => (fs g).bind fun ds => match ds with
  | [.int j] => if rgOk j then .ok (rng 0 j.toNat) else .bad
  | _ => .bad
def iRg2 (fs : Env → Res (List D)) : Env → Res (List D) := fun g => (fs g).bind fun ds => match ds with
  | [.int i, .int j] => if rgOk i ∧ rgOk j then .ok (rng i (j - i).toNat) else .bad
  | _ => .bad
@[simp] theorem iRg1_ (fs : Env → Res (List D)) (g : Env) : iRg1 fs g = (fs g).bind fun ds => match ds with
  | [.int j] => if rgOk j then .ok (rng 0 j.toNat) else .bad
  | _ => .bad := rfl
@[simp] theorem iRg2_ (fs : Env → Res (List D)) (g : Env) : iRg2 fs g = (fs g).bind fun ds => match ds with
  | [.int i, .int j] => if rgOk i ∧ rgOk j then .ok (rng i (j - i).toNat) else .bad
  | _ => .bad := rfl
theorem ji_rg1 {p : Pos} (hm : X.mg "range" = none) (ha : JA X cls W [a] fs) (hg : Gl X "range" := by rfl) (hs : starEach [a] X.env = [(false, eval a X.env)] := by rfl) : JI X cls W tg (.Call (.Name "range" p) [a] [] pos) (iRg1 fs) := by
  obtain ⟨t, p, d⟩ := ha.ex
  refine ⟨_, pi_range1 hg hm p hs, ?_⟩
  intro σ F H g O R s st p
  rw [iRg1_] at p
  refine d.go s st (fun c e => by rw [e] at p; exact p) (fun e => by rw [e] at p; exact p) fun ds e vs F1 H1 x b => ?_
  rw [e] at p
  simp only [Res.bind] at p
  split at p
  · rename_i j
    split at p
    · rename_i hj
      obtain ⟨v, rfl, b1⟩ := b.one
      obtain rfl := b1.int
      exact ⟨j, rfl, hj.lo, hj.hi, p _ F1 H1 x (feeds_rng 0 j.toNat)⟩
    · exact p.elim
  · exact p.elim
theorem ji_rg2 {p : Pos} (hm : X.mg "range" = none) (ha : JA X cls W [a, b] fs) (hg : Gl X "range" := by rfl) (hs : starEach [a, b] X.env = [(false, eval a X.env), (false, eval b X.env)] := by rfl) (hs2 : starEach [b] X.env = [(false, eval b X.env)] := by rfl) :
    JI X cls W tg (.Call (.Name "range" p) [a, b] [] pos) (iRg2 fs) := by
  obtain ⟨t, p, d⟩ := ha.ex
  refine ⟨_, pi_range2 hg hm p hs hs2, ?_⟩
  intro σ F H g O R s st p
  rw [iRg2_] at p
  refine d.go s st (fun c e => by rw [e] at p; exact p) (fun e => by rw [e] at p; exact p) fun ds e vs F1 H1 x b => ?_
  rw [e] at p
  simp only [Res.bind] at p
  split at p
  · rename_i i j
    split at p
    · rename_i hj
      obtain ⟨v, v', rfl, b1, b2⟩ := b.two
      obtain rfl := b1.int
      obtain rfl := b2.int
      exact ⟨i, j, rfl, ⟨hj.1.lo, hj.1.hi, hj.2.lo, hj.2.hi⟩, p _ F1 H1 x (feeds_rng i _)⟩
    · exact p.elim
  · exact p.elim
/-- enumerate(xs), xs a list -/
def enm (i : Nat) : List D → List D
  | [] => []
  | d :: ds => .tp [.int (i : Int), d] :: enm (i + 1) ds
theorem enm_len : ∀ (ds : List D) (i : Nat), (enm i ds).length = ds.length
  | [], _ => rfl
  | d :: ds, i => by simp [enm, enm_len ds]
theorem enm_get : ∀ {ds : List D} {j i : Nat} {d : D}, (enm j ds)[i]? = some d → ∃ e, ds[i]? = some e ∧ d = .tp [.int ((j + i : Nat) : Int), e]
  | [], _, _, _, h => by simp [enm] at h
  | d :: ds, j, 0, _, h => by simp [enm] at h; exact ⟨d, rfl, by simp [← h]⟩
  | d :: ds, j, i + 1, d2, h => by
    have h' : (enm (j + 1) ds)[i]? = some d2 := by simpa [enm] using h
    obtain ⟨e, h1, h2⟩ := enm_get h'
    exact ⟨e, by simpa using h1, by rw [h2, show j + 1 + i = j + (i + 1) by omega]⟩
theorem feeds_enum {a : Addr} {vs : List V} {ds : List D} (h : SqL K F a vs) (r : Rps K cls F vs ds) : Feeds K cls F (Ite K a) (enm 0 ds) where
  go := fun i d e F' H' s1 s2 => by
    obtain ⟨d', e1, rfl⟩ := enm_get e
    obtain ⟨v, h1, h2⟩ := r.get e1
    have h' : SqL K H' a vs := (s1.trans s2).seq h
    refine ⟨⟨vs, v, h', h1⟩, fun x H'' y => ?_⟩
    obtain ⟨T, w, e1, e2, e3, y⟩ := y
    subst e1 e3
    have := y vs h'
    rw [h1] at this
    cases this
    have px := Ext.put (o := .tup [.int ((0 + i : Nat) : Int), v]) s2 e2
    rw [Nat.zero_add] at px ⊢
    exact ⟨_, px, .tp (SqT.of upd_same) (.cons (.int _) (.cons (h2.mono (s1.trans px.ff)) .nil))⟩
  stop := fun F' H' s1 s2 => ⟨vs, (s1.trans s2).seq h, by rw [enm_len, r.len]; exact Nat.le_refl _⟩
def iEnm (fs : Env → Res (List D)) : Env → Res (List D) := fun g => (fs g).bind fun ds => match ds with
  | [d] => (Res.of (lsS d)).bind fun xs => .ok (enm 0 xs)
  | _ => .bad
@[simp] theorem iEnm_ (fs : Env → Res (List D)) (g : Env) : iEnm fs g = (fs g).bind fun ds => match ds with
  | [d] => (Res.of (lsS d)).bind fun xs => .ok (enm 0 xs)
  | _ => .bad := rfl
theorem ji_enm {p tpos : Pos} {elts : List Expr} {kk : Nat} (hm : X.mg "enumerate" = none) (ha : JA X cls W [a] fs) (hg : Gl X "enumerate" := by rfl) (hs : starEach [a] X.env = [(false, eval a X.env)] := by rfl) :
    JI X cls W (.Tuple elts kk tpos) (.Call (.Name "enumerate" p) [a] [] pos) (iEnm fs) := by
  obtain ⟨t, p, d⟩ := ha.ex
  refine ⟨_, pi_enum hg hm p hs, ?_⟩
  intro σ F H g O R s st p
  rw [iEnm_] at p
  refine d.go s st (fun c e => by rw [e] at p; exact p) (fun e => by rw [e] at p; exact p) fun ds e vs F1 H1 x b => ?_
  rw [e] at p
  simp only [Res.bind] at p
  split at p
  · rename_i d1
    cases e1 : lsS d1 with
    | none => rw [e1] at p; exact p.elim
    | some xs =>
      rw [e1] at p
      simp only [Res.of] at p
      obtain ⟨v, rfl, b1⟩ := b.one
      obtain ⟨a, vs, rfl, h, r⟩ := b1.lsS e1
      exact ⟨a, vs, rfl, x.fh.seq h, p _ F1 H1 x (feeds_enum h r)⟩
  · exact p.elim
/-- zip(xs, ys), two lists -/
def zipD : List D → List D → List D
  | a :: xs, b :: ys => .tp [a, b] :: zipD xs ys
  | _, _ => []
theorem zipD_len : ∀ (xs ys : List D), (zipD xs ys).length = min xs.length ys.length
  | [], _ => by simp [zipD]
  | _ :: _, [] => by simp [zipD]
  | a :: xs, b :: ys => by simp [zipD, zipD_len xs ys]
theorem zipD_get : ∀ {xs ys : List D} {i : Nat} {d : D}, (zipD xs ys)[i]? = some d → ∃ x y, xs[i]? = some x ∧ ys[i]? = some y ∧ d = .tp [x, y]
  | [], _, _, _, h => by simp [zipD] at h
  | _ :: _, [], _, _, h => by simp [zipD] at h
  | a :: xs, b :: ys, 0, _, h => by simp [zipD] at h; exact ⟨a, b, rfl, rfl, h.symm⟩
  | a :: xs, b :: ys, i + 1, d2, h => by
    have h' : (zipD xs ys)[i]? = some d2 := by simpa [zipD] using h
    obtain ⟨x, y, h1, h2, h3⟩ := zipD_get h'
    exact ⟨x, y, by simpa using h1, by simpa using h2, h3⟩
theorem feeds_zip {a b : Addr} {vs ws : List V} {ds es : List D} (h : SqL K F a vs) (r : Rps K cls F vs ds) (h2 : SqL K F b ws) (r2 : Rps K cls F ws es) : Feeds K cls F (Itz K a b) (zipD ds es) where
  go := fun i d e F' H' s1 s2 => by
    obtain ⟨x, y, e1, e2, rfl⟩ := zipD_get e
    obtain ⟨v, q1, q2⟩ := r.get e1
    obtain ⟨w, q3, q4⟩ := r2.get e2
    have h' : SqL K H' a vs := (s1.trans s2).seq h
    have h2' : SqL K H' b ws := (s1.trans s2).seq h2
    refine ⟨⟨vs, ws, v, w, h', h2', q1, q3⟩, fun x H'' z => ?_⟩
    obtain ⟨T, v', w', e1, e2, e3, z1, z2⟩ := z
    subst e1 e3
    have := z1 vs h'
    rw [q1] at this
    cases this
    have := z2 ws h2'
    rw [q3] at this
    cases this
    have px := Ext.put (o := .tup [v, w]) s2 e2
    exact ⟨_, px, .tp (SqT.of upd_same) (.cons (q2.mono (s1.trans px.ff)) (.cons (q4.mono (s1.trans px.ff)) .nil))⟩
  stop := fun F' H' s1 s2 => ⟨vs, ws, (s1.trans s2).seq h, (s1.trans s2).seq h2, by rw [zipD_len, r.len, r2.len]; omega⟩
def iZp (fs : Env → Res (List D)) : Env → Res (List D) := fun g => (fs g).bind fun ds => match ds with
  | [d, e] => (Res.of (lsS d)).bind fun xs => (Res.of (lsS e)).bind fun ys => .ok (zipD xs ys)
  | _ => .bad
@[simp] theorem iZp_ (fs : Env → Res (List D)) (g : Env) : iZp fs g = (fs g).bind fun ds => match ds with
  | [d, e] => (Res.of (lsS d)).bind fun xs => (Res.of (lsS e)).bind fun ys => .ok (zipD xs ys)
  | _ => .bad := rfl
theorem ji_zip {p tpos : Pos} {elts : List Expr} {kk : Nat} (hm : X.mg "zip" = none) (ha : JA X cls W [a, b] fs) (hg : Gl X "zip" := by rfl)
    (hs : starEach [a, b] X.env = (false, eval a X.env) :: starEach [b] X.env := by rfl) (hpl : (backTo pos (starEach [b] X.env)).any (·.1) = false := by rfl) :
    JI X cls W (.Tuple elts kk tpos) (.Call (.Name "zip" p) [a, b] [] pos) (iZp fs) := by
  obtain ⟨t, p, d⟩ := ha.ex
  refine ⟨_, pi_zip hg hm p hs hpl, ?_⟩
  intro σ F H g O R s st p
  rw [iZp_] at p
  refine d.go s st (fun c e => by rw [e] at p; exact p) (fun e => by rw [e] at p; exact p) fun ds e vs F1 H1 x b => ?_
  rw [e] at p
  simp only [Res.bind] at p
  split at p
  · rename_i d1 d2
    cases e1 : lsS d1 with
    | none => rw [e1] at p; exact p.elim
    | some xs =>
      rw [e1] at p
      cases e2 : lsS d2 with
      | none => rw [e2] at p; exact p.elim
      | some ys =>
        rw [e2] at p
        simp only [Res.of] at p
        obtain ⟨v, v', rfl, b1, b2⟩ := b.two
        obtain ⟨a, vs, rfl, h, r⟩ := b1.lsS e1
        obtain ⟨a2, vs2, rfl, h2, r2⟩ := b2.lsS e2
        exact ⟨a, a2, vs, vs2, rfl, x.fh.seq h, x.fh.seq h2, p _ F1 H1 x (feeds_zip h r h2 r2)⟩
  · exact p.elim

/-! ### for -/
def forL (tg : D → Env → Option Env) (b : Env → Out) : List D → Env → Out
  | [], g => .nx g
  | d :: ds, g => match tg d g with
    | none => .bad
    | some g1 => match b g1 with
      | .nx g' => forL tg b ds g'
      | .ct g' => forL tg b ds g'
      | .bk g' => .nx g'
      | o => o
@[simp] theorem forL_nil (tg : D → Env → Option Env) (b : Env → Out) (g : Env) : forL tg b [] g = .nx g := rfl
theorem forL_cons (tg : D → Env → Option Env) (b : Env → Out) (d : D) (ds : List D) (g : Env) : forL tg b (d :: ds) g = match tg d g with
    | none => .bad
    | some g1 => match b g1 with
      | .nx g' => forL tg b ds g'
      | .ct g' => forL tg b ds g'
      | .bk g' => .nx g'
      | o => o := rfl
def sFor (fi : Env → Res (List D)) (tg : D → Env → Option Env) (b : Env → Out) : Env → Out := fun g => (fi g).st g fun ds => forL tg b ds g
@[simp] theorem sFor_ (fi : Env → Res (List D)) (tg : D → Env → Option Env) (b : Env → Out) (g : Env) : sFor fi tg b g = (fi g).st g fun ds => forL tg b ds g := rfl
theorem ds_for {wi : TI} {t : TG} {tb : TS} {ft : D → Env → Option Env} {fbo : Env → Out} {ss : List Nat} (hi : DI K cls W wi fs) (hg : DG K cls t ft ss) (hb : DS K cls W tb fbo) : DS K cls W (tFor wi t tb) (sFor fs ft fbo) := by
  intro D σ F H g O s st p
  rw [sFor_] at p
  refine hi σ F H g O _ s st ?_
  cases e : fs g with
  | bad => rw [e] at p; exact p
  | xc c => rw [e] at p; exact xc_st st p
  | ok ds =>
    rw [e, Res.st_ok] at p
    intro J F1 H1 x1 fd
    have x1' : SExt F H O F1 H1 O := x1.sext fun a h => .inl h
    refine ⟨fun i m σ2 H2 => m = ds.length - i ∧ i ≤ ds.length ∧ ∃ F2 g2 O2, SExt F1 H1 O F2 H2 O2 ∧ Sts K cls F2 H2 σ2 g2 O2 ∧ PostS K cls W D F1 H1 O (forL ft fbo (ds.drop i) g2),
      ⟨ds.length, rfl, Nat.zero_le _, F1, g, O, .refl x1.fh, st.ext x1, by rw [List.drop_zero]; exact p.mono x1'⟩, ?_⟩
    rintro i m σ2 H2 ⟨rfl, hi, F2, g2, O2, x2, st2, p2⟩
    by_cases hlt : i < ds.length
    · have ed : ds.drop i = ds[i] :: ds.drop (i + 1) := List.drop_eq_getElem_cons hlt
      rw [ed, forL_cons] at p2
      obtain ⟨g0, y0⟩ := fd.go i ds[i] (by simp [hlt]) F2 H2 x2.ff x2.fh
      have nxt : ∀ {g' : Env} {F3 H3 O3 : _} {σ3 : St}, SExt F1 H1 O F3 H3 O3 → Sts K cls F3 H3 σ3 g' O3 → PostS K cls W D F1 H1 O (forL ft fbo (ds.drop (i + 1)) g') →
          ∃ m', m' < ds.length - i ∧ m' = ds.length - (i + 1) ∧ i + 1 ≤ ds.length ∧ ∃ F2 g2 O2, SExt F1 H1 O F2 H3 O2 ∧ Sts K cls F2 H3 σ3 g2 O2 ∧ PostS K cls W D F1 H1 O (forL ft fbo (ds.drop (i + 1)) g2) :=
        fun {g' F3 H3 O3 σ3} x st' q => ⟨ds.length - (i + 1), by omega, rfl, hlt, F3, g', O3, x, st', q⟩
      refine .inr ⟨g0, fun σ3 H3 => ∃ F3 g' O3, SExt F1 H1 O F3 H3 O3 ∧ Sts K cls F3 H3 σ3 g' O3 ∧ PostS K cls W D F1 H1 O (forL ft fbo (ds.drop (i + 1)) g'), fun σ3 H3 ⟨F3, g', O3, x, st', q⟩ => nxt x st' q, fun v H3 yv => ?_⟩
      obtain ⟨F3, x3, rv⟩ := y0 v H3 yv
      cases et : ft ds[i] g2 with
      | none => rw [et] at p2; exact p2.elim
      | some g3 =>
        rw [et] at p2
        simp only [] at p2
        refine hg v ds[i] σ2 F3 H3 g2 O2 g3 _ x3.fh (st2.ext x3) rv et fun σ4 O4 x4 st4 _ => ?_
        have x34 : SExt F1 H1 O F3 H3 O4 := x2.trans ((x3.sext fun a h => .inl h).trans x4)
        refine hb _ σ4 F3 H3 g3 O4 x3.fh st4 ?_
        cases eb : fbo g3 with
        | nx g' => rw [eb] at p2; exact fun σ5 F5 H5 O5 x5 st5 => ⟨F5, g', O5, x34.trans x5, st5, p2⟩
        | ct g' => rw [eb] at p2; exact fun σ5 F5 H5 O5 x5 st5 => ⟨F5, g', O5, x34.trans x5, st5, p2⟩
        | bk g' => rw [eb] at p2; exact fun σ5 F5 H5 O5 x5 st5 => p2 σ5 F5 H5 O5 (x34.trans x5) st5
        | rt d => rw [eb] at p2; exact fun v F5 H5 O5 x5 w => p2 v F5 H5 O5 (x34.trans x5) w
        | xc c g' => rw [eb] at p2; exact fun σ5 F5 H5 O5 x5 st5 => p2 σ5 F5 H5 O5 (x34.trans x5) st5
        | bad => rw [eb] at p2; exact p2
    · have ei : i = ds.length := by omega
      subst ei
      rw [List.drop_length] at p2
      exact .inl ⟨fd.stop F2 H2 x2.ff x2.fh, p2 σ2 F2 H2 O2 x2 st2⟩
theorem js_for {body : List Stmt} {ft : D → Env → Option Env} {fbo : Env → Out} {ss : List Nat} {k : Nat} (c : Cn X W k) (hi : JI X cls W tg iter fs) (hg : JG X cls tg ft ss) (hb : JSs X cls W body fbo)
    (hs : ∀ x, foldedSetIterable iter X.env x = pure x := by intro _; rfl) : JS X cls W (.For tg iter body [] pos) (sFor fs ft fbo) := by
  obtain ⟨wi, p, d⟩ := hi.ex
  obtain ⟨t, q, d'⟩ := hg.ex
  obtain ⟨tb, r, d''⟩ := hb.ex
  exact ⟨_, ps_for c.hp c.calm p q r hs, ds_for d d' d''⟩

/-! ### while -/
def whileN (c : Env → Res Bool) (b : Env → Out) : Nat → Env → Out
  | 0, _ => .bad
  | n + 1, g => (c g).st g fun k => if k = true then match b g with
      | .nx g' => whileN c b n g'
      | .ct g' => whileN c b n g'
      | .bk g' => .nx g'
      | o => o
    else .nx g
theorem whileN_succ (c : Env → Res Bool) (b : Env → Out) (n : Nat) (g : Env) : whileN c b (n + 1) g = (c g).st g fun k => if k = true then match b g with
      | .nx g' => whileN c b n g'
      | .ct g' => whileN c b n g'
      | .bk g' => .nx g'
      | o => o
    else .nx g := rfl
def fuel : Nat := 1000000000
def sWhile (c : Env → Res Bool) (b : Env → Out) : Env → Out := fun g => whileN c b fuel g
@[simp] theorem sWhile_ (c : Env → Res Bool) (b : Env → Out) (g : Env) : sWhile c b g = whileN c b fuel g := rfl
theorem ds_while {tc : TT} {tb : TS} {fbo : Env → Out} (hc : DT K cls W tc ga) (hb : DS K cls W tb fbo) : DS K cls W (tWhile tc tb) (sWhile ga fbo) := by
  intro D σ F H g O s st p
  rw [sWhile_] at p
  refine ⟨fun m σ2 H2 => ∃ F2 g2 O2, SExt F H O F2 H2 O2 ∧ Sts K cls F2 H2 σ2 g2 O2 ∧ PostS K cls W D F H O (whileN ga fbo m g2), ⟨fuel, F, g, O, .refl s, st, p⟩, ?_⟩
  rintro m σ2 H2 ⟨F2, g2, O2, x2, st2, p2⟩
  cases m with
  | zero => exact p2.elim
  | succ m =>
    rw [whileN_succ] at p2
    refine hc.go x2.fh st2 (fun c e F' H' y => by rw [e] at p2; exact p2 σ2 F' H' O2 (x2.trans (y.sext fun a h => .inl h)) (st2.ext y)) (fun e => by rw [e] at p2; exact p2) fun k e F3 H3 y => ?_
    rw [e, Res.st_ok] at p2
    have x3 : SExt F H O F3 H3 O2 := x2.trans (y.sext fun a h => .inl h)
    cases k with
    | true =>
      rw [if_pos rfl] at p2
      rw [if_pos rfl]
      refine ⟨fun σ3 H3 => ∃ F3 g' O3, SExt F H O F3 H3 O3 ∧ Sts K cls F3 H3 σ3 g' O3 ∧ PostS K cls W D F H O (whileN ga fbo m g'), fun σ3 H3 ⟨F3, g', O3, x, st', q⟩ => ⟨m, Nat.lt_succ_self m, F3, g', O3, x, st', q⟩, ?_⟩
      refine hb _ σ2 F3 H3 g2 O2 y.fh (st2.ext y) ?_
      cases eb : fbo g2 with
      | nx g' => rw [eb] at p2; exact fun σ5 F5 H5 O5 x5 st5 => ⟨F5, g', O5, x3.trans x5, st5, p2⟩
      | ct g' => rw [eb] at p2; exact fun σ5 F5 H5 O5 x5 st5 => ⟨F5, g', O5, x3.trans x5, st5, p2⟩
      | bk g' => rw [eb] at p2; exact fun σ5 F5 H5 O5 x5 st5 => p2 σ5 F5 H5 O5 (x3.trans x5) st5
      | rt d => rw [eb] at p2; exact fun v F5 H5 O5 x5 w => p2 v F5 H5 O5 (x3.trans x5) w
      | xc c g' => rw [eb] at p2; exact fun σ5 F5 H5 O5 x5 st5 => p2 σ5 F5 H5 O5 (x3.trans x5) st5
      | bad => rw [eb] at p2; exact p2
    | false =>
      rw [if_neg (by decide)] at p2
      rw [if_neg (by decide)]
      exact p2 σ2 F3 H3 O2 x3 (st2.ext y)
theorem js_while {c : Expr} {body : List Stmt} {fbo : Env → Out} {k : Nat} (n : Cn X W k) (hc : JT X cls W c ga) (hb : JSs X cls W body fbo) : JS X cls W (.While c body [] pos) (sWhile ga fbo) := by
  obtain ⟨tc, p, d⟩ := hc.ex
  obtain ⟨tb, q, d'⟩ := hb.ex
  exact ⟨_, ps_while n.hp p q, ds_while d d'⟩

/-! ### comprehensions -/
def lcL (tg : D → Env → Option Env) (tt : Env → Res Bool) (te : Env → Res D) (g : Env) : List D → Res (List D)
  | [] => .ok []
  | d :: ds => match tg d g with
    | none => .bad
    | some g1 => (tt g1).bind fun b => if b = true then ((te g1).bind kp).bind fun y => (lcL tg tt te g ds).bind fun r => .ok (y :: r) else lcL tg tt te g ds
@[simp] theorem lcL_nil (tg : D → Env → Option Env) (tt : Env → Res Bool) (te : Env → Res D) (g : Env) : lcL tg tt te g [] = .ok [] := rfl
theorem lcL_cons (tg : D → Env → Option Env) (tt : Env → Res Bool) (te : Env → Res D) (g : Env) (d : D) (ds : List D) : lcL tg tt te g (d :: ds) = match tg d g with
    | none => .bad
    | some g1 => (tt g1).bind fun b => if b = true then ((te g1).bind kp).bind fun y => (lcL tg tt te g ds).bind fun r => .ok (y :: r) else lcL tg tt te g ds := rfl
def eLc (fi : Env → Res (List D)) (own : List Nat) (tg : D → Env → Option Env) (tt : Env → Res Bool) (te : Env → Res D) : Env → Res D := fun g => (fi g).bind fun ds => if ds.length ≤ lim then
  match lcL tg tt te (wipeG g own) ds with
  | .ok r => .ok (.ol r)
  | _ => .bad
  else .bad
@[simp] theorem eLc_ (fi : Env → Res (List D)) (own : List Nat) (tg : D → Env → Option Env) (tt : Env → Res Bool) (te : Env → Res D) (g : Env) : eLc fi own tg tt te g = (fi g).bind fun ds => if ds.length ≤ lim then
  match lcL tg tt te (wipeG g own) ds with
  | .ok r => .ok (.ol r)
  | _ => .bad
  else .bad := rfl
def tYesG : Env → Res Bool := fun _ => .ok true
@[simp] theorem tYesG_ (g : Env) : tYesG g = .ok true := rfl
theorem Ows.snoc {vs : List V} {ds : List D} {O1 O2 : List Addr} {v : V} {d : D} (h : Ows K cls F H vs ds O1) (w : Ow K cls F H v d O2) (dj : ∀ a ∈ O1, a ∉ O2) : Ows K cls F H (vs ++ [v]) (ds ++ [d]) (O1 ++ O2) := by
  induction ds generalizing vs O1 with
  | nil => cases h; exact .cons w .nil (fun _ _ q => nomatch q) (by simp)
  | cons d' ds ih =>
    cases h with
    | cons a b dj' e =>
      subst e
      refine .cons a (ih b fun x hx => dj x (List.mem_append_right _ hx)) (fun x h1 h2 => ?_) (by simp)
      rcases List.mem_append.mp h2 with q | q
      · exact dj' x h1 q
      · exact dj x (List.mem_append_left _ h1) q
theorem de_lc {wi : TI} {t : TG} {tt : TT} {te : TE} {ft : D → Env → Option Env} {gt : Env → Res Bool} {fe : Env → Res D} {ss own : List Nat} (hi : DI K cls W wi fs) (hg : DG K cls t ft ss) (ht : DT K cls W0 tt gt) (he : DE K cls W0 te fe) (hss : ∀ i ∈ ss, i ∈ own) :
    DE K cls W (tLc wi t tt te own) (eLc fs own ft gt fe) := by
  intro σ F H g O Q s st p
  rw [eLc_] at p
  refine hi σ F H g O _ s st ?_
  cases e : fs g with
  | bad => rw [e] at p; exact p
  | xc c => rw [e] at p; exact p
  | ok ds =>
    rw [e] at p
    simp only [Res.bind] at p
    intro J F1 H1 x1 fd A hA
    by_cases hlen : ds.length ≤ lim
    · rw [if_pos hlen] at p
      -- the env within the block
      obtain ⟨Ow1, stw, hw⟩ := (st.ext x1).wipe x1.fh own
      have fA : F1 A = none := by
        cases q : F1 A with
        | none => rfl
        | some u => rw [x1.fh A u q] at hA; cases hA
      have sA : Same H1 (upd H1 A (.lst [])) := upd_same' hA
      let Inv := fun (i : Nat) (H2 : Hp) => ∃ F2 acc es' O2, Ext F1 H1 F2 H2 ∧ H2 A = some (.lst acc) ∧ F2 A = none ∧ A ∉ O2 ∧ Fresh H1 O2 ∧ Ows K cls F2 H2 acc es' O2 ∧ es'.length ≤ i ∧
        ∃ r, lcL ft gt fe (wipeG g own) (ds.drop i) = .ok r ∧ lcL ft gt fe (wipeG g own) ds = .ok (es' ++ r)
      cases er : lcL ft gt fe (wipeG g own) ds with
      | bad => rw [er] at p; exact p.elim
      | xc c => rw [er] at p; exact p.elim
      | ok r0 =>
        rw [er] at p
        simp only [] at p
        refine ⟨fun i m H2 => m = ds.length - i ∧ i ≤ ds.length ∧ Inv i H2, ⟨ds.length, rfl, Nat.zero_le _, F1, [], [], [], Ext.own x1.fh hA, upd_same, fA, by simp, Fresh.nil, .nil, Nat.zero_le _, r0, by rw [List.drop_zero]; exact er, by simpa using er⟩, ?_⟩
        rintro i m H2 ⟨rfl, hi, F2, acc, es', O2, x2, h2, f2, n2, fr2, w2, hl2, r, e1, e2⟩
        by_cases hlt : i < ds.length
        · have ed : ds.drop i = ds[i] :: ds.drop (i + 1) := List.drop_eq_getElem_cons hlt
          rw [ed, lcL_cons] at e1
          obtain ⟨g0, y0⟩ := fd.go i ds[i] (by simp [hlt]) F2 H2 x2.ff x2.fh
          refine .inr ⟨g0, fun H3 => Inv (i + 1) H3, fun H3 q => ⟨ds.length - (i + 1), by omega, rfl, hlt, q⟩, fun v H3 yv => ?_⟩
          obtain ⟨F3, x3, rv⟩ := y0 v H3 yv
          cases et : ft ds[i] (wipeG g own) with
          | none => rw [et] at e1; cases e1
          | some g3 =>
            rw [et] at e1
            simp only [] at e1
            have stw3 := (stw.ext x2).ext x3
            refine hg v ds[i] _ F3 H3 (wipeG g own) Ow1 g3 _ x3.fh stw3 rv et fun σ4 O4 x4 st4 w4 => ⟨?_, ?_⟩
            · exact (w4 own hss).trans (wipe_wipe fun _ h => h)
            · have h3 : H3 A = some (.lst acc) := x3.hh _ _ h2
              have f3 : F3 A = none := x3.ow A f2 (by rw [h2]; exact fun e => nomatch e)
              refine ht σ4 F3 H3 g3 O4 _ x3.fh st4 ?_
              cases eb : gt g3 with
              | bad => rw [eb] at e1; cases e1
              | xc c => rw [eb] at e1; cases e1
              | ok b =>
                rw [eb, Res.bind_ok] at e1
                intro F5 H5 x5
                have h5 : H5 A = some (.lst acc) := x5.hh _ _ h3
                have f5 : F5 A = none := x5.ow A f3 (by rw [h3]; exact fun e => nomatch e)
                have x25 := x2.trans (x3.trans x5)
                cases b with
                | false =>
                  rw [if_neg (by decide)] at e1
                  rw [if_neg (by decide)]
                  exact ⟨F5, acc, es', O2, x25, h5, f5, n2, fr2, (w2.ext x3).ext x5, Nat.le_succ_of_le hl2, r, e1, e2⟩
                | true =>
                  rw [if_pos rfl] at e1
                  rw [if_pos rfl]
                  refine he.goO x5.fh (st4.ext x5) (fun c e => by rw [e] at e1; cases e1) (fun e => by rw [e] at e1; cases e1) fun d e v F6 H6 O6 x6 fr6 w6 => ?_
                  rw [e, Res.bind_ok] at e1
                  cases er2 : lcL ft gt fe (wipeG g own) (ds.drop (i + 1)) with
                  | bad => rw [er2] at e1; cases e1
                  | xc c => rw [er2] at e1; cases e1
                  | ok r2 =>
                    rw [er2] at e1
                    cases e1
                    have h6 : H6 A = some (.lst acc) := x6.hh _ _ h5
                    have f6 : F6 A = none := x6.ow A f5 (by rw [h5]; exact fun e => nomatch e)
                    have x26 := x25.trans x6
                    have n6 : A ∉ O6 := fun q => by have := fr6 A q; rw [h5] at this; cases this
                    refine ⟨acc, h6, ?_, F6, acc ++ [v], es' ++ [d], O2 ++ O6, ?_, upd_same, f6, ?_, ?_, ?_, by simp; omega, r2, er2, by rw [e2]; simp⟩
                    · rw [w2.len]; exact lim_lt (by omega)
                    · exact ⟨x26.ff, fun b o q => by rw [upd_ne (ne_of_none q hA)]; exact x26.hh b o q, fun b o q => by
                        rw [upd_ne (fun z => by rw [z, f6] at q; cases q)]; exact x26.fh b o q, x26.ow⟩
                    · intro q
                      rcases List.mem_append.mp q with q | q
                      · exact n2 q
                      · exact n6 q
                    · intro a ha
                      rcases List.mem_append.mp ha with q | q
                      · exact fr2 a q
                      · exact (x25.hh).free (fr6 a q)
                    · have w2' := ((w2.ext x3).ext x5).ext x6
                      have dj : ∀ a ∈ O2, a ∉ O6 := fun a h1 h2 => ((((w2.ext x3).ext x5).dom a h1).2) (fr6 a h2)
                      refine (w2'.snoc w6 dj).frame (.refl F6) fun a ha => ⟨upd_ne fun z => ?_, ((w2'.snoc w6 dj).dom a ha).1⟩
                      rcases List.mem_append.mp ha with q | q
                      · exact n2 (z ▸ q)
                      · exact n6 (z ▸ q)
        · have ei : i = ds.length := by omega
          subst ei
          rw [List.drop_length] at e1
          cases e1
          rw [List.append_nil, er] at e2
          cases e2
          refine .inl ⟨fd.stop F2 H2 x2.ff x2.fh, p _ F2 H2 (A :: O2) (x1.trans x2) (fun a ha => ?_) (.inl (.ol f2 h2 n2 w2))⟩
          rcases List.mem_cons.mp ha with rfl | ha
          · exact x1.hh.free hA
          · exact x1.hh.free (fr2 a ha)
    · rw [if_neg hlen] at p; exact p.elim
structure JTs (X : Cx) (cls : Cls) (W : WX) (e : List Expr) (f : Env → Res Bool) : Prop where
  ex : ∃ t, PTs X e t ∧ DT X.K cls W t f
theorem jts_nil : JTs X cls W [] tYesG := ⟨_, pts_nil, fun σ F H g O Q s st p => p F H (.refl s)⟩
theorem jts_one (h : JT X cls W a ga) : JTs X cls W [a] ga := by
  obtain ⟨t, p, d⟩ := h.ex
  exact ⟨_, pts_one p, d⟩
end
end DL

namespace DL
open PySem L2
section
variable {K : PySem.W.Frag} {cls : Cls} {W : WX} {X : Cx} {F H F' H' F1 H1 : Hp} {O O1 : List Addr} {Q : VK} {σ : St} {a b e tg iter elt : Expr} {es : List Expr} {fa fb fc : Env → Res D} {ga gb : Env → Res Bool} {fs : Env → Res (List D)} {pos : Pos}
/-! ### one reading for all contexts -/
def cE (K : PySem.W.Frag) (cls : Cls) (W : WX) (f : Env → Res D) : TE := fun σ H Q => ∃ F g O, Same F H ∧ Sts K cls F H σ g O ∧ PostE K cls W σ F H Q (f g)
def cT (K : PySem.W.Frag) (cls : Cls) (W : WX) (f : Env → Res Bool) : TT := fun σ H Q => ∃ F g O, Same F H ∧ Sts K cls F H σ g O ∧ PostT cls W σ F H Q (f g)
def cG (K : PySem.W.Frag) (cls : Cls) (f : D → Env → Option Env) (ss : List Nat) : TG := fun v σ H Q => ∃ d F g O g', Same F H ∧ Sts K cls F H σ g O ∧ Rp K cls F v d ∧ f d g = some g' ∧
  (∀ σ' O', SExt F H O F H O' → Sts K cls F H σ' g' O' → (∀ vs : List Nat, (∀ i ∈ ss, i ∈ vs) → wipe σ' vs = wipe σ vs) → Q σ' H)
def cS (K : PySem.W.Frag) (cls : Cls) (f : Env → Out) (W : WX) : TS := fun D σ H => ∃ F g O, Same F H ∧ Sts K cls F H σ g O ∧ PostS K cls W D F H O (f g)
theorem de_cE {f : Env → Res D} : DE K cls W (cE K cls W f) f := fun σ F H g O Q s st p => ⟨F, g, O, s, st, p⟩
theorem dt_cT {f : Env → Res Bool} : DT K cls W (cT K cls W f) f := fun σ F H g O Q s st p => ⟨F, g, O, s, st, p⟩
theorem dg_cG {f : D → Env → Option Env} {ss : List Nat} : DG K cls (cG K cls f ss) f ss := fun v d σ F H g O g' Q s st r e k => ⟨d, F, g, O, g', s, st, r, e, k⟩
theorem ds_cS {f : Env → Out} : DS K cls W (cS K cls f W) f := fun D σ F H g O s st p => ⟨F, g, O, s, st, p⟩
theorem JE.canon {f : Env → Res D} (h : JE X cls W e f) : PE X e (cE X.K cls W f) := by
  obtain ⟨t, p, d⟩ := h.ex
  exact ⟨fun pins s σ H Q I ⟨F, g, O, sm, st, q⟩ => p.run pins s σ H Q I (d σ F H g O Q sm st q)⟩
theorem JTs.canon {f : Env → Res Bool} (h : JTs X cls W es f) : PTs X es (cT X.K cls W f) := by
  obtain ⟨t, p, d⟩ := h.ex
  exact ⟨fun pins s σ H Q I ⟨F, g, O, sm, st, q⟩ => p.run pins s σ H Q I (d σ F H g O Q sm st q)⟩
theorem JG.canon {f : D → Env → Option Env} {ss : List Nat} (h : JG X cls e f ss) : PG X e (cG X.K cls f ss) := by
  obtain ⟨t, p, d⟩ := h.ex
  exact ⟨fun pins s σ H v u Q I r ⟨dd, F, g, O, g', sm, st, rr, ee, q⟩ => p.run pins s σ H v u Q I r (d v dd σ F H g O g' Q sm st rr ee q)⟩
theorem JSs.canon {st : List Stmt} {f : Env → Out} (h : JSs X cls W st f) : PSs X st (cS X.K cls f W) := by
  obtain ⟨t, p, d⟩ := h.ex
  exact ⟨fun pins s σ H D I ⟨F, g, O, sm, st, q⟩ => p.run pins s σ H D I (d D σ F H g O sm st q)⟩

theorem je_lc {ifs : List Expr} {scope : Scope} {ft : D → Env → Option Env} {gt : Env → Res Bool} {fe : Env → Res D} {ss : List Nat} {k : Nat} (own : List (Str × Nat)) (c : Cn X W k) (hi : JI X cls W tg iter fs) (ok : BlkOk X.N X.env.scope scope own)
    (hg : ∀ (s : Shared) (H : Hp) (C : Addr) (cl : List (Str × Addr)) (fp : List Addr), JG (X.blk s H scope (compEnvC scope cl C X.env) fp) cls tg ft ss)
    (ht : ∀ (s : Shared) (H : Hp) (C : Addr) (cl : List (Str × Addr)) (fp : List Addr), Cn (X.blk s H scope (compEnvC scope cl C X.env) fp) W0 k → JTs (X.blk s H scope (compEnvC scope cl C X.env) fp) cls W0 ifs gt)
    (he : ∀ (s : Shared) (H : Hp) (C : Addr) (cl : List (Str × Addr)) (fp : List Addr), Cn (X.blk s H scope (compEnvC scope cl C X.env) fp) W0 k → JE (X.blk s H scope (compEnvC scope cl C X.env) fp) cls W0 elt fe)
    (hss : ∀ i ∈ ss, i ∈ own.map (·.2)) (hs : ∀ x, foldedSetIterable iter X.env x = pure x := by intro _; rfl) :
    JE X cls W (.ListComp elt [⟨tg, iter, ifs, 0⟩] scope pos) (eLc fs (own.map (·.2)) ft gt fe) := by
  obtain ⟨wi, p, d⟩ := hi.ex
  exact ⟨_, pe_lc (own := own) c.calm c.nd p ok (fun s H C cl fp => (hg s H C cl fp).canon) (fun s H C cl fp => (ht s H C cl fp c.blk).canon) (fun s H C cl fp => (he s H C cl fp c.blk).canon) hs, de_lc d dg_cG dt_cT de_cE hss⟩
theorem js_setLc {i : Nat} {y : Str} {py spos : Pos} {ifs : List Expr} {scope : Scope} {ft : D → Env → Option Env} {gt : Env → Res Bool} {fe : Env → Res D} {ss : List Nat} {k : Nat} (own : List (Str × Nat)) (c : Cn X W k) (hy : X.N[i]? = some y) (hyl : X.env.scope.names.lookup y = some .local)
    (hsw : swapsWith (.ListComp elt [⟨tg, iter, ifs, 0⟩] scope pos) (some (.Name y py)) spos.line X.env = pure true) (hi : JI X cls W tg iter fs) (ok : BlkOk X.N X.env.scope scope own)
    (hg : ∀ (s : Shared) (H : Hp) (C : Addr) (cl : List (Str × Addr)) (fp : List Addr), JG (X.blk s H scope (compEnvC scope cl C X.env) fp) cls tg ft ss)
    (ht : ∀ (s : Shared) (H : Hp) (C : Addr) (cl : List (Str × Addr)) (fp : List Addr), Cn (X.blk s H scope (compEnvC scope cl C X.env) fp) W0 k → JTs (X.blk s H scope (compEnvC scope cl C X.env) fp) cls W0 ifs gt)
    (he : ∀ (s : Shared) (H : Hp) (C : Addr) (cl : List (Str × Addr)) (fp : List Addr), Cn (X.blk s H scope (compEnvC scope cl C X.env) fp) W0 k → JE (X.blk s H scope (compEnvC scope cl C X.env) fp) cls W0 elt fe)
    (hss : ∀ i ∈ ss, i ∈ own.map (·.2)) (hs : ∀ x, foldedSetIterable iter X.env x = pure x := by intro _; rfl) :
    JS X cls W (.Assign [.Name y py] (.ListComp elt [⟨tg, iter, ifs, 0⟩] scope pos) spos) (sAsg i (eLc fs (own.map (·.2)) ft gt fe)) := by
  obtain ⟨wi, p, d⟩ := hi.ex
  exact ⟨_, ps_setLc (own := own) c.calm c.nd hy hyl hsw p ok (fun s H C cl fp => (hg s H C cl fp).canon) (fun s H C cl fp => (ht s H C cl fp c.blk).canon) (fun s H C cl fp => (he s H C cl fp c.blk).canon) hs, ds_asg (de_lc d dg_cG dt_cT de_cE hss)⟩
theorem js_setLcF {i : Nat} {y : Str} {py spos : Pos} {ifs : List Expr} {scope : Scope} {ft : D → Env → Option Env} {gt : Env → Res Bool} {fe : Env → Res D} {ss : List Nat} {k : Nat} (own : List (Str × Nat)) (c : Cn X W k) (hy : X.N[i]? = some y) (hyl : X.env.scope.names.lookup y = some .local)
    (hsw : swapsWith (.ListComp elt [⟨tg, iter, ifs, 0⟩] scope pos) (some (.Name y py)) spos.line X.env = pure true) (hi : JI X cls W tg iter fs) (ok : BlkOk X.N X.env.scope scope own)
    (hg : ∀ (s : Shared) (H : Hp) (C : Addr) (cl : List (Str × Addr)) (fp : List Addr), JG (X.blk s H scope (compEnvC scope cl C X.env) fp) cls tg ft ss)
    (ht : ∀ (s : Shared) (H : Hp) (C : Addr) (cl : List (Str × Addr)) (fp : List Addr), Cn (X.blk s H scope (compEnvC scope cl C X.env) fp) W0 k → JTs (X.blk s H scope (compEnvC scope cl C X.env) fp) cls W0 ifs gt)
    (he : ∀ (s : Shared) (H : Hp) (C : Addr) (cl : List (Str × Addr)) (fp : List Addr), Cn (X.blk s H scope (compEnvC scope cl C X.env) fp) W0 k → JE (X.blk s H scope (compEnvC scope cl C X.env) fp) cls W0 elt fe)
    (hss : ∀ i ∈ ss, i ∈ own.map (·.2)) (hs : ∀ x, foldedSetIterable iter X.env x = pure x := by intro _; rfl) :
    JS X cls W (.Assign [.Name y py] (.ListComp elt [⟨tg, iter, ifs, 0⟩] scope pos) spos) (sAsgF i (eLc fs (own.map (·.2)) ft gt fe)) := by
  obtain ⟨wi, p, d⟩ := hi.ex
  exact ⟨_, ps_setLc (own := own) c.calm c.nd hy hyl hsw p ok (fun s H C cl fp => (hg s H C cl fp).canon) (fun s H C cl fp => (ht s H C cl fp c.blk).canon) (fun s H C cl fp => (he s H C cl fp c.blk).canon) hs, ds_asgF (de_lc d dg_cG dt_cT de_cE hss)⟩

/-! ### lists that grow and change -/
/-- the own list in slot i, and the slots behind a change of it -/
theorem Sts.lst {g : Env} {i : Nat} {xs : List D} (st : Sts K cls F H σ g O) (e : g[i]? = some (.ol xs)) : ∃ p vs O1, σ[i]? = some (some (.ref p)) ∧ H p = some (.lst vs) ∧ F p = none ∧ p ∉ O1 ∧ Ows K cls F H vs xs O1 ∧ p ∈ O ∧ (∀ a ∈ O1, a ∈ O) ∧
    ∀ (F' H' : Hp) (ws : List V) (ys : List D) (O2 : List Addr), Ext F H F' H' → Ows K cls F' H' ws ys O2 → p ∉ O2 → (∀ a ∈ O2, a ∈ O1 ∨ H a = none) →
      ∃ O'', Sts K cls F' (upd H' p (.lst ws)) σ (g.set i (.ol ys)) O'' ∧ SExt F H O F' (upd H' p (.lst ws)) O'' := by
  obtain ⟨P, h1, h2, h3, _⟩ := st.at i (List.getElem?_eq_some_iff.mp e).1
  rcases h2 with ⟨h2, _⟩ | ⟨v, d, h2, h2', ow⟩
  · rw [e] at h2; cases h2
  · rw [e] at h2'; cases h2'
    cases ow with
    | sh r => cases r
    | @ol p vs _ O1 f1 f2 f3 f4 =>
      refine ⟨p, vs, O1, h2, f2, f1, f3, f4, h1 _ (by simp), fun a ha => h1 a (by simp [ha]), fun F' H' ws ys O2 x w n k => ?_⟩
      have hp : F' p = none := x.ow p f1 (by rw [f2]; exact fun e => nomatch e)
      have up : ∀ b, b ≠ p → upd H' p (.lst ws) b = H' b := fun b hb => upd_ne hb
      obtain ⟨O'', q1, q2⟩ := h3 F' (upd H' p (.lst ws)) (.ref p) (.ol ys) (p :: O2) (fun b hb hn => by
          obtain ⟨e1, e2⟩ := x.get (st.dom b hb).1 (st.dom b hb).2
          exact ⟨(up b fun z => hn (by simp [z])).trans e1, e2⟩) x.ff
        (.ol hp upd_same n (w.frame (.refl F') fun a ha => ⟨up a fun z => n (z ▸ ha), (w.dom a ha).1⟩)) (fun a ha hO => by
          rcases List.mem_cons.mp ha with rfl | ha
          · simp
          · rcases k a ha with z | z
            · simp [z]
            · exact absurd z (st.dom a hO).2)
      rw [set_self h2] at q1
      refine ⟨O'', q1, x.ff, fun b o q => ?_, fun b o q hn => ?_, fun b h1 h2 _ => x.ow b h1 h2, fun b hb => ?_⟩
      · rw [up b fun z => by rw [z, hp] at q; cases q]; exact x.fh b o q
      · rw [up b fun z => hn (z ▸ h1 p (by simp))]; exact x.hh b o q
      · rcases q2 b hb with z | z
        · exact .inl z
        · rcases List.mem_cons.mp z with rfl | z
          · exact .inl (h1 _ (by simp))
          · exact (k b z).imp (fun z => h1 b (by simp [z])) id
/-- x.append(e) -/
def sApp (i : Nat) (fa : Env → Res D) : Env → Out := fun g => match g[i]? with
  | some (.ol xs) => ((fa g).bind kp).st g fun d => if xs.length < lim then .nx (g.set i (.ol (xs ++ [d]))) else .bad
  | _ => .bad
@[simp] theorem sApp_ (i : Nat) (fa : Env → Res D) (g : Env) : sApp i fa g = match g[i]? with
  | some (.ol xs) => ((fa g).bind kp).st g fun d => if xs.length < lim then .nx (g.set i (.ol (xs ++ [d]))) else .bad
  | _ => .bad := rfl
theorem js_app {i : Nat} {x : Str} {npos apos cpos : Pos} (hN : X.N[i]? = some x) (hv : Vis X.env.scope x) (ha : JE X cls W a fa) (hd : (x == ("__debug__" : Str)) = false := by decide) (hcd : (x == ("__classdict__" : Str)) = false := by decide)
    (hbase : attributeBase (.Name x npos) "append" X.env (eval (.Name x npos) X.env) = eval (.Name x npos) X.env := by rfl)
    (hfew : ((backTo cpos (starEach (a :: []) X.env)).all (fun x => !x.1) && (backToKw cpos (keywordEach [] X.env)).all (fun x => x.1.isSome)
      && decide ((a :: []).length + ([] : List Keyword).length + (if ([] : List Keyword).isEmpty then 0 else 1) < 30)) = true := by rfl)
    (hline : (apos.endLine == cpos.line) = true := by rfl) (hs : starEach (a :: []) X.env = (false, eval a X.env) :: starEach [] X.env := by rfl) (hplain : (backTo cpos (starEach [] X.env)).any (·.1) = false := by rfl)
    (hsw : swapsWith (.Call (.Attribute (.Name x npos) "append" apos) [a] [] cpos) none pos.line X.env = pure false := by rfl) :
    JS X cls W (.Expr (.Call (.Attribute (.Name x npos) "append" apos) [a] [] cpos) pos) (sApp i fa) := by
  obtain ⟨t, p, d⟩ := ha.ex
  refine ⟨_, ps_expr (pe_bm PySem.F.plainAttrs_list PySem.F.slot_list_append PySem.F.type_list_append mt_append (pe_var hN hv hd hcd) (pa_cons p pa_nil hs) hbase hfew hline hs hplain) hsw, ?_⟩
  intro D σ F H g O s st p
  rw [sApp_] at p
  split at p
  · rename_i xs eg
    obtain ⟨q, vs, O1, h1, h2, h2', h3, h4, h5, h6, h7⟩ := st.lst eg
    refine ⟨.ref q, h1, .inl ⟨rfl, vs, SqL.of h2⟩, ?_⟩
    refine d.goS s st p fun dd e p v F1 H1 O2 x fr w => ?_
    split at p
    · rename_i hl
      refine ⟨q, vs, v, rfl, rfl, x.hh _ _ h2, by rw [h4.len]; exact lim_lt hl, ?_⟩
      obtain ⟨O'', z1, z2⟩ := h7 F1 H1 (vs ++ [v]) (xs ++ [dd]) (O1 ++ O2) x ((h4.ext x).snoc w fun a q1 q2 => (h4.dom a q1).2 (fr a q2)) (fun z => by
          rcases List.mem_append.mp z with z | z
          · exact h3 z
          · have := fr q z; rw [h2] at this; cases this) (fun a z => (List.mem_append.mp z).imp id (fr a))
      exact p σ F1 _ O'' z2 z1
    · exact p.elim
  · exact p.elim
theorem Ows.set : ∀ {vs : List V} {ds : List D} {O1 O2 : List Addr} {v : V} {d : D} (j : Nat), Ows K cls F H vs ds O1 → Ow K cls F H v d O2 → (∀ a ∈ O1, a ∉ O2) → ∃ O3, Ows K cls F H (vs.set j v) (ds.set j d) O3 ∧ ∀ a ∈ O3, a ∈ O1 ∨ a ∈ O2
  | _, _, _, O2, _, _, _, .nil, _, _ => ⟨[], .nil, fun _ h => nomatch h⟩
  | _, _, _, O2, _, _, 0, .cons (O1 := P1) (O2 := P2) a b dj e, w, n => by
    subst e
    refine ⟨O2 ++ P2, .cons w b (fun x h1 h2 => n x (List.mem_append_right _ h2) h1) rfl, fun x hx => ?_⟩
    rcases List.mem_append.mp hx with z | z
    · exact .inr z
    · exact .inl (List.mem_append_right _ z)
  | _, _, _, O2, _, _, j + 1, .cons (O1 := P1) (O2 := P2) a b dj e, w, n => by
    subst e
    obtain ⟨O3, h1, h2⟩ := b.set j w fun x hx => n x (List.mem_append_right _ hx)
    refine ⟨P1 ++ O3, .cons a h1 (fun x q1 q2 => ?_) rfl, fun x hx => ?_⟩
    · rcases h2 x q2 with z | z
      · exact dj x q1 z
      · exact n x (List.mem_append_left _ q1) z
    · rcases List.mem_append.mp hx with z | z
      · exact .inl (List.mem_append_left _ z)
      · exact (h2 x z).imp (fun z => List.mem_append_right _ z) id
/-- x[k] = e -/
def sSet (i : Nat) (fk fa : Env → Res D) : Env → Out := fun g => ((fa g).bind kp).st g fun d => match g[i]? with
  | some (.ol xs) => (fk g).st g fun k => match opd k with
    | .int k => match ixN xs.length k with
      | some j => .nx (g.set i (.ol (xs.set j d)))
      | none => .bad
    | _ => .bad
  | _ => .bad
@[simp] theorem sSet_ (i : Nat) (fk fa : Env → Res D) (g : Env) : sSet i fk fa g = ((fa g).bind kp).st g fun d => match g[i]? with
  | some (.ol xs) => (fk g).st g fun k => match opd k with
    | .int k => match ixN xs.length k with
      | some j => .nx (g.set i (.ol (xs.set j d)))
      | none => .bad
    | _ => .bad
  | _ => .bad := rfl
theorem js_setIx {i : Nat} {x : Str} {npos spos : Pos} {fk : Env → Res D} (hN : X.N[i]? = some x) (hv : Vis X.env.scope x) (ha : JE X cls W a fa) (hk : JE X cls W b fk) (hd : (x == ("__debug__" : Str)) = false := by decide) (hcd : (x == ("__classdict__" : Str)) = false := by decide)
    (hs : swapsWithSole [.Subscript (.Name x npos) b spos] a pos.line X.env = pure false := by rfl) (hw : swappedStores [.Subscript (.Name x npos) b spos] a X.env = pure none := by rfl)
    (h1 : (assignEach [.Subscript (.Name x npos) b spos] X.env).map (·.2) = [assign (.Subscript (.Name x npos) b spos) X.env] := by rfl)
    (hass : ∀ v, assign (.Subscript (.Name x npos) b spos) X.env v = (do
      let ov ← holding [v] (eval (.Name x npos) X.env)
      let iv ← holding [v, ov] (eval b X.env)
      standAt spos
      holding [v, ov, iv] (setItem ov iv v)
      release [v, ov, iv] []) := by intro _; rfl) : JS X cls W (.Assign [.Subscript (.Name x npos) b spos] a pos) (sSet i fk fa) := by
  obtain ⟨t, p, d⟩ := ha.ex
  obtain ⟨t2, p2, d2⟩ := hk.ex
  refine ⟨_, ps_asg p (pg_sub (pe_var hN hv hd hcd) p2 set_list hass) hs hw h1, ?_⟩
  intro D σ F H g O s st p
  rw [sSet_] at p
  refine d.goS s st p fun dd e p v F1 H1 O2 x fr w => ?_
  split at p
  · rename_i xs eg
    obtain ⟨q, vs, O1, h1, h2, h2', h3, h4, h5, h6, h7⟩ := st.lst eg
    refine ⟨.ref q, h1, ?_⟩
    refine d2.go x.fh (st.ext x) (fun c e F' H' y => by rw [e] at p; exact p σ F' H' O ((x.trans y).sext fun a h => .inl h) (st.ext (x.trans y))) (fun e => by rw [e] at p; exact p) fun kd e kv F3 H3 x3 b3 => ?_
    rw [e, Res.st_ok] at p
    split at p
    · rename_i k ek
      split at p
      · rename_i j ej
        rw [ek] at b3
        obtain rfl := b3.int
        have x13 := x.trans x3
        refine ⟨q, vs, k, j, rfl, rfl, x13.hh _ _ h2, by rw [h4.len]; exact ej, ?_⟩
        obtain ⟨O3, w3, n3⟩ := (h4.ext x13).set j (w.ext x3) fun a q1 q2 => (h4.dom a q1).2 (fr a q2)
        obtain ⟨O'', z1, z2⟩ := h7 F3 H3 (vs.set j v) (xs.set j dd) O3 x13 w3 (fun z => by
          rcases n3 _ z with z | z
          · exact h3 z
          · have := fr q z; rw [h2] at this; cases this) (fun a z => (n3 a z).imp id (fr a))
        exact p σ F3 _ O'' z2 z1
      · exact p.elim
    · exact p.elim
  · exact p.elim
/-- x op= e, ints (a name) -/
def sAug (op : Int → Int → Int) (i : Nat) (fa : Env → Res D) : Env → Out := fun g => match g[i]? with
  | some (.int a) => (fa g).st g fun d => match opd d with
    | .int b => .nx (g.set i (.int (op a b)))
    | _ => .bad
  | _ => .bad
@[simp] theorem sAug_ (op : Int → Int → Int) (i : Nat) (fa : Env → Res D) (g : Env) : sAug op i fa g = match g[i]? with
  | some (.int a) => (fa g).st g fun d => match opd d with
    | .int b => .nx (g.set i (.int (op a b)))
    | _ => .bad
  | _ => .bad := rfl
theorem js_aug {i : Nat} {x : Str} {pos' : Pos} {o : Operator} {op : Int → Int → Int} {k : Nat} (c : Cn X W k) (ho : PIp X o (ipI op)) (hi : X.N[i]? = some x) (hx : Loc X.env.scope x) (ha : JE X cls W a fa)
    (hf : X.fn x = true ∨ X.env.scope.names.lookup x = some .local := by first | exact .inl rfl | exact .inr rfl) : JS X cls W (.AugAssign (.Name x pos') o a pos) (sAug op i fa) := by
  obtain ⟨t, p, d⟩ := ha.ex
  refine ⟨_, ps_aug c.nd hi hx p ho hf, ?_⟩
  intro D σ F H g O s st p
  rw [sAug_] at p
  split at p
  · rename_i n eg
    obtain ⟨P, _, h2, _⟩ := st.at i (List.getElem?_eq_some_iff.mp eg).1
    rcases h2 with ⟨h2, _⟩ | ⟨v, dd, h2, h2', ow⟩
    · rw [eg] at h2; cases h2
    · rw [eg] at h2'; cases h2'
      cases ow with
      | sh r =>
        cases r
        refine ⟨_, h2, ?_⟩
        refine d.go s st (fun c e => by rw [e] at p; exact xc_st st p) (fun e => by rw [e] at p; exact p) fun dd e v F1 H1 x b => ?_
        rw [e, Res.st_ok] at p
        split at p
        · rename_i m em
          rw [em] at b
          obtain rfl := b.int
          refine ⟨n, m, rfl, rfl, ?_⟩
          obtain ⟨O'', q1, q2⟩ := st.put (i := i) x Fresh.nil (.sh (.int (op n m)))
          exact p _ F1 H1 O'' q2 q1
        · exact p.elim
  · exact p.elim
end
end DL

namespace DL
open PySem L2
section
variable {K : PySem.W.Frag} {cls : Cls} {W : WX} {X : Cx} {F H F' H' F1 H1 : Hp} {O O1 : List Addr} {Q : VK} {σ : St} {a b e tg iter elt : Expr} {es : List Expr} {fa fb fc : Env → Res D} {ga gb : Env → Res Bool} {fs : Env → Res (List D)} {pos : Pos}
/-! ### raising -/
structure ExOk (K : PySem.W.Frag) (mg : Str → Option Value) (cls : Cls) (c : Nat) (x : Str) (C : Addr) : Prop where
  e : cls c = some (C, [])
  g : mg x = some (.ref C)
  x : PySem.W.excIn K C [.type "ValueError", .type "Exception", .type "BaseException", .type "object"] "ValueError.__new__" = true
  k : PySem.W.keepIn K (.ref C) = true
  b : PySem.W.subIn K (.ref C) (.type "BaseException") = some true
  t : PySem.W.typeIn K (.ref C) = some (.type "type")
theorem ExOk.v {mg : Str → Option Value} {c : Nat} {x : Str} {C : Addr} (h : ExOk K mg cls c x C) : excV cls c = .ref C := by unfold excV; rw [h.e]
def sRaise (c : Nat) : Env → Out := fun g => .xc c g
@[simp] theorem sRaise_ (c : Nat) (g : Env) : sRaise c g = .xc c g := rfl
theorem js_raise {c k : Nat} {x m : Str} {C : Addr} {j : Nat} {p p2 pos2 : Pos} (n : Cn X W k) (h : ExOk X.K X.mg cls c x C) (hg : Gl X x := by rfl) (hdb : (x == ("__debug__" : Str)) = false := by decide) :
    JS X cls W (.Raise (some (.Call (.Name x p) [.Constant (.str m) j p2] [] pos)) none pos2) (sRaise c) := by
  refine ⟨_, ps_raise n.calm n.tk (pmk_own PySem.F.excBase_ValueError h.x h.g h.k (raises_own h.b h.t) hg hdb), ?_⟩
  intro D σ F H g O s st p
  have q := p σ F H O (.refl s) st
  rw [h.v] at q
  exact q

/-! ### a def's promise -/
def runF (f : Env → Out) (n : Nat) (ds : List D) : Res D := match f (ds ++ List.replicate (n - ds.length) .un) with
  | .rt d => .ok d
  | .nx _ => .ok .non
  | .xc c _ => .xc c
  | _ => .bad
theorem sts_start {vs : List V} {ds : List D} (h : Rps K cls F vs ds) (n : Nat) : Sts K cls F H (vs.map some ++ List.replicate n none) (ds ++ List.replicate n .un) [] := by
  induction ds generalizing vs with
  | nil =>
    cases h
    simp only [List.map_nil, List.nil_append]
    induction n with
    | zero => exact .nil
    | succ n ih => rw [List.replicate_succ, List.replicate_succ]; exact .un ih
  | cons d ds ih =>
    cases h with
    | cons a b => exact .cons (.sh a) (ih b) (fun _ q => nomatch q) rfl
theorem fnD_ok {P : Program} {w : World} {mg : Str → Option Value} {base : Heap} {x qual : Str} {st : Stmt} {f : Addr} {fd : FuncData} {N ps : List Str} {k n : Nat} {g : List D → Res D} {fb : Env → Out}
    (Fn : Fun K x qual st f fd) (S : FnScope N ps (defScope st)) (hn : ps.length = n)
    (hbody : ∀ (cdv : Value) (A : Around) (outer : List PySem.Env) (s : Shared) (H : Hp) (E : XK), Cn (cxOf (L2.CX P w) P w K mg base N qual (defScope st) f cdv A outer s H E) (fun c d _ H => E c d H) k →
      JSs (cxOf (L2.CX P w) P w K mg base N qual (defScope st) f cdv A outer s H E) cls (fun c d _ H => E c d H) (defBody st) fb)
    (heq : ∀ ds, ds.length = n → g ds = .bad ∨ runF fb N.length ds = g ds) : FnOk P w K mg base (L2.CX P w) (k + 1) f fd ps (spD K cls n g) := by
  refine Fn.okX S (fun vs H Q E h => ?_) (fun cdv A outer s H vs Q E hr h => ?_)
  · obtain ⟨F, ds, _, r, h1, _⟩ := h
    rw [r.len, h1, hn]
  · obtain ⟨F, ds, sm, r, hl, h⟩ := h
    obtain ⟨t, p, d⟩ := (hbody cdv A outer s H E ⟨takes_of rfl rfl rfl rfl, passes_of rfl, rfl, S.nd, hr⟩).ex
    refine ⟨t, p, d _ _ F H (ds ++ List.replicate (N.length - ds.length) .un) [] sm ?_ ?_⟩
    · unfold L2.start
      rw [r.len]
      exact sts_start r _
    · rcases heq ds hl with e | e
      · rw [e] at h; exact h.elim
      · rw [← e] at h
        unfold runF at h
        cases q : fb (ds ++ List.replicate (N.length - ds.length) .un) with
        | nx g' => rw [q] at h; exact fun σ' F' H' O' x st' => h .non F' H' [] x.ext Fresh.nil (.sh .non)
        | rt d => rw [q] at h; exact fun v F' H' O' x w => h v F' H' O' x.ext (fun a ha => (x.oo a ha).resolve_left (by simp)) w
        | xc c g' => rw [q] at h; exact fun σ' F' H' O' x st' => h F' H' x.ext
        | bk g' => rw [q] at h; exact h.elim
        | ct g' => rw [q] at h; exact h.elim
        | bad => rw [q] at h; exact h.elim

/-! ### classes: their making -/
/-- the promise of an __init__: the fields that it leaves -/
def spI (K : PySem.W.Frag) (cls : Cls) (c n : Nat) (g : List D → Res (List D)) : Sp := fun vs H Q E => ∃ F x C dx ns vs' ds, vs = .ref x :: vs' ∧ cls c = some (C, ns) ∧ Same F H ∧ F x = none ∧ H x = some (.ins C dx []) ∧ Rps K cls F vs' ds ∧ ds.length = n ∧
  match g ds with
  | .ok fs => ∀ F' H' O', SExt F H [x] F' H' O' → Ow K cls F' H' (.ref x) (.oo none c fs) O' → Q .non H'
  | .xc e => ∀ F' H' O', SExt F H [x] F' H' O' → E (excV cls e) none H'
  | .bad => False
def outI (c : Nat) (x : Addr) : Out → Res (List D)
  | .nx g => match (g : List D)[0]? with
    | some (D.oo (some y) c' fs) => if c' = c ∧ y = x then .ok fs else .bad
    | _ => .bad
  | .xc e _ => .xc e
  | _ => .bad
def runI (f : Env → Out) (c n : Nat) (x : Addr) (ds : List D) : Res (List D) := outI c x (f (.oo (some x) c [] :: ds ++ List.replicate (n - (ds.length + 1)) .un))
theorem fnI_ok {P : Program} {w : World} {mg : Str → Option Value} {base : Heap} {x qual : Str} {st : Stmt} {f : Addr} {fd : FuncData} {N ps : List Str} {k n c : Nat} {g : List D → Res (List D)} {fb : Env → Out}
    (Fn : Fun K x qual st f fd) (S : FnScope N ps (defScope st)) (hn : ps.length = n + 1)
    (hbody : ∀ (cdv : Value) (A : Around) (outer : List PySem.Env) (s : Shared) (H : Hp) (E : XK), Cn (cxOf (L2.CX P w) P w K mg base N qual (defScope st) f cdv A outer s H E) (fun c d _ H => E c d H) k →
      JSs (cxOf (L2.CX P w) P w K mg base N qual (defScope st) f cdv A outer s H E) cls (fun c d _ H => E c d H) (defBody st) fb)
    (heq : ∀ ds x, ds.length = n → g ds = .bad ∨ runI fb c N.length x ds = g ds) : FnOk P w K mg base (L2.CX P w) (k + 1) f fd ps (spI K cls c n g) := by
  refine Fn.okX S (fun vs H Q E h => ?_) (fun cdv A outer s H vs Q E hr h => ?_)
  · obtain ⟨F, x, C, dx, ns, vs', ds, rfl, _, _, _, _, r, h1, _⟩ := h
    rw [List.length_cons, r.len, h1, hn]
  · obtain ⟨F, x, C, dx, ns, vs', ds, rfl, hc, sm, fx, hx, r, hl, h⟩ := h
    obtain ⟨t, p, d⟩ := (hbody cdv A outer s H E ⟨takes_of rfl rfl rfl rfl, passes_of rfl, rfl, S.nd, hr⟩).ex
    have s0 : Sts K cls F H (L2.start N (V.ref x :: vs')) (.oo (some x) c [] :: ds ++ List.replicate (N.length - (ds.length + 1)) .un) [x] := by
      unfold L2.start
      rw [List.length_cons, r.len, List.map_cons, List.cons_append, List.cons_append]
      exact .cons (O1 := [x]) (O2 := []) (.oo (fun y e => by cases e; rfl) hc fx (by simpa using hx) (Nat.zero_le _) (by simp) .nil) (sts_start r _) (fun a _ h => nomatch h) rfl
    refine ⟨t, p, d _ _ F H _ [x] sm s0 ?_⟩
    rcases heq ds x hl with e | e
    · rw [e] at h; exact h.elim
    · rw [← e] at h
      unfold runI at h
      cases q : fb (.oo (some x) c [] :: ds ++ List.replicate (N.length - (ds.length + 1)) .un) with
      | nx g' =>
        rw [q] at h
        intro σ' F' H' O' y st'
        unfold outI at h
        simp only [] at h
        split at h
        · rename_i fs eo
          split at eo
          · rename_i y' c' fs' eg
            split at eo
            · rename_i hcc
              cases eo
              obtain ⟨rfl, rfl⟩ := hcc
              obtain ⟨P, h1, h2, _⟩ := st'.at 0 (List.getElem?_eq_some_iff.mp eg).1
              rcases h2 with ⟨h2, _⟩ | ⟨v, d2, h2, h2', ow⟩
              · rw [eg] at h2; cases h2
              · rw [eg] at h2'; cases h2'
                cases ow with
                | sh r => cases r
                | oo ho hc h1' h2o hl h3 r =>
                  have := ho _ rfl
                  subst this
                  exact h F' H' _ ⟨y.ff, y.fh, y.fr, y.ow, fun a ha => y.oo a (h1 a ha)⟩ (.oo (fun _ e => nomatch e) hc h1' h2o hl h3 r)
            · cases eo
          · cases eo
        · rename_i e' eo
          split at eo
          · split at eo <;> cases eo
          · cases eo
        · exact h.elim
      | xc e g' => rw [q] at h; exact fun σ' F' H' O' y st' => h F' H' O' y
      | rt d => rw [q] at h; exact h.elim
      | bk g' => rw [q] at h; exact h.elim
      | ct g' => rw [q] at h; exact h.elim
      | bad => rw [q] at h; exact h.elim

/-! ### fields stored (in an __init__) -/
theorem putF_new : ∀ {ns : List Str} {vs : List V} {f : Str} {y : V}, ns.Nodup → vs.length ≤ ns.length → ns[vs.length]? = some f → putF f y (ns.zip vs) = ns.zip (vs ++ [y])
  | [], vs, f, y, _, hl, h => by simp at h
  | n :: ns, [], f, y, _, _, h => by
    simp at h
    subst h
    simp [putF]
  | n :: ns, v :: vs, f, y, nd, hl, h => by
    obtain ⟨a1, a2⟩ := List.nodup_cons.mp nd
    have h' : ns[vs.length]? = some f := by simpa using h
    have ne : ¬ n = f := fun e => a1 (e ▸ List.mem_of_getElem? h')
    rw [List.zip_cons_cons, List.cons_append, List.zip_cons_cons]
    show (if n = f then (n, y) :: ns.zip vs else (n, v) :: putF f y (ns.zip vs)) = _
    rw [if_neg ne, putF_new a2 (by simpa using hl) h']
/-- self.f = e: the field that comes next -/
def sFld (i c j : Nat) (fa : Env → Res D) : Env → Out := fun g => ((fa g).bind kp).st g fun d => match (g : List D)[i]? with
  | some (D.oo o c' ds) => if c' = c ∧ ds.length = j then .nx (g.set i (.oo o c (ds ++ [d]))) else .bad
  | _ => .bad
@[simp] theorem sFld_ (i c j : Nat) (fa : Env → Res D) (g : Env) : sFld i c j fa g = ((fa g).bind kp).st g fun d => match (g : List D)[i]? with
  | some (D.oo o c' ds) => if c' = c ∧ ds.length = j then .nx (g.set i (.oo o c (ds ++ [d]))) else .bad
  | _ => .bad := rfl
theorem js_fld {i c j : Nat} {C : Addr} {ns : List Str} {f x : Str} {npos pos' : Pos} (T : ClsOk X.K cls c C ns) (hj : ns[j]? = some f) (hj9 : j < 1000) (hN : X.N[i]? = some x) (hv : Vis X.env.scope x) (ha : JE X cls W a fa)
    (hd : (x == ("__debug__" : Str)) = false := by decide) (hcd : (x == ("__classdict__" : Str)) = false := by decide)
    (hs : swapsWith a (some (.Attribute (.Name x npos) f pos')) pos.line X.env = pure false := by rfl) : JS X cls W (.Assign [.Attribute (.Name x npos) f pos'] a pos) (sFld i c j fa) := by
  obtain ⟨t, p, d⟩ := ha.ex
  refine ⟨_, ps_fld (pe_var hN hv hd hcd) p hs, ?_⟩
  intro D σ F H g O s st p
  rw [sFld_] at p
  refine d.goS s st p fun dd e p v F1 H1 O2 xx fr w => ?_
  split at p
  · rename_i o c' ds eg
    split at p
    · rename_i hc
      obtain ⟨hc1, hc2⟩ := hc
      subst hc1
      obtain ⟨P, h1, h2, h3, _⟩ := st.at i (List.getElem?_eq_some_iff.mp eg).1
      rcases h2 with ⟨h2, _⟩ | ⟨v0, d0, h2, h2', ow⟩
      · rw [eg] at h2; cases h2
      · rw [eg] at h2'; cases h2'
        cases ow with
        | sh r => cases r
        | @oo _ q C' dx _ ns' vs _ O1 ho hcl f1 f2 hl f3 f4 =>
          have := hcl.symm.trans T.e
          cases this
          have hlen : vs.length = ds.length := f4.len
          have hf : F1 q = none := xx.ow q f1 (by rw [f2]; exact fun e => nomatch e)
          have hq : H1 q = some (.ins C dx (ns.zip vs)) := xx.hh _ _ f2
          refine ⟨.ref q, h2, q, C, dx, ns.zip vs, rfl, hq, T.cl, T.na f (List.mem_of_getElem? hj), ?_, ?_⟩
          · rw [List.length_zip]; omega
          · rw [putF_new T.nd hl (by rw [hlen, hc2]; exact hj)]
            have dj : ∀ a ∈ O1, a ∉ O2 := fun a q1 q2 => (f4.dom a q1).2 (fr a q2)
            have nq : q ∉ O1 ++ O2 := fun z => by
              rcases List.mem_append.mp z with z | z
              · exact f3 z
              · have := fr q z; rw [f2] at this; cases this
            have wv := (f4.ext xx).snoc w dj
            have hle : (vs ++ [v]).length ≤ ns.length := by
              have := (List.getElem?_eq_some_iff.mp hj).1
              rw [List.length_append, List.length_singleton]; omega
            have up : ∀ b, b ≠ q → upd H1 q (.ins C dx (ns.zip (vs ++ [v]))) b = H1 b := fun b hb => upd_ne hb
            obtain ⟨O'', q1, q2⟩ := h3 F1 (upd H1 q (.ins C dx (ns.zip (vs ++ [v])))) (.ref q) (.oo o c' (ds ++ [dd])) (q :: (O1 ++ O2)) (fun b hb hn => by
                obtain ⟨e1, e2⟩ := xx.get (st.dom b hb).1 (st.dom b hb).2
                exact ⟨(up b fun z => hn (by simp [z])).trans e1, e2⟩) xx.ff
              (.oo ho hcl hf upd_same hle nq (wv.frame (.refl F1) fun a ha => ⟨up a fun z => nq (z ▸ ha), (wv.dom a ha).1⟩)) (fun a ha hO => by
                rcases List.mem_cons.mp ha with rfl | ha
                · simp
                · rcases List.mem_append.mp ha with z | z
                  · simp [z]
                  · exact absurd (fr a z) (st.dom a hO).2)
            rw [set_self h2] at q1
            refine p σ F1 _ O'' ⟨xx.ff, fun b o e => ?_, fun b o e hn => ?_, fun b h1 h2 _ => xx.ow b h1 h2, fun b hb => ?_⟩ q1
            · rw [up b fun z => by rw [z, hf] at e; cases e]; exact xx.fh b o e
            · rw [up b fun z => hn (z ▸ h1 q (by simp))]; exact xx.hh b o e
            · rcases q2 b hb with z | z
              · exact .inl z
              · rcases List.mem_cons.mp z with rfl | z
                · exact .inl (h1 _ (by simp))
                · rcases List.mem_append.mp z with z | z
                  · exact .inl (h1 b (by simp [z]))
                  · exact .inr (fr b z)
    · exact p.elim
  · exact p.elim

/-! ### C(e, ..) -/
theorem run_makeS {k : Nat} {f C : Addr} {fd : FuncData} {ps : List Str} {sp : Sp} {E : XK} {pins : List (Addr × Obj)} {s : Shared} {us : List Value} {vs : List V} {CXx : CXT} (M : Mk X.K C f) (G : FnOk X.prog X.w X.K X.mg X.base CXx k f fd ps sp) (hr : Room (k + 1) X.A) (hb : Binds X.K fd ps [])
    (hx : PassesAt CXx X σ E) (hx2 : ∀ H' s' e s'', Inv X pins σ H s → Inv X pins σ H' s' → CXx X.stack H' s' E e s'' → X.xe e s'') (I : Inv X pins σ H s) (r : Vals vs us)
    (h : ∀ x dx, H x = none → H dx = none → dx ≠ x → sp (.ref x :: vs) (upd (upd H dx (.own x)) x (.ins C dx [])) (fun v H2 => v = .non ∧ Q (.ref x) H2) E) :
    wpAny (model X.prog X.w) X.A (call (.ref C) us) (EP X pins σ Q) X.xe s := by
  have hq := h (s.heap.objs.size + 1) s.heap.objs.size (I.hok.fresh (Nat.le_succ _)) (I.hok.fresh (Nat.le_refl _)) (Nat.ne_of_lt (Nat.lt_succ_self _))
  have I2 := Inv.made (C := C) I
  have r2 : Vals (V.ref (s.heap.objs.size + 1) :: vs) (Value.ref (s.heap.objs.size + 1) :: us) := .cons rfl r
  have hl : (Value.ref (s.heap.objs.size + 1) :: us ++ []).length = ps.length := by
    have e := r2.length
    rw [G.len _ _ _ _ hq] at e
    rw [List.append_nil]
    exact e.symm
  refine wpAny_call (make_map (f := f) I.kIn M.makes M.init (beq_iff_eq.mp M.fn) (codeAny_mono (G.run _ X.stack _ _ ⟨Value.ref (s.heap.objs.size + 1) :: us, []⟩ (Value.ref (s.heap.objs.size + 1) :: us) _ _ E (hr.make C us [])
    (I2.env0.make C us []) (by have := hb _ (Value.ref (s.heap.objs.size + 1) :: us) I2.kIn hl; rw [List.append_nil] at this; exact this) r2 hq) fun r s' hq' => ?_))
  cases r with
  | error e => exact hx2 _ _ e s' I I2 hq'
  | ok fl =>
    cases fl with
    | ret u =>
      obtain ⟨v, H', I3, rv, ev, q3⟩ := I2.after hq'
      subst ev
      exact ⟨rv, ⟨V.ref (s.heap.objs.size + 1), H', I3, rfl, q3⟩⟩
    | next => exact False.elim hq'
    | brk => exact False.elim hq'
    | cont => exact False.elim hq'
def tMakeS (C : Addr) (sp : Sp) (E : St → XK) (t : TA) : TE := fun σ H Q => t σ H fun vs H1 => ∀ x dx, H1 x = none → H1 dx = none → dx ≠ x →
  sp (.ref x :: vs) (upd (upd H1 dx (.own x)) x (.ins C dx [])) (fun v H2 => v = .non ∧ Q (.ref x) H2) (E σ)
theorem pe_makeS {k : Nat} {f C : Addr} {fd : FuncData} {ps : List Str} {sp : Sp} {x : Str} {p : Pos} {t : TA} (M : Mk X.K C f) (G : FnOk X.prog X.w X.K X.mg X.base (L2.CX X.prog X.w) k f fd ps sp) (hr : Room (k + 1) X.A) (hg : Gl X x) (hm : X.mg x = some (.ref C)) (hb : Binds X.K fd ps [])
    (tk : Takes X W) (ha : PA X (e :: es) t) (hdb : (x == ("__debug__" : Str)) = false := by decide) (he : starEach (e :: es) X.env = (false, eval e X.env) :: starEach es X.env := by rfl) (hpl : (backTo pos (starEach es X.env)).any (·.1) = false := by rfl) :
    PE X (.Call (.Name x p) (e :: es) [] pos) (tMakeS C sp (fun σ => WE W σ) t) := by
  refine ⟨fun pins s σ H Q I h => ?_⟩
  refine wpAny_Call_Name_kw (ld_glob I hg hm ?_ hdb)
  refine PySem.W.callWith_K (h₀ := X.base) I.ok.mod.kin M.kp (thn (ha.run pos pins s σ H _ I h) fun us s1 ⟨vs, H1, I1, r, q⟩ => ⟨I1.kIn, ?_⟩) he hpl
  exact run_makeS M G hr hb (passAt tk σ) (fun H' s' e s'' _ I2 c => passAt tk σ pins H' s' e s'' I2 c) I1 r q
/-- the new object, shared -/
def eMkF (c : Nat) (g : List D → Res (List D)) (fs : Env → Res (List D)) : Env → Res D := fun e => (fs e).bind fun ds => if shd ds = true then (g ds).bind fun fl => if nods fl = true then .ok (.ob c (frzs fl)) else .bad else .bad
@[simp] theorem eMkF_ (c : Nat) (g : List D → Res (List D)) (fs : Env → Res (List D)) (e : Env) : eMkF c g fs e = (fs e).bind fun ds => if shd ds = true then (g ds).bind fun fl => if nods fl = true then .ok (.ob c (frzs fl)) else .bad else .bad := rfl
theorem je_make {k c n : Nat} {f C : Addr} {fd : FuncData} {ps ns : List Str} {g : List D → Res (List D)} {x : Str} {p : Pos} (cn : Cn X W (k + 1)) (hcl : cls c = some (C, ns)) (M : Mk X.K C f) (G : FnOk X.prog X.w X.K X.mg X.base (L2.CX X.prog X.w) k f fd ps (spI X.K cls c n g))
    (hm : X.mg x = some (.ref C)) (hb : Binds X.K fd ps []) (ha : JA X cls W (e :: es) fs) (hn : ∀ g ds, fs g = .ok ds → ds.length = n) (hg : Gl X x := by rfl)
    (hdb : (x == ("__debug__" : Str)) = false := by decide) (he : starEach (e :: es) X.env = (false, eval e X.env) :: starEach es X.env := by rfl) (hpl : (backTo pos (starEach es X.env)).any (·.1) = false := by rfl) :
    JE X cls W (.Call (.Name x p) (e :: es) [] pos) (eMkF c g fs) := by
  obtain ⟨ta, pa, da⟩ := ha.ex
  refine ⟨_, pe_makeS M G cn.hr hg hm hb cn.tk pa hdb he hpl, ?_⟩
  intro σ F H env O Q s st p
  rw [eMkF_] at p
  refine da.go s st (fun c e => by rw [e] at p; exact p) (fun e => by rw [e] at p; exact p) fun ds e vs F1 H1 x1 b1 => ?_
  rw [e, Res.bind_ok] at p
  split at p
  · rename_i hsh
    intro x dx hx hdx hne
    have r1 := b1.toRps hsh
    have nF : ∀ {a : Addr}, H1 a = none → F1 a = none := fun {a} h => by
      cases q : F1 a with
      | none => rfl
      | some u => rw [x1.fh a u q] at h; cases h
    have sF : Same F1 (upd (upd H1 dx (.own x)) x (.ins C dx [])) := fun b o q => by
      rw [upd_ne (fun z => by rw [z, nF hx] at q; cases q), upd_ne (fun z => by rw [z, nF hdx] at q; cases q)]
      exact x1.fh b o q
    have sH : Same H1 (upd (upd H1 dx (.own x)) x (.ins C dx [])) := fun b o q => by
      rw [upd_ne (ne_of_none q hx), upd_ne (ne_of_none q hdx)]
      exact q
    refine ⟨F1, x, C, dx, ns, vs, ds, rfl, hcl, sF, nF hx, upd_same, r1, hn env ds e, ?_⟩
    have ext : ∀ {F' H' O'}, SExt F1 (upd (upd H1 dx (.own x)) x (.ins C dx [])) [x] F' H' O' → Ext F H F' H' := fun {F' H' O'} y =>
      ⟨x1.ff.trans y.ff, fun b o q => by
        have q1 := x1.hh b o q
        exact y.fr b o (sH b o q1) (by simp; exact ne_of_none q1 hx), y.fh, fun b h1 h2 => by
        have h3 := x1.ow b h1 h2
        have h4 : H1 b ≠ none := x1.some h2
        have h5 : b ≠ x := fun z => h4 (z ▸ hx)
        refine y.ow b h3 ?_ (by simp; exact h5)
        cases q : H1 b with
        | none => exact (h4 q).elim
        | some o => rw [sH b o q]; exact fun e => nomatch e⟩
    cases eg : g ds with
    | bad => rw [eg] at p; exact p.elim
    | xc e => rw [eg] at p; exact fun F' H' O' y => p F' H' (ext y)
    | ok fl =>
      rw [eg, Res.bind_ok] at p
      intro F' H' O' y w
      refine ⟨rfl, ?_⟩
      split at p
      · rename_i n
        have fr : Fresh H O' := fun a ha => by
          rcases y.oo a ha with z | z
          · simp at z; subst z; exact x1.hh.free hx
          · exact x1.hh.free (sH.free z)
        have no : ∀ a ∈ O', F' a = none := fun a ha => (w.dom a ha).1
        have z := w.freeze (addF_same no) addF_at (show nod (.oo none c fl) = true from n)
        exact p _ _ H' [] (addF_ext (ext y) fr no) Fresh.nil (.inl (.sh z))
      · exact p.elim
  · exact p.elim

/-! ### try: .. except X as n: .. -/
def unO (i : Nat) : Out → Out
  | .nx g => .nx (g.set i .un)
  | .bk g => .bk (g.set i .un)
  | .ct g => .ct (g.set i .un)
  | .rt d => .rt d
  | .xc _ _ => .bad
  | .bad => .bad
def sTry (fb : Env → Out) (fh : Nat → Env → Out) : Env → Out := fun g => match fb g with
  | .xc c g' => fh c g'
  | o => o
@[simp] theorem sTry_ (fb : Env → Out) (fh : Nat → Env → Out) (g : Env) : sTry fb fh g = match fb g with
  | .xc c g' => fh c g'
  | o => o := rfl
theorem Sts.unset (s : Same F H) {g : Env} (st : Sts K cls F H σ g O) (i : Nat) : ∃ O', Sts K cls F H (σ.set i none) (g.set i .un) O' ∧ ∀ a ∈ O', a ∈ O := st.wipe s [i]
theorem js_try {i k : Nat} {n x : Str} {C : Addr} {body suite : List Stmt} {b0 : Stmt} {np pos' : Pos} {fbo : Env → Out} {fs : Nat → Addr → Env → Out} {fh : Nat → Env → Out} (cn : Cn X W k) (hs : X.stack = X.env :: X.outer) (hf : X.env.frame = some X.env.locals) (hi : X.N[i]? = some n) (hln : X.env.kindOf n = some .local)
    (hx : X.mg x = some (.ref C)) (hcatch : ∀ c g, fh c g ≠ .bad → PySem.W.exmOne X.K (excV cls c) (.ref C) = some true)
    (hb : ∀ (W : WX) (pn : List (Addr × Obj)) (xe : Value → Shared → Prop), Cn (X.tr pn xe) W k → JSs (X.tr pn xe) cls W body fbo)
    (hsu : ∀ (c : Nat) (a : Addr) (oe : Obj) (pn : List (Addr × Obj)), Zc (excV cls c) none oe → (∃ vs, oe.data = .fields vs) → JSs (X.suite a ((a, oe) :: pn)) cls W0 (b0 :: suite) (fs c a))
    (heq : ∀ c a g, fh c g = .bad ∨ unO i (fs c a (g.set i (.rf a))) = fh c g) (hg : Gl X x := by rfl) (hdb : (x == ("__debug__" : Str)) = false := by decide) :
    JS X cls W (.Try body [.ExceptHandler (some (.Name x np)) (some n) (b0 :: suite) pos'] [] [] pos) (sTry fbo fh) := by
  refine ⟨_, ps_try_as (i := i) (tb := fun W => cS X.K cls fbo W) (ts := fun a c d D σ H => ∃ ci, c = excV cls ci ∧ d = none ∧ cS X.K cls (fs ci a) W0 D σ H) (Wout := W) hs hf cn.nd hi hln ⟨hg, hdb, .inl hx⟩ cn.tk
    (fun W' pn xe tk hp => (hb W' pn xe ⟨tk, hp, cn.calm, cn.nd, cn.hr⟩).canon) (fun a oe c d pn hz hd => ?_), ?_⟩
  · refine ⟨fun pins s σ H D I q => ?_⟩
    obtain ⟨ci, rfl, rfl, q⟩ := q
    exact (hsu ci a oe pn hz hd).canon.run pins s σ H D I q
  · intro D σ F H g O s st p
    rw [sTry_] at p
    refine ⟨F, g, O, s, st, ?_⟩
    cases eb : fbo g with
    | nx g' => rw [eb] at p; exact p
    | rt d => rw [eb] at p; exact p
    | bk g' => rw [eb] at p; exact p
    | ct g' => rw [eb] at p; exact p
    | bad => rw [eb] at p; exact p
    | xc c g' =>
      rw [eb] at p
      have p : PostS X.K cls W D F H O (fh c g') := p
      have nb : fh c g' ≠ .bad := fun z => by rw [z] at p; exact p
      intro σ' F' H' O' y st'
      refine ⟨true, hcatch c g' nb, fun _ a ha => ⟨c, rfl, rfl, ?_⟩, fun q => nomatch q⟩
      have e : unO i (fs c a (g'.set i (.rf a))) = fh c g' := (heq c a g').resolve_left nb
      obtain ⟨O2, z1, z2⟩ := st'.putS (i := i) y.fh (.rf a)
      refine ⟨F', g'.set i (.rf a), O2, y.fh, z1, ?_⟩
      rw [← e] at p
      have y2 := y.trans z2
      cases es : fs c a (g'.set i (.rf a)) with
      | nx g2 =>
        rw [es] at p
        intro σ3 F3 H3 O3 y3 st3
        obtain ⟨O4, w1, w2⟩ := st3.unset y3.fh i
        exact p _ F3 H3 O4 ((y2.trans y3).trans ⟨.refl F3, y3.fh, fun _ _ h _ => h, fun _ h _ _ => h, fun a ha => .inl (w2 a ha)⟩) w1
      | bk g2 =>
        rw [es] at p
        intro σ3 F3 H3 O3 y3 st3
        obtain ⟨O4, w1, w2⟩ := st3.unset y3.fh i
        exact p _ F3 H3 O4 ((y2.trans y3).trans ⟨.refl F3, y3.fh, fun _ _ h _ => h, fun _ h _ _ => h, fun a ha => .inl (w2 a ha)⟩) w1
      | ct g2 =>
        rw [es] at p
        intro σ3 F3 H3 O3 y3 st3
        obtain ⟨O4, w1, w2⟩ := st3.unset y3.fh i
        exact p _ F3 H3 O4 ((y2.trans y3).trans ⟨.refl F3, y3.fh, fun _ _ h _ => h, fun _ h _ _ => h, fun a ha => .inl (w2 a ha)⟩) w1
      | rt d => rw [es] at p; exact fun v F3 H3 O3 y3 w => p v F3 H3 O3 (y2.trans y3) w
      | xc c2 g2 => rw [es] at p; exact p.elim
      | bad => rw [es] at p; exact p.elim
/-- isinstance(e, C), e what the suite holds -/
def eIs (i : Nat) (a : Addr) (b : Bool) : Env → Res D := fun g => match (g : List D)[i]? with
  | some (D.rf a') => if a' = a then .ok (.bl b) else .bad
  | _ => .bad
@[simp] theorem eIs_ (i : Nat) (a : Addr) (b : Bool) (g : Env) : eIs i a b g = match (g : List D)[i]? with
  | some (D.rf a') => if a' = a then .ok (.bl b) else .bad
  | _ => .bad := rfl
theorem je_is {ad D1 : Addr} {oe : Obj} {pn : List (Addr × Obj)} {i : Nat} {n : Str} {bb : Bool} {p p1 : Pos} {ec : Expr} {cv : V} {cu : Value} (C : ExcC X.K D1) (hz : Zc (.ref D1) none oe) (hf : ∃ vs, oe.data = .fields vs) (hm : X.mg "isinstance" = none)
    (hN : X.N[i]? = some n) (hv : Vis X.env.scope n) (hd : (n == ("__debug__" : Str)) = false := by decide) (hcd : (n == ("__classdict__" : Str)) = false := by decide)
    (hc : PE (X.suite ad ((ad, oe) :: pn)) ec (tC cv)) (hcv : ∀ u, RelV cv u → u = cu) (hk : PySem.W.kitOne X.K (.ref D1) cu = some bb) (hg : Gl X "isinstance" := by rfl)
    (he : starEach [.Name n p1, ec] X.env = (false, eval (.Name n p1) X.env) :: starEach [ec] X.env := by rfl) (he2 : starEach [ec] X.env = (false, eval ec X.env) :: starEach [] X.env := by rfl) (hpl : (backTo pos (starEach [ec] X.env)).any (·.1) = false := by rfl) :
    JE (X.suite ad ((ad, oe) :: pn)) cls W0 (.Call (.Name "isinstance" p) [.Name n p1, ec] [] pos) (eIs i ad bb) := by
  refine ⟨_, pe_callB (call_isE C hz hf) hg hm (by decide +kernel) (pa_cons (pe_var hN hv hd hcd) (pa_cons hc pa_nil he2) he) (by decide) (by decide) he hpl, ?_⟩
  intro σ F H g O Q s st p
  rw [eIs_] at p
  split at p
  · rename_i a' eg
    split at p
    · rename_i ea
      subst ea
      obtain ⟨P, _, h2, _⟩ := st.at i (List.getElem?_eq_some_iff.mp eg).1
      rcases h2 with ⟨h2, _⟩ | ⟨v, d, h2, h2', ow⟩
      · rw [eg] at h2; cases h2
      · rw [eg] at h2'; cases h2'
        cases ow with
        | sh r =>
          cases r
          exact ⟨_, h2, cv, cu, bb, rfl, hcv, hk, p _ F H [] (.refl s) Fresh.nil (.inl (.sh (.bl bb)))⟩
    · exact p.elim
  · exact p.elim
end
end DL

namespace DL
open PySem L2
section
variable {K : PySem.W.Frag} {cls : Cls} {W : WX} {X : Cx} {F H F' H' F1 H1 : Hp} {O O1 : List Addr} {Q : VK} {σ : St} {a b e tg iter elt : Expr} {es : List Expr} {fa fb fc : Env → Res D} {ga gb : Env → Res Bool} {fs : Env → Res (List D)} {pos : Pos}
theorem js_setN {i : Nat} {x : Str} {pos' : Pos} (nd : X.N.Nodup) (hi : X.N[i]? = some x) (hx : Loc X.env.scope x) (ha : JE X cls W a fa) (hs : swapsWith a (some (.Name x pos')) pos.line X.env = pure false := by rfl)
    (hf : X.fn x = true ∨ X.env.scope.names.lookup x = some .local := by first | exact .inl rfl | exact .inr rfl) : JS X cls W (.Assign [.Name x pos'] a pos) (sAsg i fa) := by
  obtain ⟨t, p, d⟩ := ha.ex
  exact ⟨_, ps_set nd hi hx p hs hf, ds_asg d⟩
theorem js_setFN {i : Nat} {x : Str} {pos' : Pos} (nd : X.N.Nodup) (hi : X.N[i]? = some x) (hx : Loc X.env.scope x) (ha : JE X cls W a fa) (hs : swapsWith a (some (.Name x pos')) pos.line X.env = pure false := by rfl)
    (hf : X.fn x = true ∨ X.env.scope.names.lookup x = some .local := by first | exact .inl rfl | exact .inr rfl) : JS X cls W (.Assign [.Name x pos'] a pos) (sAsgF i fa) := by
  obtain ⟨t, p, d⟩ := ha.ex
  exact ⟨_, ps_set nd hi hx p hs hf, ds_asgF d⟩
end
/-- the law's own promise, from what it gives on the script's data -/
theorem law_sp {K : PySem.W.Frag} {cls : Cls} {g : List D → Res D} {H : Hp} {a : Addr} {ns : List Int} (h : g [.sc (ns.map D.int)] = .ok (.bl true)) (hS : SqL K H a (ns.map V.int)) :
    spD K cls 1 g [.ref a] H (fun v _ => v = .bl true) fun _ _ _ => False := by
  refine ⟨H, [.sc (ns.map D.int)], .refl H, .cons (.sc hS rps_ints) .nil, rfl, ?_⟩
  rw [h]
  intro v F' H' O' _ _ w
  cases w with
  | sh r => cases r; rfl
theorem law_cx {P : Program} {w : World} {H : Hp} {s : Shared} {e : Value} {s' : Shared} (h : L2.CX P w [] H s (fun _ _ _ => False) e s') : False := by
  obtain ⟨_, _, _, _, _, _, _, _, _, _, _, _, z⟩ := h
  exact z
end DL

namespace DL
open PySem L2
/-! ### reckoning with data -/
@[simp] theorem brw_un : brw .un = .un := rfl
@[simp] theorem brw_non : brw .non = .non := rfl
@[simp] theorem brw_bl {b} : brw (.bl b) = .bl b := rfl
@[simp] theorem brw_int {b} : brw (.int b) = .int b := rfl
@[simp] theorem brw_str {b} : brw (.str b) = .str b := rfl
@[simp] theorem brw_sc {b} : brw (.sc b) = .sc b := rfl
@[simp] theorem brw_ls {b} : brw (.ls b) = .ls b := rfl
@[simp] theorem brw_tp {b} : brw (.tp b) = .tp b := rfl
@[simp] theorem brw_ob {c b} : brw (.ob c b) = .ob c b := rfl
@[simp] theorem brw_ol {b} : brw (.ol b) = .bo (brws b) := rfl
@[simp] theorem brw_od {k b} : brw (.od k b) = .bd k (brws b) := rfl
@[simp] theorem brw_oo {o c b} : brw (.oo o c b) = .bb c (brws b) := rfl
@[simp] theorem brw_rf {b} : brw (.rf b) = .rf b := rfl
@[simp] theorem brws_nil : brws [] = [] := rfl
@[simp] theorem brws_cons {d ds} : brws (d :: ds) = brw d :: brws ds := rfl
@[simp] theorem frz_un : frz .un = .un := rfl
@[simp] theorem frz_non : frz .non = .non := rfl
@[simp] theorem frz_bl {b} : frz (.bl b) = .bl b := rfl
@[simp] theorem frz_int {b} : frz (.int b) = .int b := rfl
@[simp] theorem frz_str {b} : frz (.str b) = .str b := rfl
@[simp] theorem frz_sc {b} : frz (.sc b) = .sc b := rfl
@[simp] theorem frz_ls {b} : frz (.ls b) = .ls b := rfl
@[simp] theorem frz_tp {b} : frz (.tp b) = .tp b := rfl
@[simp] theorem frz_ob {c b} : frz (.ob c b) = .ob c b := rfl
@[simp] theorem frz_ol {b} : frz (.ol b) = .ls (frzs b) := rfl
@[simp] theorem frz_oo {o c b} : frz (.oo o c b) = .ob c (frzs b) := rfl
@[simp] theorem frz_od {k b} : frz (.od k b) = .od k b := rfl
@[simp] theorem frzs_nil : frzs [] = [] := rfl
@[simp] theorem frzs_cons {d ds} : frzs (d :: ds) = frz d :: frzs ds := rfl
@[simp] theorem pln_bo {b} : pln (.bo b) = .ls (plns b) := rfl
@[simp] theorem pln_int {b} : pln (.int b) = .int b := rfl
@[simp] theorem pln_ls {b} : pln (.ls b) = .ls b := rfl
@[simp] theorem pln_sc {b} : pln (.sc b) = .sc b := rfl
@[simp] theorem pln_tp {b} : pln (.tp b) = .tp b := rfl
@[simp] theorem pln_bl {b} : pln (.bl b) = .bl b := rfl
@[simp] theorem pln_str {b} : pln (.str b) = .str b := rfl
@[simp] theorem pln_non : pln .non = .non := rfl
@[simp] theorem pln_ob {c b} : pln (.ob c b) = .ob c b := rfl
@[simp] theorem plns_nil : plns [] = [] := rfl
@[simp] theorem plns_cons {d ds} : plns (d :: ds) = pln d :: plns ds := rfl
/-- plain data: no change by freezing, reading, plain -/
def dull : D → Prop := fun d => brw d = d ∧ frz d = d ∧ pln d = d ∧ nod d = true ∧ shd1 d = true ∧ plok d = true
/-- lists of plain data -/
theorem dulls {α : Type} {f : α → D} (h : ∀ a, dull (f a)) : ∀ l : List α, brws (l.map f) = l.map f ∧ frzs (l.map f) = l.map f ∧ plns (l.map f) = l.map f ∧ nods (l.map f) = true ∧ shd (l.map f) = true ∧ ploks (l.map f) = true
  | [] => ⟨rfl, rfl, rfl, rfl, rfl, rfl⟩
  | a :: l => by
    obtain ⟨h1, h2, h3, h4, h5, h6⟩ := dulls h l
    obtain ⟨k1, k2, k3, k4, k5, k6⟩ := h a
    refine ⟨?_, ?_, ?_, ?_, ?_, ?_⟩
    · simp [h1, k1]
    · simp [h2, k2]
    · simp [h3, k3]
    · simp [h4, k4]
    · simp [h5, k5]
    · simp [h6, k6]
theorem dull_int (i : Int) : dull (.int i) := ⟨rfl, rfl, rfl, rfl, rfl, rfl⟩
theorem dull_bl (i : Bool) : dull (.bl i) := ⟨rfl, rfl, rfl, rfl, rfl, rfl⟩
theorem dull_str (i : Str) : dull (.str i) := ⟨rfl, rfl, rfl, rfl, rfl, rfl⟩
/-- a pair of ints, a tuple of ints, a list of ints as data -/
@[simp] def dP (p : Int × Int) : D := .tp [.int p.1, .int p.2]
theorem dull_P (p : Int × Int) : dull (dP p) := ⟨rfl, rfl, rfl, rfl, rfl, rfl⟩
def dI (l : List Int) : List D := l.map D.int
def dPs (l : List (Int × Int)) : List D := l.map dP
def dT (l : List Int) : D := .tp (l.map D.int)
def dL (l : List Int) : D := .ls (l.map D.int)
theorem dull_T (l : List Int) : dull (dT l) := ⟨rfl, rfl, rfl, rfl, rfl, rfl⟩
theorem dull_L (l : List Int) : dull (dL l) := ⟨rfl, rfl, rfl, rfl, rfl, rfl⟩
section
variable (l : List Int)
@[simp] theorem brws_I : brws (l.map D.int) = l.map D.int := (dulls dull_int l).1
@[simp] theorem frzs_I : frzs (l.map D.int) = l.map D.int := (dulls dull_int l).2.1
@[simp] theorem plns_I : plns (l.map D.int) = l.map D.int := (dulls dull_int l).2.2.1
@[simp] theorem nods_I : nods (l.map D.int) = true := (dulls dull_int l).2.2.2.1
@[simp] theorem shd_I : shd (l.map D.int) = true := (dulls dull_int l).2.2.2.2.1
@[simp] theorem ploks_I : ploks (l.map D.int) = true := (dulls dull_int l).2.2.2.2.2
@[simp] theorem flats_I : flats (l.map D.int) = true := by
  induction l with
  | nil => rfl
  | cons a l ih => simp [ih]
end
section
variable (l : List (Int × Int))
@[simp] theorem brws_P : brws (l.map dP) = l.map dP := (dulls dull_P l).1
@[simp] theorem frzs_P : frzs (l.map dP) = l.map dP := (dulls dull_P l).2.1
@[simp] theorem plns_P : plns (l.map dP) = l.map dP := (dulls dull_P l).2.2.1
@[simp] theorem nods_P : nods (l.map dP) = true := (dulls dull_P l).2.2.2.1
@[simp] theorem shd_P : shd (l.map dP) = true := (dulls dull_P l).2.2.2.2.1
@[simp] theorem ploks_P : ploks (l.map dP) = true := (dulls dull_P l).2.2.2.2.2
end
@[simp] theorem atI_map {α β : Type} (f : α → β) (l : List α) (i : Int) : atI (l.map f) i = (atI l i).map f := by
  unfold atI
  rw [List.length_map]
  cases ixN l.length i with
  | none => rfl
  | some j => simp
theorem atI_of {α : Type} {l : List α} {i : Int} (h0 : 0 ≤ i) (h1 : i < l.length) : ∃ a, atI l i = some a ∧ l[i.toNat]? = some a := by
  have h : i.toNat < l.length := by omega
  refine ⟨l[i.toNat], ?_, by simp [h]⟩
  unfold atI ixN
  rw [if_pos h0, if_pos h1]
  simp [h]
theorem atI_natG {α : Type} {l : List α} {j : Nat} {i : Int} (e : i = (j : Int)) (h : j < l.length) : atI l i = l[j]? := by
  subst e
  unfold atI ixN
  rw [if_pos (by omega), if_pos (by omega)]
  simp
theorem ixN_nat {n : Nat} {i : Int} (h0 : 0 ≤ i) (h1 : i < n) : ixN n i = some i.toNat := by
  unfold ixN
  rw [if_pos h0, if_pos h1]
/-! loops -/
theorem forL_inv {tg : D → Env → Option Env} {b : Env → Out} (P : Nat → Env → Prop) : ∀ (ds : List D) (g : Env) (j : Nat), P j g →
    (∀ i d g, ds[i]? = some d → P (j + i) g → ∃ g1 g', tg d g = some g1 ∧ (b g1 = .nx g' ∨ b g1 = .ct g') ∧ P (j + i + 1) g') → ∃ g', forL tg b ds g = .nx g' ∧ P (j + ds.length) g'
  | [], g, j, h0, _ => ⟨g, rfl, h0⟩
  | d :: ds, g, j, h0, hs => by
    obtain ⟨g1, g', e1, e2, h1⟩ := hs 0 d g rfl h0
    obtain ⟨g2, e3, h2⟩ := forL_inv P ds g' (j + 1) h1 fun i d' g e h => by
      have := hs (i + 1) d' g (by simpa using e) (by rw [show j + (i + 1) = j + 1 + i by omega]; exact h)
      rw [show j + (i + 1) + 1 = j + 1 + i + 1 by omega] at this
      exact this
    refine ⟨g2, ?_, by rw [List.length_cons, show j + (ds.length + 1) = j + 1 + ds.length by omega]; exact h2⟩
    rw [forL_cons, e1]
    rcases e2 with e2 | e2 <;> (simp only [e2]; exact e3)
theorem for_rng {tg : D → Env → Option Env} {b : Env → Out} (P : Nat → Env → Prop) {lo : Int} {n : Nat} {g : Env} (h0 : P 0 g)
    (hs : ∀ i g, i < n → P i g → ∃ g1 g', tg (.int (lo + i)) g = some g1 ∧ (b g1 = .nx g' ∨ b g1 = .ct g') ∧ P (i + 1) g') : ∃ g', forL tg b (rng lo n) g = .nx g' ∧ P n g' := by
  obtain ⟨g', e, h⟩ := forL_inv (tg := tg) (b := b) P (rng lo n) g 0 h0 fun i d g e h => by
    obtain ⟨h1, rfl⟩ := rng_get e
    rw [Nat.zero_add] at h ⊢
    exact hs i g h1 h
  rw [rng_len, Nat.zero_add] at h
  exact ⟨g', e, h⟩
/-- a loop that may leave -/
theorem forL_post {tg : D → Env → Option Env} {b : Env → Out} (P : Nat → Env → Prop) (R : Out → Prop) : ∀ (ds : List D) (g : Env) (j : Nat), P j g →
    (∀ i d g, ds[i]? = some d → P (j + i) g → ∃ g1, tg d g = some g1 ∧ ((∃ g', (b g1 = .nx g' ∨ b g1 = .ct g') ∧ P (j + i + 1) g') ∨ (∃ g', b g1 = .bk g' ∧ R (.nx g')) ∨ (∃ d, b g1 = .rt d ∧ R (.rt d)) ∨ ∃ c g', b g1 = .xc c g' ∧ R (.xc c g'))) →
    (∃ g', forL tg b ds g = .nx g' ∧ P (j + ds.length) g') ∨ R (forL tg b ds g)
  | [], g, j, h0, _ => .inl ⟨g, rfl, h0⟩
  | d :: ds, g, j, h0, hs => by
    obtain ⟨g1, e1, h⟩ := hs 0 d g rfl h0
    rw [forL_cons, e1]
    simp only []
    rcases h with ⟨g', e2, h1⟩ | ⟨g', e2, h1⟩ | ⟨d', e2, h1⟩ | ⟨c, g', e2, h1⟩
    · have ih := forL_post P R ds g' (j + 1) h1 fun i d' g e h => by
        have := hs (i + 1) d' g (by simpa using e) (by rw [show j + (i + 1) = j + 1 + i by omega]; exact h)
        rw [show j + (i + 1) + 1 = j + 1 + i + 1 by omega] at this
        exact this
      rw [show j + 1 + ds.length = j + (d :: ds).length by rw [List.length_cons]; omega] at ih
      rcases e2 with e2 | e2 <;> (simp only [e2]; exact ih)
    · simp only [e2]; exact .inr h1
    · simp only [e2]; exact .inr h1
    · simp only [e2]; exact .inr h1
end DL

namespace DL
open PySem L2
/-- 10 ** 60 -/
def e60 : Int := 10 ^ 60
@[simp] theorem e60_pos : 0 < e60 := by decide
theorem e60_eq : e60 = 10 ^ 60 := rfl
section
variable {a b i j : Int} {x y : Str} {xs ys : List D} {k l : Bool} {d e : D} {ks : List Key} {c n : Nat}
@[simp] theorem caLen_sc : caLen [.sc xs] = some (.int xs.length) := rfl
@[simp] theorem caLen_ls : caLen [.ls xs] = some (.int xs.length) := rfl
@[simp] theorem caLen_bo : caLen [.bo xs] = some (.int xs.length) := rfl
@[simp] theorem caLen_tp : caLen [.tp xs] = some (.int xs.length) := rfl
@[simp] theorem opIx_sc : opIx (.sc xs) (.int i) = atI xs i := rfl
@[simp] theorem opIx_ls : opIx (.ls xs) (.int i) = atI xs i := rfl
@[simp] theorem opIx_bo : opIx (.bo xs) (.int i) = atI xs i := rfl
@[simp] theorem opIx_tp : opIx (.tp xs) (.int i) = atI xs i := rfl
@[simp] theorem atI_two0 {α : Type} {p q : α} : atI [p, q] 0 = some p := rfl
@[simp] theorem atI_two1 {α : Type} {p q : α} : atI [p, q] 1 = some q := rfl
theorem opPow_eq : opPow (.int i) (.int j) = if CPow i j then some (.int (i ^ j.toNat)) else none := rfl
theorem opMod_eq : opMod (.int i) (.int j) = if j ≠ 0 then some (.int (if 0 < j then i % j else i.fmod j)) else none := rfl
theorem opDiv_eq : opDiv (.int i) (.int j) = if divOk j then some (.int (if 0 < j then i / j else i.fdiv j)) else none := rfl
theorem opMul_eq : opMul (.int i) (.int j) = if mulOk i j then some (.int (i * j)) else none := rfl
theorem opMul_ls : opMul (.ls xs) (.int i) = if i < 2 ^ 63 ∧ -(2 ^ 63) ≤ i ∧ xs.length * i.toNat ≤ lim then some (.ol (List.replicate i.toNat xs).flatten) else none := rfl
theorem caMax2_eq : caMax2 [.int a, .int b] = some (.int (if b > a then b else a)) := rfl
theorem caMin2_eq : caMin2 [.int a, .int b] = some (.int (if b < a then b else a)) := rfl
theorem caAbs_eq : caAbs [.int a] = some (.int (if a < 0 then -a else a)) := rfl
@[simp] theorem opPow_c : opPow (.int 10) (.int 60) = some (.int e60) := by
  rw [opPow_eq, if_pos (by unfold CPow; decide)]
  rfl
@[simp] theorem opMod_pos (h : 0 < b) : opMod (.int a) (.int b) = some (.int (a % b)) := by
  rw [opMod_eq, if_pos (by omega), if_pos h]
theorem divOk_small (h0 : b ≠ 0) (h : b.natAbs < 1073741824) : divOk b := ⟨h0, .inl h⟩
@[simp] theorem opDiv_pos (h : 0 < b) (h' : b < 1073741824) : opDiv (.int a) (.int b) = some (.int (a / b)) := by
  rw [opDiv_eq, if_pos (divOk_small (by omega) (by omega)), if_pos h]
@[simp] theorem opMul_l (h : -18446744073709551616 < a) (h' : a < 18446744073709551616) : opMul (.int a) (.int b) = some (.int (a * b)) := by
  rw [opMul_eq, if_pos (.inl (.inl ⟨by omega, by omega⟩))]
@[simp] theorem opMul_r (h : -18446744073709551616 < b) (h' : b < 18446744073709551616) : opMul (.int a) (.int b) = some (.int (a * b)) := by
  rw [opMul_eq, if_pos (.inl (.inr ⟨by omega, by omega⟩))]
@[simp] theorem opAdd_int : opAdd (.int a) (.int b) = some (.int (a + b)) := rfl
@[simp] theorem opSub_int : opSub (.int a) (.int b) = some (.int (a - b)) := rfl
@[simp] theorem opNeg_int : opNeg (.int a) = some (.int (-a)) := rfl
@[simp] theorem opAdd_tp (h : xs.length + ys.length ≤ lim) : opAdd (.tp xs) (.tp ys) = some (.tp (xs ++ ys)) := if_pos h
@[simp] theorem opAdd_ll (h : xs.length + ys.length ≤ lim) : opAdd (.ls xs) (.ls ys) = some (.ol (xs ++ ys)) := if_pos h
theorem opAdd_lst {d e : D} (h1 : lsv d = some xs) (h2 : lsv e = some ys) (h : xs.length + ys.length ≤ lim) : opAdd d e = some (.ol (xs ++ ys)) := by
  have e1 : opAdd d e = opAddL d e := by cases d <;> first | rfl | cases h1
  rw [e1]
  unfold opAddL
  rw [h1, h2]
  exact if_pos h
@[simp] theorem opAdd_lb (h2 : shd ys = true) (h : xs.length + ys.length ≤ lim) : opAdd (.ls xs) (.bo ys) = some (.ol (xs ++ ys)) := opAdd_lst rfl (by simp [h2]) h
@[simp] theorem opAdd_bl (h2 : shd xs = true) (h : xs.length + ys.length ≤ lim) : opAdd (.bo xs) (.ls ys) = some (.ol (xs ++ ys)) := opAdd_lst (by simp [h2]) rfl h
@[simp] theorem opAdd_bb (h1 : shd xs = true) (h2 : shd ys = true) (h : xs.length + ys.length ≤ lim) : opAdd (.bo xs) (.bo ys) = some (.ol (xs ++ ys)) := opAdd_lst (by simp [h1]) (by simp [h2]) h
@[simp] theorem opAdd_str (h : x.length + y.length ≤ lim) : opAdd (.str x) (.str y) = some (.str (x ++ y)) := if_pos h
@[simp] theorem opMul_rep (h : 0 ≤ a) (h' : a ≤ 100000) (h2 : xs.length ≤ 10) : opMul (.ls xs) (.int a) = some (.ol (List.replicate a.toNat xs).flatten) := by
  have : xs.length * a.toNat ≤ lim := by
    unfold lim
    have h1 : a.toNat ≤ 100000 := by omega
    exact Nat.le_trans (Nat.mul_le_mul h2 h1) (by decide)
  rw [opMul_ls, if_pos ⟨by omega, by omega, this⟩]
@[simp] theorem cLt_int : cLt (.int a) (.int b) = some (decide (a < b)) := rfl
@[simp] theorem cLe_int : cLe (.int a) (.int b) = some (decide (a ≤ b)) := rfl
@[simp] theorem cGt_int : cGt (.int a) (.int b) = some (decide (b < a)) := rfl
@[simp] theorem cGe_int : cGe (.int a) (.int b) = some (decide (b ≤ a)) := rfl
@[simp] theorem cEq_int : cEq (.int a) (.int b) = some (decide (a = b)) := rfl
@[simp] theorem cEq_str : cEq (.str x) (.str y) = some (decide (x = y)) := rfl
@[simp] theorem cEq_bl : cEq (.bl k) (.bl l) = some (decide (k = l)) := rfl
@[simp] theorem cNe_int : cNe (.int a) (.int b) = some (!decide (a = b)) := rfl
@[simp] theorem cNe_str : cNe (.str x) (.str y) = some (!decide (x = y)) := rfl
@[simp] theorem cNe_bl : cNe (.bl k) (.bl l) = some (!decide (k = l)) := rfl
@[simp] theorem cIsN_non : cIsN .non .non = some true := rfl
@[simp] theorem cIsN_int : cIsN (.int a) .non = some false := rfl
@[simp] theorem cIsN_tp : cIsN (.tp xs) .non = some false := rfl
@[simp] theorem cIsN_ls : cIsN (.ls xs) .non = some false := rfl
@[simp] theorem cIsN_bo : cIsN (.bo xs) .non = some false := rfl
@[simp] theorem cIsN_ob : cIsN (.ob c xs) .non = some false := rfl
@[simp] theorem cIsN_str : cIsN (.str x) .non = some false := rfl
@[simp] theorem cNotN_non : cNotN .non .non = some false := rfl
@[simp] theorem cNotN_int : cNotN (.int a) .non = some true := rfl
@[simp] theorem cNotN_tp : cNotN (.tp xs) .non = some true := rfl
@[simp] theorem cNotN_ls : cNotN (.ls xs) .non = some true := rfl
@[simp] theorem cNotN_ob : cNotN (.ob c xs) .non = some true := rfl
@[simp] theorem caMax2_int : caMax2 [.int a, .int b] = some (.int (max a b)) := by
  rw [caMax2_eq, show (if b > a then b else a) = max a b by split <;> omega]
@[simp] theorem caMin2_int : caMin2 [.int a, .int b] = some (.int (min a b)) := by
  rw [caMin2_eq, show (if b < a then b else a) = min a b by split <;> omega]
@[simp] theorem caAbs_int : caAbs [.int a] = some (.int (a.natAbs : Int)) := by
  rw [caAbs_eq, show (if a < 0 then -a else a) = (a.natAbs : Int) by split <;> omega]
@[simp] theorem caInt_int : caInt [.int a] = some (.int a) := rfl
@[simp] theorem caInt_bl : caInt [.bl k] = some (.int (if k = true then 1 else 0)) := rfl
@[simp] theorem caList_ls : caList [.ls xs] = some (.ol xs) := rfl
@[simp] theorem caList_sc : caList [.sc xs] = some (.ol xs) := rfl
@[simp] theorem caList_tp : caList [.tp xs] = some (.ol xs) := rfl
@[simp] theorem caList_bo (h : shd xs = true) : caList [.bo xs] = some (.ol xs) := by simp [caList, h]
@[simp] theorem caTuple_ls : caTuple [.ls xs] = some (.tp xs) := rfl
@[simp] theorem caTuple_sc : caTuple [.sc xs] = some (.tp xs) := rfl
@[simp] theorem caTuple_tp : caTuple [.tp xs] = some (.tp xs) := rfl
@[simp] theorem caTuple_bo (h : shd xs = true) : caTuple [.bo xs] = some (.tp xs) := by simp [caTuple, h]
variable {ns : List Int}
@[simp] theorem caSum_ls : caSum [.ls (ns.map D.int)] = some (.int ns.sum) := by simp [caSum]
@[simp] theorem caSum_bo : caSum [.bo (ns.map D.int)] = some (.int ns.sum) := by simp [caSum]
@[simp] theorem caSum_sc : caSum [.sc (ns.map D.int)] = some (.int ns.sum) := by simp [caSum]
@[simp] theorem caSorted_ls : caSorted [.ls (ns.map D.int)] = some (.ol ((srt ns).map D.int)) := by simp [caSorted]
@[simp] theorem caSorted_bo : caSorted [.bo (ns.map D.int)] = some (.ol ((srt ns).map D.int)) := by simp [caSorted]
@[simp] theorem opSl_tp {lo hi : Option Int} : opSl (.tp xs) lo hi = some (.tp (cut xs lo hi)) := rfl
@[simp] theorem opSl_ls {lo hi : Option Int} : opSl (.ls xs) lo hi = some (.ol (cut xs lo hi)) := rfl
@[simp] theorem opSl_sc {lo hi : Option Int} : opSl (.sc xs) lo hi = some (.ol (cut xs lo hi)) := rfl
@[simp] theorem opSl_bo {lo hi : Option Int} (h : shd xs = true) : opSl (.bo xs) lo hi = some (.ol (cut xs lo hi)) := by simp [opSl, h]
@[simp] theorem cut_map {α β : Type} (f : α → β) (l : List α) (lo hi : Option Int) : cut (l.map f) lo hi = (cut l lo hi).map f := by
  unfold cut
  simp
@[simp] theorem tru_bl : tru (.bl k) = some k := rfl
@[simp] theorem tru_int : tru (.int a) = some (a != 0) := rfl
@[simp] theorem tru_non : tru .non = some false := rfl
@[simp] theorem tru_ls : tru (.ls xs) = some (!xs.isEmpty) := rfl
@[simp] theorem tru_bo : tru (.bo xs) = some (!xs.isEmpty) := rfl
@[simp] theorem tru_tp : tru (.tp xs) = some (!xs.isEmpty) := rfl
@[simp] theorem cIn_ls : cIn (.int a) (.ls (ns.map D.int)) = some (decide (a ∈ ns)) := by simp [cIn]
@[simp] theorem cIn_tp : cIn (.int a) (.tp (ns.map D.int)) = some (decide (a ∈ ns)) := by simp [cIn]
@[simp] theorem cIn_bo : cIn (.int a) (.bo (ns.map D.int)) = some (decide (a ∈ ns)) := by simp [cIn]
@[simp] theorem cNIn_ls : cNIn (.int a) (.ls (ns.map D.int)) = some (!decide (a ∈ ns)) := by simp [cNIn]
@[simp] theorem cNIn_tp : cNIn (.int a) (.tp (ns.map D.int)) = some (!decide (a ∈ ns)) := by simp [cNIn]
@[simp] theorem cNIn_bo : cNIn (.int a) (.bo (ns.map D.int)) = some (!decide (a ∈ ns)) := by simp [cNIn]
@[simp] theorem opFld_ob : opFld c n (.ob c xs) = xs[n]? := if_pos rfl
@[simp] theorem opFld_bb : opFld c n (.bb c xs) = xs[n]? := if_pos rfl
@[simp] theorem calD_shd {g : List D → Res D} (h : shd xs = true) : calD g xs = g xs := if_pos h
theorem calD_bo {g : List D → Res D} (h : shd xs = false) (h2 : ploks xs = true) : calD g xs = (g (plns xs)).bind fun d => if flat d = true then .ok d else .bad := by
  unfold calD
  rw [if_neg (by simp [h]), if_pos h2]
end
end DL

namespace DL
open PySem L2
theorem for_rngN {s : Nat} {b : Env → Out} (P : Nat → Env → Prop) {lo : Int} {n : Nat} {g : Env} (h0 : P 0 g)
    (hs : ∀ (i : Nat) g, i < n → P i g → ∃ g', (b (g.set s (.int (lo + i))) = .nx g' ∨ b (g.set s (.int (lo + i))) = .ct g') ∧ P (i + 1) g') : ∃ g', forL (gtN s) b (rng lo n) g = .nx g' ∧ P n g' :=
  for_rng P h0 fun i g hi h => by
    obtain ⟨g', e, h'⟩ := hs i g hi h
    exact ⟨_, g', rfl, e, h'⟩
theorem for_lstN {s : Nat} {b : Env → Out} (P : Nat → Env → Prop) {ds : List D} {g : Env} (h0 : P 0 g)
    (hs : ∀ (i : Nat) d g, ds[i]? = some d → P i g → ∃ g', (b (g.set s d) = .nx g' ∨ b (g.set s d) = .ct g') ∧ P (i + 1) g') : ∃ g', forL (gtN s) b ds g = .nx g' ∧ P ds.length g' := by
  obtain ⟨g', e, h⟩ := forL_inv (tg := gtN s) (b := b) P ds g 0 h0 fun i d g e h => by
    rw [Nat.zero_add] at h ⊢
    obtain ⟨g', e, h'⟩ := hs i d g e h
    exact ⟨_, g', rfl, e, h'⟩
  rw [Nat.zero_add] at h
  exact ⟨g', e, h⟩
/-- a loop as a fold: the env is a function of a state -/
theorem for_fold {α σ : Type} {tg : D → Env → Option Env} {b : Env → Out} (enc : σ → Env) (f : α → D) (step : σ → α → σ) : ∀ (l : List α) (s : σ),
    (∀ a ∈ l, ∀ s, ∃ g1, tg (f a) (enc s) = some g1 ∧ (b g1 = .nx (enc (step s a)) ∨ b g1 = .ct (enc (step s a)))) → forL tg b (l.map f) (enc s) = .nx (enc (l.foldl step s))
  | [], s, _ => rfl
  | a :: l, s, h => by
    obtain ⟨g1, e1, e2⟩ := h a (by simp) s
    rw [List.map_cons, forL_cons, e1]
    have ih := for_fold enc f step l (step s a) fun b hb => h b (by simp [hb])
    rcases e2 with e2 | e2 <;> (simp only [e2]; exact ih)
theorem lcL_map {α : Type} {tg : D → Env → Option Env} {te : Env → Res D} {g : Env} {f h : α → D} : ∀ (l : List α), (∀ a ∈ l, ∃ g1, tg (f a) g = some g1 ∧ (te g1).bind kp = .ok (h a)) → lcL tg tYesG te g (l.map f) = .ok (l.map h)
  | [], _ => rfl
  | a :: l, k => by
    obtain ⟨g1, e1, e2⟩ := k a (by simp)
    rw [List.map_cons, lcL_cons, e1]
    simp only [tYesG_, Res.bind_ok, if_true]
    rw [e2, lcL_map l fun b hb => k b (by simp [hb])]
    rfl
theorem lcL_mapN {α : Type} {s : Nat} {te : Env → Res D} {g : Env} {f h : α → D} (l : List α) (k : ∀ a ∈ l, (te (g.set s (f a))).bind kp = .ok (h a)) : lcL (gtN s) tYesG te g (l.map f) = .ok (l.map h) :=
  lcL_map l fun a ha => ⟨_, rfl, k a ha⟩
theorem lcL_filter {α : Type} {tg : D → Env → Option Env} {tt : Env → Res Bool} {te : Env → Res D} {g : Env} {f h : α → D} {p : α → Bool} : ∀ (l : List α), (∀ a ∈ l, ∃ g1, tg (f a) g = some g1 ∧ tt g1 = .ok (p a) ∧ (p a = true → (te g1).bind kp = .ok (h a))) → lcL tg tt te g (l.map f) = .ok ((l.filter p).map h)
  | [], _ => rfl
  | a :: l, k => by
    obtain ⟨g1, e1, e2, e3⟩ := k a (by simp)
    have ih := lcL_filter (h := h) l fun b hb => k b (by simp [hb])
    rw [List.map_cons, lcL_cons, e1]
    simp only [e2, Res.bind_ok]
    cases hp : p a with
    | true => rw [if_pos rfl, e3 hp, ih, List.filter_cons_of_pos hp]; rfl
    | false => rw [if_neg (by decide), ih, List.filter_cons_of_neg (by simp [hp])]
theorem lcL_filterN {α : Type} {s : Nat} {tt : Env → Res Bool} {te : Env → Res D} {g : Env} {f h : α → D} {p : α → Bool} (l : List α) (k : ∀ a ∈ l, tt (g.set s (f a)) = .ok (p a) ∧ (p a = true → (te (g.set s (f a))).bind kp = .ok (h a))) : lcL (gtN s) tt te g (l.map f) = .ok ((l.filter p).map h) :=
  lcL_filter l fun a ha => ⟨_, rfl, (k a ha).1, (k a ha).2⟩
theorem map_int {α : Type} (h : α → Int) (l : List α) : l.map (fun a => D.int (h a)) = (l.map h).map D.int := by simp
theorem map_P {α : Type} (h : α → Int × Int) (l : List α) : l.map (fun a => dP (h a)) = (l.map h).map dP := by simp
theorem cut_len {α : Type} (l : List α) (lo hi : Option Int) : (cut l lo hi).length ≤ l.length := by
  unfold cut; rw [List.length_take, List.length_drop]; omega
theorem cut_from {α : Type} (l : List α) (i : Int) (h : 0 ≤ i) : cut l (some i) none = l.drop i.toNat := by
  unfold cut
  obtain ⟨n, rfl⟩ := Int.eq_ofNat_of_zero_le h
  rw [HT.sIx_nat, HT.sIx_none]
  simp only [Int.toNat_natCast]
  by_cases hn : n ≤ l.length
  · rw [Nat.min_eq_left hn, List.take_of_length_le (by simp)]
  · rw [Nat.min_eq_right (by omega), List.drop_length, List.drop_eq_nil_of_le (by omega)]; simp
theorem cut_to {α : Type} (l : List α) (i : Int) (h : 0 ≤ i) : cut l none (some i) = l.take i.toNat := by
  unfold cut
  obtain ⟨n, rfl⟩ := Int.eq_ofNat_of_zero_le h
  rw [HT.sIx_nat, HT.sIx_none]
  simp only [Int.toNat_natCast, List.drop_zero, Nat.sub_zero]
  by_cases hn : n ≤ l.length
  · rw [Nat.min_eq_left hn]
  · rw [Nat.min_eq_right (by omega), List.take_of_length_le (Nat.le_refl _), List.take_of_length_le (by omega)]
theorem rng_map (lo : Int) (n : Nat) : rng lo n = ((List.range n).map fun i : Nat => lo + (i : Int)).map D.int := by unfold rng; simp
theorem lim_eq : lim = 1000000 := rfl
@[simp] theorem lim_0 : 0 ≤ lim := by decide
@[simp] theorem lim_1 : 1 ≤ lim := by decide
@[simp] theorem lim_2 : 2 ≤ lim := by decide
@[simp] theorem lim_3 : 3 ≤ lim := by decide
@[simp] theorem lim_4 : 4 ≤ lim := by decide
@[simp] theorem lim_5 : 5 ≤ lim := by decide
@[simp] theorem lim_6 : 6 ≤ lim := by decide
@[simp] theorem lim_7 : 7 ≤ lim := by decide
@[simp] theorem lim_8 : 8 ≤ lim := by decide
@[simp] theorem lim_9 : 9 ≤ lim := by decide
@[simp] theorem lim_10 : 10 ≤ lim := by decide
@[simp] theorem lim_11 : 11 ≤ lim := by decide
@[simp] theorem lim_12 : 12 ≤ lim := by decide
@[simp] theorem lim_13 : 13 ≤ lim := by decide
@[simp] theorem lim_14 : 14 ≤ lim := by decide
@[simp] theorem lim_15 : 15 ≤ lim := by decide
@[simp] theorem lim_16 : 16 ≤ lim := by decide
@[simp] theorem lim_17 : 17 ≤ lim := by decide
@[simp] theorem lim_18 : 18 ≤ lim := by decide
@[simp] theorem lim_19 : 19 ≤ lim := by decide
@[simp] theorem lim_20 : 20 ≤ lim := by decide
end DL

namespace DL
open PySem L2
/-- what an __init__ gives on data, where it does not hang on the object's place -/
noncomputable def mirI (f : Env → Out) (c n : Nat) : List D → Res (List D) := fun ds => by
  classical exact if h : ∃ r, ∀ x, runI f c n x ds = r then h.choose else .bad
theorem mirI_eq {f : Env → Out} {c n : Nat} {ds : List D} {r : Res (List D)} (h : ∀ x, runI f c n x ds = r) : mirI f c n ds = r := by
  unfold mirI
  rw [dif_pos ⟨r, h⟩]
  have := (Exists.choose_spec (⟨r, h⟩ : ∃ r, ∀ x, runI f c n x ds = r)) 0
  rw [← this, h 0]
theorem mirI_ok {f : Env → Out} {c n k : Nat} : ∀ ds x, ds.length = k → mirI f c n ds = .bad ∨ runI f c n x ds = mirI f c n ds := by
  intro ds x _
  by_cases h : ∃ r, ∀ x, runI f c n x ds = r
  · right
    obtain ⟨r, h⟩ := h
    rw [mirI_eq h, h x]
  · left
    unfold mirI
    rw [dif_neg h]
end DL

namespace DL
open PySem L2
/-- data that are told apart by == as their makers are -/
def Enc {α : Type} [DecidableEq α] (f : α → D) (n : Nat) : Prop := ∃ p : α → PyData, (∀ a, toPy (f a) = some (p a) ∧ (p a).canLay0 = true ∧ (p a).depth ≤ n) ∧ ∀ a b, PyData.eqv (p a) (p b) = decide (a = b)
section
variable {α : Type} [DecidableEq α] {f : α → D} {n : Nat}
theorem toPys_map {f : α → D} {p : α → PyData} (h : ∀ a, toPy (f a) = some (p a)) : ∀ l : List α, toPys (l.map f) = some (l.map p)
  | [] => by simp [toPys]
  | a :: l => by simp [toPys, h a, toPys_map h l]
theorem eqvAll_map {p : α → PyData} (h : ∀ a b, PyData.eqv (p a) (p b) = decide (a = b)) : ∀ l m : List α, PyData.eqvAll (l.map p) (m.map p) = decide (l = m)
  | [], [] => by simp [PyData.eqvAll]
  | [], _ :: _ => by simp [PyData.eqvAll]
  | _ :: _, [] => by simp [PyData.eqvAll]
  | a :: l, b :: m => by
    simp only [List.map_cons, PyData.eqvAll, h a b, eqvAll_map h l m]
    by_cases e : a = b <;> by_cases e' : l = m <;> simp [e, e']
theorem lay_map {p : α → PyData} (h : ∀ a, (p a).canLay0 = true) : ∀ l : List α, PyData.canLayAll0 (l.map p) = true
  | [] => by simp [PyData.canLayAll0]
  | a :: l => by simp [PyData.canLayAll0, h a, lay_map h l]
theorem dep_map {p : α → PyData} (h : ∀ a, (p a).depth ≤ n) : ∀ l : List α, PyData.depthAll (l.map p) ≤ n
  | [] => by simp [PyData.depthAll]
  | a :: l => by
    simp only [List.map_cons, PyData.depthAll]
    exact Nat.max_le.mpr ⟨h a, dep_map h l⟩
theorem enc_int : Enc D.int 0 := ⟨.int, fun a => ⟨by simp [toPy], by simp [PyData.canLay0], by simp [PyData.depth]⟩, fun a b => by simp only [PyData.eqv]; by_cases e : a = b <;> simp [e]⟩
theorem enc_bl : Enc D.bl 0 := ⟨.bool, fun a => ⟨by simp [toPy], by simp [PyData.canLay0], by simp [PyData.depth]⟩, fun a b => by simp only [PyData.eqv]; by_cases e : a = b <;> simp [e]⟩
theorem Enc.ls (h : Enc f n) : Enc (fun l : List α => D.ls (l.map f)) (n + 1) := by
  obtain ⟨p, h1, h2⟩ := h
  refine ⟨fun l => .list (l.map p), fun l => ⟨by simp [toPy, toPys_map fun a => (h1 a).1], ?_, ?_⟩, fun l m => ?_⟩
  · simp [PyData.canLay0, lay_map fun a => (h1 a).2.1]
  · have := dep_map (fun a => (h1 a).2.2) l
    simp only [PyData.depth]; omega
  · simp only [PyData.eqv]; exact eqvAll_map h2 l m
theorem Enc.tp (h : Enc f n) : Enc (fun l : List α => D.tp (l.map f)) (n + 1) := by
  obtain ⟨p, h1, h2⟩ := h
  refine ⟨fun l => .tuple (l.map p), fun l => ⟨by simp [toPy, toPys_map fun a => (h1 a).1], ?_, ?_⟩, fun l m => ?_⟩
  · simp [PyData.canLay0, lay_map fun a => (h1 a).2.1]
  · have := dep_map (fun a => (h1 a).2.2) l
    simp only [PyData.depth]; omega
  · simp only [PyData.eqv]; exact eqvAll_map h2 l m
theorem Enc.pair {β : Type} [DecidableEq β] {g : β → D} (h : Enc f n) (h' : Enc g n) : Enc (fun x : α × β => D.tp [f x.1, g x.2]) (n + 1) := by
  obtain ⟨p, h1, h2⟩ := h
  obtain ⟨q, h3, h4⟩ := h'
  refine ⟨fun x => .tuple [p x.1, q x.2], fun x => ⟨by simp [toPy, toPys, h1 x.1, h3 x.2], ?_, ?_⟩, fun x y => ?_⟩
  · simp [PyData.canLay0, PyData.canLayAll0, h1 x.1, h3 x.2]
  · have a := (h1 x.1).2.2
    have b := (h3 x.2).2.2
    simp only [PyData.depth, PyData.depthAll]; omega
  · simp only [PyData.eqv, PyData.eqvAll, h2, h4]
    obtain ⟨x1, x2⟩ := x
    obtain ⟨y1, y2⟩ := y
    by_cases e : x1 = y1 <;> by_cases e' : x2 = y2 <;> simp [e, e']
theorem Enc.eq (h : Enc f n) (hn : n ≤ 64) (a b : α) : pyEq (f a) (f b) = some (decide (a = b)) := by
  obtain ⟨p, h1, h2⟩ := h
  have s : ∀ a, SeqAt.shaped (p a) = true := fun a => by
    have := (h1 a).2.2
    simp only [SeqAt.shaped, (h1 a).2.1, Bool.true_and, decide_eq_true_eq]; omega
  simp [pyEq, (h1 a).1, (h1 b).1, s, h2]
end
theorem toPy_bo {xs : List D} : toPy (.bo xs) = toPy (.ls xs) := by simp [toPy]
theorem toPy_sc {xs : List D} : toPy (.sc xs) = toPy (.ls xs) := by simp [toPy]
theorem pyEq_bl {xs ys : List D} : pyEq (.bo xs) (.ls ys) = pyEq (.ls xs) (.ls ys) := by simp [pyEq, toPy_bo]
theorem pyEq_lb {xs ys : List D} : pyEq (.ls xs) (.bo ys) = pyEq (.ls xs) (.ls ys) := by simp [pyEq, toPy_bo]
theorem pyEq_bb {xs ys : List D} : pyEq (.bo xs) (.bo ys) = pyEq (.ls xs) (.ls ys) := by simp [pyEq, toPy_bo]
theorem pyEq_sl {xs ys : List D} : pyEq (.sc xs) (.ls ys) = pyEq (.ls xs) (.ls ys) := by simp [pyEq, toPy_sc]
@[simp] theorem cEq_ll {xs ys : List D} : cEq (.ls xs) (.ls ys) = pyEq (.ls xs) (.ls ys) := rfl
@[simp] theorem cEq_lbo {xs ys : List D} : cEq (.ls xs) (.bo ys) = pyEq (.ls xs) (.ls ys) := pyEq_lb
@[simp] theorem cEq_bol {xs ys : List D} : cEq (.bo xs) (.ls ys) = pyEq (.ls xs) (.ls ys) := pyEq_bl
@[simp] theorem cEq_bobo {xs ys : List D} : cEq (.bo xs) (.bo ys) = pyEq (.ls xs) (.ls ys) := pyEq_bb
@[simp] theorem cEq_tt {xs ys : List D} : cEq (.tp xs) (.tp ys) = pyEq (.tp xs) (.tp ys) := rfl
@[simp] theorem cNe_eq {a b : D} : cNe a b = (cEq a b).map (!·) := rfl
@[simp] theorem pyEq_lsI {xs ys : List Int} : pyEq (.ls (xs.map D.int)) (.ls (ys.map D.int)) = some (decide (xs = ys)) := enc_int.ls.eq (by omega) xs ys
@[simp] theorem pyEq_tpI {xs ys : List Int} : pyEq (.tp (xs.map D.int)) (.tp (ys.map D.int)) = some (decide (xs = ys)) := enc_int.tp.eq (by omega) xs ys
theorem enc_P : Enc dP 1 := enc_int.pair enc_int
@[simp] theorem pyEq_lsP {xs ys : List (Int × Int)} : pyEq (.ls (xs.map dP)) (.ls (ys.map dP)) = some (decide (xs = ys)) := enc_P.ls.eq (by omega) xs ys
@[simp] theorem pyEq_tpP {xs ys : List (Int × Int)} : pyEq (.tp (xs.map dP)) (.tp (ys.map dP)) = some (decide (xs = ys)) := enc_P.tp.eq (by omega) xs ys
@[simp] theorem pyEq_lsB {xs ys : List Bool} : pyEq (.ls (xs.map D.bl)) (.ls (ys.map D.bl)) = some (decide (xs = ys)) := enc_bl.ls.eq (by omega) xs ys
@[simp] theorem pyEq_tpB {xs ys : List Bool} : pyEq (.tp (xs.map D.bl)) (.tp (ys.map D.bl)) = some (decide (xs = ys)) := enc_bl.tp.eq (by omega) xs ys
/-- two small lists of truths -/
@[simp] theorem pyEq_bbb {a b c d e f : Bool} : pyEq (.ls [.bl a, .bl b, .bl c]) (.ls [.bl d, .bl e, .bl f]) = some (decide ([a, b, c] = [d, e, f])) := pyEq_lsB (xs := [a, b, c]) (ys := [d, e, f])
@[simp] theorem pyEq_bb2 {a b d e : Bool} : pyEq (.ls [.bl a, .bl b]) (.ls [.bl d, .bl e]) = some (decide ([a, b] = [d, e])) := pyEq_lsB (xs := [a, b]) (ys := [d, e])
@[simp] theorem pyEq_nn : pyEq (.ls []) (.ls []) = some true := pyEq_lsI (xs := []) (ys := [])
@[simp] theorem pyEq_bn {a b c : Bool} : pyEq (.ls [.bl a, .bl b, .bl c]) (.ls []) = some false := by rw [show (.ls [.bl a, .bl b, .bl c] : D) = .ls ([a, b, c].map D.bl) from rfl, show (.ls [] : D) = .ls (([] : List Bool).map D.bl) from rfl, pyEq_lsB]; rfl
@[simp] theorem pyEq_nb {a b c : Bool} : pyEq (.ls []) (.ls [.bl a, .bl b, .bl c]) = some false := by rw [show (.ls [.bl a, .bl b, .bl c] : D) = .ls ([a, b, c].map D.bl) from rfl, show (.ls [] : D) = .ls (([] : List Bool).map D.bl) from rfl, pyEq_lsB]; rfl
end DL

namespace DL
open PySem L2
section
variable {xs ys : List D}
@[simp] theorem nods_append : nods (xs ++ ys) = (nods xs && nods ys) := by induction xs <;> simp [*, Bool.and_assoc]
@[simp] theorem frzs_append : frzs (xs ++ ys) = frzs xs ++ frzs ys := by induction xs <;> simp [*]
@[simp] theorem brws_append : brws (xs ++ ys) = brws xs ++ brws ys := by induction xs <;> simp [*]
@[simp] theorem plns_append : plns (xs ++ ys) = plns xs ++ plns ys := by induction xs <;> simp [*]
@[simp] theorem shd_append : shd (xs ++ ys) = (shd xs && shd ys) := by induction xs <;> simp [*, Bool.and_assoc]
@[simp] theorem ploks_append : ploks (xs ++ ys) = (ploks xs && ploks ys) := by induction xs <;> simp [*, Bool.and_assoc]
@[simp] theorem flats_append : flats (xs ++ ys) = (flats xs && flats ys) := by induction xs <;> simp [*, Bool.and_assoc]
end
theorem rng_succ (lo : Int) (n : Nat) : rng lo (n + 1) = .int lo :: rng (lo + 1) n := by
  unfold rng
  rw [List.range_succ_eq_map, List.map_cons, List.map_map]
  congr 1
  · simp
  · refine List.map_congr_left fun a _ => ?_
    simp; omega
theorem rng_zero (lo : Int) : rng lo 0 = [] := rfl
end DL
namespace DL
open PySem PySem.Spec PyProof.Rows L2
section
variable {P : Program} {w : World} {A : Around} {E : Value → Shared → Prop} {s : Shared}
set_option maxHeartbeats 3200000 in
/-- set(l), l a list of ints: what is in it, and at most as many -/
theorem call_set_listR {l : Addr} {items : Array Value} (ns : List Int) {Q : Value → Shared → Prop} (hh : A.handled = none) (hl : s.heap.IsList l items) (hit : IntsAre items.toList ns) (hb : ns.length + 1 < scanBound)
    (h : ∀ (h' : Heap) (tk c : Nat), SetR w h' s.heap.objs.size (fun j => decide (j ∈ ns)) c → c ≤ ns.length → (∀ b o, s.heap.get? b = some o → h'.get? b = some o) → Q (.ref s.heap.objs.size) { s with heap := h', toks := tk }) :
    wpAny (model P w) A (call (.type "set") [.ref l]) Q E s := by
  have hisz : items.size = ns.length := by
    have q := IntsAre.length hit
    rwa [Array.length_toList] at q
  obtain ⟨c, tl, hmro⟩ := F.called_set.mro
  have hmade := F.called_set.made
  have hsub := F.called_set.sub
  refine wpAny_call (codeAny_of_tree (wpAny_pure ⟨Code.quiet_builtin _ (by decide +kernel), codeAny_builtin F.entry_type_call ?_⟩))
  rw [Around.under_plain (weight_type_call_type "set" [.ref l] []) rfl]
  have h1 := F.called_set.notType
  have h2 := F.called_set.canCreate
  have hct := F.typeCall_set_1 (.ref l)
  repeat (any_goals (first | assumption | wp_step))
  generalize hO : ({ cls := .type "set", dict := none, data := .set #[] 0 (.fresh 0 0 (!w.params.followText "set-order")) } : Obj) = O
  refine codeAny_mono (code_set_led1 (.ref l) (E := E) (Q₁ := fun obj s₁ => obj = .ref s.heap.objs.size ∧ s₁ = { s with heap := s.heap.push O }) ⟨rfl, by rw [hO]⟩) fun r s₁ hr => ?_
  cases r with
  | error e => exact hr
  | ok fl =>
    cases fl with
    | ret obj =>
      obtain ⟨rfl, rfl⟩ := hr
      have hS : (s.heap.push O).get? s.heap.objs.size = some O := Heap.get?_push_size _ (by rw [← hO]; rfl)
      have hT : Shared.TypeIs { s with heap := s.heap.push O } (.ref s.heap.objs.size) "set" := ⟨_, hS, by rw [← hO]⟩
      have hli := F.called_set.init.lookup
      have hbi := F.called_set.init.bind (.ref s.heap.objs.size)
      repeat (any_goals (first | assumption | wp_step))
      refine codeAny_mono (codeAny_call_builtin (R := wants (fun r s₂ => r = .none ∧ ∃ h' tk c, s₂ = { s with heap := h', toks := tk } ∧ SetR w h' s.heap.objs.size (fun j => decide (j ∈ ns)) c ∧ c ≤ ns.length ∧
          (∀ b o, s.heap.get? b = some o → h'.get? b = some o)) E) F.called_set.init.plain F.entry_set_init (check_set_init_1 hT ?_)) fun r₂ s₂ hr₂ => ?_
      · have hlS : l < s.heap.objs.size := by
          obtain ⟨o, ho, _⟩ := hl
          exact Heap.lt_size ho
        have hl1 : (s.heap.push O).IsList l items := hl.push _
        obtain ⟨ol, hol', hcl, nl, hdl⟩ := hl1
        obtain ⟨ocls, odict, odata, oslots⟩ := ol
        simp only at hcl hdl
        subst hcl; subst hdl
        have hl2 : (s.heap.push O).IsList l items := ⟨_, hol', rfl, nl, rfl⟩
        have hsls := F.sub_list_set
        have hslf := F.sub_list_frozenset
        have hne : (Value.type "list" == Value.type "dict") = false := by decide
        have hneI : l ≠ (s.heap.push O).objs.size := by rw [Heap.size_push]; exact Nat.ne_of_lt (Nat.lt_succ_of_lt hlS)
        have hSf : s.heap.objs.size ∉ [(s.heap.push O).objs.size, l] := by
          rw [Heap.size_push]; simp only [List.mem_cons, List.not_mem_nil, or_false, not_or]
          exact ⟨Nat.ne_of_lt (Nat.lt_succ_self _), Nat.ne_of_gt hlS⟩
        subst hO
        unfold Builtin.«set.__init__» noKeywords Builtin.Frozenset.updateFrom
        generalize hPI : pyIter = PI
        wp_walk
        subst hPI
        refine wpAny_pyIter_list hl2 ?_
        refine wpAny_bind (wpAny_runValue ?_)
        have hval : ∀ (i : Nat) (v : Value), items[i]? = some v → ∃ k t, ns[i]? = some k ∧ v = .int k t := fun i v hv => by
          have hi : i < ns.length := by rw [← hisz]; exact (Array.getElem?_eq_some_iff.mp hv).1
          obtain ⟨t, e⟩ := PyProof.Rows.IntsAre.int_at hit i v (by rw [Array.getElem?_toList]; exact hv)
          exact ⟨ns[i], t, List.getElem?_eq_getElem hi, by rw [e, List.getD_eq_getElem?_getD, List.getElem?_eq_getElem hi] <;> rfl⟩
        refine set_update_ints ((Walks.list (by simp [hh]) _ l hneI items).toS) s.heap.objs.size hSf ns hisz hb hval (items.size - 0) 0 _ (by omega) (Nat.zero_le _)
          ⟨⟨_, Heap.get?_push_size _ rfl, rfl, rfl⟩, (hl2.push _)⟩ ⟨0, Nat.le_refl 0, setR_new_at (Heap.get?_push_of_some _ hS)⟩ fun s' c' hm hc' hS' => ?_
        obtain ⟨h', g2, d', tk', os'⟩ := s'
        have eg : g2 = s.gens := hm.gens
        have ed : d' = s.drawn := hm.drawn
        have eo : os' = s.os := hm.os
        subst eg; subst ed; subst eo
        refine wpAny_pure ?_
        rw [hisz] at hc'
        refine wpAny_pure ⟨rfl, h', tk', c', rfl, hS', hc', fun b o e => ?_⟩
        have hb0 : b < s.heap.objs.size := Heap.lt_size e
        refine hm.heap b o ?_ (Heap.get?_push_of_some _ (Heap.get?_push_of_some _ e))
        simp only [List.mem_cons, List.not_mem_nil, or_false, not_or, Heap.size_push]
        exact ⟨Nat.ne_of_lt hb0, Nat.ne_of_lt (Nat.lt_succ_of_lt hb0)⟩
      · cases r₂ with
        | error e => exact hr₂
        | ok fl₂ =>
          cases fl₂ with
          | ret r =>
            obtain ⟨rfl, h', tk, c', rfl, hS', hc', hk'⟩ := hr₂
            repeat (any_goals (first | assumption | wp_step))
            exact h _ _ _ hS' hc' hk'
          | _ => exact hr₂.elim
    | _ => exact hr.elim
end
end DL
namespace DL
open PySem PySem.Spec PyProof.Rows L2
section
variable {X : Cx} {cls : Cls} {W : WX} {K : PySem.W.Frag} {F H F' H' : Hp}
theorem rgV_ints (a b : Int) : rgV a b = ((List.range (b - a).toNat).map fun i : Nat => a + (i : Int)).map V.int := by unfold rgV; simp
/-- list(range(e)) -/
def eLR1 (fa : Env → Res D) : Env → Res D := fun g => (fa g).bind fun d => match opd d with
  | .int n => if rgOk n ∧ n ≤ 1000000 then .ok (.ol (rng 0 n.toNat)) else .bad
  | _ => .bad
theorem je_lr1 {a : Expr} {p p2 pos q : Pos} {fa : Env → Res D} (c : Cn X W k) (hm : X.mg "list" = none) (hm2 : X.mg "range" = none) (ha : JE X cls W a fa)
    (hg : Gl X "list" := by rfl) (hg2 : Gl X "range" := by rfl) (na : starEach [a] X.env = (false, eval a X.env) :: starEach [] X.env := by rfl)
    (na2 : starEach [.Call (.Name "range" p2) [a] [] q] X.env = (false, eval (.Call (.Name "range" p2) [a] [] q) X.env) :: starEach [] X.env := by rfl) :
    JE X cls W (.Call (.Name "list" p) [.Call (.Name "range" p2) [a] [] q] [] pos) (eLR1 fa) := by
  obtain ⟨ta, pa, da⟩ := ha.ex
  refine ⟨_, pe_listRg c.calm hg hm (prg_1 hg2 hm2 pa na) na2, ?_⟩
  intro σ F H g O Q s st p
  unfold eLR1 at p
  refine da.go s st (fun c e => by rw [e] at p; exact p) (fun e => by rw [e] at p; exact p) fun d e v F1 H1 x1 b1 => ?_
  rw [e] at p
  simp only [Res.bind] at p
  cases eo : opd d with
  | int n =>
    rw [eo] at p b1
    simp only at p
    split at p
    · rename_i hn
      obtain rfl := b1.int
      refine ⟨n, rfl, ⟨by omega, by omega, hn.1.lo, hn.1.hi, by omega⟩, fun q hq => ?_⟩
      · refine p (.ref q) _ _ [q] (x1.trans (Ext.own x1.fh hq)) ((fresh_new hq).mono x1.hh) (.inl ?_)
        rw [rgV_ints, rng_map]
        rw [show (n - 0).toNat = n.toNat by omega]
        exact ow_new x1.fh hq rps_ints.toOws
    · exact p.elim
  | _ => rw [eo] at p; exact p.elim
end
end DL
namespace DL
open PySem PySem.Spec PyProof.Rows L2
section
variable {X : Cx} {cls : Cls} {W : WX} {K : PySem.W.Frag} {F H F' H' : Hp}
/-- list(range(e, e')) -/
def eLR2 (fa fb : Env → Res D) : Env → Res D := fun g => (fa g).bind fun d => (fb g).bind fun e => match opd d, opd e with
  | .int i, .int j => if (rgOk i ∧ rgOk j) ∧ (j - i).toNat ≤ 1000000 then .ok (.ol (rng i (j - i).toNat)) else .bad
  | _, _ => .bad
theorem je_lr2 {a b : Expr} {p p2 pos q : Pos} {fa fb : Env → Res D} (c : Cn X W k) (hm : X.mg "list" = none) (hm2 : X.mg "range" = none) (ha : JE X cls W a fa) (hb : JE X cls W b fb)
    (hg : Gl X "list" := by rfl) (hg2 : Gl X "range" := by rfl) (na : starEach [a, b] X.env = (false, eval a X.env) :: starEach [b] X.env := by rfl)
    (nb : starEach [b] X.env = (false, eval b X.env) :: starEach [] X.env := by rfl) (hp : (backTo q (starEach [b] X.env)).any (·.1) = false := by rfl)
    (na2 : starEach [.Call (.Name "range" p2) [a, b] [] q] X.env = (false, eval (.Call (.Name "range" p2) [a, b] [] q) X.env) :: starEach [] X.env := by rfl) :
    JE X cls W (.Call (.Name "list" p) [.Call (.Name "range" p2) [a, b] [] q] [] pos) (eLR2 fa fb) := by
  obtain ⟨ta, pa, da⟩ := ha.ex
  obtain ⟨tb, pb, db⟩ := hb.ex
  refine ⟨_, pe_listRg c.calm hg hm (prg_2 hg2 hm2 pa pb na nb hp) na2, ?_⟩
  intro σ F H g O Q s st p
  unfold eLR2 at p
  refine da.go s st (fun c e => by rw [e] at p; exact p) (fun e => by rw [e] at p; exact p) fun d e v F1 H1 x1 b1 => ?_
  rw [e] at p
  simp only [Res.bind] at p
  refine db.go x1.fh (st.ext x1) (fun c e F' H' x => by rw [e] at p; exact p F' H' (x1.trans x)) (fun e => by rw [e] at p; exact p) fun d2 e2 v2 F2 H2 x2 b2 => ?_
  rw [e2] at p
  simp only at p
  split at p
  · rename_i i j e3 e4
    rw [e3] at b1
    rw [e4] at b2
    split at p
    · rename_i hn
      obtain rfl := b1.int
      obtain rfl := b2.int
      refine ⟨i, j, rfl, rfl, ⟨hn.1.1.lo, hn.1.1.hi, hn.1.2.lo, hn.1.2.hi, by omega⟩, fun q hq => ?_⟩
      refine p (.ref q) _ _ [q] ((x1.trans x2).trans (Ext.own x2.fh hq)) ((fresh_new hq).mono (x1.trans x2).hh) (.inl ?_)
      rw [rgV_ints, rng_map]
      exact ow_new x2.fh hq rps_ints.toOws
    · exact p.elim
  · exact p.elim
theorem tyX_sqL {a : Addr} {xs : List V} (h : SqL K H a xs) : TyX K H (.ref a) (.type "list") := by
  rcases h with (h | ⟨o, h⟩) | ⟨o, its, n, h, c, _⟩
  · exact .base (.lst h)
  · exact .base (.frz h)
  · exact .kList h c
theorem tyX_sqT {a : Addr} {xs : List V} (h : SqT K H a xs) : TyX K H (.ref a) (.type "tuple") := by
  rcases h with (h | ⟨o, h⟩) | ⟨o, its, n, h, c, _⟩
  · exact .base (.tup h)
  · exact .fTuple h
  · exact .kTuple h c
/-- a value's type -/
def tyD : D → Option String
  | .non => some "NoneType"
  | .bl _ => some "bool"
  | .int _ => some "int"
  | .str _ => some "str"
  | .ls _ => some "list"
  | .bo _ => some "list"
  | .tp _ => some "tuple"
  | _ => none
theorem tyD_ok {v : V} {d : D} {T : String} (s : Same F H) (b : Bo K cls F H v d) (e : tyD d = some T) : TyX K H v (.type T) := by
  cases d with
  | non => cases e; obtain rfl := b.non; exact .base .non
  | bl k => cases e; obtain rfl := b.bl; exact .base (.bl k)
  | int k => cases e; obtain rfl := b.int; exact .base (.int k)
  | str k => cases e; obtain rfl := b.str; exact .base (.str k)
  | ls ys => cases e; obtain ⟨a, vs, rfl, h1, r⟩ := b.sqK s (xs := ys) rfl; exact tyX_sqL h1
  | bo ys => cases e; obtain ⟨a, vs, rfl, h1, r⟩ := b.sqL s (xs := ys) rfl; exact tyX_sqL h1
  | tp ys => cases e; obtain ⟨a, vs, rfl, h1, h2, r⟩ := b.tpv s (xs := ys) rfl; exact tyX_sqT h1
  | _ => cases e
/-- what isinstance says of a value of type U, T asked -/
def isTy (U T : String) : Option Bool := if U = T then some true else match U, T with
  | "int", "bool" => some false
  | "tuple", "bool" => some false
  | "list", "bool" => some false
  | "str", "bool" => some false
  | "NoneType", "bool" => some false
  | "bool", "int" => some true
  | "tuple", "int" => some false
  | "list", "int" => some false
  | "str", "int" => some false
  | "NoneType", "int" => some false
  | "tuple", "list" => some false
  | "int", "list" => some false
  | "list", "tuple" => some false
  | "int", "tuple" => some false
  | "NoneType", "tuple" => some false
  | "NoneType", "list" => some false
  | _, _ => none
theorem isTy_ok {U T : String} {b : Bool} (e : isTy U T = some b) : PySem.W.kitOne K (.type U) (.type T) = some b := by
  unfold isTy at e
  split at e
  · rename_i h
    subst h
    cases e
    unfold PySem.W.kitOne; rw [if_pos (by simp)]
  · split at e <;> first | (cases e; rfl) | cases e
/-- isinstance(e, T), T a built-in type -/
def eIsT (T : String) (fa : Env → Res D) : Env → Res D := fun g => (fa g).bind fun d => match tyD (opd d) with
  | some U => match isTy U T with
    | some b => .ok (.bl b)
    | none => .bad
  | none => .bad
theorem je_isT {a : Expr} {T : String} {y : Str} {p p2 pos : Pos} {fa : Env → Res D} (hm : X.mg "isinstance" = none) (hm2 : X.mg y = none) (hv : bootBuiltins y = some (.type T)) (ha : JE X cls W a fa)
    (hg : Gl X "isinstance" := by rfl) (hg2 : Gl X y := by rfl) (hn : y ≠ "__name__" := by decide) (hdb : (y == ("__debug__" : Str)) = false := by decide)
    (he : starEach [a, .Name y p2] X.env = (false, eval a X.env) :: starEach [.Name y p2] X.env := by rfl) (he2 : starEach [.Name y p2] X.env = (false, eval (.Name y p2) X.env) :: starEach [] X.env := by rfl)
    (hpl : (backTo pos (starEach [.Name y p2] X.env)).any (·.1) = false := by rfl) :
    JE X cls W (.Call (.Name "isinstance" p) [a, .Name y p2] [] pos) (eIsT T fa) := by
  obtain ⟨ta, pa, da⟩ := ha.ex
  refine ⟨_, pe_callB call_isi hg hm (by rfl) (pa_cons pa (pa_cons (pe_bltn (v := .ty T) hg2 hm2 hv rfl hn hdb) pa_nil he2) he) (by decide) (by decide) he hpl, ?_⟩
  intro σ F H g O Q s st p
  unfold eIsT at p
  refine da.go s st (fun c e => by rw [e] at p; exact p) (fun e => by rw [e] at p; exact p) fun d e v F1 H1 x1 b1 => ?_
  rw [e] at p
  simp only [Res.bind] at p
  cases eo : tyD (opd d) with
  | none => rw [eo] at p; exact p.elim
  | some U =>
    rw [eo] at p
    simp only at p
    split at p
    · rename_i b hU
      exact ⟨v, .ty T, .type U, .type T, b, rfl, .ty T, tyD_ok x1.fh b1 eo, isTy_ok hU, p (.bl b) F1 H1 [] x1 (fun _ h => nomatch h) (.inl (.sh (.bl b)))⟩
    · exact p.elim
end
end DL
namespace DL
open PySem PySem.Spec PyProof.Rows L2
/-- put a number into a rising list -/
def insU (x : Int) : List Int → List Int
  | [] => [x]
  | y :: l => if x < y then x :: y :: l else if x = y then y :: l else y :: insU x l
/-- the numbers of a list, each once, rising -/
def sset : List Int → List Int
  | [] => []
  | x :: l => insU x (sset l)
theorem insU_mem (x k : Int) : ∀ l : List Int, k ∈ insU x l ↔ k = x ∨ k ∈ l
  | [] => by simp [insU]
  | y :: l => by
    unfold insU
    split
    · simp
    · split
      · rename_i h; subst h; simp
      · simp only [List.mem_cons, insU_mem x k l]
        constructor
        · rintro (h | h | h) <;> simp [h]
        · rintro (h | h | h) <;> simp [h]
theorem insU_rise (x : Int) : ∀ l : List Int, l.Pairwise (· < ·) → (insU x l).Pairwise (· < ·)
  | [], _ => by simp [insU]
  | y :: l, h => by
    obtain ⟨h1, h2⟩ := List.pairwise_cons.mp h
    unfold insU
    split
    · rename_i hx
      exact List.pairwise_cons.mpr ⟨fun k hk => by rcases List.mem_cons.mp hk with rfl | hk; exact hx; exact Int.lt_trans hx (h1 k hk), h⟩
    · split
      · exact h
      · rename_i n1 n2
        refine List.pairwise_cons.mpr ⟨fun k hk => ?_, insU_rise x l h2⟩
        rcases (insU_mem x k l).mp hk with rfl | hk
        · omega
        · exact h1 k hk
theorem sset_mem (k : Int) : ∀ l : List Int, k ∈ sset l ↔ k ∈ l
  | [] => Iff.rfl
  | x :: l => by simp only [sset, insU_mem, sset_mem k l, List.mem_cons]
theorem sset_rise : ∀ l : List Int, (sset l).Pairwise (· < ·)
  | [] => .nil
  | x :: l => insU_rise x _ (sset_rise l)
theorem rise_uniq : ∀ {l m : List Int}, l.Pairwise (· < ·) → m.Pairwise (· < ·) → (∀ k, k ∈ l ↔ k ∈ m) → l = m
  | [], [], _, _, _ => rfl
  | [], y :: m, _, _, h => absurd ((h y).mpr (List.mem_cons_self ..)) (by simp)
  | x :: l, [], _, _, h => absurd ((h x).mp (List.mem_cons_self ..)) (by simp)
  | x :: l, y :: m, a, b, h => by
    obtain ⟨a1, a2⟩ := List.pairwise_cons.mp a
    obtain ⟨b1, b2⟩ := List.pairwise_cons.mp b
    have e : x = y := by
      rcases List.mem_cons.mp ((h x).mp (List.mem_cons_self ..)) with e | e
      · exact e
      · rcases List.mem_cons.mp ((h y).mpr (List.mem_cons_self ..)) with e' | e'
        · exact e'.symm
        · have := a1 y e'; have := b1 x e; omega
    subst e
    congr 1
    refine rise_uniq a2 b2 fun k => ⟨fun hk => ?_, fun hk => ?_⟩
    · rcases List.mem_cons.mp ((h k).mp (List.mem_cons_of_mem _ hk)) with e | e
      · have := a1 k hk; omega
      · exact e
    · rcases List.mem_cons.mp ((h k).mpr (List.mem_cons_of_mem _ hk)) with e | e
      · have := b1 k hk; omega
      · exact e
theorem rise_nodup {l : List Int} (h : l.Pairwise (· < ·)) : l.Nodup := h.imp fun h e => by omega
section
variable {X : Cx} {cls : Cls} {W : WX} {K : PySem.W.Frag} {F H F' H' : Hp}
theorem setR_len {w : World} {h : Heap} {a : Addr} {ns : List Int} {c : Nat} (R : SetR w h a (fun j => decide (j ∈ ns)) c) : c = (sset ns).length := by
  obtain ⟨o, es, ep, t, ho, hex, hd, g, nd, hm, hb, hf, hn, hr, hl⟩ := R
  have p : (es.toList.map keyOf).Perm (sset ns) := (List.perm_ext_iff_of_nodup nd (rise_nodup (sset_rise ns))).mpr fun k => by
    rw [sset_mem]
    have := hm k
    simpa using this.symm
  rw [← p.length_eq, List.length_map, Array.length_toList]
  exact hn.symm
/-- set(l), l a list of ints -/
def rSetIL (K : PySem.W.Frag) (w : World) : List V → Hp → VK → Prop := fun vs H Q => ∃ (l : Addr) (ns : List Int), vs = [.ref l] ∧ SqL K H l (ns.map V.int) ∧ ns.length ≤ 4000 ∧ ∀ p, H p = none → Q (.ref p) (upd H p (SetO w p (fun j => decide (j ∈ ns)) (sset ns).length))
theorem cr_setIL (hc : X.calm = true) : CallR X (.type "set") (rSetIL X.K X.w) := by
  intro pins s σ H vs us Q I r h
  obtain ⟨l, ns, rfl, hq, hz, q⟩ := h
  rw [Vals.ref1 r]
  obtain ⟨its, r, pl, _⟩ := I.list hq
  refine call_set_listR ns (I.ok.hd hc) pl.isList (by simpa using r.ints) (by unfold scanBound; omega) fun h' tk c hS hc' hk => ?_
  have e := setR_len hS
  subst e
  exact ⟨.ref s.heap.objs.size, upd H s.heap.objs.size (SetO X.w s.heap.objs.size (fun j => decide (j ∈ ns)) (sset ns).length), I.laid (t' := tk) hk (Nat.le_refl _) (setO_new hS), rfl, q _ (I.hok.fresh (Nat.le_refl _))⟩
/-- len(set(l)), l a list of ints -/
def tLenS (K : PySem.W.Frag) (ta : TE) : TE := fun σ H Q => ta σ H fun x H1 => ∃ (l : Addr) (ns : List Int), x = V.ref l ∧ SqL K H1 l (ns.map V.int) ∧ ns.length ≤ 4000 ∧ Q (.int (sset ns).length) H1
theorem pe_lenS {a : Expr} {ta : TE} {p p2 q pos : Pos} (hc : X.calm = true) (hg : Gl X "len") (hm : X.mg "len" = none) (hg2 : Gl X "set") (hm2 : X.mg "set" = none) (ha : PE X a ta)
    (na : starEach [a] X.env = (false, eval a X.env) :: starEach [] X.env := by rfl) : PE X (.Call (.Name "len" p) [.Call (.Name "set" p2) [a] [] q] [] pos) (tLenS X.K ta) := by
  refine ⟨fun pins s σ H Q I h => ?_⟩
  refine Call_ (ld_blt I hg hm PySem.boot_len ?_)
  refine PyProof.Rows.callWith_builtin1 (PyProof.Rows.args_cons ?_ rfl) rfl rfl
  refine Call_ (ld_blt I hg2 hm2 PyProof.Rows.boot_set ?_)
  refine PyProof.Rows.callWith_type1 (PyProof.Rows.args_cons (thn (ha.run pins s σ H _ I h) fun v s1 ⟨x, H1, I1, r1, q1⟩ => PyProof.Rows.args_nil ?_) na) na rfl
  obtain ⟨l, ns, rfl, hq, h1, q1⟩ := q1
  cases r1
  obtain ⟨its, r, pl, _⟩ := I1.list hq
  refine call_set_listR ns (I1.ok.hd hc) pl.isList (by simpa using r.ints) (by unfold scanBound; omega) fun h' tk c hS hc' hk => ?_
  have e := setR_len hS
  obtain ⟨o, es, ep, t, ho, hex, hd, g, nd, hm, hb, hf, hn, hr, hl⟩ := hS
  refine PyProof.Rows.args_nil ?_
  have I2 : Inv X pins σ H1 { s1 with heap := h', toks := tk } := I1.kept hk
  exact call_len_set ho hex hd hf (by rw [hn] <;> omega) ⟨.int (sset ns).length, H1, I2.tok _, ⟨_, by rw [hn, e]⟩, q1⟩
/-- the ints of a list -/
def lsI (d : D) : Option (List Int) := match sqL (opd d) with
  | some xs => intsOf xs
  | none => none
theorem lsI_ok {v : V} {d : D} {ns : List Int} (s : Same F H) (b : Bo K cls F H v (opd d)) (e : lsI d = some ns) : ∃ a, v = .ref a ∧ SqL K H a (ns.map V.int) := by
  unfold lsI at e
  cases h1 : sqL (opd d) with
  | none => rw [h1] at e; cases e
  | some xs => rw [h1] at e; exact b.sqI s h1 e
@[simp] theorem lsI_ls (ns : List Int) : lsI (.ls (ns.map D.int)) = some ns := by simp [lsI]
@[simp] theorem lsI_bo (ns : List Int) : lsI (.bo (ns.map D.int)) = some ns := by simp [lsI]
@[simp] theorem lsI_ol (ns : List Int) : lsI (.ol (ns.map D.int)) = some ns := by simp [lsI]
def eLenSet (fa : Env → Res D) : Env → Res D := fun g => (fa g).bind fun d => match lsI d with
  | some ns => if ns.length ≤ 4000 then .ok (.int (sset ns).length) else .bad
  | none => .bad
def eSortedSet (fa : Env → Res D) : Env → Res D := fun g => (fa g).bind fun d => match lsI d with
  | some ns => if ns.length < 64 then .ok (.ol ((sset ns).map D.int)) else .bad
  | none => .bad
theorem je_lenset {a : Expr} {p p2 q pos : Pos} {fa : Env → Res D} (c : Cn X W k) (hm : X.mg "len" = none) (hm2 : X.mg "set" = none) (ha : JE X cls W a fa) (hg : Gl X "len" := by rfl) (hg2 : Gl X "set" := by rfl)
    (na : starEach [a] X.env = (false, eval a X.env) :: starEach [] X.env := by rfl) : JE X cls W (.Call (.Name "len" p) [.Call (.Name "set" p2) [a] [] q] [] pos) (eLenSet fa) := by
  obtain ⟨ta, pa, da⟩ := ha.ex
  refine ⟨_, pe_lenS c.calm hg hm hg2 hm2 pa na, ?_⟩
  intro σ F H g O Q s st p
  unfold eLenSet at p
  refine da.go s st (fun c e => by rw [e] at p; exact p) (fun e => by rw [e] at p; exact p) fun d e v F1 H1 x1 b1 => ?_
  rw [e] at p
  simp only [Res.bind] at p
  cases eo : lsI d with
  | none => rw [eo] at p; exact p.elim
  | some ns =>
    rw [eo] at p
    simp only at p
    split at p
    · rename_i hz
      obtain ⟨l, rfl, h⟩ := lsI_ok x1.fh b1 eo
      exact ⟨l, ns, rfl, h, hz, p _ F1 H1 [] x1 Fresh.nil (.inl (.sh (.int _)))⟩
    · exact p.elim
theorem je_sortedset {a : Expr} {p p2 q pos : Pos} {fa : Env → Res D} (c : Cn X W k) (hm : X.mg "sorted" = none) (hm2 : X.mg "set" = none) (ha : JE X cls W a fa) (hg : Gl X "sorted" := by rfl) (hg2 : Gl X "set" := by rfl)
    (na : starEach [a] X.env = (false, eval a X.env) :: starEach [] X.env := by rfl)
    (na2 : starEach [.Call (.Name "set" p2) [a] [] q] X.env = (false, eval (.Call (.Name "set" p2) [a] [] q) X.env) :: starEach [] X.env := by rfl) :
    JE X cls W (.Call (.Name "sorted" p) [.Call (.Name "set" p2) [a] [] q] [] pos) (eSortedSet fa) := by
  obtain ⟨ta, pa, da⟩ := ha.ex
  refine ⟨_, pe_callB (cr_sortedSet c.calm) hg hm (by decide +kernel) (pa_cons (pe_callTy (cr_setIL c.calm) hg2 hm2 (by decide +kernel) (pa_cons pa pa_nil na) (by decide) (by decide) na (by rfl)) pa_nil na2) (by decide) (by decide) na2 (by rfl), ?_⟩
  intro σ F H g O Q s st p
  unfold eSortedSet at p
  refine da.go s st (fun c e => by rw [e] at p; exact p) (fun e => by rw [e] at p; exact p) fun d e v F1 H1 x1 b1 => ?_
  rw [e] at p
  simp only [Res.bind] at p
  cases eo : lsI d with
  | none => rw [eo] at p; exact p.elim
  | some ns =>
    rw [eo] at p
    simp only at p
    split at p
    · rename_i hz
      obtain ⟨l, rfl, h⟩ := lsI_ok x1.fh b1 eo
      have hlen : (sset ns).length ≤ ns.length := by
        have : ∀ l : List Int, (sset l).length ≤ l.length := fun l => by
          induction l with
          | nil => exact Nat.le_refl _
          | cons x l ih =>
            have : ∀ m : List Int, (insU x m).length ≤ m.length + 1 := fun m => by
              induction m with
              | nil => exact Nat.le_refl _
              | cons y m ih => unfold insU; split; simp; split; simp; simp; omega
            have := this (sset l)
            simp only [sset, List.length_cons]; omega
        exact this ns
      refine ⟨l, ns, rfl, h, by omega, fun p1 hp1 => ⟨p1, _, _, rfl, upd_same, by omega, fun ns' q pw hm' _ hq => ?_⟩⟩
      obtain rfl : ns' = sset ns := rise_uniq pw (sset_rise ns) fun k => by rw [hm' k, sset_mem]; simp
      have s1 : Same F1 (upd H1 p1 (SetO X.w p1 (fun j => decide (j ∈ ns)) (sset ns).length)) := x1.fh.trans (upd_same' hp1)
      have E1 := Ext.own (o := SetO X.w p1 (fun j => decide (j ∈ ns)) (sset ns).length) x1.fh hp1
      exact p (.ref q) _ _ [q] ((x1.trans E1).trans (Ext.own s1 hq)) ((fresh_new hq).mono (x1.trans E1).hh) (.inl (ow_new s1 hq rps_ints.toOws))
    · exact p.elim
end
end DL
namespace DL
@[simp] theorem eLR1_ (fa : Env → Res D) (g : Env) : eLR1 fa g = (fa g).bind fun d => match opd d with
  | .int n => if rgOk n ∧ n ≤ 1000000 then .ok (.ol (rng 0 n.toNat)) else .bad
  | _ => .bad := rfl
@[simp] theorem eLR2_ (fa fb : Env → Res D) (g : Env) : eLR2 fa fb g = (fa g).bind fun d => (fb g).bind fun e => match opd d, opd e with
  | .int i, .int j => if (rgOk i ∧ rgOk j) ∧ (j - i).toNat ≤ 1000000 then .ok (.ol (rng i (j - i).toNat)) else .bad
  | _, _ => .bad := rfl
@[simp] theorem eIsT_ (T : String) (fa : Env → Res D) (g : Env) : eIsT T fa g = (fa g).bind fun d => match tyD (opd d) with
  | some U => match isTy U T with
    | some b => .ok (.bl b)
    | none => .bad
  | none => .bad := rfl
@[simp] theorem isTy_same (T : String) : isTy T T = some true := if_pos rfl
@[simp] theorem isTy_int_bool : isTy "int" "bool" = some false := by decide +kernel
@[simp] theorem isTy_tuple_bool : isTy "tuple" "bool" = some false := by decide +kernel
@[simp] theorem isTy_list_bool : isTy "list" "bool" = some false := by decide +kernel
@[simp] theorem isTy_str_bool : isTy "str" "bool" = some false := by decide +kernel
@[simp] theorem isTy_NoneType_bool : isTy "NoneType" "bool" = some false := by decide +kernel
@[simp] theorem isTy_bool_int : isTy "bool" "int" = some true := by decide +kernel
@[simp] theorem isTy_tuple_int : isTy "tuple" "int" = some false := by decide +kernel
@[simp] theorem isTy_list_int : isTy "list" "int" = some false := by decide +kernel
@[simp] theorem isTy_str_int : isTy "str" "int" = some false := by decide +kernel
@[simp] theorem isTy_NoneType_int : isTy "NoneType" "int" = some false := by decide +kernel
@[simp] theorem isTy_tuple_list : isTy "tuple" "list" = some false := by decide +kernel
@[simp] theorem isTy_int_list : isTy "int" "list" = some false := by decide +kernel
@[simp] theorem isTy_list_tuple : isTy "list" "tuple" = some false := by decide +kernel
@[simp] theorem isTy_int_tuple : isTy "int" "tuple" = some false := by decide +kernel
@[simp] theorem isTy_NoneType_tuple : isTy "NoneType" "tuple" = some false := by decide +kernel
@[simp] theorem isTy_NoneType_list : isTy "NoneType" "list" = some false := by decide +kernel
@[simp] theorem eLenSet_ (fa : Env → Res D) (g : Env) : eLenSet fa g = (fa g).bind fun d => match lsI d with
  | some ns => if ns.length ≤ 4000 then .ok (.int (sset ns).length) else .bad
  | none => .bad := rfl
@[simp] theorem eSortedSet_ (fa : Env → Res D) (g : Env) : eSortedSet fa g = (fa g).bind fun d => match lsI d with
  | some ns => if ns.length < 64 then .ok (.ol ((sset ns).map D.int)) else .bad
  | none => .bad := rfl
@[simp] theorem tyD_non : tyD .non = some "NoneType" := rfl
@[simp] theorem tyD_bl {b} : tyD (.bl b) = some "bool" := rfl
@[simp] theorem tyD_int {b} : tyD (.int b) = some "int" := rfl
@[simp] theorem tyD_str {b} : tyD (.str b) = some "str" := rfl
@[simp] theorem tyD_ls {b} : tyD (.ls b) = some "list" := rfl
@[simp] theorem tyD_bo {b} : tyD (.bo b) = some "list" := rfl
@[simp] theorem tyD_tp {b} : tyD (.tp b) = some "tuple" := rfl
/-- 0 .. n - 1 -/
def iota (n : Nat) : List Int := (List.range n).map fun i : Nat => (i : Int)
theorem rng_iota (n : Nat) : rng 0 n = (iota n).map D.int := by rw [rng_map]; unfold iota; simp
@[simp] theorem iota_len (n : Nat) : (iota n).length = n := by simp [iota]
end DL
namespace DL
open PySem PySem.Spec PyProof.Rows L2
section
variable {P : Program} {w : World} {A : Around} {E : Value → Shared → Prop} {s : Shared}
/-- the items of a tuple, gathered -/
theorem collect_tup {l : Addr} {vs : List Value} {Q : List Value → Shared → Prop} (hl : s.heap.IsTuple l vs.toArray)
    (h : Q vs { s with heap := (s.heap.push (seqObj "list" #[] 0)).update s.heap.objs.size (Obj.mapSeq (· ++ vs.toArray)) }) (hsz : vs.length ≤ sizeLine) : wpAny (model P w) A (collect (.ref l)) Q E s := by
  obtain ⟨o, ho, hc, n, hd⟩ := id hl
  unfold collect
  refine wpAny_bind (wpAny_runValue (codeAny_builtin entry_proto_collect' ?_))
  show wpAny _ _ (do again (.builtin "list.__iadd__" ⟨[← newList [], .ref l], []⟩)) _ _ s
  refine wpAny_bind (wpAny_newList (wpAny_pure ⟨Code.quiet_builtin _ (by decide +kernel), codeAny_builtin entry_list_iadd' ?_⟩))
  show wpAny _ _ (Builtin.List.listExtendWith (.ref s.heap.objs.size) (.ref l) (.ref s.heap.objs.size)) _ _ { s with heap := s.heap.push (seqObj "list" #[] 0) }
  unfold Builtin.List.listExtendWith
  have ho' : (s.heap.push (seqObj "list" #[] 0)).get? l = some o := Heap.get?_push_of_some _ ho
  have hg : (s.heap.push (seqObj "list" #[] 0)).get? s.heap.objs.size = some (seqObj "list" #[] 0) := Heap.get?_push_size _ rfl
  refine wpAny_bind (wpAny_typeOf (T := "tuple") ⟨o, ho', hc⟩ ?_)
  rw [if_pos (by simp [show (Value.type "tuple" == Value.type "tuple") = true by rfl])]
  refine wpAny_bind (listItems_at ho' hd (wpAny_bind (listItems_at (xs := #[]) (n := 0) hg rfl ?_)))
  rw [if_neg (by simp)]
  refine wpAny_bind (listUpdate_at (xs := #[]) (n := 0) hg rfl (wpAny_pure ?_) (Nat.zero_le _) (by show (#[] ++ vs.toArray).size ≤ sizeLine + 1; simp only [Array.size_append, List.size_toArray, List.length_nil]; omega))
  show wpAny (model P w) A (do
      let o ← load s.heap.objs.size
      match o.data with
      | .seq xs _ => pure xs.toList
      | _ => unsupported "internal:collect") Q E { s with heap := (s.heap.push (seqObj "list" #[] 0)).update s.heap.objs.size (Obj.mapSeq (· ++ vs.toArray)) }
  refine wpAny_bind (wpAny_load (get?_update_seq hg _) ?_)
  show wpAny _ _ (pure ((#[] : Array Value) ++ vs.toArray).toList) Q E _
  rw [show ((#[] : Array Value) ++ vs.toArray).toList = vs by simp]
  exact wpAny_pure h
end
end DL
namespace SrtO
open PySem PyProof.Rows Srt
section
variable {prog : Program} {w : World} {A : Around} {E : Value → Shared → Prop} {s : Shared}
/-- sorted(t), t a tuple, as sorted_ord does it of a list -/
theorem sorted_ord_tup {l : Addr} {vs : List Value} {ltv : Value → Value → Bool} {Q : Value → Shared → Prop} (O : Swo ltv) (hl : s.heap.IsTuple l vs.toArray) (hz : vs.length ≤ sizeLine)
    (hS : 2 ≤ vs.length → ∀ (h₁ : Heap) (a : Addr), h₁.get? a = some (seqObj "list" vs.toArray 0) → SortableO prog w A.in1.in1 { s with heap := h₁ } a vs ltv)
    (h : ∀ out : List Value, Srtd ltv out → Stb ltv out vs → Q (.ref (s.heap.objs.size + 1)) { s with heap := sortedAll s.heap vs out.toArray }) :
    wpAny (model prog w) A (call (.builtin "sorted") [.ref l]) Q E s := by
  refine Calls.call_function_entry kind_sorted plain_sorted entry_sorted (args_sorted1 _) ?_
  unfold Builtin.«sorted»
  refine wpAny_bind (m := checkCount "sorted" 1 1 _) (wpAny_pure ?_)
  refine wpAny_bind (DL.collect_tup hl ?_ hz)
  refine wpAny_bind (wpAny_newList ?_ hz)
  have hsz : ((s.heap.push (seqObj "list" #[] 0)).update s.heap.objs.size (Obj.mapSeq (· ++ vs.toArray))).objs.size = s.heap.objs.size + 1 := by
    rw [Heap.size_update, size_push']
  have hoL : (((s.heap.push (seqObj "list" #[] 0)).update s.heap.objs.size (Obj.mapSeq (· ++ vs.toArray))).push (seqObj "list" vs.toArray 0)).get? (s.heap.objs.size + 1) = some (seqObj "list" vs.toArray 0) := by
    rw [← hsz]; exact Heap.get?_push_size _ rfl
  show wpAny _ _ _ _ _ { s with heap := ((s.heap.push (seqObj "list" #[] 0)).update s.heap.objs.size (Obj.mapSeq (· ++ vs.toArray))).push (seqObj "list" vs.toArray 0) }
  rw [hsz]
  exact wpAny_bind (wpAny_holding (wpAny_call_entry slot_list_sort ⟨_, hoL, rfl⟩ entry_list_sort (list_sort_ord O hoL hz (fun h2 => hS h2 _ _ hoL) fun out hs hb => ⟨_, rfl, wpAny_pure ⟨_, rfl, h out hs hb⟩⟩) (args_list_sort _)))
end
end SrtO
namespace DL
open PySem PySem.Spec PyProof.Rows L2
section
variable {X : Cx} {cls : Cls} {K : PySem.W.Frag}
/-- sorted(t), t a tuple of ints -/
def rSortedTI (K : PySem.W.Frag) : List V → Hp → VK → Prop := fun vs H Q => ∃ (a : Addr) (ns : List Int), vs = [V.ref a] ∧ SqT K H a (ns.map V.int) ∧
  ∀ (ns' : List Int) (p : Addr), ns'.Perm ns → ns'.Pairwise (· ≤ ·) → H p = none → Q (.ref p) (upd H p (.lst (ns'.map V.int)))
theorem cr_sortedTI : CallR X (.builtin "sorted") (rSortedTI X.K) := by
  intro pins s σ H vs us Q I r h
  obtain ⟨a, ns, rfl, hs, q⟩ := h
  obtain ⟨its, rv, hl, hz⟩ := I.tuple hs
  rw [Vals.ref1 r]
  have hi := rv.ints
  have hl' : s.heap.IsTuple a its.toArray := hl
  refine SrtO.sorted_ord_tup SrtO.swo_int hl' (by rw [← rv.length]; exact hz) (fun h2 h₁ a' _ => SrtO.ints_sortable hi h2) fun out h1 h2 => ?_
  obtain ⟨k1, k2, k3⟩ := SrtO.ints_out hi h1 h2
  obtain ⟨ep, he'⟩ := PyProof.Rows.sortedAll_at s.heap its out.toArray
  have hlen : ((out.map SrtO.iv).map V.int).length ≤ sizeLine := by
    rw [List.length_map, k2.length_eq]
    rw [List.length_map] at hz
    exact hz
  exact ⟨.ref _, upd H (s.heap.objs.size + 1) (.lst ((out.map SrtO.iv).map V.int)), I.laid (t' := s.toks) (fun _ _ => PyProof.Rows.sortedAll_old) (Nat.le_succ _) ⟨hlen, out, ep, vals_of_ints k1, he'⟩, rfl, q _ _ k2 k3 (I.hok.fresh (Nat.le_succ _))⟩
def rSorted2 (K : PySem.W.Frag) : List V → Hp → VK → Prop := fun vs H Q => rSortedI K vs H Q ∨ rSortedTI K vs H Q
theorem cr_sorted2 : CallR X (.builtin "sorted") (rSorted2 X.K) := by
  intro pins s σ H vs us Q I r h
  rcases h with h | h
  · exact cr_sortedI pins s σ H vs us Q I r h
  · exact cr_sortedTI pins s σ H vs us Q I r h
def caSorted2 : List D → Option D
  | [.tp xs] => (intsOf xs).map fun ns => .ol ((srt ns).map D.int)
  | ds => caSorted ds
@[simp] theorem caSorted2_tp (ns : List Int) : caSorted2 [.tp (ns.map D.int)] = some (.ol ((srt ns).map D.int)) := by simp [caSorted2]
@[simp] theorem caSorted2_ls (ns : List Int) : caSorted2 [.ls (ns.map D.int)] = some (.ol ((srt ns).map D.int)) := by simp [caSorted2]
@[simp] theorem caSorted2_bo (ns : List Int) : caSorted2 [.bo (ns.map D.int)] = some (.ol ((srt ns).map D.int)) := by simp [caSorted2]
theorem ok_sorted2 : CaOk K cls (rSorted2 K) caSorted2 := by
  intro F H vs ds d Q s b e q
  unfold caSorted2 at e
  split at e
  · rename_i xs
    cases h2 : intsOf xs with
    | none => rw [h2] at e; cases e
    | some ns =>
      rw [h2] at e
      cases e
      obtain ⟨v, rfl, b1⟩ := b.one
      obtain ⟨a, ws, rfl, h3, _, r⟩ := b1.tpv s (xs := xs) rfl
      obtain rfl := intsOf_eq h2
      obtain rfl := r.ints
      refine .inr ⟨a, ns, rfl, h3, fun ns' p pm pw hp => ?_⟩
      obtain rfl := srt_uniq pm pw
      exact q _ _ _ [p] (Ext.own s hp) (fresh_new hp) (.inl (ow_new s hp rps_ints.toOws))
  · exact .inl (ok_sorted F H vs ds d Q s b e q)
end
end DL
set_option maxHeartbeats 1000000
namespace RT
open PySem PySem.Spec PyProof.Rows
section
variable {prog : Program} {w : World} {A : Around} {E : Value → Shared → Prop} {s : Shared}
/-- list(it), it = reversed(list) -/
theorem call_list_rev {it l : Addr} {items : Array Value} {Q : Value → Shared → Prop} (hh : A.handled = none) (hit : s.heap.IsRevIter it l ((items.size : Int) - 1)) (hl : s.heap.IsList l items) (hne : l ≠ it) (hn : items.size ≤ sizeLine)
    (hQ : ∀ (h' : Heap) (tk : Nat) (acc : Array Value) (c : Nat), (∀ b o, b ≠ it → s.heap.get? b = some o → h'.get? b = some o) → h'.get? s.heap.objs.size = some { cls := .type "list", dict := none, data := .seq acc c, slots := #[] } →
      ItemsOf (fun i v => items[items.size - 1 - i]? = some v) acc items.size → Q (.ref s.heap.objs.size) { s with heap := h', toks := tk }) :
    wpAny (model prog w) A (call (.type "list") [.ref it]) Q E s := by
  refine callType_codes (Q₁ := fun obj s₁ => obj = .ref s.heap.objs.size ∧ s₁ = { s with heap := s.heap.push { cls := .type "list", data := .seq #[] } }) F.called_list (F.typeCall_list_1 _) F.entry_list_init
    (code_list_new _ ⟨rfl, rfl⟩) fun obj s₁ h₁ => ?_
  obtain ⟨rfl, rfl⟩ := h₁
  have hS : (s.heap.push { cls := .type "list", data := .seq #[] }).get? s.heap.objs.size = some { cls := .type "list", data := .seq #[] } := Heap.get?_push_size _ rfl
  refine ⟨⟨_, hS, rfl⟩, F.args_list_init_2 _ _, ?_⟩
  have W := (Walks.listRev (prog := prog) (w := w) (A := A.in1.in1) hh it l hne items).toS
  obtain ⟨oi, hoi, _⟩ := id hit
  obtain ⟨ol, hol, _⟩ := id hl
  have hSi : s.heap.objs.size ≠ it := Nat.ne_of_gt (Heap.lt_size hoi)
  have hSl : s.heap.objs.size ≠ l := Nat.ne_of_gt (Heap.lt_size hol)
  have hSf : s.heap.objs.size ∉ [it, l] := by simp only [List.mem_cons, List.not_mem_nil, or_false, not_or]; exact ⟨hSi, hSl⟩
  show wpAny _ _ (do let old ← Builtin.List.listItems (.ref s.heap.objs.size); Builtin.List.listUpdate (.ref s.heap.objs.size) (fun _ => #[]); letGo old.toList.reverse; Builtin.List.listExtendWith (.ref s.heap.objs.size) (.ref it) .none) _ _ _
  refine wpAny_bind ?_
  unfold Builtin.List.listItems
  refine wpAny_bind (wpAny_seqItems hS rfl (wpAny_pure ?_))
  show wpAny _ _ (updateSeq s.heap.objs.size (fun _ => #[]) >>= fun _ => letGo (#[] : Array Value).toList.reverse >>= fun _ => Builtin.List.listExtendWith (.ref s.heap.objs.size) (.ref it) .none) _ _ _
  refine wpAny_bind (wpAny_updateSeq hS rfl ?_)
  have hS₂ := Heap.get?_update_self (Obj.mapSeq (fun _ => (#[] : Array Value))) hS rfl
  have keep : ∀ b o, s.heap.get? b = some o → ((s.heap.push { cls := .type "list", data := .seq #[] }).update s.heap.objs.size (Obj.mapSeq (fun _ => (#[] : Array Value)))).get? b = some o :=
    fun b o e => (Heap.get?_update_other _ _ (Ne.symm (Nat.ne_of_lt (Heap.lt_size e)))).trans (Heap.get?_push_of_some _ e)
  refine wpAny_bind (wpAny_letGo ?_)
  generalize hU : (s.heap.push { cls := .type "list", data := .seq #[] }).update s.heap.objs.size (Obj.mapSeq (fun _ => (#[] : Array Value))) = U at hS₂ keep
  have hit1 : U.IsRevIter it l ((items.size : Int) - 1) := hit.at fun o e => keep _ _ e
  have hl1 : U.IsList l items := by
    obtain ⟨o, ho, r⟩ := hl
    exact ⟨o, keep _ _ ho, r⟩
  have hT : ({ s with heap := U } : Shared).TypeIs (.ref it) "list_reverseiterator" := Heap.IsRevIter.typeIs (s := { s with heap := U }) hit1
  have h1 : Builtin.List.listSameRef (.ref s.heap.objs.size) (.ref it) = false := by simp [Builtin.List.listSameRef, hSi]
  show wpAny _ _ (Builtin.List.listExtendWith (.ref s.heap.objs.size) (.ref it) .none) _ _ { s with heap := U }
  unfold Builtin.List.listExtendWith
  refine wpAny_bind (wpAny_typeOf hT ?_)
  rw [if_neg (by rw [h1]; decide)]
  refine wpAny_bind (wpAny_pyIter_revIter (s := { s with heap := U }) hit1 ?_)
  refine wpAny_bind (wpAny_holding ?_)
  unfold Builtin.List.listLengthHint
  refine wpAny_bind (wpAny_specialOf hT nolen_lri ?_)
  show wpAny _ _ (specialOf (Value.ref it) (Str.ofString "__length_hint__") >>= _) _ _ _
  refine wpAny_bind (wpAny_specialOf hT hint_lri ?_)
  generalize hid : ("list_reverseiterator.__length_hint__" : String) = id0
  wp_delta
  rw [show splitId id0 = some ("list_reverseiterator", "__length_hint__") from by subst hid; decide +kernel]
  subst hid
  refine wpAny_bind (wpAny_isInstance (b := true) hT (by rw [isSubtype_type]; kernel_rfl) ?_)
  refine wpAny_pure ?_
  rw [if_neg (by decide)]
  have e0 : ((items.size : Nat) : Int) - 1 - ((0 : Nat) : Int) = (items.size : Int) - 1 := by omega
  refine wpAny_pure ⟨plainId_quiet F.plain_extend_loop _, codeAny_extend_loopS W hn _ hSf _ items.size 0 _ _ _ rfl (Nat.zero_le _) ⟨Nat.zero_le _, by rw [e0]; exact hit1, hl1⟩ hS₂ (ItemsOf.nil _) fun s' acc' c' hm hS' hacc => ?_⟩
  rw [Moved.eq_with hm]
  refine ⟨rfl, hQ s'.heap s'.toks acc' c' (fun b o hb e => hm.heap b o (fun hmem => ?_) (keep b o e)) hS' hacc⟩
  rcases List.mem_cons.mp hmem with e' | hmem
  · exact absurd (Heap.lt_size e) (by rw [e']; exact Nat.lt_irrefl _)
  · exact hb (List.mem_singleton.mp hmem)
end
end RT

namespace DL
open PySem PySem.Spec PyProof.Rows L2
section
variable {X : Cx} {cls : Cls} {W : WX} {K : PySem.W.Frag}
/-- list(reversed(x)), x a list -/
def tLstRev (K : PySem.W.Frag) (te : TE) : TE := fun σ H Q => te σ H fun v H1 => ∃ (a : Addr) (xs : List V), v = .ref a ∧ SqL K H1 a xs ∧ ∀ q, H1 q = none → Q (.ref q) (upd H1 q (.lst xs.reverse))
theorem pe_lstRev {e : Expr} {te : TE} {p p2 pos pos2 : Pos} (hc : X.calm = true) (hg : Gl X "list") (hm : X.mg "list" = none) (hg2 : Gl X "reversed") (hm2 : X.mg "reversed" = none) (he : PE X e te)
    (hs : starEach [e] X.env = (false, eval e X.env) :: starEach [] X.env := by rfl)
    (hs2 : starEach [.Call (.Name "reversed" p2) [e] [] pos2] X.env = (false, eval (.Call (.Name "reversed" p2) [e] [] pos2) X.env) :: starEach [] X.env := by rfl) :
    PE X (.Call (.Name "list" p) [.Call (.Name "reversed" p2) [e] [] pos2] [] pos) (tLstRev X.K te) := by
  refine ⟨fun pins s σ H Q I h => ?_⟩
  refine Call_ (ld_blt I hg hm boot_list (PyProof.Rows.callWith_type1 (args_cons (Call_ (ld_blt I hg2 hm2 PyProof.Rows.boot_reversed (PyProof.Rows.callWith_type1 (args_cons (thn (he.run pins s σ H _ I h) fun u s1 ⟨v, H1, I1, r1, q1⟩ => args_nil ?_) hs) hs rfl))) hs2) hs2 rfl))
  obtain ⟨a, xs, ev, hq, q⟩ := q1
  subst ev
  obtain rfl : u = Value.ref a := r1
  obtain ⟨its, rv, p', hz⟩ := I1.list hq
  refine call_reversed_list p'.isList (args_nil ?_)
  have k0 : ∀ b o, s1.heap.get? b = some o → (s1.heap.push (revObj a ((its.toArray.size : Int) - 1))).get? b = some o := fun b o e => Heap.get?_push_of_some _ e
  have I2 : Inv X pins σ H1 { s1 with heap := s1.heap.push (revObj a ((its.toArray.size : Int) - 1)) } := I1.kept (t' := s1.toks) k0
  obtain ⟨f0, f1, f2, f3, f4, f5⟩ := I1.fpOk (H' := H1) (b := s1.heap.objs.size) (Nat.le_refl _) (I1.hok.fresh (Nat.le_refl _))
  have hl := p'.isList
  obtain ⟨ol, hol, _⟩ := id hl
  have hne : a ≠ s1.heap.objs.size := Nat.ne_of_lt (Heap.lt_size hol)
  have hn : its.toArray.size ≤ sizeLine := by rw [List.size_toArray, ← rv.length]; exact hz
  refine RT.call_list_rev (s := { s1 with heap := s1.heap.push (revObj a ((its.toArray.size : Int) - 1)) }) (I1.ok.hd hc) ⟨_, Heap.get?_push_size _ rfl, rfl, rfl⟩ (hl.push _) hne hn fun h' tk acc c hk hS hi => ?_
  have hn1 : H1 (s1.heap.push (revObj a ((its.toArray.size : Int) - 1))).objs.size = none := I2.hok.fresh (Nat.le_refl _)
  refine ⟨.ref _, upd H1 (s1.heap.push (revObj a ((its.toArray.size : Int) - 1))).objs.size (.lst xs.reverse), I1.laid (t' := tk) (fun b o e => hk b o (Nat.ne_of_lt (Heap.lt_size e)) (k0 b o e)) (by rw [Heap.size_push]; exact Nat.le_succ _) (show ObjOk X.prog X.w _ _ _ (.lst xs.reverse) from ⟨by rw [List.length_reverse]; exact hz, acc.toList, c, RT.vals_rev rv hi, by rw [Array.toArray_toList]; exact hS⟩), rfl, q _ hn1⟩
/-- the items of a list -/
def eLRev (fa : Env → Res D) : Env → Res D := fun g => (fa g).bind fun d => match lsv (opd d) with
  | some xs => .ok (.ol xs.reverse)
  | none => .bad
@[simp] theorem eLRev_ (fa : Env → Res D) (g : Env) : eLRev fa g = (fa g).bind fun d => match lsv (opd d) with
  | some xs => .ok (.ol xs.reverse)
  | none => .bad := rfl
theorem Rps.rev {F : Hp} : ∀ {vs : List V} {ds : List D}, Rps K cls F vs ds → Rps K cls F vs.reverse ds.reverse
  | _, _, .nil => .nil
  | _, _, .cons a b => by
    rw [List.reverse_cons, List.reverse_cons]
    exact (Rps.rev b).append (.cons a .nil)
theorem je_lrev {a : Expr} {p p2 pos q : Pos} {fa : Env → Res D} (c : Cn X W k) (hm : X.mg "list" = none) (hm2 : X.mg "reversed" = none) (ha : JE X cls W a fa)
    (hg : Gl X "list" := by rfl) (hg2 : Gl X "reversed" := by rfl) (na : starEach [a] X.env = (false, eval a X.env) :: starEach [] X.env := by rfl)
    (na2 : starEach [.Call (.Name "reversed" p2) [a] [] q] X.env = (false, eval (.Call (.Name "reversed" p2) [a] [] q) X.env) :: starEach [] X.env := by rfl) :
    JE X cls W (.Call (.Name "list" p) [.Call (.Name "reversed" p2) [a] [] q] [] pos) (eLRev fa) := by
  obtain ⟨ta, pa, da⟩ := ha.ex
  refine ⟨_, pe_lstRev c.calm hg hm hg2 hm2 pa na na2, ?_⟩
  intro σ F H g O Q s st p
  rw [eLRev_] at p
  refine da.go s st (fun c e => by rw [e] at p; exact p) (fun e => by rw [e] at p; exact p) fun d e v F1 H1 x1 b1 => ?_
  rw [e] at p
  simp only [Res.bind] at p
  cases eo : lsv (opd d) with
  | none => rw [eo] at p; exact p.elim
  | some xs =>
    rw [eo] at p
    have ek : sqK (opd d) = some xs := by
      cases ed : opd d <;> rw [ed] at eo <;> simp at eo ⊢ <;> first | exact eo | exact eo.2 | (obtain ⟨e1, e2⟩ := eo; exact ⟨e1, e2⟩)
    obtain ⟨a', vs, rfl, h1, r⟩ := b1.sqK x1.fh ek
    refine ⟨a', vs, rfl, h1, fun q hq => ?_⟩
    exact p (.ref q) _ _ [q] (x1.trans (Ext.own x1.fh hq)) ((fresh_new hq).mono x1.hh) (.inl (ow_new x1.fh hq (Rps.rev r).toOws))
end
end DL
namespace DL
open PySem L2
section
variable {K : PySem.W.Frag} {cls : Cls} {W : WX} {X : Cx} {F H F' H' F1 H1 : Hp} {O O1 : List Addr} {Q : VK} {σ : St} {a b e : Expr} {es : List Expr} {fa fb fc : Env → Res D} {pos : Pos}
/-- an owned value -/
def own1 : D → Bool
  | .ol _ => true
  | .od _ _ => true
  | .oo _ _ _ => true
  | _ => false
@[simp] theorem own1_int {i} : own1 (.int i) = false := rfl
@[simp] theorem own1_tp {i} : own1 (.tp i) = false := rfl
@[simp] theorem own1_ls {i} : own1 (.ls i) = false := rfl
@[simp] theorem own1_bl {i} : own1 (.bl i) = false := rfl
@[simp] theorem own1_str {i} : own1 (.str i) = false := rfl
theorem Ow.unown {v : V} {d : D} (h : Ow K cls F H v d O) (e : own1 d = false) : Rp K cls F v d ∧ O = [] := by
  cases h with
  | sh r => exact ⟨r, rfl⟩
  | ol => cases e
  | od => cases e
  | oo => cases e
theorem Ows.erase : ∀ {vs : List V} {ds : List D} {O : List Addr} {k : Nat} {d : D}, Ows K cls F H vs ds O → ds[k]? = some d → own1 d = false → ∃ v, vs[k]? = some v ∧ Rp K cls F v d ∧ Ows K cls F H (vs.eraseIdx k) (ds.eraseIdx k) O
  | _, _, _, _, _, .nil, e, _ => by simp at e
  | _, _, _, 0, d, .cons (v := v) h r dj eo, e, n => by
    simp at e
    subst e
    obtain ⟨h1, h2⟩ := h.unown n
    subst h2
    subst eo
    exact ⟨v, rfl, h1, by simpa using r⟩
  | _, _, _, k + 1, d, .cons h r dj eo, e, n => by
    obtain ⟨v, h1, h2, h3⟩ := Ows.erase (k := k) r (by simpa using e) n
    exact ⟨v, by simpa using h1, h2, by simpa using Ows.cons h h3 dj eo⟩
/-- x = l.pop(k) -/
def sPop (j i : Nat) (fa : Env → Res D) : Env → Out := fun g => match g[i]? with
  | some (.ol xs) => ((fa g).bind kp).st g fun d => match d with
    | .int z => match ixN xs.length z with
      | some k => match xs[k]? with
        | some y => if own1 y = false ∧ xs.length ≤ lim then .nx ((g.set i (.ol (xs.eraseIdx k))).set j y) else .bad
        | none => .bad
      | none => .bad
    | _ => .bad
  | _ => .bad
@[simp] theorem sPop_ (j i : Nat) (fa : Env → Res D) (g : Env) : sPop j i fa g = match g[i]? with
  | some (.ol xs) => ((fa g).bind kp).st g fun d => match d with
    | .int z => match ixN xs.length z with
      | some k => match xs[k]? with
        | some y => if own1 y = false ∧ xs.length ≤ lim then .nx ((g.set i (.ol (xs.eraseIdx k))).set j y) else .bad
        | none => .bad
      | none => .bad
    | _ => .bad
  | _ => .bad := rfl
theorem Ow.int {v : V} {i : Int} (b : Ow K cls F H v (.int i) O) : v = .int i ∧ O = [] := by cases b with | sh r => cases r; exact ⟨rfl, rfl⟩
theorem js_pop {j i k : Nat} {y x : Str} {py npos apos cpos : Pos} (c : Cn X W k) (hj : X.N[j]? = some y) (hy : Loc X.env.scope y) (hN : X.N[i]? = some x) (hv : Vis X.env.scope x) (ha : JE X cls W a fa) (hd : (x == ("__debug__" : Str)) = false := by decide) (hcd : (x == ("__classdict__" : Str)) = false := by decide)
    (hbase : attributeBase (.Name x npos) "pop" X.env (eval (.Name x npos) X.env) = eval (.Name x npos) X.env := by rfl)
    (hfew : ((backTo cpos (starEach (a :: []) X.env)).all (fun x => !x.1) && (backToKw cpos (keywordEach [] X.env)).all (fun x => x.1.isSome)
      && decide ((a :: []).length + ([] : List Keyword).length + (if ([] : List Keyword).isEmpty then 0 else 1) < 30)) = true := by rfl)
    (hline : (apos.endLine == cpos.line) = true := by rfl) (hs : starEach (a :: []) X.env = (false, eval a X.env) :: starEach [] X.env := by rfl) (hplain : (backTo cpos (starEach [] X.env)).any (·.1) = false := by rfl)
    (hsw : swapsWith (.Call (.Attribute (.Name x npos) "pop" apos) [a] [] cpos) (some (.Name y py)) pos.line X.env = pure false := by rfl)
    (hf : X.fn y = true ∨ X.env.scope.names.lookup y = some .local := by first | exact .inl rfl | exact .inr rfl) :
    JS X cls W (.Assign [.Name y py] (.Call (.Attribute (.Name x npos) "pop" apos) [a] [] cpos) pos) (sPop j i fa) := by
  obtain ⟨t, p, d⟩ := ha.ex
  refine ⟨_, ps_set c.nd hj hy (pe_bm PySem.F.plainAttrs_list PySem.F.slot_list_pop PySem.F.type_list_pop mt_popAt (pe_var hN hv hd hcd) (pa_cons p pa_nil hs) hbase hfew hline hs hplain) hsw hf, ?_⟩
  intro D σ F H g O s st p
  rw [sPop_] at p
  split at p
  · rename_i xs eg
    obtain ⟨q, vs, O1, h1, h2, h2', h3, h4, h5, h6, h7⟩ := st.lst eg
    refine ⟨.ref q, h1, .inl ⟨rfl, vs, SqL.of h2⟩, ?_⟩
    refine d.goS s st p fun dd e p v F1 H1 O2 x fr w => ?_
    split at p
    · rename_i z
      obtain ⟨rfl, rfl⟩ := w.int
      split at p
      · rename_i kk ek
        split at p
        · rename_i yd ey
          split at p
          · rename_i hn
            obtain ⟨hn, hl⟩ := hn
            obtain ⟨e1, e2, e3, e4⟩ := ixN_seq ek
            obtain ⟨u, u1, u2, u3⟩ := (h4.ext x).erase ey hn
            have hlim : xs.length ≤ 1000000 := hl
            refine ⟨q, vs, z, kk, u, rfl, rfl, x.hh _ _ h2, by omega, by omega, by rw [h4.len]; exact e1, u1, ?_⟩
            obtain ⟨O'', z1, z2⟩ := h7 F1 H1 (vs.eraseIdx kk) (xs.eraseIdx kk) O1 x u3 h3 (fun a z => .inl z)
            obtain ⟨O3, z3, z4⟩ := z1.putS (i := j) z2.fh u2
            exact p _ F1 _ O3 (z2.trans z4) z3
          · exact p.elim
        · exact p.elim
      · exact p.elim
    · exact p.elim
  · exact p.elim
/-- m.append(l.pop(k)) -/
def sAppPop (m i : Nat) (fa : Env → Res D) : Env → Out := fun g => match g[m]?, g[i]? with
  | some (.ol ws), some (.ol xs) => ((fa g).bind kp).st g fun d => match d with
    | .int z => match ixN xs.length z with
      | some k => match xs[k]? with
        | some y => if own1 y = false ∧ xs.length ≤ lim ∧ ws.length < lim ∧ m ≠ i then .nx ((g.set i (.ol (xs.eraseIdx k))).set m (.ol (ws ++ [y]))) else .bad
        | none => .bad
      | none => .bad
    | _ => .bad
  | _, _ => .bad
@[simp] theorem sAppPop_ (m i : Nat) (fa : Env → Res D) (g : Env) : sAppPop m i fa g = match g[m]?, g[i]? with
  | some (.ol ws), some (.ol xs) => ((fa g).bind kp).st g fun d => match d with
    | .int z => match ixN xs.length z with
      | some k => match xs[k]? with
        | some y => if own1 y = false ∧ xs.length ≤ lim ∧ ws.length < lim ∧ m ≠ i then .nx ((g.set i (.ol (xs.eraseIdx k))).set m (.ol (ws ++ [y]))) else .bad
        | none => .bad
      | none => .bad
    | _ => .bad
  | _, _ => .bad := rfl
theorem js_appPop {m i k : Nat} {y x : Str} {ynpos yapos ycpos npos apos cpos : Pos} (c : Cn X W k) (hM : X.N[m]? = some y) (hvM : Vis X.env.scope y) (hN : X.N[i]? = some x) (hv : Vis X.env.scope x) (ha : JE X cls W a fa)
    (hd : (x == ("__debug__" : Str)) = false := by decide) (hcd : (x == ("__classdict__" : Str)) = false := by decide) (hdM : (y == ("__debug__" : Str)) = false := by decide) (hcdM : (y == ("__classdict__" : Str)) = false := by decide)
    (hbase : attributeBase (.Name x npos) "pop" X.env (eval (.Name x npos) X.env) = eval (.Name x npos) X.env := by rfl)
    (hfew : ((backTo cpos (starEach (a :: []) X.env)).all (fun x => !x.1) && (backToKw cpos (keywordEach [] X.env)).all (fun x => x.1.isSome)
      && decide ((a :: []).length + ([] : List Keyword).length + (if ([] : List Keyword).isEmpty then 0 else 1) < 30)) = true := by rfl)
    (hline : (apos.endLine == cpos.line) = true := by rfl) (hs : starEach (a :: []) X.env = (false, eval a X.env) :: starEach [] X.env := by rfl) (hplain : (backTo cpos (starEach [] X.env)).any (·.1) = false := by rfl)
    (hbaseM : attributeBase (.Name y ynpos) "append" X.env (eval (.Name y ynpos) X.env) = eval (.Name y ynpos) X.env := by rfl)
    (hfewM : ((backTo ycpos (starEach (.Call (.Attribute (.Name x npos) "pop" apos) [a] [] cpos :: []) X.env)).all (fun x => !x.1) && (backToKw ycpos (keywordEach [] X.env)).all (fun x => x.1.isSome)
      && decide ((.Call (.Attribute (.Name x npos) "pop" apos) [a] [] cpos :: ([] : List Expr)).length + ([] : List Keyword).length + (if ([] : List Keyword).isEmpty then 0 else 1) < 30)) = true := by rfl)
    (hlineM : (yapos.endLine == ycpos.line) = true := by rfl) (hsM : starEach (.Call (.Attribute (.Name x npos) "pop" apos) [a] [] cpos :: []) X.env = (false, eval (.Call (.Attribute (.Name x npos) "pop" apos) [a] [] cpos) X.env) :: starEach [] X.env := by rfl) (hplainM : (backTo ycpos (starEach [] X.env)).any (·.1) = false := by rfl)
    (hsw : swapsWith (.Call (.Attribute (.Name y ynpos) "append" yapos) [.Call (.Attribute (.Name x npos) "pop" apos) [a] [] cpos] [] ycpos) none pos.line X.env = pure false := by rfl) :
    JS X cls W (.Expr (.Call (.Attribute (.Name y ynpos) "append" yapos) [.Call (.Attribute (.Name x npos) "pop" apos) [a] [] cpos] [] ycpos) pos) (sAppPop m i fa) := by
  obtain ⟨t, p, d⟩ := ha.ex
  refine ⟨_, ps_expr (pe_bm PySem.F.plainAttrs_list PySem.F.slot_list_append PySem.F.type_list_append mt_append (pe_var hM hvM hdM hcdM) (pa_cons (pe_bm PySem.F.plainAttrs_list PySem.F.slot_list_pop PySem.F.type_list_pop mt_popAt (pe_var hN hv hd hcd) (pa_cons p pa_nil hs) hbase hfew hline hs hplain) pa_nil hsM) hbaseM hfewM hlineM hsM hplainM) hsw, ?_⟩
  intro D σ F H g O s st p
  rw [sAppPop_] at p
  split at p
  · rename_i ws xs egm eg
    obtain ⟨qm, vm, Om, m1, m2, m2', m3, m4, m5, m6, m7⟩ := st.lst egm
    refine ⟨.ref qm, m1, .inl ⟨rfl, vm, SqL.of m2⟩, ?_⟩
    obtain ⟨q, vs, O1, h1, h2, h2', h3, h4, h5, h6, h7⟩ := st.lst eg
    refine ⟨.ref q, h1, .inl ⟨rfl, vs, SqL.of h2⟩, ?_⟩
    refine d.goS s st p fun dd e p v F1 H1 O2 x fr w => ?_
    split at p
    · rename_i z
      obtain ⟨rfl, rfl⟩ := w.int
      split at p
      · rename_i kk ek
        split at p
        · rename_i yd ey
          split at p
          · rename_i hn
            obtain ⟨hn, hl, hl2, hmi⟩ := hn
            obtain ⟨e1, e2, e3, e4⟩ := ixN_seq ek
            obtain ⟨u, u1, u2, u3⟩ := (h4.ext x).erase ey hn
            have hlim : xs.length ≤ 1000000 := hl
            refine ⟨q, vs, z, kk, u, rfl, rfl, x.hh _ _ h2, by omega, by omega, by rw [h4.len]; exact e1, u1, ?_⟩
            obtain ⟨O'', z1, z2⟩ := h7 F1 H1 (vs.eraseIdx kk) (xs.eraseIdx kk) O1 x u3 h3 (fun a z => .inl z)
            have egm2 : (g.set i (.ol (xs.eraseIdx kk)))[m]? = some (.ol ws) := by rw [List.getElem?_set_ne (Ne.symm hmi)]; exact egm
            obtain ⟨qm', vm', Om', n1, n2, n2', n3, n4, n5, n6, n7⟩ := z1.lst egm2
            rw [m1] at n1
            cases n1
            obtain ⟨O3, w1, w2⟩ := n7 F1 (upd H1 q (.lst (vs.eraseIdx kk))) (vm' ++ [u]) (ws ++ [yd]) Om' (.refl z2.fh) (by
              have := n4.snoc (v := u) (d := yd) (O2 := []) (.sh u2) (fun a _ h => nomatch h)
              rw [List.append_nil] at this
              exact this) n3 (fun a z => .inl z)
            refine ⟨qm, vm', u, rfl, rfl, n2, by rw [n4.len]; exact lim_lt hl2, ?_⟩
            exact p _ F1 _ O3 (z2.trans w2) w1
          · exact p.elim
        · exact p.elim
      · exact p.elim
    · exact p.elim
  · exact p.elim
/-- l.index(x), ints -/
def eIndex (fa fb : Env → Res D) : Env → Res D := fun g => (fa g).bind fun d => match lsI d with
  | some ns => (fb g).bind fun e => match opd e with
    | .int x => if x ∈ ns then .ok (.int (ns.idxOf x : Nat)) else .bad
    | _ => .bad
  | none => .bad
@[simp] theorem eIndex_ (fa fb : Env → Res D) (g : Env) : eIndex fa fb g = (fa g).bind fun d => match lsI d with
  | some ns => (fb g).bind fun e => match opd e with
    | .int x => if x ∈ ns then .ok (.int (ns.idxOf x : Nat)) else .bad
    | _ => .bad
  | none => .bad := rfl
theorem idx_ok : ∀ {ns : List Int} {x : Int}, x ∈ ns → ns[ns.idxOf x]? = some x ∧ ∀ m : Nat, m < ns.idxOf x → ns[m]? ≠ some x := by
  intro ns x h
  have hl := List.idxOf_lt_length_of_mem h
  refine ⟨by rw [List.getElem?_eq_getElem hl, List.getElem_idxOf], fun m hm e => ?_⟩
  have hlt : m < ns.length := by omega
  rw [List.getElem?_eq_getElem hlt] at e
  have h2 := List.not_of_lt_findIdx (p := (· == x)) (xs := ns) (i := m) hm
  cases e
  simp at h2
theorem je_index {o : Expr} {apos cpos : Pos} (ho : JE X cls W o fa) (ha : JE X cls W a fb)
    (hbase : attributeBase o "index" X.env (eval o X.env) = eval o X.env := by rfl)
    (hfew : ((backTo cpos (starEach (a :: []) X.env)).all (fun x => !x.1) && (backToKw cpos (keywordEach [] X.env)).all (fun x => x.1.isSome)
      && decide ((a :: []).length + ([] : List Keyword).length + (if ([] : List Keyword).isEmpty then 0 else 1) < 30)) = true := by rfl)
    (hline : (apos.endLine == cpos.line) = true := by rfl) (hs : starEach (a :: []) X.env = (false, eval a X.env) :: starEach [] X.env := by rfl) (hplain : (backTo cpos (starEach [] X.env)).any (·.1) = false := by rfl) :
    JE X cls W (.Call (.Attribute o "index" apos) [a] [] cpos) (eIndex fa fb) := by
  obtain ⟨to, po, eo⟩ := ho.ex
  obtain ⟨ta, pa, ea⟩ := ha.ex
  refine ⟨_, pe_bm PySem.F.plainAttrs_list PySem.F.slot_list_index PySem.F.type_list_index mt_index po (pa_cons pa pa_nil hs) hbase hfew hline hs hplain, ?_⟩
  intro σ F H g O Q s st p
  rw [eIndex_] at p
  refine eo.go s st (fun c e => by rw [e] at p; exact p) (fun e => by rw [e] at p; exact p) fun d e v F1 H1 x1 b1 => ?_
  rw [e] at p
  simp only [Res.bind] at p
  cases el : lsI d with
  | none => rw [el] at p; exact p.elim
  | some ns =>
    rw [el] at p
    obtain ⟨q, rfl, hq⟩ := lsI_ok x1.fh b1 el
    refine ⟨.inl ⟨rfl, _, hq⟩, ?_⟩
    refine ea.go x1.fh (st.ext x1) (fun c e => by rw [e] at p; exact fun F' H' y => p F' H' (x1.trans y)) (fun e => by rw [e] at p; exact p) fun d2 e2 v2 F2 H2 x2 b2 => ?_
    rw [e2] at p
    simp only [Res.bind] at p
    split at p
    · rename_i x ex
      rw [ex] at b2
      obtain rfl := b2.int
      split at p
      · rename_i hm
        obtain ⟨k1, k2⟩ := idx_ok hm
        refine ⟨q, _, .int x, ns.idxOf x, .int x, rfl, rfl, x2.hh.seq hq, rfl, by simp [flatV], by simp [k1], by simp [eqV], fun m z hm2 e => ?_, ?_⟩
        · rw [List.getElem?_map] at e
          cases ee : ns[m]? with
          | none => rw [ee] at e; cases e
          | some w =>
            rw [ee] at e
            cases e
            have : w ≠ x := fun z => k2 m hm2 (by rw [ee, z])
            simpa [eqV] using this
        · exact p _ F2 H2 [] (x1.trans x2) Fresh.nil (.inl (.sh (.int _)))
      · exact p.elim
    · exact p.elim
theorem Ows.inner : ∀ {vs : List V} {ds : List D} {O : List Addr} {k : Nat} {ys : List D}, Ows K cls F H vs ds O → ds[k]? = some (.ol ys) → ∃ p us O1, vs[k]? = some (.ref p) ∧ H p = some (.lst us) ∧ F p = none ∧ p ∉ O1 ∧ Ows K cls F H us ys O1 ∧ p ∈ O ∧ (∀ a ∈ O1, a ∈ O) ∧
    ∀ (F' H' : Hp) (ws : List V) (zs : List D) (O2 : List Addr), Ext F H F' H' → Ows K cls F' H' ws zs O2 → p ∉ O2 → (∀ a ∈ O2, a ∈ O1 ∨ H a = none) → ∃ O3, Ows K cls F' (upd H' p (.lst ws)) vs (ds.set k (.ol zs)) O3 ∧ ∀ a ∈ O3, a ∈ O ∨ H a = none
  | _, _, _, _, _, .nil, e => by simp at e
  | _, _, _, 0, ys, .cons (O1 := P1) (O2 := P2) h r dj eo, e => by
    simp at e
    subst e
    subst eo
    cases h with
    | sh r => cases r
    | @ol p us _ O1 f1 f2 f3 f4 =>
      refine ⟨p, us, O1, rfl, f2, f1, f3, f4, by simp, fun a ha => by simp [ha], fun F' H' ws zs O2 x w n k => ?_⟩
      have hp : F' p = none := x.ow p f1 (by rw [f2]; exact fun e => nomatch e)
      have up : ∀ b, b ≠ p → upd H' p (.lst ws) b = H' b := fun b hb => upd_ne hb
      refine ⟨(p :: O2) ++ P2, ?_, fun a ha => ?_⟩
      · refine Ows.cons (O1 := p :: O2) (O2 := P2) (.ol hp upd_same n (w.frame (.refl F') fun a ha => ⟨up a fun z => n (z ▸ ha), (w.dom a ha).1⟩)) ?_ (fun a h1 h2 => ?_) rfl
        · exact (r.ext x).frame (.refl F') fun a ha => ⟨up a fun z => dj a (by simp [z]) ha, ((r.ext x).dom a ha).1⟩
        · rcases List.mem_cons.mp h1 with z | z
          · exact dj a (by simp [z]) h2
          · rcases k a z with z | z
            · exact dj a (by simp [z]) h2
            · exact (r.dom a h2).2 z
      · rcases List.mem_append.mp ha with z | z
        · rcases List.mem_cons.mp z with z | z
          · exact .inl (by simp [z])
          · exact (k a z).imp (fun z => by simp [z]) id
        · exact .inl (by simp [z])
  | _, _, _, kk + 1, ys, .cons (O1 := P1) (O2 := P2) h r dj eo, e => by
    subst eo
    obtain ⟨p, us, O1, g1, g2, g3, g4, g5, g6, g7, g8⟩ := Ows.inner (k := kk) r (by simpa using e)
    refine ⟨p, us, O1, by simpa using g1, g2, g3, g4, g5, List.mem_append_right _ g6, fun a ha => List.mem_append_right _ (g7 a ha), fun F' H' ws zs O2 x w n k => ?_⟩
    obtain ⟨O3, w1, w2⟩ := g8 F' H' ws zs O2 x w n k
    have up : ∀ b, b ≠ p → upd H' p (.lst ws) b = H' b := fun b hb => upd_ne hb
    refine ⟨P1 ++ O3, ?_, fun a ha => ?_⟩
    · refine Ows.cons (O1 := P1) (O2 := O3) ((h.ext x).frame (.refl F') fun a ha => ⟨up a fun z => dj a ha (z ▸ g6), ((h.ext x).dom a ha).1⟩) (by simpa using w1) (fun a h1 h2 => ?_) rfl
      rcases w2 a h2 with z | z
      · exact dj a h1 z
      · exact (h.dom a h1).2 z
    · rcases List.mem_append.mp ha with z | z
      · exact .inl (List.mem_append_left _ z)
      · exact (w2 a z).imp (fun z => List.mem_append_right _ z) id
/-- x[z].append(e) -/
def sAppIx (i z : Nat) (fa : Env → Res D) : Env → Out := fun g => match g[i]? with
  | some (.ol xs) => match xs[z]? with
    | some (.ol ys) => ((fa g).bind kp).st g fun d => if ys.length < lim then .nx (g.set i (.ol (xs.set z (.ol (ys ++ [d]))))) else .bad
    | _ => .bad
  | _ => .bad
@[simp] theorem sAppIx_ (i z : Nat) (fa : Env → Res D) (g : Env) : sAppIx i z fa g = match g[i]? with
  | some (.ol xs) => match xs[z]? with
    | some (.ol ys) => ((fa g).bind kp).st g fun d => if ys.length < lim then .nx (g.set i (.ol (xs.set z (.ol (ys ++ [d]))))) else .bad
    | _ => .bad
  | _ => .bad := rfl
theorem js_appIx {i z : Nat} {x : Str} {kz} {npos zpos ipos apos cpos : Pos} (hN : X.N[i]? = some x) (hv : Vis X.env.scope x) (ha : JE X cls W a fa) (hd : (x == ("__debug__" : Str)) = false := by decide) (hcd : (x == ("__classdict__" : Str)) = false := by decide)
    (hbase : attributeBase (.Subscript (.Name x npos) (.Constant (.int (z : Int)) kz zpos) ipos) "append" X.env (eval (.Subscript (.Name x npos) (.Constant (.int (z : Int)) kz zpos) ipos) X.env) = eval (.Subscript (.Name x npos) (.Constant (.int (z : Int)) kz zpos) ipos) X.env := by rfl)
    (hfew : ((backTo cpos (starEach (a :: []) X.env)).all (fun x => !x.1) && (backToKw cpos (keywordEach [] X.env)).all (fun x => x.1.isSome)
      && decide ((a :: []).length + ([] : List Keyword).length + (if ([] : List Keyword).isEmpty then 0 else 1) < 30)) = true := by rfl)
    (hline : (apos.endLine == cpos.line) = true := by rfl) (hs : starEach (a :: []) X.env = (false, eval a X.env) :: starEach [] X.env := by rfl) (hplain : (backTo cpos (starEach [] X.env)).any (·.1) = false := by rfl)
    (hsw : swapsWith (.Call (.Attribute (.Subscript (.Name x npos) (.Constant (.int (z : Int)) kz zpos) ipos) "append" apos) [a] [] cpos) none pos.line X.env = pure false := by rfl) :
    JS X cls W (.Expr (.Call (.Attribute (.Subscript (.Name x npos) (.Constant (.int (z : Int)) kz zpos) ipos) "append" apos) [a] [] cpos) pos) (sAppIx i z fa) := by
  obtain ⟨t, p, d⟩ := ha.ex
  refine ⟨_, ps_expr (pe_bm PySem.F.plainAttrs_list PySem.F.slot_list_append PySem.F.type_list_append mt_append (pe_ix ix_seq (pe_var hN hv hd hcd) pe_int (fun _ _ => rfl)) (pa_cons p pa_nil hs) hbase hfew hline hs hplain) hsw, ?_⟩
  intro D σ F H g O s st p
  rw [sAppIx_] at p
  split at p
  · rename_i xs eg
    split at p
    · rename_i ys ey
      obtain ⟨P, e1, e2, e3, _⟩ := st.at i (List.getElem?_eq_some_iff.mp eg).1
      rcases e2 with ⟨e2, _⟩ | ⟨v, dd, e2, e2', ow⟩
      · rw [eg] at e2; cases e2
      · rw [eg] at e2'; cases e2'
        cases ow with
        | sh r => cases r
        | @ol q vs _ O1 f1 f2 f3 f4 =>
          obtain ⟨r, us, O2, g1, g2, g3, g4, g5, g6, g7, g8⟩ := f4.inner ey
          have hix : atI vs (z : Int) = some (.ref r) := by
            have hlt := (List.getElem?_eq_some_iff.mp g1).1
            rw [atI_natG (j := z) rfl hlt]; exact g1
          refine ⟨.ref q, e2, .inl ⟨q, vs, (z : Int), .ref r, rfl, rfl, SqL.of f2, hix, ?_⟩⟩
          refine ⟨.inl ⟨rfl, us, SqL.of g2⟩, ?_⟩
          refine d.goS s st p fun dd e p v F1 H1 O3 x fr w => ?_
          split at p
          · rename_i hl
            refine ⟨r, us, v, rfl, rfl, x.hh _ _ g2, by rw [g5.len]; exact lim_lt hl, ?_⟩
            obtain ⟨O4, w1, w2⟩ := g8 F1 H1 (us ++ [v]) (ys ++ [dd]) (O2 ++ O3) x ((g5.ext x).snoc w fun a q1 q2 => (g5.dom a q1).2 (fr a q2)) (fun z => by
              rcases List.mem_append.mp z with z | z
              · exact g4 z
              · have := fr r z; rw [g2] at this; cases this) (fun a z => (List.mem_append.mp z).imp id (fr a))
            have hqr : q ≠ r := fun z => f3 (z ▸ g6)
            have up : ∀ b, b ≠ r → upd H1 r (.lst (us ++ [v])) b = H1 b := fun b hb => upd_ne hb
            have hF1r : F1 r = none := x.ow r g3 (by rw [g2]; exact fun e => nomatch e)
            have hF1q : F1 q = none := x.ow q f1 (by rw [f2]; exact fun e => nomatch e)
            have hq4 : q ∉ O4 := fun z => by
              rcases w2 q z with z | z
              · exact f3 z
              · rw [f2] at z; cases z
            obtain ⟨O'', q1, q2⟩ := e3 F1 (upd H1 r (.lst (us ++ [v]))) (.ref q) (.ol (xs.set z (.ol (ys ++ [dd])))) (q :: O4) (fun b hb hn => by
                obtain ⟨k1, k2⟩ := x.get (st.dom b hb).1 (st.dom b hb).2
                exact ⟨(up b fun z => hn (by simp [z, g6])).trans k1, k2⟩) x.ff
              (.ol hF1q ((up q hqr).trans (x.hh _ _ f2)) hq4 w1) (fun a ha hO => by
                rcases List.mem_cons.mp ha with rfl | ha
                · simp
                · rcases w2 a ha with z | z
                  · simp [z]
                  · exact absurd z (st.dom a hO).2)
            rw [set_self e2] at q1
            refine p _ F1 _ O'' ⟨x.ff, fun b o k => ?_, fun b o k hn => ?_, fun b h1 h2 _ => x.ow b h1 h2, fun b hb => ?_⟩ q1
            · rw [up b fun z => by rw [z, hF1r] at k; cases k]; exact x.fh b o k
            · rw [up b fun z => hn (z ▸ e1 r (by simp [g6]))]; exact x.hh b o k
            · rcases q2 b hb with z | z
              · exact .inl z
              · rcases List.mem_cons.mp z with rfl | z
                · exact .inl (e1 _ (by simp))
                · exact (w2 b z).imp (fun z => e1 b (by simp [z])) id
          · exact p.elim
    · exact p.elim
  · exact p.elim
end
end DL
/-! sorted of lists of tuples of ints, by their first unlike number -/
namespace TL
open PySem PySem.W PySem.Calls PyProof.Rows
/-! the order on data -/
theorem lex_anti : ∀ a b : List Int, HT.lexLt a b = false → HT.lexLt b a = false → a = b
  | [], [], _, _ => rfl
  | [], y :: ys, h, _ => by rw [HT.lexLt_nil_cons] at h; cases h
  | x :: xs, [], _, h => by rw [HT.lexLt_nil_cons] at h; cases h
  | x :: xs, y :: ys, h1, h2 => by
    rw [HT.lexLt_cons] at h1 h2
    by_cases e : x = y
    · subst e
      rw [if_pos rfl] at h1 h2
      rw [lex_anti xs ys h1 h2]
    · rw [if_neg e] at h1
      rw [if_neg (Ne.symm e)] at h2
      have a := of_decide_eq_false h1
      have b := of_decide_eq_false h2
      omega
def Rise (l : List (List Int)) : Prop := l.Pairwise fun a b => HT.lexLt b a = false
def insL (x : List Int) : List (List Int) → List (List Int)
  | [] => [x]
  | y :: l => if HT.lexLt y x = true then y :: insL x l else x :: y :: l
def srtL : List (List Int) → List (List Int)
  | [] => []
  | x :: l => insL x (srtL l)
theorem insL_perm (x : List Int) : ∀ l, (insL x l).Perm (x :: l)
  | [] => .refl _
  | y :: l => by
    unfold insL
    split
    · exact ((insL_perm x l).cons y).trans (.swap ..)
    · exact .refl _
theorem srtL_perm : ∀ l, (srtL l).Perm l
  | [] => .refl _
  | x :: l => (insL_perm x (srtL l)).trans ((srtL_perm l).cons x)
theorem insL_rise (x : List Int) : ∀ l, Rise l → Rise (insL x l)
  | [], _ => List.pairwise_singleton _ _
  | y :: l, h => by
    obtain ⟨h1, h2⟩ := List.pairwise_cons.mp h
    unfold insL
    split
    · rename_i c
      refine List.pairwise_cons.mpr ⟨fun z hz => ?_, insL_rise x l h2⟩
      rcases List.mem_cons.mp ((insL_perm x l).mem_iff.mp hz) with rfl | hz
      · exact NtL.lex_asym _ _ c
      · exact h1 z hz
    · rename_i c
      have c : HT.lexLt y x = false := by simpa using c
      refine List.pairwise_cons.mpr ⟨fun z hz => ?_, h⟩
      rcases List.mem_cons.mp hz with rfl | hz
      · exact c
      · exact NtL.lex_tr _ _ _ c (h1 z hz)
theorem srtL_rise : ∀ l, Rise (srtL l)
  | [] => .nil
  | x :: l => insL_rise x _ (srtL_rise l)
theorem rise_one : ∀ {l m : List (List Int)}, l.Perm m → Rise l → Rise m → l = m
  | [], m, p, _, _ => (List.Perm.eq_nil p.symm).symm
  | x :: l, [], p, _, _ => absurd p.length_eq (by simp)
  | x :: l, y :: m, p, hl, hm => by
    obtain ⟨h1, h2⟩ := List.pairwise_cons.mp hl
    obtain ⟨k1, k2⟩ := List.pairwise_cons.mp hm
    have e : x = y := by
      rcases List.mem_cons.mp (p.mem_iff.mp (List.mem_cons_self (a := x) (l := l))) with e | hx
      · exact e
      · rcases List.mem_cons.mp (p.mem_iff.mpr (List.mem_cons_self (a := y) (l := m))) with e | hy
        · exact e.symm
        · exact lex_anti _ _ (k1 x hx) (h1 y hy)
    subst e
    rw [rise_one p.cons_inv h2 k2]
theorem srtL_uniq {l m : List (List Int)} (p : l.Perm m) (h : Rise l) : l = srtL m := rise_one (p.trans (srtL_perm m).symm) h (srtL_rise m)
/-! in the heap -/
def kOf (h : Heap) : Value → List Int
  | .ref a => match h.get? a with
    | some o => match o.data with
      | .seq xs _ => xs.toList.map SrtO.iv
      | _ => []
    | none => []
  | _ => []
def IsTI (h : Heap) (v : Value) (ns : List Int) : Prop := ∃ a o xs n, v = .ref a ∧ h.get? a = some o ∧ o.cls = .type "tuple" ∧ o.data = .seq xs n ∧ IntsAre xs.toList ns
theorem IsTI.k {h : Heap} {v : Value} {ns : List Int} (x : IsTI h v ns) : kOf h v = ns := by
  obtain ⟨a, o, xs, n, rfl, ho, hc, hd, hi⟩ := x
  simp only [kOf, ho, hd]
  exact SrtO.iv_ints hi
theorem IsTI.keeps {h h' : Heap} {v : Value} {ns : List Int} (p : IsTI h v ns) (k : ∀ b o, h.get? b = some o → o.cls = .type "tuple" → h'.get? b = some o) : IsTI h' v ns := by
  obtain ⟨a, o, xs, n, e, ho, hc, hd, hi⟩ := p
  exact ⟨a, o, xs, n, e, k _ _ ho hc, hc, hd, hi⟩
section
variable {prog : Program} {w : World} {A : Around} {E : Value → Shared → Prop} {s : Shared}
theorem lexk {b fin : Bool} {Q : Bool → Shared → Prop} {xs ys : List Value} {ns ms : List Int} (i : Nat) (hx : IntsAre xs ns) (hy : IntsAre ys ms) (hf : fin = decide (ns.length < ms.length)) (h : Q (HT.lexLt ns ms) s) : KatLex prog w A b fin Q (xs.zip ys) i s := by
  induction hx generalizing ys ms i with
  | nil =>
    cases hy with
    | nil =>
      rw [HT.lexLt_nil_nil] at h
      subst hf
      exact kat_nil (by simpa using h)
    | cons q u hy =>
      rw [HT.lexLt_nil_cons] at h
      subst hf
      exact kat_nil (by simpa using h)
  | @cons p t xs ns hx ih =>
    cases hy with
    | nil =>
      rw [HT.lexLt_cons_nil] at h
      subst hf
      exact kat_nil (by simpa using h)
    | @cons q u ys ms hy =>
      show KatLex prog w A b fin Q ((Value.int p t, Value.int q u) :: xs.zip ys) i s
      rw [HT.lexLt_cons] at h
      refine kat_cons (wpAny_eqBool_int ?_)
      by_cases e : p = q
      · subst e
        rw [beq_self_eq_true]
        rw [if_pos rfl] at h
        refine kat_yes ?_
        have hf' : fin = decide (ns.length < ms.length) := by rw [hf]; simp
        first
          | exact ih (i + 1) hy hf' h
          | exact ih _ _ (i + 1) hy hf' h
      · rw [show (p == q) = false from beq_eq_false_iff_ne.mpr e]
        rw [if_neg e] at h
        exact kat_no (TS.oneLt_ints _ h)
theorem tup_cmp {vs : List Value} {k : Value → List Int} (hp : ∀ v ∈ vs, IsTI s.heap v (k v)) : SrtO.Cmp prog w A s (tuples' true) (fun p => p.1 ∈ vs) (SrtO.lt2 fun v u => HT.lexLt (k v) (k u)) := by
  intro p q hm hm'
  have h1 := hp _ hm
  have h2 := hp _ hm'
  show wpAny (model prog w) A (keyLt' (tuples' true) p.1 q.1) (fun r s' => s' = s ∧ r = HT.lexLt (k p.1) (k q.1)) (fun _ _ => False) s
  generalize k p.1 = ns at h1 ⊢
  generalize k q.1 = ms at h2 ⊢
  obtain ⟨a, o, xs, n, e, ho, hc, hd, hi⟩ := h1
  obtain ⟨a', o', xs', n', e', ho', hc', hd', hi'⟩ := h2
  rw [e, e']
  refine kat_lt ho hd ho' hd' ?_
  have z1 : xs.size = ns.length := by rw [← hi.length]; simp
  have z2 : xs'.size = ms.length := by rw [← hi'.length]; simp
  exact lexk 0 hi hi' (by rw [z1, z2]) ⟨rfl, rfl⟩
theorem firsts {h : Heap} {k : Value → List Int} : ∀ vs : List Value, (∀ v ∈ vs, IsTI h v (k v) ∧ k v ≠ []) → ∃ fs : List Value, KatTups h vs fs ∧ fs.length = vs.length ∧ ∀ f ∈ fs, ∃ x t, f = Value.int x t
  | [], _ => ⟨[], KatTups.nil, rfl, fun _ hm => by simp at hm⟩
  | v :: vs, hp => by
    obtain ⟨fs, h1, h2, h3⟩ := firsts vs fun v' hm => hp v' (List.mem_cons_of_mem _ hm)
    obtain ⟨⟨a, o, xs, n, e, ho, hc, hd, hi⟩, hne⟩ := hp v (List.mem_cons_self ..)
    subst e
    obtain ⟨y, ys, e⟩ : ∃ y ys, xs.toList = y :: ys := by
      cases q : xs.toList with
      | nil =>
        rw [q] at hi
        have l := hi.length
        exact absurd (List.eq_nil_of_length_eq_zero l.symm) hne
      | cons y ys => exact ⟨y, ys, rfl⟩
    obtain ⟨m, t, hy⟩ := SrtO.ints_mem hi y (by rw [e]; exact List.mem_cons_self ..)
    refine ⟨y :: fs, KatTups.cons ho hc hd ?_ h1, by rw [List.length_cons, List.length_cons, h2], fun f hm => ?_⟩
    · rw [← Array.getElem?_toList, e]; rfl
    · rcases List.mem_cons.mp hm with rfl | hm
      · exact ⟨m, t, hy⟩
      · exact h3 f hm
theorem tups_sortable {a : Addr} {vs : List Value} {k : Value → List Int} (h0 : 0 < vs.length) (hp : ∀ v ∈ vs, IsTI s.heap v (k v) ∧ k v ≠ []) (ha : ∀ o, s.heap.get? a = some o → o.cls ≠ .type "tuple") : SrtO.SortableO prog w A s a vs fun v u => HT.lexLt (k v) (k u) := by
  intro h' keep
  have hp' : ∀ v ∈ vs, IsTI h' v (k v) ∧ k v ≠ [] := fun v hm => ⟨(hp v hm).1.keeps fun b o e c => keep b o (fun z => by subst z; exact ha o e c) e, (hp v hm).2⟩
  obtain ⟨fs, h1, h2, h3⟩ := firsts vs hp'
  refine ⟨tuples' true, fun Q E hq => ?_, tup_cmp fun v hm => (hp' v hm).1⟩
  refine kat_kind (T := .type "int") h1 (by omega) (fun f hm => ?_) (by rfl) ?_
  · obtain ⟨x, t, rfl⟩ := h3 f hm
    exact Looks.now
  · have e : (Value.type "int" != Value.type "tuple") = true := by first | decide +kernel | rfl | decide
    rw [e]
    exact hq
theorem sorted_tups {l : Addr} {vs : List Value} {k : Value → List Int} {Q : Value → Shared → Prop} (hl : s.heap.IsList l vs.toArray) (hz : vs.length ≤ sizeLine) (hp : ∀ v ∈ vs, IsTI s.heap v (k v)) (hne : 2 ≤ vs.length → ∀ v ∈ vs, k v ≠ [])
    (h : ∀ (h' : Heap) (d : Addr) (out : List Value), SrtO.Srtd (fun v u => HT.lexLt (k v) (k u)) out → SrtO.Stb (fun v u => HT.lexLt (k v) (k u)) out vs → (∀ b o, s.heap.get? b = some o → h'.get? b = some o) → s.heap.objs.size ≤ d → (∃ n, h'.get? d = some (seqObj "list" out.toArray n)) → Q (.ref d) { s with heap := h' }) :
    wpAny (model prog w) A (call (.builtin "sorted") [.ref l]) Q E s := by
  refine SrtO.sorted_ord (NtL.swo_lexL k) hl hz (fun h2 h₁ a ha kk => ?_) fun out hs hb => ?_
  · refine tups_sortable (s := { s with heap := h₁ }) (by omega) (fun v hm => ⟨(hp v hm).keeps fun b o e _ => (kk b o e).2, hne h2 v hm⟩) fun o e => ?_
    have e' : some o = some (seqObj "list" vs.toArray 0) := e.symm.trans ha
    cases e'
    intro c
    exact absurd (Value.type.inj c) (by decide)
  · exact h _ _ out hs hb (fun b o e => sortedAll_old e) (Nat.le_succ _) (sortedAll_at s.heap vs out.toArray)
end
end TL
namespace DL
open PySem PySem.Spec PyProof.Rows L2 TL
section
variable {X : Cx} {cls : Cls} {K : PySem.W.Frag}
/-- sorted(l), l a list of tuples of ints -/
def rSortedTL (K : PySem.W.Frag) : List V → Hp → VK → Prop := fun vs H Q => ∃ (a : Addr) (xs : List V) (L : List (List Int)), vs = [V.ref a] ∧ SqL K H a xs ∧ xs.length = L.length ∧ (∀ y l, (y, l) ∈ xs.zip L → ∃ t, y = V.ref t ∧ SqT K H t (l.map V.int)) ∧ (2 ≤ L.length → ∀ l ∈ L, l ≠ []) ∧
  ∀ (ys : List V) (p : Addr), ys.length = (srtL L).length → (∀ y l, (y, l) ∈ ys.zip (srtL L) → (y, l) ∈ xs.zip L) → H p = none → Q (.ref p) (upd H p (.lst ys))
theorem cr_sortedTL : CallR X (.builtin "sorted") (rSortedTL X.K) := by
  intro pins s σ H vs us Q I r h
  obtain ⟨a, xs, L, rfl, hs, hlen, hx, hne, q⟩ := h
  obtain ⟨its, rv, hl, hz⟩ := I.list hs
  obtain ⟨u, rfl, ru⟩ := vals1 r
  obtain rfl : u = Value.ref a := ru
  have hzip : ∀ (j : Nat) (y : V) (l : List Int), xs[j]? = some y → L[j]? = some l → (y, l) ∈ xs.zip L := fun j y l h1 h2 => List.mem_of_getElem? (i := j) (by rw [List.getElem?_zip_eq_some]; exact ⟨h1, h2⟩)
  obtain ⟨e1, e2⟩ := refs_back rv fun x m => by
    obtain ⟨j, hj⟩ := List.getElem?_of_mem m
    have hjl : j < L.length := by rw [← hlen]; exact (List.getElem?_eq_some_iff.mp hj).1
    obtain ⟨t, e, _⟩ := hx x L[j] (hzip j x _ hj (List.getElem?_eq_getElem hjl))
    exact ⟨t, e⟩
  have hil : its.length = L.length := by rw [← hlen, e1]; simp
  have key : ∀ (j : Nat) (v : Value) (l : List Int), its[j]? = some v → L[j]? = some l → IsTI s.heap v l := fun j v l h1 h2 => by
    have h3 : xs[j]? = some (backV v) := by rw [e1, List.getElem?_map, h1]; rfl
    obtain ⟨t, e, ht⟩ := hx _ _ (hzip j _ _ h3 h2)
    obtain ⟨t', rfl⟩ := e2 v (List.mem_of_getElem? h1)
    cases e
    obtain ⟨its2, rv2, hl2, hz2⟩ := I.tuple ht
    have hl3 : s.heap.IsTuple t its2.toArray := hl2
    obtain ⟨o, ho, hc, n, hd⟩ := hl3
    exact ⟨t, o, its2.toArray, n, rfl, ho, hc, hd, by simpa using rv2.ints⟩
  have keyM : ∀ v ∈ its, ∃ l, IsTI s.heap v l ∧ l ∈ L := fun v hv => by
    obtain ⟨j, hj⟩ := List.getElem?_of_mem hv
    have hjl : j < L.length := by rw [← hil]; exact (List.getElem?_eq_some_iff.mp hj).1
    exact ⟨_, key j v _ hj (List.getElem?_eq_getElem hjl), List.getElem_mem hjl⟩
  have hk : ∀ v ∈ its, IsTI s.heap v (kOf s.heap v) := fun v hv => by
    obtain ⟨l, h1, _⟩ := keyM v hv
    rw [h1.k]; exact h1
  have eL : its.map (kOf s.heap) = L := by
    refine List.ext_getElem? fun j => ?_
    rw [List.getElem?_map]
    cases h1 : its[j]? with
    | none => rw [List.getElem?_eq_none (by rw [← hil]; exact List.getElem?_eq_none_iff.mp h1)]; rfl
    | some v =>
      have hjl : j < L.length := by rw [← hil]; exact (List.getElem?_eq_some_iff.mp h1).1
      rw [List.getElem?_eq_getElem hjl]
      exact congrArg some (key j v _ h1 (List.getElem?_eq_getElem hjl)).k
  refine sorted_tups (k := kOf s.heap) hl.isList (by rw [← rv.length]; exact hz) hk (fun h2 v hv => ?_) fun h' d out h1 h2 kp hd hn => ?_
  · obtain ⟨l, k1, k2⟩ := keyM v hv
    rw [k1.k]
    exact hne (by omega) l k2
  · have h3 : ∀ u ∈ out, ∃ a, u = Value.ref a := fun u hu => e2 u (h2.perm.mem_iff.mp hu)
    obtain ⟨n, hn⟩ := hn
    have eO : out.map (kOf s.heap) = srtL L := by
      refine srtL_uniq ?_ ?_
      · rw [← eL]; exact h2.perm.map _
      · exact List.pairwise_map.mpr (h1.imp fun {x y} z => z)
    refine ⟨.ref d, upd H d (.lst (out.map backV)), I.laid (t' := s.toks) kp hd ⟨?_, out, n, vals_back h3, hn⟩, rfl, q _ d (by rw [← eO]; simp) (fun y l hyl => ?_) (I.hok.fresh hd)⟩
    · rw [List.length_map, h2.perm.length_eq, ← rv.length]; exact hz
    · rw [← eO, List.zip_map'] at hyl
      obtain ⟨u, hu, e⟩ := List.mem_map.mp hyl
      cases e
      have hu' : u ∈ its := h2.perm.mem_iff.mp hu
      obtain ⟨j, hj⟩ := List.getElem?_of_mem hu'
      refine hzip j _ _ (by rw [e1, List.getElem?_map, hj]; rfl) ?_
      rw [← eL, List.getElem?_map, hj]; rfl
def rSorted3 (K : PySem.W.Frag) : List V → Hp → VK → Prop := fun vs H Q => rSorted2 K vs H Q ∨ rSortedTL K vs H Q
theorem cr_sorted3 : CallR X (.builtin "sorted") (rSorted3 X.K) := by
  intro pins s σ H vs us Q I r h
  rcases h with h | h
  · exact cr_sorted2 pins s σ H vs us Q I r h
  · exact cr_sortedTL pins s σ H vs us Q I r h
def tupOf : D → Option (List Int)
  | .tp xs => intsOf xs
  | _ => none
def tupsOf : List D → Option (List (List Int))
  | [] => some []
  | d :: ds => match tupOf d, tupsOf ds with
    | some l, some L => some (l :: L)
    | _, _ => none
theorem tupOf_eq {d : D} {l : List Int} (h : tupOf d = some l) : d = .tp (l.map D.int) := by
  cases d <;> simp [tupOf] at h
  rw [intsOf_eq h]
theorem tupsOf_eq : ∀ {ds : List D} {L : List (List Int)}, tupsOf ds = some L → ds = L.map dT
  | [], _, h => by cases h; rfl
  | d :: ds, L, h => by
    unfold tupsOf at h
    split at h
    · rename_i l M h1 h2
      cases h
      rw [tupOf_eq h1, tupsOf_eq h2]; rfl
    · cases h
@[simp] theorem tupsOf_map : ∀ L : List (List Int), tupsOf (L.map dT) = some L
  | [] => rfl
  | l :: L => by simp [tupsOf, dT, tupOf, tupsOf_map L]
def caSorted3 (ds : List D) : Option D := match ds with
  | [d] => match sqK d with
    | some (.tp x :: xs) => match tupsOf (.tp x :: xs) with
      | some L => if L.length < 2 ∨ L.all (fun l => !l.isEmpty) = true then some (.ol ((srtL L).map dT)) else none
      | none => none
    | _ => caSorted2 ds
  | ds => caSorted2 ds
theorem Rps.zip {F : Hp} : ∀ {vs : List V} {L : List (List Int)}, Rps K cls F vs (L.map dT) → ∀ y l, (y, l) ∈ vs.zip L → Rp K cls F y (dT l)
  | _, [], .nil, _, _, h => by simp at h
  | _, l0 :: L, .cons a r, y, l, h => by
    rw [List.zip_cons_cons] at h
    rcases List.mem_cons.mp h with e | h
    · cases e; exact a
    · exact Rps.zip r y l h
theorem Rps.unzip {F : Hp} : ∀ {vs : List V} {L : List (List Int)}, vs.length = L.length → (∀ y l, (y, l) ∈ vs.zip L → Rp K cls F y (dT l)) → Rps K cls F vs (L.map dT)
  | [], [], _, _ => .nil
  | [], _ :: _, h, _ => by simp at h
  | _ :: _, [], h, _ => by simp at h
  | v :: vs, l :: L, h, k => .cons (k v l (by simp)) (Rps.unzip (by simpa using h) fun y l' hm => k y l' (by rw [List.zip_cons_cons]; exact List.mem_cons_of_mem _ hm))
theorem rp_T {F : Hp} {y : V} {l : List Int} (h : Rp K cls F y (dT l)) : ∃ t, y = V.ref t ∧ SqT K F t (l.map V.int) := by
  unfold dT at h
  cases h with
  | tp h r =>
    obtain rfl := r.ints
    exact ⟨_, rfl, h⟩
theorem ok_sorted3 : CaOk K cls (rSorted3 K) caSorted3 := by
  intro F H vs ds d Q s b e q
  unfold caSorted3 at e
  split at e
  · rename_i d0
    split at e
    · rename_i x xs0 h1
      split at e
      · rename_i L h2
        split at e
        · rename_i hn
          cases e
          obtain ⟨v, rfl, b1⟩ := b.one
          obtain ⟨a, ws, rfl, h3, r⟩ := b1.sqK s h1
          have eL := tupsOf_eq h2
          rw [eL] at r
          have hlen : ws.length = L.length := by have := r.len; simpa using this
          refine .inr ⟨a, ws, L, rfl, h3, hlen, fun y l hm => ?_, fun h4 l hl => ?_, fun ys p hy hz hp => ?_⟩
          · obtain ⟨t, e1, e2⟩ := rp_T (r.zip y l hm)
            exact ⟨t, e1, sameT s e2⟩
          · rcases hn with hn | hn
            · omega
            · have := List.all_eq_true.mp hn l hl
              intro z; subst z; simp at this
          · exact q _ _ _ [p] (Ext.own s hp) (fresh_new hp) (.inl (ow_new s hp (Rps.unzip hy fun y l hm => r.zip y l (hz y l hm)).toOws))
        · cases e
      · cases e
    · exact .inl (ok_sorted2 F H vs _ d Q s b e q)
  · exact .inl (ok_sorted2 F H vs _ d Q s b e q)
theorem srtL_len (L : List (List Int)) : (srtL L).length = L.length := (srtL_perm L).length_eq
@[simp] theorem caSorted3_tp (ns : List Int) : caSorted3 [.tp (ns.map D.int)] = some (.ol ((srt ns).map D.int)) := by
  unfold caSorted3
  split
  · rename_i h; cases h; simp
  · simp
@[simp] theorem caSorted3_ls (ns : List Int) : caSorted3 [.ls (ns.map D.int)] = some (.ol ((srt ns).map D.int)) := by
  cases ns with
  | nil => simp [caSorted3]; rfl
  | cons a l => simp [caSorted3]; exact caSorted2_ls (a :: l)
@[simp] theorem caSorted3_bo (ns : List Int) : caSorted3 [.bo (ns.map D.int)] = some (.ol ((srt ns).map D.int)) := by
  cases ns with
  | nil => simp [caSorted3]; rfl
  | cons a l => simp [caSorted3]; exact caSorted2_bo (a :: l)
theorem caSorted3_TL (L : List (List Int)) (h : L.length < 2 ∨ L.all (fun l => !l.isEmpty) = true) : caSorted3 [.ls (L.map dT)] = some (.ol ((srtL L).map dT)) := by
  cases L with
  | nil => simp [caSorted3]; rfl
  | cons l L =>
    have e := tupsOf_map (l :: L)
    simp only [List.map_cons, dT] at e ⊢
    simp only [caSorted3, sqK, e]
    rw [if_pos h]
end
end DL
namespace DL
open PySem PySem.Spec PyProof.Rows L2 TL
section
variable {K : PySem.W.Frag} {cls : Cls} {W : WX} {X : Cx} {F H F' H' F1 H1 : Hp} {O O1 : List Addr} {Q : VK} {a b e : Expr} {es : List Expr} {fa fb fc : Env → Res D} {pos : Pos}
/-- x in l, a tuple in a list of such -/
def cIn2 : D → D → Option Bool
  | .tp xs, l => match toPy (.tp xs), toPy l with
    | some d, some (.list ds) => if SeqAt.shaped d = true ∧ SeqAt.shaped (.list ds) = true then some (ds.any fun z => PyData.eqv z d) else none
    | _, _ => none
  | x, l => cIn x l
def cNIn2 (a b : D) : Option Bool := (cIn2 a b).map (!·)
theorem cIn2_ok {x y : V} {a b : D} {k : Bool} (s : Same F H) (b1 : Bo K cls F H x a) (b2 : Bo K cls F H y b) (e : cIn2 a b = some k) :
    (∃ c, cIn a b = some c ∧ c = k) ∨ ∃ d ds, Dp K H x d ∧ Dp K H y (.list ds) ∧ SeqAt.shaped d = true ∧ SeqAt.shaped (.list ds) = true ∧ (ds.any fun z => PyData.eqv z d) = k := by
  unfold cIn2 at e
  split at e
  · split at e
    · rename_i d ds h1 h2
      split at e
      · rename_i h
        cases e
        exact .inr ⟨d, ds, b1.dp s h1, b2.dp s h2, h.1, h.2, rfl⟩
      · cases e
    · cases e
  · exact .inl ⟨k, e, rfl⟩
theorem ok_in2 : C2Ok K cls (fun x y H Q => rIn K false x y H Q ∨ rInD K x y H Q) cIn2 := by
  intro F H x y a b d Q s b1 b2 e q
  rcases cIn2_ok s b1 b2 e with ⟨c, h1, rfl⟩ | ⟨p, r, h1, h2, h3, h4, h5⟩
  · exact .inl (ok_in F H x y a b c Q s b1 b2 h1 q)
  · exact .inr ⟨p, r, h1, h2, h3, h4, by rw [h5]; exact q⟩
theorem ok_nin2 : C2Ok K cls (fun x y H Q => rIn K true x y H Q ∨ rNotInD K x y H Q) cNIn2 := by
  intro F H x y a b d Q s b1 b2 e q
  unfold cNIn2 at e
  cases e0 : cIn2 a b with
  | none => rw [e0] at e; cases e
  | some k =>
    rw [e0] at e
    cases e
    rcases cIn2_ok s b1 b2 e0 with ⟨c, h1, rfl⟩ | ⟨p, r, h1, h2, h3, h4, h5⟩
    · exact .inl (ok_nin F H x y a b (!c) Q s b1 b2 (by unfold cNIn; rw [h1]; rfl) q)
    · exact .inr ⟨p, r, h1, h2, h3, h4, by rw [h5]; exact q⟩
theorem Cn.eq65 {X : Cx} {W : WX} {k : Nat} (c : Cn X W k) : X.A.units + 65 < cLine := by have := c.hr.un; omega
theorem op_in5 (hu : X.A.units + 65 < cLine) : OpR X (compareOp .In) (fun x y H Q => rIn X.K false x y H Q ∨ rInD X.K x y H Q) := op_in_seq.or (op_inD hu)
theorem op_nin5 (hu : X.A.units + 65 < cLine) : OpR X (compareOp .NotIn) (fun x y H Q => rIn X.K true x y H Q ∨ rNotInD X.K x y H Q) := op_notIn_seq.or (op_notInD hu)
theorem eqv_tups {l : List Int} {L : List (List Int)} : (L.map fun l => PyData.tuple (l.map .int)).any (fun z => PyData.eqv z (.tuple (l.map .int))) = decide (l ∈ L) := by
  induction L with
  | nil => simp
  | cons a L ih =>
    rw [List.map_cons, List.any_cons, ih]
    have : PyData.eqv (.tuple (a.map .int)) (.tuple (l.map .int)) = decide (a = l) := by
      simp only [PyData.eqv]
      exact eqvAll_map (p := PyData.int) (fun a b => by simp only [PyData.eqv]; by_cases e : a = b <;> simp [e]) a l
    rw [this, ← Bool.decide_or]
    by_cases h : a = l
    · subst h; simp
    · have h' : ¬ l = a := fun z => h z.symm
      simp [h, h']
theorem toPy_T (l : List Int) : toPy (.tp (l.map D.int)) = some (.tuple (l.map .int)) := by
  have : toPys (l.map D.int) = some (l.map PyData.int) := toPys_map (fun a => by simp [toPy]) l
  simp [toPy, this]
theorem toPy_TL (L : List (List Int)) : toPy (.ls (L.map dT)) = some (.list (L.map fun l => PyData.tuple (l.map .int))) := by
  have : toPys (L.map dT) = some (L.map fun l => PyData.tuple (l.map .int)) := toPys_map (f := dT) (fun a => toPy_T a) L
  simp [toPy, this]
theorem shaped_T (l : List Int) : SeqAt.shaped (.tuple (l.map .int)) = true := by
  have a := lay_map (p := PyData.int) (fun a => by simp [PyData.canLay0]) l
  have b : PyData.depthAll (l.map PyData.int) ≤ 0 := dep_map (p := PyData.int) (fun a => by simp [PyData.depth]) l
  have c : PyData.depth (.tuple (l.map .int)) ≤ 1 := by simp only [PyData.depth]; omega
  have d : PyData.canLay0 (.tuple (l.map .int)) = true := by simp [PyData.canLay0, a]
  simp only [SeqAt.shaped, d, Bool.true_and, decide_eq_true_eq]
  omega
theorem shaped_TL (L : List (List Int)) : SeqAt.shaped (.list (L.map fun l => PyData.tuple (l.map .int))) = true := by
  have a := lay_map (p := fun l : List Int => PyData.tuple (l.map .int)) (fun l => by
    have := lay_map (p := PyData.int) (fun a => by simp [PyData.canLay0]) l
    simp [PyData.canLay0, this]) L
  have b : PyData.depthAll (L.map fun l : List Int => PyData.tuple (l.map .int)) ≤ 1 := dep_map (p := fun l : List Int => PyData.tuple (l.map .int)) (fun l => by
    have b : PyData.depthAll (l.map PyData.int) ≤ 0 := dep_map (p := PyData.int) (fun a => by simp [PyData.depth]) l
    simp only [PyData.depth]; omega) L
  have c : PyData.depth (.list (L.map fun l : List Int => PyData.tuple (l.map .int))) ≤ 2 := by simp only [PyData.depth]; omega
  have d : PyData.canLay0 (.list (L.map fun l : List Int => PyData.tuple (l.map .int))) = true := by simp [PyData.canLay0, a]
  simp only [SeqAt.shaped, d, Bool.true_and, decide_eq_true_eq]
  omega
theorem cIn2_TL (l : List Int) (L : List (List Int)) : cIn2 (.tp (l.map D.int)) (.ls (L.map dT)) = some (decide (l ∈ L)) := by
  simp only [cIn2, toPy_T, toPy_TL]
  rw [if_pos ⟨shaped_T l, shaped_TL L⟩, eqv_tups]
@[simp] theorem cNIn2_TL (l : List Int) (L : List (List Int)) : cNIn2 (.tp (l.map D.int)) (.ls (L.map dT)) = some (!decide (l ∈ L)) := by
  unfold cNIn2; rw [cIn2_TL]; rfl
end
end DL
set_option maxHeartbeats 1000000
namespace RT
open PySem PySem.Spec PyProof.Rows
theorem nolen_rt : typeLookup (.type "reversed") "__len__" = pure none := by rw [typeLookup_type, builtinLookup_eq_fast]; kernel_rfl
theorem slot_rt_hint : Slot "reversed" "__length_hint__" "reversed.__length_hint__" :=
  .of (owner := "reversed") (n := "__length_hint__") (by rw [typeLookup_type, builtinLookup_eq_fast]; kernel_rfl) (by decide +kernel) (by decide +kernel) (by decide +kernel)
    (by first | exact .inl (by decide +kernel) | exact .inr (by decide +kernel)) (by rw [isSubtype_type]; kernel_rfl)
theorem entry_rt_hint : entryFor table "reversed.__length_hint__" = some Builtin.«reversed.__length_hint__» := entryFor_of_tree (by kernel_rfl)
theorem args_rt_hint (a : Value) : argsOk "reversed.__length_hint__" ⟨[a], []⟩ := by
  unfold argsOk; rw [signature?_of (id := "reversed.__length_hint__") (n := ['_', '_', 't', 'n', 'i', 'h', '_', 'h', 't', 'g', 'n', 'e', 'l', '_', '_']) (o := ['d', 'e', 's', 'r', 'e', 'v', 'e', 'r']) (by kernel_rfl) owner_rt]; kernel_rfl
theorem Walks.tupRev {prog : Program} {w : World} {A : Around} (hh : A.handled = none) (I t : Addr) (hne : t ≠ I) (items : Array Value) (hsz : items.size ≤ sizeLine) :
    Walks prog w A I [I, t] [I] items.size (fun i v => items[items.size - 1 - i]? = some v) (fun i h => i ≤ items.size ∧ IsRt h I t ((items.size : Int) - 1 - (i : Int)) ∧ IsTup h t items) where
  sub := fun b hb => by simp at hb; simp [hb]
  frame := fun _ _ _ x hk => ⟨x.1, x.2.1.at fun o e => hk I (by simp) o e, by
    obtain ⟨o, ho, r⟩ := x.2.2
    exact ⟨o, hk t (by simp) o ho, r⟩⟩
  item := fun i s Q E hi x hQ => by
    have e : (items.size : Int) - 1 - (i : Int) = ((items.size - 1 - i : Nat) : Int) := by omega
    have hit := x.2.1
    rw [e] at hit
    have hx : items[items.size - 1 - i]? = some (items[items.size - 1 - i]'(by omega)) := Array.getElem?_eq_getElem (by omega)
    refine next_rt_item hit x.2.2 hx hsz fun h' hit' hs' => ?_
    have e2 : ((items.size - 1 - i : Nat) : Int) - 1 = (items.size : Int) - 1 - ((i + 1 : Nat) : Int) := by omega
    rw [e2] at hit'
    refine hQ _ h' (s.toks + 1) hx ⟨hi, hit', ?_⟩ fun b o hb eo => hs'.extBut b o (fun h => hb (by simp [h])) eo
    obtain ⟨o, ho, r⟩ := x.2.2
    exact ⟨o, (hs'.2 t hne).trans ho, r⟩
  done := fun s Q E x hQ => by
    have e : (items.size : Int) - 1 - (items.size : Int) = -1 := by omega
    have hit := x.2.1
    rw [e] at hit
    exact next_rt_end hh hit fun h' he' => hQ h' s.toks fun b o hb eo => he' b o (fun h => hb (by simp [h])) eo
  self := fun _ _ _ _ x hQ => iter_rt x.2.1 hQ
section
variable {prog : Program} {w : World} {A : Around} {E : Value → Shared → Prop} {s : Shared}
theorem call_rt_hint {it t : Addr} {items : Array Value} {Q : Value → Shared → Prop} (hit : IsRt s.heap it t ((items.size : Int) - 1))
    (hlen : ∀ (A : Around) (E : Value → Shared → Prop) (Q : Value → Shared → Prop), Q (.int items.size (s.toks + 1)) { s with toks := s.toks + 1 + 1 } → wpAny (model prog w) A (call (.builtin "len") [.ref t]) Q E s)
    (h : ∀ tk tk', Q (.int items.size tk) { s with toks := tk' }) : wpAny (model prog w) A (call (.builtin "reversed.__length_hint__") [.ref it]) Q E s := by
  obtain ⟨o, ho, hc, hd⟩ := id hit
  refine wpAny_call_entry slot_rt_hint hit.typeIs entry_rt_hint ?_ (args_rt_hint _)
  unfold Builtin.«reversed.__length_hint__»
  refine wpAny_bind (wpAny_of_eq (a := Value.ref it) rfl ?_)
  try dsimp only
  refine wpAny_bind (wpAny_field ho hd (x := .ref t) rfl ?_)
  try dsimp only
  rw [if_neg (show ¬ ((Value.ref t == Value.none) = true) from Bool.false_ne_true)]
  refine wpAny_bind (hlen _ _ _ ?_)
  refine wpAny_bind (wpAny_of_eq (a := some ((items.size : Nat) : Int)) rfl ?_)
  try dsimp only
  refine wpAny_bind (wpAny_field (s := { s with toks := s.toks + 1 + 1 }) ho hd (x := rawInt ((items.size : Int) - 1)) rfl ?_)
  show wpAny _ _ (if ((items.size : Nat) : Int) < (items.size : Int) - 1 + 1 then _ else _) _ _ _
  rw [if_neg (by omega)]
  have e : ((items.size : Int) - 1 + 1) = items.size := by omega
  rw [e]
  refine wpAny_bind (wpAny_mkInt ?_)
  exact wpAny_pure ⟨_, rfl, h _ _⟩
/-- list(it), it = reversed(tuple) -/
theorem call_list_rt {it l : Addr} {items : Array Value} {Q : Value → Shared → Prop} (hh : A.handled = none) (hit : IsRt s.heap it l ((items.size : Int) - 1)) (hl : IsTup s.heap l items) (hne : l ≠ it) (hn : items.size ≤ sizeLine) (hz : (items.size : Int) < 1000000000)
    (hlen : ∀ (s : Shared), IsTup s.heap l items → ∀ (A : Around) (E : Value → Shared → Prop) (Q : Value → Shared → Prop), Q (.int items.size (s.toks + 1)) { s with toks := s.toks + 1 + 1 } → wpAny (model prog w) A (call (.builtin "len") [.ref l]) Q E s)
    (hQ : ∀ (h' : Heap) (tk : Nat) (acc : Array Value) (c : Nat), (∀ b o, b ≠ it → s.heap.get? b = some o → h'.get? b = some o) → h'.get? s.heap.objs.size = some { cls := .type "list", dict := none, data := .seq acc c, slots := #[] } →
      ItemsOf (fun i v => items[items.size - 1 - i]? = some v) acc items.size → Q (.ref s.heap.objs.size) { s with heap := h', toks := tk }) :
    wpAny (model prog w) A (call (.type "list") [.ref it]) Q E s := by
  refine callType_codes (Q₁ := fun obj s₁ => obj = .ref s.heap.objs.size ∧ s₁ = { s with heap := s.heap.push { cls := .type "list", data := .seq #[] } }) F.called_list (F.typeCall_list_1 _) F.entry_list_init
    (code_list_new _ ⟨rfl, rfl⟩) fun obj s₁ h₁ => ?_
  obtain ⟨rfl, rfl⟩ := h₁
  have hS : (s.heap.push { cls := .type "list", data := .seq #[] }).get? s.heap.objs.size = some { cls := .type "list", data := .seq #[] } := Heap.get?_push_size _ rfl
  refine ⟨⟨_, hS, rfl⟩, F.args_list_init_2 _ _, ?_⟩
  have W := (Walks.tupRev (prog := prog) (w := w) (A := A.in1.in1) hh it l hne items hn).toS
  obtain ⟨oi, hoi, _⟩ := id hit
  obtain ⟨ol, hol, _⟩ := id hl
  have hSi : s.heap.objs.size ≠ it := Nat.ne_of_gt (Heap.lt_size hoi)
  have hSl : s.heap.objs.size ≠ l := Nat.ne_of_gt (Heap.lt_size hol)
  have hSf : s.heap.objs.size ∉ [it, l] := by simp only [List.mem_cons, List.not_mem_nil, or_false, not_or]; exact ⟨hSi, hSl⟩
  show wpAny _ _ (do let old ← Builtin.List.listItems (.ref s.heap.objs.size); Builtin.List.listUpdate (.ref s.heap.objs.size) (fun _ => #[]); letGo old.toList.reverse; Builtin.List.listExtendWith (.ref s.heap.objs.size) (.ref it) .none) _ _ _
  refine wpAny_bind ?_
  unfold Builtin.List.listItems
  refine wpAny_bind (wpAny_seqItems hS rfl (wpAny_pure ?_))
  show wpAny _ _ (updateSeq s.heap.objs.size (fun _ => #[]) >>= fun _ => letGo (#[] : Array Value).toList.reverse >>= fun _ => Builtin.List.listExtendWith (.ref s.heap.objs.size) (.ref it) .none) _ _ _
  refine wpAny_bind (wpAny_updateSeq hS rfl ?_)
  have hS₂ := Heap.get?_update_self (Obj.mapSeq (fun _ => (#[] : Array Value))) hS rfl
  have keep : ∀ b o, s.heap.get? b = some o → ((s.heap.push { cls := .type "list", data := .seq #[] }).update s.heap.objs.size (Obj.mapSeq (fun _ => (#[] : Array Value)))).get? b = some o :=
    fun b o e => (Heap.get?_update_other _ _ (Ne.symm (Nat.ne_of_lt (Heap.lt_size e)))).trans (Heap.get?_push_of_some _ e)
  refine wpAny_bind (wpAny_letGo ?_)
  generalize hU : (s.heap.push { cls := .type "list", data := .seq #[] }).update s.heap.objs.size (Obj.mapSeq (fun _ => (#[] : Array Value))) = U at hS₂ keep
  have hit1 : IsRt U it l ((items.size : Int) - 1) := hit.at fun o e => keep _ _ e
  have hl1 : IsTup U l items := by
    obtain ⟨o, ho, r⟩ := hl
    exact ⟨o, keep _ _ ho, r⟩
  have hT : ({ s with heap := U } : Shared).TypeIs (.ref it) "reversed" := IsRt.typeIs (s := { s with heap := U }) hit1
  have h1 : Builtin.List.listSameRef (.ref s.heap.objs.size) (.ref it) = false := by simp [Builtin.List.listSameRef, hSi]
  show wpAny _ _ (Builtin.List.listExtendWith (.ref s.heap.objs.size) (.ref it) .none) _ _ { s with heap := U }
  unfold Builtin.List.listExtendWith
  refine wpAny_bind (wpAny_typeOf hT ?_)
  rw [if_neg (by rw [h1]; decide)]
  refine wpAny_bind (iter_rt (s := { s with heap := U }) hit1 ?_)
  refine wpAny_bind (wpAny_holding ?_)
  unfold Builtin.List.listLengthHint
  refine wpAny_bind (wpAny_specialOf hT nolen_rt ?_)
  show wpAny _ _ (specialOf (Value.ref it) (Str.ofString "__length_hint__") >>= _) _ _ _
  refine wpAny_bind (wpAny_specialOf hT slot_rt_hint.lookup ?_)
  generalize hid : ("reversed.__length_hint__" : String) = id0
  wp_delta
  rw [show splitId id0 = some ("reversed", "__length_hint__") from by subst hid; decide +kernel]
  subst hid
  refine wpAny_bind (wpAny_isInstance (b := true) hT (by rw [isSubtype_type]; kernel_rfl) ?_)
  rw [if_neg (by decide)]
  try dsimp only
  rw [if_neg (by decide +kernel)]
  refine wpAny_bind (wpAny_rule ?_)
  refine wpAny_bind (wpAny_of_eq (slot_rt_hint.bind _) ?_)
  show wpAny _ _ ((call (.builtin "reversed.__length_hint__") [.ref it]).attempt >>= _) _ _ _
  refine wpAny_bind (wpAny_attempt ?_)
  refine call_rt_hint (s := { s with heap := U }) hit1 (hlen { s with heap := U } hl1) fun tk tk' => ?_
  have hA : asInt? (Value.int ((items.size : Nat) : Int) tk) = pure (some ((items.size : Nat) : Int)) := rfl
  have f1 : Builtin.List.listFitsIndex ((items.size : Nat) : Int) = true := fitsIndex_of (by omega) (by omega)
  have f2 : Builtin.List.listTooLong ((items.size : Nat) : Int).toNat = false := L2.notLongL (by simpa using hn)
  generalize hg : Value.int ((items.size : Nat) : Int) tk = vv at hA ⊢
  subst hg
  show wpAny _ _ (asInt? (Value.int ((items.size : Nat) : Int) tk) >>= _) _ _ _
  rw [hA, pure_bind]
  show wpAny _ _ (if (!Builtin.List.listFitsIndex ((items.size : Nat) : Int)) = true then _ else if ((items.size : Nat) : Int) < 0 then _ else if Builtin.List.listTooLong ((items.size : Nat) : Int).toNat = true then _ else pure (((items.size : Nat) : Int) != 0)) _ _ _
  rw [if_neg (by rw [f1]; decide), if_neg (by omega), if_neg (by rw [f2]; decide)]
  refine wpAny_pure ?_
  have e0 : ((items.size : Nat) : Int) - 1 - ((0 : Nat) : Int) = (items.size : Int) - 1 := by omega
  have fin : ∀ (V : Heap) (tk0 c0 : Nat), (∀ b o, b ≠ s.heap.objs.size → U.get? b = some o → V.get? b = some o) → V.get? s.heap.objs.size = some { cls := .type "list", dict := none, data := .seq #[] c0, slots := #[] } →
      codeAny (model prog w) A.in1 (.builtin "list.extend.loop" ⟨[.ref s.heap.objs.size, .ref it, .none], []⟩) (wants (fun r s₂ => r = Value.none ∧ Q (.ref s.heap.objs.size) s₂) E) { s with heap := V, toks := tk0 } := fun V tk0 c0 kV hV => by
    have hit2 : IsRt V it l ((items.size : Int) - 1) := hit1.at fun o e => kV _ _ (Ne.symm hSi) e
    have hl2 : IsTup V l items := by
      obtain ⟨o, ho, r⟩ := hl1
      exact ⟨o, kV _ _ (Ne.symm hSl) ho, r⟩
    refine codeAny_extend_loopS W hn _ hSf _ items.size 0 { s with heap := V, toks := tk0 } #[] c0 rfl (Nat.zero_le _) ⟨Nat.zero_le _, by rw [e0]; exact hit2, hl2⟩ hV (ItemsOf.nil _) fun s' acc' c' hm hS' hacc => ?_
    rw [Moved.eq_with hm]
    refine ⟨rfl, hQ s'.heap s'.toks acc' c' (fun b o hb e => hm.heap b o (fun hmem => ?_) (kV _ _ (Nat.ne_of_lt (Heap.lt_size e)) (keep b o e))) hS' hacc⟩
    rcases List.mem_cons.mp hmem with e' | hmem
    · exact absurd (Heap.lt_size e) (by rw [e']; exact Nat.lt_irrefl _)
    · exact hb (List.mem_singleton.mp hmem)
  by_cases hz0 : items.size = 0
  · have e : (((items.size : Nat) : Int) != 0) = false := by simp [hz0]
    rw [e]
    show wpAny _ _ (if (false || _) = true then _ else again _) _ _ _
    rw [if_neg (by decide +kernel)]
    exact wpAny_pure ⟨plainId_quiet F.plain_extend_loop _, fin U _ _ (fun _ _ _ h => h) hS₂⟩
  · have e : (((items.size : Nat) : Int) != 0) = true := by simp [hz0]
    rw [e]
    show wpAny _ _ (rule "list.extend.makes-room" >>= fun _ => Builtin.List.listTouch (.ref s.heap.objs.size) >>= fun _ =>
      again (.builtin "list.extend.loop" ⟨[.ref s.heap.objs.size, .ref it, .none], []⟩)) _ _ _
    refine wpAny_bind (wpAny_rule ?_)
    refine wpAny_bind ?_
    show wpAny _ _ (updateSeq s.heap.objs.size (·.push .none) >>= fun _ => updateSeq s.heap.objs.size (·.pop)) _ _ _
    obtain ⟨c0, hS2'⟩ : ∃ c0, U.get? s.heap.objs.size = some { cls := .type "list", dict := none, data := .seq #[] c0, slots := #[] } := ⟨_, hS₂⟩
    refine wpAny_bind (wpAny_updateSeq (hz := Nat.zero_le _) (_hz' := by show 1 ≤ sizeLine + 1; omega) hS2' rfl ?_)
    have hS3 := Heap.get?_update_self (Obj.mapSeq (·.push Value.none)) hS2' rfl
    refine wpAny_updateSeq (hz := by show 1 ≤ sizeLine; rw [sizeLine_eq]; omega) (_hz' := Nat.zero_le _) hS3 rfl ?_
    have hS4 := Heap.get?_update_self (Obj.mapSeq (·.pop)) hS3 rfl
    exact wpAny_pure ⟨plainId_quiet F.plain_extend_loop _, fin _ _ _ (fun b o hb e => (Heap.get?_update_other _ _ (Ne.symm hb)).trans ((Heap.get?_update_other _ _ (Ne.symm hb)).trans e)) hS4⟩
end
end RT
namespace DL
open PySem PySem.Spec PyProof.Rows L2
section
variable {X : Cx} {cls : Cls} {W : WX} {K : PySem.W.Frag}
/-- list(reversed(x)), x a list or a tuple -/
def tLstRev2 (K : PySem.W.Frag) (te : TE) : TE := fun σ H Q => te σ H fun v H1 => ∃ (a : Addr) (xs : List V), v = .ref a ∧ (SqL K H1 a xs ∨ SqT K H1 a xs) ∧ ∀ q, H1 q = none → Q (.ref q) (upd H1 q (.lst xs.reverse))
theorem pe_lstRev2 {e : Expr} {te : TE} {p p2 pos pos2 : Pos} (hc : X.calm = true) (hg : Gl X "list") (hm : X.mg "list" = none) (hg2 : Gl X "reversed") (hm2 : X.mg "reversed" = none) (he : PE X e te)
    (hs : starEach [e] X.env = (false, eval e X.env) :: starEach [] X.env := by rfl)
    (hs2 : starEach [.Call (.Name "reversed" p2) [e] [] pos2] X.env = (false, eval (.Call (.Name "reversed" p2) [e] [] pos2) X.env) :: starEach [] X.env := by rfl) :
    PE X (.Call (.Name "list" p) [.Call (.Name "reversed" p2) [e] [] pos2] [] pos) (tLstRev2 X.K te) := by
  refine ⟨fun pins s σ H Q I h => ?_⟩
  refine Call_ (ld_blt I hg hm boot_list (PyProof.Rows.callWith_type1 (args_cons (Call_ (ld_blt I hg2 hm2 PyProof.Rows.boot_reversed (PyProof.Rows.callWith_type1 (args_cons (thn (he.run pins s σ H _ I h) fun u s1 ⟨v, H1, I1, r1, q1⟩ => args_nil ?_) hs) hs rfl))) hs2) hs2 rfl))
  obtain ⟨a, xs, ev, hq, q⟩ := q1
  subst ev
  obtain rfl : u = Value.ref a := r1
  rcases hq with hq | hq
  · obtain ⟨its, rv, p', hz⟩ := I1.list hq
    refine call_reversed_list p'.isList (args_nil ?_)
    have k0 : ∀ b o, s1.heap.get? b = some o → (s1.heap.push (revObj a ((its.toArray.size : Int) - 1))).get? b = some o := fun b o e => Heap.get?_push_of_some _ e
    have I2 : Inv X pins σ H1 { s1 with heap := s1.heap.push (revObj a ((its.toArray.size : Int) - 1)) } := I1.kept (t' := s1.toks) k0
    have hl := p'.isList
    obtain ⟨ol, hol, _⟩ := id hl
    have hne : a ≠ s1.heap.objs.size := Nat.ne_of_lt (Heap.lt_size hol)
    have hn : its.toArray.size ≤ sizeLine := by rw [List.size_toArray, ← rv.length]; exact hz
    refine RT.call_list_rev (s := { s1 with heap := s1.heap.push (revObj a ((its.toArray.size : Int) - 1)) }) (I1.ok.hd hc) ⟨_, Heap.get?_push_size _ rfl, rfl, rfl⟩ (hl.push _) hne hn fun h' tk acc c hk hS hi => ?_
    have hn1 : H1 (s1.heap.push (revObj a ((its.toArray.size : Int) - 1))).objs.size = none := I2.hok.fresh (Nat.le_refl _)
    refine ⟨.ref _, upd H1 (s1.heap.push (revObj a ((its.toArray.size : Int) - 1))).objs.size (.lst xs.reverse), I1.laid (t' := tk) (fun b o e => hk b o (Nat.ne_of_lt (Heap.lt_size e)) (k0 b o e)) (by rw [Heap.size_push]; exact Nat.le_succ _) (show ObjOk X.prog X.w _ _ _ (.lst xs.reverse) from ⟨by rw [List.length_reverse]; exact hz, acc.toList, c, RT.vals_rev rv hi, by rw [Array.toArray_toList]; exact hS⟩), rfl, q _ hn1⟩
  · obtain ⟨its, rv, p', hz⟩ := I1.tuple hq
    have hn : its.toArray.size ≤ sizeLine := by rw [List.size_toArray, ← rv.length]; exact hz
    have hsz := hn
    rw [sizeLine_eq] at hsz
    have hl63 := line63
    have len : ∀ (s : Shared), IsTup s.heap a its.toArray → ∀ (A : Around) (E : Value → Shared → Prop) (Q : Value → Shared → Prop), Q (.int its.toArray.size (s.toks + 1)) { s with toks := s.toks + 1 + 1 } → wpAny (model X.prog X.w) A (call (.builtin "len") [.ref a]) Q E s := fun s ht A E Q k =>
      len_tuple ht (by simp only [List.size_toArray] at hsz ⊢; omega) k
    refine RT.call_reversed_tup p' (len s1 p') (args_nil ?_)
    have k0 : ∀ b o, s1.heap.get? b = some o → (s1.heap.push (RT.rtObj a ((its.toArray.size : Int) - 1))).get? b = some o := fun b o e => Heap.get?_push_of_some _ e
    have I2 : Inv X pins σ H1 { s1 with heap := s1.heap.push (RT.rtObj a ((its.toArray.size : Int) - 1)), toks := s1.toks + 1 + 1 } := I1.kept (t' := s1.toks + 1 + 1) k0
    obtain ⟨ol, hol, hr⟩ := id p'
    have hne : a ≠ s1.heap.objs.size := Nat.ne_of_lt (Heap.lt_size hol)
    have hl2 : IsTup (s1.heap.push (RT.rtObj a ((its.toArray.size : Int) - 1))) a its.toArray := ⟨ol, k0 _ _ hol, hr⟩
    refine RT.call_list_rt (s := { s1 with heap := s1.heap.push (RT.rtObj a ((its.toArray.size : Int) - 1)), toks := s1.toks + 1 + 1 }) (I1.ok.hd hc) ⟨_, Heap.get?_push_size _ rfl, rfl, rfl⟩ hl2 hne hn (by omega) len fun h' tk acc c hk hS hi => ?_
    have hn1 : H1 (s1.heap.push (RT.rtObj a ((its.toArray.size : Int) - 1))).objs.size = none := I2.hok.fresh (Nat.le_refl _)
    refine ⟨.ref _, upd H1 (s1.heap.push (RT.rtObj a ((its.toArray.size : Int) - 1))).objs.size (.lst xs.reverse), I1.laid (t' := tk) (fun b o e => hk b o (Nat.ne_of_lt (Heap.lt_size e)) (k0 b o e)) (by rw [Heap.size_push]; exact Nat.le_succ _) (show ObjOk X.prog X.w _ _ _ (.lst xs.reverse) from ⟨by rw [List.length_reverse]; exact hz, acc.toList, c, RT.vals_rev rv hi, by rw [Array.toArray_toList]; exact hS⟩), rfl, q _ hn1⟩
def lsT (d : D) : Option (List D) := match d with
  | .tp xs => some xs
  | d => lsv d
@[simp] theorem lsT_tp {xs} : lsT (.tp xs) = some xs := rfl
@[simp] theorem lsT_ls {xs} : lsT (.ls xs) = some xs := rfl
@[simp] theorem lsT_bo {xs} (h : shd xs = true) : lsT (.bo xs) = some xs := by simp [lsT, h]
def eLRev2 (fa : Env → Res D) : Env → Res D := fun g => (fa g).bind fun d => match lsT (opd d) with
  | some xs => .ok (.ol xs.reverse)
  | none => .bad
@[simp] theorem eLRev2_ (fa : Env → Res D) (g : Env) : eLRev2 fa g = (fa g).bind fun d => match lsT (opd d) with
  | some xs => .ok (.ol xs.reverse)
  | none => .bad := rfl
theorem je_lrev2 {a : Expr} {p p2 pos q : Pos} {fa : Env → Res D} (c : Cn X W k) (hm : X.mg "list" = none) (hm2 : X.mg "reversed" = none) (ha : JE X cls W a fa)
    (hg : Gl X "list" := by rfl) (hg2 : Gl X "reversed" := by rfl) (na : starEach [a] X.env = (false, eval a X.env) :: starEach [] X.env := by rfl)
    (na2 : starEach [.Call (.Name "reversed" p2) [a] [] q] X.env = (false, eval (.Call (.Name "reversed" p2) [a] [] q) X.env) :: starEach [] X.env := by rfl) :
    JE X cls W (.Call (.Name "list" p) [.Call (.Name "reversed" p2) [a] [] q] [] pos) (eLRev2 fa) := by
  obtain ⟨ta, pa, da⟩ := ha.ex
  refine ⟨_, pe_lstRev2 c.calm hg hm hg2 hm2 pa na na2, ?_⟩
  intro σ F H g O Q s st p
  rw [eLRev2_] at p
  refine da.go s st (fun c e => by rw [e] at p; exact p) (fun e => by rw [e] at p; exact p) fun d e v F1 H1 x1 b1 => ?_
  rw [e] at p
  simp only [Res.bind] at p
  cases eo : lsT (opd d) with
  | none => rw [eo] at p; exact p.elim
  | some xs =>
    rw [eo] at p
    have key : ∃ a vs, v = .ref a ∧ (SqL X.K H1 a vs ∨ SqT X.K H1 a vs) ∧ Rps X.K cls F1 vs xs := by
      cases ed : opd d with
      | tp ys =>
        rw [ed] at eo b1
        cases eo
        obtain ⟨a, vs, e1, h1, h2, r⟩ := b1.tpv x1.fh (xs := xs) rfl
        exact ⟨a, vs, e1, .inr h1, r⟩
      | _ =>
        rw [ed] at eo b1
        have ek : sqK (opd d) = some xs := by
          rw [ed]
          simp [lsT] at eo ⊢ <;> first | exact eo | exact eo.2 | (obtain ⟨e1, e2⟩ := eo; exact ⟨e1, e2⟩)
        rw [ed] at ek
        obtain ⟨a', vs, rfl, h1, r⟩ := b1.sqK x1.fh ek
        exact ⟨a', vs, rfl, .inl h1, r⟩
    obtain ⟨a', vs, rfl, h1, r⟩ := key
    refine ⟨a', vs, rfl, h1, fun q hq => ?_⟩
    exact p (.ref q) _ _ [q] (x1.trans (Ext.own x1.fh hq)) ((fresh_new hq).mono x1.hh) (.inl (ow_new x1.fh hq (Rps.rev r).toOws))
end
end DL
set_option maxHeartbeats 1000000
namespace RT
open PySem PySem.Spec PyProof.Rows
section
variable {prog : Program} {w : World} {A : Around} {E : Value → Shared → Prop} {s : Shared}
theorem collect_rt {it l : Addr} {items : Array Value} {Q : List Value → Shared → Prop} (hh : A.handled = none) (hit : IsRt s.heap it l ((items.size : Int) - 1)) (hl : IsTup s.heap l items) (hne : l ≠ it) (hn : items.size ≤ sizeLine) (hz : (items.size : Int) < 1000000000)
    (hlen : ∀ (s : Shared), IsTup s.heap l items → ∀ (A : Around) (E : Value → Shared → Prop) (Q : Value → Shared → Prop), Q (.int items.size (s.toks + 1)) { s with toks := s.toks + 1 + 1 } → wpAny (model prog w) A (call (.builtin "len") [.ref l]) Q E s)
    (hQ : ∀ (h' : Heap) (tk : Nat) (acc : Array Value), (∀ b o, b ≠ it → s.heap.get? b = some o → h'.get? b = some o) → ItemsOf (fun i v => items[items.size - 1 - i]? = some v) acc items.size → Q acc.toList { s with heap := h', toks := tk }) :
    wpAny (model prog w) A (collect (.ref it)) Q E s := by
  have W := (Walks.tupRev (prog := prog) (w := w) (A := A.in1) hh it l hne items hn).toS
  obtain ⟨oi, hoi, _⟩ := id hit
  obtain ⟨ol, hol, _⟩ := id hl
  have hSi : s.heap.objs.size ≠ it := Nat.ne_of_gt (Heap.lt_size hoi)
  have hSl : s.heap.objs.size ≠ l := Nat.ne_of_gt (Heap.lt_size hol)
  have hSf : s.heap.objs.size ∉ [it, l] := by simp only [List.mem_cons, List.not_mem_nil, or_false, not_or]; exact ⟨hSi, hSl⟩
  unfold collect
  refine wpAny_bind (wpAny_runValue (codeAny_builtin F.entry_proto_collect ?_))
  rw [Around.under_plainId F.plain_proto_collect _]
  show wpAny _ A.in1 (newList [] >>= fun l' => again (.builtin "list.__iadd__" ⟨[l', .ref it], []⟩)) _ _ s
  refine wpAny_bind (wpAny_newObj_type ?_)
  refine wpAny_pure ⟨plainId_quiet F.plain_list_iadd _, codeAny_builtin F.entry_list_iadd ?_⟩
  rw [Around.under_plainId F.plain_list_iadd _]
  have hS₂ : (s.heap.push { cls := .type "list", data := .seq ([] : List Value).toArray }).get? s.heap.objs.size = some { cls := .type "list", data := .seq ([] : List Value).toArray } := Heap.get?_push_size _ rfl
  have keep : ∀ b o, s.heap.get? b = some o → (s.heap.push { cls := .type "list", data := .seq ([] : List Value).toArray }).get? b = some o := fun b o e => Heap.get?_push_of_some _ e
  generalize hU : s.heap.push { cls := .type "list", data := .seq ([] : List Value).toArray } = U at hS₂ keep
  have hit1 : IsRt U it l ((items.size : Int) - 1) := hit.at fun o e => keep _ _ e
  have hl1 : IsTup U l items := by
    obtain ⟨o, ho, r⟩ := hl
    exact ⟨o, keep _ _ ho, r⟩
  have hT : ({ s with heap := U } : Shared).TypeIs (.ref it) "reversed" := IsRt.typeIs (s := { s with heap := U }) hit1
  have h1 : Builtin.List.listSameRef (.ref s.heap.objs.size) (.ref it) = false := by simp [Builtin.List.listSameRef, hSi]
  show wpAny _ A.in1 (Builtin.List.listExtendWith (.ref s.heap.objs.size) (.ref it) (.ref s.heap.objs.size)) _ _ { s with heap := U }
  unfold Builtin.List.listExtendWith
  refine wpAny_bind (wpAny_typeOf hT ?_)
  rw [if_neg (by rw [h1]; decide)]
  refine wpAny_bind (iter_rt (s := { s with heap := U }) hit1 ?_)
  refine wpAny_bind (wpAny_holding ?_)
  unfold Builtin.List.listLengthHint
  refine wpAny_bind (wpAny_specialOf hT nolen_rt ?_)
  show wpAny _ _ (specialOf (Value.ref it) (Str.ofString "__length_hint__") >>= _) _ _ _
  refine wpAny_bind (wpAny_specialOf hT slot_rt_hint.lookup ?_)
  generalize hid : ("reversed.__length_hint__" : String) = id0
  wp_delta
  rw [show splitId id0 = some ("reversed", "__length_hint__") from by subst hid; decide +kernel]
  subst hid
  refine wpAny_bind (wpAny_isInstance (b := true) hT (by rw [isSubtype_type]; kernel_rfl) ?_)
  rw [if_neg (by decide)]
  try dsimp only
  rw [if_neg (by decide +kernel)]
  refine wpAny_bind (wpAny_rule ?_)
  refine wpAny_bind (wpAny_of_eq (slot_rt_hint.bind _) ?_)
  show wpAny _ _ ((call (.builtin "reversed.__length_hint__") [.ref it]).attempt >>= _) _ _ _
  refine wpAny_bind (wpAny_attempt ?_)
  refine call_rt_hint (s := { s with heap := U }) hit1 (hlen { s with heap := U } hl1) fun tk tk' => ?_
  have hA : asInt? (Value.int ((items.size : Nat) : Int) tk) = pure (some ((items.size : Nat) : Int)) := rfl
  have f1 : Builtin.List.listFitsIndex ((items.size : Nat) : Int) = true := fitsIndex_of (by omega) (by omega)
  have f2 : Builtin.List.listTooLong ((items.size : Nat) : Int).toNat = false := L2.notLongL (by simpa using hn)
  generalize hg : Value.int ((items.size : Nat) : Int) tk = vv at hA ⊢
  subst hg
  show wpAny _ _ (asInt? (Value.int ((items.size : Nat) : Int) tk) >>= _) _ _ _
  rw [hA, pure_bind]
  show wpAny _ _ (if (!Builtin.List.listFitsIndex ((items.size : Nat) : Int)) = true then _ else if ((items.size : Nat) : Int) < 0 then _ else if Builtin.List.listTooLong ((items.size : Nat) : Int).toNat = true then _ else pure (((items.size : Nat) : Int) != 0)) _ _ _
  rw [if_neg (by rw [f1]; decide), if_neg (by omega), if_neg (by rw [f2]; decide)]
  refine wpAny_pure ?_
  have e0 : ((items.size : Nat) : Int) - 1 - ((0 : Nat) : Int) = (items.size : Int) - 1 := by omega
  have fin : ∀ (V : Heap) (tk0 c0 : Nat) (R : PySem.Fin → Shared → Prop), (∀ b o, b ≠ s.heap.objs.size → U.get? b = some o → V.get? b = some o) → V.get? s.heap.objs.size = some { cls := .type "list", dict := none, data := .seq #[] c0, slots := #[] } → True := fun _ _ _ _ _ _ => trivial
  by_cases hz0 : items.size = 0
  · have e : (((items.size : Nat) : Int) != 0) = false := by simp [hz0]
    rw [e]
    show wpAny _ _ (if (false || _) = true then _ else again _) _ _ _
    rw [if_neg (by decide +kernel)]
    refine wpAny_pure ⟨plainId_quiet F.plain_extend_loop _, codeAny_extend_loopS W hn _ hSf _ items.size 0 _ _ _ rfl (Nat.zero_le _) ⟨Nat.zero_le _, by rw [e0]; exact hit1, hl1⟩ hS₂ (ItemsOf.nil _) fun s' acc' c' hm hS' hacc => ?_⟩
    show wpAny _ A (load s.heap.objs.size >>= _) _ _ s'
    refine wpAny_bind (wpAny_load hS' ?_)
    refine wpAny_pure ?_
    rw [Moved.eq_with hm]
    refine hQ s'.heap s'.toks acc' (fun b o hb e => hm.heap b o (fun hmem => ?_) (keep _ _ e)) hacc
    rcases List.mem_cons.mp hmem with e' | hmem
    · exact absurd (Heap.lt_size e) (by rw [e']; exact Nat.lt_irrefl _)
    · exact hb (List.mem_singleton.mp hmem)
  · have e : (((items.size : Nat) : Int) != 0) = true := by simp [hz0]
    rw [e]
    show wpAny _ _ (rule "list.extend.makes-room" >>= fun _ => Builtin.List.listTouch (.ref s.heap.objs.size) >>= fun _ =>
      again (.builtin "list.extend.loop" ⟨[.ref s.heap.objs.size, .ref it, .ref s.heap.objs.size], []⟩)) _ _ _
    refine wpAny_bind (wpAny_rule ?_)
    refine wpAny_bind ?_
    show wpAny _ _ (updateSeq s.heap.objs.size (·.push .none) >>= fun _ => updateSeq s.heap.objs.size (·.pop)) _ _ _
    obtain ⟨c0, hS2'⟩ : ∃ c0, U.get? s.heap.objs.size = some { cls := .type "list", dict := none, data := .seq #[] c0, slots := #[] } := ⟨_, hS₂⟩
    refine wpAny_bind (wpAny_updateSeq (hz := Nat.zero_le _) (_hz' := by show 1 ≤ sizeLine + 1; omega) hS2' rfl ?_)
    have hS3 := Heap.get?_update_self (Obj.mapSeq (·.push Value.none)) hS2' rfl
    refine wpAny_updateSeq (hz := by show 1 ≤ sizeLine; rw [sizeLine_eq]; omega) (_hz' := Nat.zero_le _) hS3 rfl ?_
    have hS4 := Heap.get?_update_self (Obj.mapSeq (·.pop)) hS3 rfl
    have kV : ∀ b o, b ≠ s.heap.objs.size → U.get? b = some o → ((U.update s.heap.objs.size (Obj.mapSeq (·.push Value.none))).update s.heap.objs.size (Obj.mapSeq (·.pop))).get? b = some o := fun b o hb e => (Heap.get?_update_other _ _ (Ne.symm hb)).trans ((Heap.get?_update_other _ _ (Ne.symm hb)).trans e)
    have hit2 := hit1.at fun o e => kV _ o (Ne.symm hSi) e
    have hl2 : IsTup ((U.update s.heap.objs.size (Obj.mapSeq (·.push Value.none))).update s.heap.objs.size (Obj.mapSeq (·.pop))) l items := by
      obtain ⟨o, ho, r⟩ := hl1
      exact ⟨o, kV _ _ (Ne.symm hSl) ho, r⟩
    refine wpAny_pure ⟨plainId_quiet F.plain_extend_loop _, codeAny_extend_loopS W hn _ hSf _ items.size 0 _ _ _ rfl (Nat.zero_le _) ⟨Nat.zero_le _, by rw [e0]; exact hit2, hl2⟩ hS4 (ItemsOf.nil _) fun s' acc' c' hm hS' hacc => ?_⟩
    show wpAny _ A (load s.heap.objs.size >>= _) _ _ s'
    refine wpAny_bind (wpAny_load hS' ?_)
    refine wpAny_pure ?_
    rw [Moved.eq_with hm]
    refine hQ s'.heap s'.toks acc' (fun b o hb e => hm.heap b o (fun hmem => ?_) (kV _ _ (Nat.ne_of_lt (Heap.lt_size e)) (keep _ _ e))) hacc
    rcases List.mem_cons.mp hmem with e' | hmem
    · exact absurd (Heap.lt_size e) (by rw [e']; exact Nat.lt_irrefl _)
    · exact hb (List.mem_singleton.mp hmem)
theorem code_tuple_new_rt {it l : Addr} {items : Array Value} {Q₁ : Value → Shared → Prop} (hh : A.handled = none) (hit : IsRt s.heap it l ((items.size : Int) - 1)) (hl : IsTup s.heap l items) (hne : l ≠ it) (hn : items.size ≤ sizeLine) (hz : (items.size : Int) < 1000000000)
    (hlen : ∀ (s : Shared), IsTup s.heap l items → ∀ (A : Around) (E : Value → Shared → Prop) (Q : Value → Shared → Prop), Q (.int items.size (s.toks + 1)) { s with toks := s.toks + 1 + 1 } → wpAny (model prog w) A (call (.builtin "len") [.ref l]) Q E s)
    (h : ∀ (h' : Heap) (tk : Nat) (acc : Array Value), (∀ b o, b ≠ it → s.heap.get? b = some o → h'.get? b = some o) → ItemsOf (fun i v => items[items.size - 1 - i]? = some v) acc items.size →
      Q₁ (.ref h'.objs.size) { s with heap := h'.push { cls := .type "tuple", data := .seq acc }, toks := tk }) :
    codeAny (model prog w) A (.call (.builtin "tuple.__new__") ⟨[.type "tuple", .ref it], []⟩) (wants Q₁ E) s := by
  refine codeAny_of_tree ?_
  show wpAny _ A.in1 (do checkBuiltinCall "tuple.__new__" ⟨[.type "tuple", .ref it], []⟩; again (.builtin "tuple.__new__" ⟨[.type "tuple", .ref it], []⟩)) _ _ s
  refine wpAny_bind (wpAny_of_eq (F.newCall_tuple_1 _) (wpAny_pure ⟨plainId_quiet F.plain_tuple_new _, codeAny_builtin F.entry_tuple_new ?_⟩))
  rw [Around.under_plainId F.plain_tuple_new _]
  have hsub := sub_tuple_self
  have hinit := init_tuple_lookup
  have hmh := madeHere_tuple
  have hTI : s.TypeIs (.ref it) "reversed" := hit.typeIs
  have hh1 : A.in1.handled = none := hh
  wp_walk using wpAny_typeOf hTI, collect_rt (A := A.in1) hh1 hit hl hne hn hz hlen
  intro h' tk acc hk hacc
  show wpAny _ _ (Builtin.Tuple.tupleExact acc.toList.toArray >>= fun v => ret v) _ _ _
  unfold Builtin.Tuple.tupleExact
  refine wpAny_bind (wpAny_newObj_type ?_ (by show acc.toList.toArray.size ≤ sizeLine; simp only [Array.toArray_toList]; rw [hacc.1]; exact hn))
  refine wpAny_pure ?_
  have e : acc.toList.toArray = acc := by simp
  rw [e]
  exact h h' tk acc hk hacc
theorem call_tuple_rt {it l : Addr} {items : Array Value} {Q : Value → Shared → Prop} (hh : A.handled = none) (hit : IsRt s.heap it l ((items.size : Int) - 1)) (hl : IsTup s.heap l items) (hne : l ≠ it) (hn : items.size ≤ sizeLine) (hz : (items.size : Int) < 1000000000)
    (hlen : ∀ (s : Shared), IsTup s.heap l items → ∀ (A : Around) (E : Value → Shared → Prop) (Q : Value → Shared → Prop), Q (.int items.size (s.toks + 1)) { s with toks := s.toks + 1 + 1 } → wpAny (model prog w) A (call (.builtin "len") [.ref l]) Q E s)
    (hQ : ∀ (h' : Heap) (tk : Nat) (acc : Array Value), (∀ b o, b ≠ it → s.heap.get? b = some o → h'.get? b = some o) → ItemsOf (fun i v => items[items.size - 1 - i]? = some v) acc items.size →
      Q (.ref h'.objs.size) { s with heap := h'.push { cls := .type "tuple", data := .seq acc }, toks := tk }) :
    wpAny (model prog w) A (call (.type "tuple") [.ref it]) Q E s := by
  refine callType_codes (Q₁ := fun obj s₁ => s₁.TypeIs obj "tuple" ∧ Q obj s₁) F.called_tuple (F.typeCall_tuple_1 _) F.entry_object_init
    (code_tuple_new_rt (A := A.in1) hh hit hl hne hn hz hlen fun h' tk acc hk hacc => ⟨⟨_, Heap.get?_push_size _ rfl, rfl⟩, hQ h' tk acc hk hacc⟩) fun obj s₁ h₁ => ?_
  exact ⟨h₁.1, F.args_object_init_2 obj _, object_init_meets F.called_tuple.init.lookup F.called_tuple.made (by decide) prog w A.in1 _ s₁ ⟨h₁.1, rfl, h₁.2⟩⟩
end
end RT
namespace DL
open PySem PySem.Spec PyProof.Rows L2
section
variable {X : Cx} {cls : Cls} {W : WX} {K : PySem.W.Frag}
/-- tuple(reversed(x)), x a list or a tuple -/
def tTupRev2 (K : PySem.W.Frag) (te : TE) : TE := fun σ H Q => te σ H fun v H1 => ∃ (a : Addr) (xs : List V), v = .ref a ∧ (SqL K H1 a xs ∨ SqT K H1 a xs) ∧ ∀ q, H1 q = none → Q (.ref q) (upd H1 q (.tup xs.reverse))
theorem pe_tupRev2 {e : Expr} {te : TE} {p p2 pos pos2 : Pos} (hc : X.calm = true) (hg : Gl X "tuple") (hm : X.mg "tuple" = none) (hg2 : Gl X "reversed") (hm2 : X.mg "reversed" = none) (he : PE X e te)
    (hs : starEach [e] X.env = (false, eval e X.env) :: starEach [] X.env := by rfl)
    (hs2 : starEach [.Call (.Name "reversed" p2) [e] [] pos2] X.env = (false, eval (.Call (.Name "reversed" p2) [e] [] pos2) X.env) :: starEach [] X.env := by rfl) :
    PE X (.Call (.Name "tuple" p) [.Call (.Name "reversed" p2) [e] [] pos2] [] pos) (tTupRev2 X.K te) := by
  refine ⟨fun pins s σ H Q I h => ?_⟩
  refine Call_ (ld_blt I hg hm boot_tuple (PyProof.Rows.callWith_type1 (args_cons (Call_ (ld_blt I hg2 hm2 PyProof.Rows.boot_reversed (PyProof.Rows.callWith_type1 (args_cons (thn (he.run pins s σ H _ I h) fun u s1 ⟨v, H1, I1, r1, q1⟩ => args_nil ?_) hs) hs rfl))) hs2) hs2 rfl))
  obtain ⟨a, xs, ev, hq, q⟩ := q1
  subst ev
  obtain rfl : u = Value.ref a := r1
  obtain ⟨f0, f1, f2, f3, f4, f5⟩ := I1.fpOk (H' := H1) (b := s1.heap.objs.size) (Nat.le_refl _) (I1.hok.fresh (Nat.le_refl _))
  rcases hq with hq | hq
  · obtain ⟨its, rv, p', hz⟩ := I1.list hq
    refine call_reversed_list p'.isList (args_nil ?_)
    have k0 : ∀ b o, s1.heap.get? b = some o → (s1.heap.push (revObj a ((its.toArray.size : Int) - 1))).get? b = some o := fun b o e => Heap.get?_push_of_some _ e
    have I2 : Inv X pins σ H1 { s1 with heap := s1.heap.push (revObj a ((its.toArray.size : Int) - 1)) } := I1.kept (t' := s1.toks) k0
    have hl := p'.isList
    obtain ⟨ol, hol, _⟩ := id hl
    have hne : a ≠ s1.heap.objs.size := Nat.ne_of_lt (Heap.lt_size hol)
    have hn : its.toArray.size ≤ sizeLine := by rw [List.size_toArray, ← rv.length]; exact hz
    refine RT.call_tuple_rev (s := { s1 with heap := s1.heap.push (revObj a ((its.toArray.size : Int) - 1)) }) (I1.ok.hd hc) ⟨_, Heap.get?_push_size _ rfl, rfl, rfl⟩ (hl.push _) hne hn fun h' tk acc hk hi => ?_
    have I3 : Inv X pins σ H1 { s1 with heap := h', toks := tk } := I2.turned (t' := tk) (fun b o hb e => hk b o hb e) f0 f1 f3 f4 f5
    refine ⟨.ref h'.objs.size, upd H1 h'.objs.size (.tup xs.reverse), I3.laid (t' := tk) (fun c o e => Heap.get?_push_of_some _ e) (Nat.le_refl _) (show ObjOk X.prog X.w _ _ _ (.tup xs.reverse) from ⟨by rw [List.length_reverse]; exact hz, acc.toList, RT.vals_rev rv hi, ?_⟩), rfl, q _ (I3.hok.fresh (Nat.le_refl _))⟩
    rw [Array.toArray_toList]
    exact IsTup.new _ _
  · obtain ⟨its, rv, p', hz⟩ := I1.tuple hq
    have hn : its.toArray.size ≤ sizeLine := by rw [List.size_toArray, ← rv.length]; exact hz
    have hsz := hn
    rw [sizeLine_eq] at hsz
    have hl63 := line63
    have len : ∀ (s : Shared), IsTup s.heap a its.toArray → ∀ (A : Around) (E : Value → Shared → Prop) (Q : Value → Shared → Prop), Q (.int its.toArray.size (s.toks + 1)) { s with toks := s.toks + 1 + 1 } → wpAny (model X.prog X.w) A (call (.builtin "len") [.ref a]) Q E s := fun s ht A E Q k =>
      len_tuple ht (by simp only [List.size_toArray] at hsz ⊢; omega) k
    refine RT.call_reversed_tup p' (len s1 p') (args_nil ?_)
    have k0 : ∀ b o, s1.heap.get? b = some o → (s1.heap.push (RT.rtObj a ((its.toArray.size : Int) - 1))).get? b = some o := fun b o e => Heap.get?_push_of_some _ e
    have I2 : Inv X pins σ H1 { s1 with heap := s1.heap.push (RT.rtObj a ((its.toArray.size : Int) - 1)), toks := s1.toks + 1 + 1 } := I1.kept (t' := s1.toks + 1 + 1) k0
    obtain ⟨ol, hol, hr⟩ := id p'
    have hne : a ≠ s1.heap.objs.size := Nat.ne_of_lt (Heap.lt_size hol)
    have hl2 : IsTup (s1.heap.push (RT.rtObj a ((its.toArray.size : Int) - 1))) a its.toArray := ⟨ol, k0 _ _ hol, hr⟩
    refine RT.call_tuple_rt (s := { s1 with heap := s1.heap.push (RT.rtObj a ((its.toArray.size : Int) - 1)), toks := s1.toks + 1 + 1 }) (I1.ok.hd hc) ⟨_, Heap.get?_push_size _ rfl, rfl, rfl⟩ hl2 hne hn (by omega) len fun h' tk acc hk hi => ?_
    have I3 : Inv X pins σ H1 { s1 with heap := h', toks := tk } := I2.turned (t' := tk) (fun b o hb e => hk b o hb e) f0 f1 f3 f4 f5
    refine ⟨.ref h'.objs.size, upd H1 h'.objs.size (.tup xs.reverse), I3.laid (t' := tk) (fun c o e => Heap.get?_push_of_some _ e) (Nat.le_refl _) (show ObjOk X.prog X.w _ _ _ (.tup xs.reverse) from ⟨by rw [List.length_reverse]; exact hz, acc.toList, RT.vals_rev rv hi, ?_⟩), rfl, q _ (I3.hok.fresh (Nat.le_refl _))⟩
    rw [Array.toArray_toList]
    exact IsTup.new _ _
theorem Bo.lsT {v : V} {d : D} {F H : Hp} {xs : List D} (s : Same F H) (b1 : Bo K cls F H v d) (eo : lsT d = some xs) : ∃ a vs, v = .ref a ∧ (SqL K H a vs ∨ SqT K H a vs) ∧ Rps K cls F vs xs := by
  cases d with
  | tp ys =>
    cases eo
    obtain ⟨a, vs, e1, h1, h2, r⟩ := b1.tpv s (xs := xs) rfl
    exact ⟨a, vs, e1, .inr h1, r⟩
  | ls ys =>
    obtain ⟨a', vs, rfl, h1, r⟩ := b1.sqK s (xs := xs) (by simpa [DL.lsT] using eo)
    exact ⟨a', vs, rfl, .inl h1, r⟩
  | bo ys =>
    obtain ⟨a', vs, rfl, h1, r⟩ := b1.sqK s (xs := xs) (by simp [DL.lsT] at eo ⊢; first | exact eo | (obtain ⟨e1, e2⟩ := eo; exact ⟨e1, e2⟩))
    exact ⟨a', vs, rfl, .inl h1, r⟩
  | _ => simp [DL.lsT] at eo
def eTRev2 (fa : Env → Res D) : Env → Res D := fun g => (fa g).bind fun d => match lsT (opd d) with
  | some xs => .ok (.tp xs.reverse)
  | none => .bad
@[simp] theorem eTRev2_ (fa : Env → Res D) (g : Env) : eTRev2 fa g = (fa g).bind fun d => match lsT (opd d) with
  | some xs => .ok (.tp xs.reverse)
  | none => .bad := rfl
theorem je_trev2 {a : Expr} {p p2 pos q : Pos} {fa : Env → Res D} (c : Cn X W k) (hm : X.mg "tuple" = none) (hm2 : X.mg "reversed" = none) (ha : JE X cls W a fa)
    (hg : Gl X "tuple" := by rfl) (hg2 : Gl X "reversed" := by rfl) (na : starEach [a] X.env = (false, eval a X.env) :: starEach [] X.env := by rfl)
    (na2 : starEach [.Call (.Name "reversed" p2) [a] [] q] X.env = (false, eval (.Call (.Name "reversed" p2) [a] [] q) X.env) :: starEach [] X.env := by rfl) :
    JE X cls W (.Call (.Name "tuple" p) [.Call (.Name "reversed" p2) [a] [] q] [] pos) (eTRev2 fa) := by
  obtain ⟨ta, pa, da⟩ := ha.ex
  refine ⟨_, pe_tupRev2 c.calm hg hm hg2 hm2 pa na na2, ?_⟩
  intro σ F H g O Q s st p
  rw [eTRev2_] at p
  refine da.go s st (fun c e => by rw [e] at p; exact p) (fun e => by rw [e] at p; exact p) fun d e v F1 H1 x1 b1 => ?_
  rw [e] at p
  simp only [Res.bind] at p
  cases eo : DL.lsT (opd d) with
  | none => rw [eo] at p; exact p.elim
  | some xs =>
    rw [eo] at p
    obtain ⟨a', vs, rfl, h1, r⟩ := b1.lsT x1.fh eo
    refine ⟨a', vs, rfl, h1, fun q hq => ?_⟩
    exact p (.ref q) _ _ [] (x1.trans (Ext.put x1.fh hq)) Fresh.nil (.inl (.sh (.tp (SqT.of upd_same) ((Rps.rev r).mono (Ext.put x1.fh hq).ff))))
end
end DL
namespace DL
open PySem PySem.Spec PyProof.Rows L2
section
variable {X : Cx} {cls : Cls} {W : WX} {K : PySem.W.Frag} {F H F' H' : Hp} {O : List Addr}
/-- tuple(range(e)) -/
def eTR1 (fa : Env → Res D) : Env → Res D := fun g => (fa g).bind fun d => match opd d with
  | .int n => if rgOk n ∧ n ≤ 1000000 then .ok (.tp (rng 0 n.toNat)) else .bad
  | _ => .bad
@[simp] theorem eTR1_ (fa : Env → Res D) (g : Env) : eTR1 fa g = (fa g).bind fun d => match opd d with
  | .int n => if rgOk n ∧ n ≤ 1000000 then .ok (.tp (rng 0 n.toNat)) else .bad
  | _ => .bad := rfl
theorem je_tr1 {a : Expr} {p p2 pos q : Pos} {fa : Env → Res D} (c : Cn X W k) (hm : X.mg "tuple" = none) (hm2 : X.mg "range" = none) (ha : JE X cls W a fa)
    (hg : Gl X "tuple" := by rfl) (hg2 : Gl X "range" := by rfl) (na : starEach [a] X.env = (false, eval a X.env) :: starEach [] X.env := by rfl)
    (na2 : starEach [.Call (.Name "range" p2) [a] [] q] X.env = (false, eval (.Call (.Name "range" p2) [a] [] q) X.env) :: starEach [] X.env := by rfl) :
    JE X cls W (.Call (.Name "tuple" p) [.Call (.Name "range" p2) [a] [] q] [] pos) (eTR1 fa) := by
  obtain ⟨ta, pa, da⟩ := ha.ex
  refine ⟨_, pe_tupRg c.calm hg hm (prg_1 hg2 hm2 pa na) na2, ?_⟩
  intro σ F H g O Q s st p
  unfold eTR1 at p
  refine da.go s st (fun c e => by rw [e] at p; exact p) (fun e => by rw [e] at p; exact p) fun d e v F1 H1 x1 b1 => ?_
  rw [e] at p
  simp only [Res.bind] at p
  cases eo : opd d with
  | int n =>
    rw [eo] at p b1
    simp only at p
    split at p
    · rename_i hn
      obtain rfl := b1.int
      refine ⟨n, rfl, ⟨by omega, by omega, hn.1.lo, hn.1.hi, by omega⟩, fun q hq => ?_⟩
      · refine p (.ref q) _ _ [] (x1.trans (Ext.put x1.fh hq)) Fresh.nil (.inl (.sh (.tp (SqT.of upd_same) ?_)))
        rw [rgV_ints, rng_map]
        rw [show (n - 0).toNat = n.toNat by omega]
        exact rps_ints
    · exact p.elim
  | _ => rw [eo] at p; exact p.elim
/-- i >> j, i & 1 -/
def opShr : D → D → Option D
  | .int i, .int j => if 0 ≤ j then some (.int (i / 2 ^ j.toNat)) else none
  | _, _ => none
theorem ok_shr : R2Ok K cls (rI (fun _ j => 0 ≤ j) fun i j => .int (i / 2 ^ j.toNat)) opShr := by
  intro F H x y a b d Q s b1 b2 e q
  unfold opShr at e
  split at e
  · rename_i i j
    split at e
    · rename_i h
      cases e
      obtain rfl := b1.int
      obtain rfl := b2.int
      exact ⟨i, j, rfl, rfl, h, pi1 s (.int _) q⟩
    · cases e
  · cases e
def opAnd : D → D → Option D
  | .int i, .int j => if j = 1 then some (.int (i % 2)) else none
  | _, _ => none
theorem ok_and : R2Ok K cls (fun x y H Q => ∃ (i : Int) (k : Nat), x = .int i ∧ y = .int (2 ^ k - 1) ∧ Q (.int (i % 2 ^ k)) H) opAnd := by
  intro F H x y a b d Q s b1 b2 e q
  unfold opAnd at e
  split at e
  · rename_i i j
    split at e
    · rename_i h
      subst h
      cases e
      obtain rfl := b1.int
      obtain rfl := b2.int
      exact ⟨i, 1, rfl, rfl, pi1 s (.int _) q⟩
    · cases e
  · cases e
@[simp] theorem opShr_int {i j : Int} (h : 0 ≤ j) : opShr (.int i) (.int j) = some (.int (i / 2 ^ j.toNat)) := if_pos h
@[simp] theorem opAnd_int {i : Int} : opAnd (.int i) (.int 1) = some (.int (i % 2)) := rfl
theorem Ows.appendR : ∀ {vs ws : List V} {xs ys : List D} {O : List Addr}, Ows K cls F H vs xs O → Rps K cls F ws ys → Ows K cls F H (vs ++ ws) (xs ++ ys) O
  | _, _, _, _, _, .nil, r => r.toOws
  | _, _, _, _, _, .cons h r dj e, r2 => .cons h (Ows.appendR r r2) dj e
end
section
variable {K : PySem.W.Frag} {cls : Cls} {W : WX} {X : Cx} {F H F' H' F1 H1 : Hp} {O O1 : List Addr} {Q : VK} {a b e : Expr} {es : List Expr} {fa fb fc : Env → Res D} {pos : Pos}
/-- x.extend(e) -/
def sExt (i : Nat) (fa : Env → Res D) : Env → Out := fun g => match g[i]? with
  | some (.ol xs) => (fa g).st g fun d => match lsv (opd d) with
    | some ys => if xs.length + ys.length ≤ lim then .nx (g.set i (.ol (xs ++ ys))) else .bad
    | none => .bad
  | _ => .bad
@[simp] theorem sExt_ (i : Nat) (fa : Env → Res D) (g : Env) : sExt i fa g = match g[i]? with
  | some (.ol xs) => (fa g).st g fun d => match lsv (opd d) with
    | some ys => if xs.length + ys.length ≤ lim then .nx (g.set i (.ol (xs ++ ys))) else .bad
    | none => .bad
  | _ => .bad := rfl
theorem js_ext {i : Nat} {x : Str} {npos apos cpos : Pos} (hN : X.N[i]? = some x) (hv : Vis X.env.scope x) (ha : JE X cls W a fa) (hd : (x == ("__debug__" : Str)) = false := by decide) (hcd : (x == ("__classdict__" : Str)) = false := by decide)
    (hbase : attributeBase (.Name x npos) "extend" X.env (eval (.Name x npos) X.env) = eval (.Name x npos) X.env := by rfl)
    (hfew : ((backTo cpos (starEach (a :: []) X.env)).all (fun x => !x.1) && (backToKw cpos (keywordEach [] X.env)).all (fun x => x.1.isSome)
      && decide ((a :: []).length + ([] : List Keyword).length + (if ([] : List Keyword).isEmpty then 0 else 1) < 30)) = true := by rfl)
    (hline : (apos.endLine == cpos.line) = true := by rfl) (hs : starEach (a :: []) X.env = (false, eval a X.env) :: starEach [] X.env := by rfl) (hplain : (backTo cpos (starEach [] X.env)).any (·.1) = false := by rfl)
    (hsw : swapsWith (.Call (.Attribute (.Name x npos) "extend" apos) [a] [] cpos) none pos.line X.env = pure false := by rfl) :
    JS X cls W (.Expr (.Call (.Attribute (.Name x npos) "extend" apos) [a] [] cpos) pos) (sExt i fa) := by
  obtain ⟨t, p, d⟩ := ha.ex
  refine ⟨_, ps_expr (pe_bm PySem.F.plainAttrs_list PySem.F.slot_list_extend PySem.F.type_list_extend mt_extend (pe_var hN hv hd hcd) (pa_cons p pa_nil hs) hbase hfew hline hs hplain) hsw, ?_⟩
  intro D σ F H g O s st p
  rw [sExt_] at p
  split at p
  · rename_i xs eg
    obtain ⟨q, vs, O1, h1, h2, h2', h3, h4, h5, h6, h7⟩ := st.lst eg
    refine ⟨.ref q, h1, .inl ⟨rfl, vs, SqL.of h2⟩, ?_⟩
    refine d.go s st (fun c e F' H' y => by rw [e] at p; exact p σ F' H' O (y.sext fun a h => .inl h) (st.ext y)) (fun e => by rw [e] at p; exact p) fun dd e v F1 H1 x b => ?_
    rw [e, Res.st_ok] at p
    split at p
    · rename_i ys el
      split at p
      · rename_i hl
        obtain ⟨bb, zs, rfl, k1, k2⟩ := b.lsv x.fh el
        refine ⟨q, bb, vs, zs, rfl, rfl, x.hh _ _ h2, k1, by rw [h4.len, k2.len]; exact lim_ok hl, ?_⟩
        obtain ⟨O'', z1, z2⟩ := h7 F1 H1 (vs ++ zs) (xs ++ ys) O1 x ((h4.ext x).appendR k2) h3 (fun a z => .inl z)
        exact p σ F1 _ O'' z2 z1
      · exact p.elim
    · exact p.elim
  · exact p.elim
end
end DL
/-! min of a list of data (tuples, nested) -/
namespace DL
open PySem PySem.Spec PyProof.Rows L2 TL PySem.W
section
variable {K : PySem.W.Frag} {cls : Cls} {X : Cx} {F H F' H' F1 H1 : Hp} {O O1 : List Addr} {Q : VK}
def rMinD (K : PySem.W.Frag) : List V → Hp → VK → Prop := fun vs H Q => ∃ (a : Addr) (xs : List V) (p : PyData) (ps : List PyData), vs = [V.ref a] ∧ SqL K H a xs ∧ DpAll K H xs (p :: ps) ∧ AlikeAll (p :: ps) ∧ PyData.depthAll (p :: ps) ≤ 60 ∧
  ∀ (i : Nat) y q, xs[i]? = some y → (p :: ps)[i]? = some q → q = minD p ps → Q y H
theorem vals_at : ∀ {xs : List V} {us : List Value}, Vals xs us → ∀ (i : Nat) (u : Value), us[i]? = some u → ∃ x, xs[i]? = some x ∧ RelV x u
  | _, _, .nil, i, u, h => by simp at h
  | _, _, .cons r rs, 0, u, h => by simp at h; subst h; exact ⟨_, rfl, r⟩
  | _, _, .cons r rs, i + 1, u, h => by
    obtain ⟨x, h1, h2⟩ := vals_at rs i u (by simpa using h)
    exact ⟨x, by simpa using h1, h2⟩
theorem readsAll_one {h : Heap} : ∀ {us : List Value} {ps : List PyData} {as : List Addr}, ReadsAll h us ps as → ∀ (i : Nat) (u : Value), us[i]? = some u → ∃ q bs, ps[i]? = some q ∧ Reads h u q bs
  | _, _, _, .nil, i, u, e => by simp at e
  | _, _, _, .cons r rs, 0, u, e => by simp at e; subst e; exact ⟨_, _, rfl, r⟩
  | _, _, _, .cons r rs, i + 1, u, e => by
    obtain ⟨q, bs, h1, h2⟩ := readsAll_one rs i u (by simpa using e)
    exact ⟨q, bs, by simpa using h1, h2⟩
theorem minD_mem : ∀ (ps : List PyData) (p : PyData), minD p ps ∈ p :: ps
  | [], p => List.mem_cons_self ..
  | q :: ps, p => by
    have h : minD p (q :: ps) = minD (if dataLt q p then q else p) ps := rfl
    rw [h]
    have := minD_mem ps (if dataLt q p then q else p)
    rcases List.mem_cons.mp this with e | e
    · rw [e]
      split <;> simp
    · exact List.mem_cons_of_mem _ (List.mem_cons_of_mem _ e)
theorem cr_minD (hc : X.calm = true) (hu : X.A.units + 65 < cLine) : CallR X (.builtin "min") (rMinD X.K) := by
  intro pins s σ H vs us Q I r h
  obtain ⟨a, xs, p, ps, rfl, hs, hd, ha, hdp, q⟩ := h
  obtain ⟨its, rv, hl, hz⟩ := I.list hs
  obtain ⟨u, rfl, ru⟩ := vals1 r
  obtain rfl : u = Value.ref a := ru
  obtain ⟨as, hr⟩ := Dp.readsAll I (p :: ps) xs its hd rv
  refine min_list_data (vs := its.toArray) (I.ok.hd hc) hl.isList (by simpa using hr) ha (by omega) fun i v h' tk bs hv hrd hk => ?_
  have hv' : its[i]? = some v := by simpa using hv
  obtain ⟨x, hx, rx⟩ := vals_at rv i v hv'
  obtain ⟨e, bs', he, hre⟩ := readsAll_one hr i v hv'
  have em : e ∈ p :: ps := List.mem_of_getElem? he
  have eq : e = minD p ps := alike_unique _ _ _ _ _ (ha.1 _ em _ (minD_mem ps p)) (Reads.keeps hk hre) hrd
  exact ⟨x, H, I.kept hk, rx, q i x e hx he eq⟩
def rMin3 (K : PySem.W.Frag) : List V → Hp → VK → Prop := fun vs H Q => rMin K vs H Q ∨ rMinD K vs H Q
theorem cr_min3 (hc : X.calm = true) (hu : X.A.units + 65 < cLine) : CallR X (.builtin "min") (rMin3 X.K) := by
  intro pins s σ H vs us Q I r h
  rcases h with h | h
  · exact cr_min hc pins s σ H vs us Q I r h
  · exact cr_minD hc hu pins s σ H vs us Q I r h
mutual
/-- texts, numbers, truth values, and tuples of these -/
def flt : D → Bool
  | .int _ => true
  | .bl _ => true
  | .str _ => true
  | .tp xs => flts xs
  | _ => false
def flts : List D → Bool
  | [] => true
  | d :: ds => flt d && flts ds
end
mutual
theorem flt_inj : ∀ {a b : D} {p : PyData}, flt a = true → flt b = true → toPy a = some p → toPy b = some p → a = b
  | .int _, b, p, _, h2, h3, h4 => by
    simp [toPy] at h3; subst h3
    cases b <;> simp [toPy, flt] at h2 h4 ⊢ <;> first | exact h4.symm | (obtain ⟨_, _, h⟩ := h4; cases h)
  | .bl _, b, p, _, h2, h3, h4 => by
    simp [toPy] at h3; subst h3
    cases b <;> simp [toPy, flt] at h2 h4 ⊢ <;> first | exact h4.symm | (obtain ⟨_, _, h⟩ := h4; cases h)
  | .str _, b, p, _, h2, h3, h4 => by
    simp [toPy] at h3; subst h3
    cases b <;> simp [toPy, flt] at h2 h4 ⊢ <;> first | exact h4.symm | (obtain ⟨_, _, h⟩ := h4; cases h)
  | .tp xs, b, p, h1, h2, h3, h4 => by
    simp [toPy] at h3
    obtain ⟨ps, k1, rfl⟩ := h3
    match b, h2, h4 with
    | .tp ys, h2, h4 =>
      simp [toPy] at h4
      rw [flts_inj (by simpa [flt] using h1) (by simpa [flt] using h2) k1 h4]
    | .int _, _, h4 => simp [toPy] at h4
    | .bl _, _, h4 => simp [toPy] at h4
    | .str _, _, h4 => simp [toPy] at h4
  | .non, _, _, h1, _, _, _ => by simp [flt] at h1
  | .un, _, _, h1, _, _, _ => by simp [flt] at h1
  | .sc _, _, _, h1, _, _, _ => by simp [flt] at h1
  | .ls _, _, _, h1, _, _, _ => by simp [flt] at h1
  | .ob _ _, _, _, h1, _, _, _ => by simp [flt] at h1
  | .ol _, _, _, h1, _, _, _ => by simp [flt] at h1
  | .bo _, _, _, h1, _, _, _ => by simp [flt] at h1
  | .od _ _, _, _, h1, _, _, _ => by simp [flt] at h1
  | .bd _ _, _, _, h1, _, _, _ => by simp [flt] at h1
  | .oo _ _ _, _, _, h1, _, _, _ => by simp [flt] at h1
  | .bb _ _, _, _, h1, _, _, _ => by simp [flt] at h1
  | .rf _, _, _, h1, _, _, _ => by simp [flt] at h1
theorem flts_inj : ∀ {a b : List D} {p : List PyData}, flts a = true → flts b = true → toPys a = some p → toPys b = some p → a = b
  | [], b, p, _, h2, h3, h4 => by
    simp [toPys] at h3; subst h3
    cases b with
    | nil => rfl
    | cons d ds =>
      unfold toPys at h4
      cases q1 : toPy d <;> cases q2 : toPys ds <;> rw [q1, q2] at h4 <;> cases h4
  | a :: as, b, p, h1, h2, h3, h4 => by
    simp [flts] at h1
    unfold toPys at h3
    cases q1 : toPy a with
    | none => rw [q1] at h3; cases h3
    | some p1 =>
      cases q2 : toPys as with
      | none => rw [q1, q2] at h3; cases h3
      | some p2 =>
        rw [q1, q2] at h3
        cases h3
        cases b with
        | nil => simp [toPys] at h4
        | cons d ds =>
          simp [flts] at h2
          unfold toPys at h4
          cases r1 : toPy d with
          | none => rw [r1] at h4; cases h4
          | some p3 =>
            cases r2 : toPys ds with
            | none => rw [r1, r2] at h4; cases h4
            | some p4 =>
              rw [r1, r2] at h4
              cases h4
              rw [flt_inj h1.1 h2.1 q1 r1, flts_inj h1.2 h2.2 q2 r2]
end
theorem flt_some : ∀ {a : D} {p : PyData}, flt a = true → toPy a = some p → p ≠ .none
  | a, p, h, e, z => by
    subst z
    cases a <;> simp [flt, toPy] at h e
theorem toPys_get : ∀ {ds : List D} {ps : List PyData}, toPys ds = some ps → ∀ (i : Nat) (d : D), ds[i]? = some d → ∃ p, ps[i]? = some p ∧ toPy d = some p
  | [], _, _, i, d, h => by simp at h
  | a :: as, ps, h, i, d, e => by
    unfold toPys at h
    cases q1 : toPy a with
    | none => rw [q1] at h; cases h
    | some p1 =>
      cases q2 : toPys as with
      | none => rw [q1, q2] at h; cases h
      | some p2 =>
        rw [q1, q2] at h
        cases h
        cases i with
        | zero => simp at e; subst e; exact ⟨_, rfl, q1⟩
        | succ i =>
          obtain ⟨p, h1, h2⟩ := toPys_get q2 i d (by simpa using e)
          exact ⟨p, by simpa using h1, h2⟩
theorem flts_mem : ∀ {ds : List D}, flts ds = true → ∀ d ∈ ds, flt d = true
  | [], _, d, h => by simp at h
  | a :: as, h, d, hd => by
    simp [flts] at h
    rcases List.mem_cons.mp hd with rfl | hd
    · exact h.1
    · exact flts_mem h.2 d hd
def mfold : D → PyData → List D → List PyData → D
  | d, p, e :: ds, q :: ps => if dataLt q p = true then mfold e q ds ps else mfold d p ds ps
  | d, _, _, _ => d
theorem mfold_spec : ∀ (ds : List D) (ps : List PyData) (d : D) (p : PyData), toPy d = some p → toPys ds = some ps → mfold d p ds ps ∈ d :: ds ∧ toPy (mfold d p ds ps) = some (minD p ps)
  | [], ps, d, p, h1, h2 => by
    simp [toPys] at h2; subst h2
    exact ⟨List.mem_cons_self .., h1⟩
  | e :: ds, ps, d, p, h1, h2 => by
    unfold toPys at h2
    cases q1 : toPy e with
    | none => rw [q1] at h2; cases h2
    | some q =>
      cases q2 : toPys ds with
      | none => rw [q1, q2] at h2; cases h2
      | some ps2 =>
        rw [q1, q2] at h2
        cases h2
        have hm : minD p (q :: ps2) = minD (if dataLt q p = true then q else p) ps2 := rfl
        rw [hm]
        unfold mfold
        split
        · obtain ⟨k1, k2⟩ := mfold_spec ds ps2 e q q1 q2
          exact ⟨List.mem_cons_of_mem _ k1, k2⟩
        · obtain ⟨k1, k2⟩ := mfold_spec ds ps2 d p h1 q2
          refine ⟨?_, k2⟩
          rcases List.mem_cons.mp k1 with k | k
          · rw [k]; exact List.mem_cons_self ..
          · exact List.mem_cons_of_mem _ (List.mem_cons_of_mem _ k)
def caMin3 (ds : List D) : Option D := match ds with
  | [d] => match sqK d with
    | some (.tp x :: xs) => match toPys (.tp x :: xs) with
      | some (p :: ps) => if flts (.tp x :: xs) = true ∧ ((p :: ps).all fun a => (p :: ps).all fun b => alike a b) = true ∧ PyData.depthAll (p :: ps) ≤ 60 then some (mfold (.tp x) p xs ps) else none
      | _ => none
    | _ => caMin ds
  | ds => caMin ds
theorem ok_min3 : CaOk K cls (rMin3 K) caMin3 := by
  intro F H vs ds d Q s b e q
  unfold caMin3 at e
  split at e
  · rename_i d0
    split at e
    · rename_i x xs0 h1
      split at e
      · rename_i p ps h2
        split at e
        · rename_i hn
          cases e
          obtain ⟨hf, hal, hdp⟩ := hn
          obtain ⟨v, rfl, b1⟩ := b.one
          obtain ⟨a, ws, rfl, h3, r⟩ := b1.sqK s h1
          have hdd := Rps.dp s r h2
          have hpn : ∀ y ∈ p :: ps, ∃ d ∈ D.tp x :: xs0, toPy d = some y := fun y hy => by
            obtain ⟨i, hi⟩ := List.getElem?_of_mem hy
            have hlen : (D.tp x :: xs0).length = (p :: ps).length := by
              have : ∀ {ds : List D} {ps : List PyData}, toPys ds = some ps → ds.length = ps.length := fun {ds} => by
                induction ds with
                | nil => intro ps h; simp [toPys] at h; subst h; rfl
                | cons a as ih =>
                  intro ps h
                  unfold toPys at h
                  cases q1 : toPy a with
                  | none => rw [q1] at h; cases h
                  | some p1 =>
                    cases q2 : toPys as with
                    | none => rw [q1, q2] at h; cases h
                    | some p2 => rw [q1, q2] at h; cases h; simp [ih q2]
              exact this h2
            have hil : i < (D.tp x :: xs0).length := by rw [hlen]; exact (List.getElem?_eq_some_iff.mp hi).1
            obtain ⟨y', k1, k2⟩ := toPys_get h2 i _ (List.getElem?_eq_getElem hil)
            rw [hi] at k1
            cases k1
            exact ⟨_, List.getElem_mem hil, k2⟩
          refine .inr ⟨a, ws, p, ps, rfl, h3, hdd, ⟨fun y hy z hz => List.all_eq_true.mp (List.all_eq_true.mp hal y hy) z hz, fun y hy => ?_⟩, hdp, fun i y e hy he hm => ?_⟩
          · obtain ⟨d, d1, d2⟩ := hpn y hy
            exact flt_some (flts_mem hf d d1) d2
          · obtain ⟨dd, k1, k2⟩ : ∃ dd, (D.tp x :: xs0)[i]? = some dd ∧ Rp K cls F y dd := by
              have : ∀ {vs : List V} {ds : List D}, Rps K cls F vs ds → ∀ (i : Nat) y, vs[i]? = some y → ∃ dd, ds[i]? = some dd ∧ Rp K cls F y dd := fun {vs ds} r => by
                intro i
                induction i generalizing vs ds with
                | zero =>
                  intro y hy
                  cases r with
                  | nil => simp at hy
                  | cons a b => simp at hy; subst hy; exact ⟨_, rfl, a⟩
                | succ i ih =>
                  intro y hy
                  cases r with
                  | nil => simp at hy
                  | cons a b =>
                    obtain ⟨dd, z1, z2⟩ := ih b y (by simpa using hy)
                    exact ⟨dd, by simpa using z1, z2⟩
              exact this r i y hy
            obtain ⟨e', k3, k4⟩ := toPys_get h2 i dd k1
            rw [he] at k3
            cases k3
            have t1 : toPy (D.tp x) = some p ∧ toPys xs0 = some ps := by
              have h2' := h2
              unfold toPys at h2'
              cases q1 : toPy (D.tp x) with
              | none => rw [q1] at h2'; cases h2'
              | some p1 =>
                cases q2 : toPys xs0 with
                | none => rw [q1, q2] at h2'; cases h2'
                | some p2 => rw [q1, q2] at h2'; cases h2'; exact ⟨rfl, rfl⟩
            obtain ⟨m1, m2⟩ := mfold_spec xs0 ps (.tp x) p t1.1 t1.2
            have ee : dd = mfold (.tp x) p xs0 ps := flt_inj (flts_mem hf dd (List.mem_of_getElem? k1)) (flts_mem hf _ m1) k4 (by rw [m2, hm])
            rw [ee] at k2
            exact q y F H [] (.refl s) Fresh.nil (.inr ⟨.sh k2, rfl⟩)
        · cases e
      · cases e
    · exact .inl (ok_min F H vs _ d Q s b e q)
  · exact .inl (ok_min F H vs _ d Q s b e q)
/-! what it tells -/
theorem mfold_enc {α : Type} {f : α → D} {g : α → PyData} {lt : α → α → Bool} : ∀ (L : List α) (a : α), (∀ x ∈ a :: L, ∀ y ∈ a :: L, dataLt (g x) (g y) = lt x y) → mfold (f a) (g a) (L.map f) (L.map g) = f (L.foldl (fun m x => if lt x m = true then x else m) a)
  | [], a, _ => rfl
  | b :: L, a, h => by
    have hb := h b (by simp) a (by simp)
    simp only [List.map_cons, mfold, List.foldl_cons, hb]
    split
    · exact mfold_enc L b fun x hx y hy => h x (by simp at hx ⊢; rcases hx with e | e <;> simp [e]) y (by simp at hy ⊢; rcases hy with e | e <;> simp [e])
    · exact mfold_enc L a fun x hx y hy => h x (by simp at hx ⊢; rcases hx with e | e <;> simp [e]) y (by simp at hy ⊢; rcases hy with e | e <;> simp [e])
theorem toPys_enc {α : Type} {f : α → D} {g : α → PyData} (h : ∀ a, toPy (f a) = some (g a)) : ∀ L : List α, toPys (L.map f) = some (L.map g)
  | [] => rfl
  | a :: L => by rw [List.map_cons, List.map_cons, toPys, h a, toPys_enc h L]
theorem flts_enc {α : Type} {f : α → D} (h : ∀ a, flt (f a) = true) : ∀ L : List α, flts (L.map f) = true
  | [] => rfl
  | a :: L => by rw [List.map_cons, flts, h a, flts_enc h L]; rfl
theorem depth_enc {α : Type} {g : α → PyData} {n : Nat} (h : ∀ a, (g a).depth ≤ n) : ∀ L : List α, PyData.depthAll (L.map g) ≤ n
  | [] => by simp [PyData.depthAll]
  | a :: L => by
    have := h a
    have := depth_enc h L
    simp only [List.map_cons, PyData.depthAll]
    omega
theorem caMin3_enc {α : Type} {f : α → D} {g : α → PyData} {lt : α → α → Bool} (hf : ∀ a, ∃ xs, f a = .tp xs) (h1 : ∀ a, toPy (f a) = some (g a)) (h2 : ∀ a, flt (f a) = true) (h4 : ∀ a, (g a).depth ≤ 60) (a : α) (L : List α)
    (h3 : ∀ x ∈ a :: L, ∀ y ∈ a :: L, alike (g x) (g y) = true) (h5 : ∀ x ∈ a :: L, ∀ y ∈ a :: L, dataLt (g x) (g y) = lt x y) :
    caMin3 [.ls ((a :: L).map f)] = some (f (L.foldl (fun m x => if lt x m = true then x else m) a)) := by
  obtain ⟨xs, hx⟩ := hf a
  have e1 := toPys_enc h1 (a :: L)
  have e2 := flts_enc h2 (a :: L)
  have e3 := depth_enc h4 (a :: L)
  have e4 := mfold_enc (f := f) L a h5
  simp only [List.map_cons, hx] at e1 e2 e3 e4 ⊢
  simp only [caMin3, sqK, e1]
  refine (if_pos ⟨e2, ?_, e3⟩).trans (by rw [e4])
  rw [List.all_eq_true]
  intro y hy
  rw [List.all_eq_true]
  intro z hz
  rw [← List.map_cons] at hy hz
  obtain ⟨y', k1, rfl⟩ := List.mem_map.mp hy
  obtain ⟨z', k2, rfl⟩ := List.mem_map.mp hz
  exact h3 y' k1 z' k2
/-- the tuple of a list of ints, as data -/
def pT (l : List Int) : PyData := .tuple (l.map .int)
theorem alikeAll_ints : ∀ l m : List Int, alikeAll (l.map .int) (m.map .int) = true
  | [], _ => by simp [alikeAll]
  | _ :: _, [] => by simp [alikeAll]
  | a :: l, b :: m => by simp [alikeAll, alike, alikeAll_ints l m]
theorem alike_T (l m : List Int) : alike (pT l) (pT m) = true := by simp only [pT, alike]; exact alikeAll_ints l m
theorem flts_ints : ∀ l : List Int, flts (l.map D.int) = true
  | [] => rfl
  | a :: l => by simp [flts, flt, flts_ints l]
theorem flt_T (l : List Int) : flt (.tp (l.map D.int)) = true := by simp only [flt]; exact flts_ints l
theorem depth_T (l : List Int) : (pT l).depth ≤ 1 := by
  have b : PyData.depthAll (l.map PyData.int) ≤ 0 := dep_map (p := PyData.int) (fun a => by simp [PyData.depth]) l
  simp only [pT, PyData.depth]; omega
theorem toks_ints_lt : ∀ l m : List Int, PyProof.Rows.lexLt itemOrd (keyToksAll (l.map .int)) (keyToksAll (m.map .int)) = HT.lexLt l m
  | [], [] => by rw [HT.lexLt_nil_nil]; simp [keyToksAll, lex_irrefl]
  | [], y :: ys => by
    rw [HT.lexLt_nil_cons, List.map_cons, toks_all_cons]
    simp only [keyToksAll, List.map_nil]
    rw [lex_diff (O := itemOrd) (by simp)]
    simp [itemLt]
  | x :: xs, [] => by
    rw [HT.lexLt_cons_nil, List.map_cons, toks_all_cons]
    simp only [keyToksAll, List.map_nil]
    rw [lex_diff (O := itemOrd) (by simp)]
    simp [itemLt]
  | x :: xs, y :: ys => by
    rw [HT.lexLt_cons, List.map_cons, List.map_cons]
    by_cases h : x = y
    · subst h
      rw [dataLt_all_yes (by simp [alike]) (by simp [PyData.eqv]), toks_ints_lt xs ys, if_pos rfl]
    · rw [dataLt_all_no (by simp [alike]) (by simp [PyData.eqv, h]), dataLt_int, if_neg h]
theorem lt_T (l m : List Int) : dataLt (pT l) (pT m) = HT.lexLt l m := by
  unfold pT
  rw [dataLt_tuple, toks_ints_lt]
/-- a number and a tuple of numbers -/
def dNT (x : Int × List Int) : D := .tp [.int x.1, .tp (x.2.map D.int)]
def pNT (x : Int × List Int) : PyData := .tuple [.int x.1, pT x.2]
theorem toPy_NT (x : Int × List Int) : toPy (dNT x) = some (pNT x) := by
  have := toPy_T x.2
  simp [dNT, pNT, toPy, toPys] at this ⊢
  simp [this, pT]
theorem flt_NT (x : Int × List Int) : flt (dNT x) = true := by
  have := flt_T x.2
  simp [dNT, flt, flts] at this ⊢
  exact this
theorem depth_NT (x : Int × List Int) : (pNT x).depth ≤ 2 := by
  have := depth_T x.2
  simp only [pNT, PyData.depth, PyData.depthAll]
  omega
theorem alike_NT (x y : Int × List Int) : alike (pNT x) (pNT y) = true := by
  have := alike_T x.2 y.2
  simp [pNT, alike, alikeAll, this]
theorem lt_NT (x y : Int × List Int) : dataLt (pNT x) (pNT y) = HT.lexLt (x.1 :: x.2) (y.1 :: y.2) := by
  unfold pNT
  rw [dataLt_tuple, HT.lexLt_cons]
  by_cases h : x.1 = y.1
  · rw [dataLt_all_yes (by simp [alike]) (by simp [PyData.eqv, h]), if_pos h]
    by_cases h2 : x.2 = y.2
    · rw [h2, lex_irrefl, show HT.lexLt y.2 y.2 = false from by
        rw [← toks_ints_lt]; exact lex_irrefl _]
    · rw [dataLt_all_no (alike_T _ _) (by
        simp only [pT, PyData.eqv]
        rw [eqvAll_map (p := PyData.int) (fun a b => by simp only [PyData.eqv]; by_cases e : a = b <;> simp [e]) x.2 y.2]
        simpa using h2), lt_T]
  · rw [dataLt_all_no (by simp [alike]) (by simp [PyData.eqv, h]), dataLt_int, if_neg h]
/-- the first of the least -/
def minL (a : List Int) (L : List (List Int)) : List Int := L.foldl (fun m x => if HT.lexLt x m = true then x else m) a
theorem caMin3_T (a : List Int) (L : List (List Int)) : caMin3 [.ls ((a :: L).map dT)] = some (dT (minL a L)) :=
  caMin3_enc (f := dT) (g := pT) (fun a => ⟨_, rfl⟩) toPy_T flt_T (fun a => by have := depth_T a; omega) a L (fun x _ y _ => alike_T x y) fun x _ y _ => lt_T x y
def minNT (a : Int × List Int) (L : List (Int × List Int)) : Int × List Int := L.foldl (fun m x => if HT.lexLt (x.1 :: x.2) (m.1 :: m.2) = true then x else m) a
theorem caMin3_NT (a : Int × List Int) (L : List (Int × List Int)) : caMin3 [.ls ((a :: L).map dNT)] = some (dNT (minNT a L)) :=
  caMin3_enc (f := dNT) (g := pNT) (fun a => ⟨_, rfl⟩) toPy_NT flt_NT (fun a => by have := depth_NT a; omega) a L (fun x _ y _ => alike_NT x y) fun x _ y _ => lt_NT x y
theorem minF_spec {α : Type} (k : α → List Int) : ∀ (L : List α) (a : α), let m := L.foldl (fun m x => if HT.lexLt (k x) (k m) = true then x else m) a
    m ∈ a :: L ∧ ∀ x ∈ a :: L, HT.lexLt (k x) (k m) = false
  | [], a => ⟨List.mem_cons_self .., fun x hx => by
      simp at hx; subst hx
      have : HT.lexLt (k x) (k x) = false := by rw [← toks_ints_lt]; exact lex_irrefl _
      exact this⟩
  | b :: L, a => by
    have irr : ∀ x, HT.lexLt (k x) (k x) = false := fun x => by rw [← toks_ints_lt]; exact lex_irrefl _
    simp only [List.foldl_cons]
    by_cases c : HT.lexLt (k b) (k a) = true
    · rw [if_pos c]
      obtain ⟨h1, h2⟩ := minF_spec k L b
      refine ⟨List.mem_cons_of_mem _ h1, fun x hx => ?_⟩
      rcases List.mem_cons.mp hx with rfl | hx
      · exact NtL.lex_tr _ _ _ (h2 b (List.mem_cons_self ..)) (NtL.lex_asym _ _ c)
      · exact h2 x hx
    · rw [if_neg c]
      have c : HT.lexLt (k b) (k a) = false := by simpa using c
      obtain ⟨h1, h2⟩ := minF_spec k L a
      refine ⟨?_, fun x hx => ?_⟩
      · rcases List.mem_cons.mp h1 with h | h
        · rw [h]; exact List.mem_cons_self ..
        · exact List.mem_cons_of_mem _ (List.mem_cons_of_mem _ h)
      · rcases List.mem_cons.mp hx with rfl | hx
        · exact h2 x (List.mem_cons_self ..)
        · rcases List.mem_cons.mp hx with rfl | hx
          · exact NtL.lex_tr _ _ _ (h2 a (List.mem_cons_self ..)) c
          · exact h2 x (List.mem_cons_of_mem _ hx)
end
end DL
/-! a call with a borrowed list of ints whose answer is another list of ints -/
namespace DL
open PySem PySem.Spec PyProof.Rows L2 PySem.W
section
variable {K : PySem.W.Frag} {cls : Cls} {W : WX} {X : Cx} {F H F' H' F1 H1 : Hp} {O O1 : List Addr} {Q : VK} {a b e : Expr} {es : List Expr} {fa fb fc : Env → Res D} {fs : Env → Res (List D)} {pos : Pos}
def argB : D → Option (List Int)
  | .bo xs => intsOf xs
  | _ => none
def bAddr : List V → List D → List Addr
  | .ref a :: vs, .bo _ :: ds => a :: bAddr vs ds
  | _ :: vs, _ :: ds => bAddr vs ds
  | _, _ => []
def calD2 (g : List D → Res D) (ds : List D) : Res D :=
  if (ds.all fun d => shd1 d || (argB d).isSome) = true then match g (plns ds) with
    | .ok (.ls xs) => match intsOf xs with
      | some ns => if (ds.all fun d => !decide (argB d = some ns)) = true then .ok (.ls xs) else .bad
      | none => .bad
    | .xc c => .xc c
    | _ => .bad
  else .bad
theorem bAddr_spec : ∀ {vs : List V} {ds : List D}, Bos K cls F H vs ds → (ds.all fun d => shd1 d || (argB d).isSome) = true → ∀ a ∈ bAddr vs ds, ∃ d ∈ ds, ∃ ms : List Int, argB d = some ms ∧ H a = some (.lst (ms.map V.int))
  | _, _, .nil, _, a, h => by simp [bAddr] at h
  | _, _, .cons (vs := vs) (ds := ds) (.sh r) rs, hk, a, h => by
    rw [List.all_cons, Bool.and_eq_true] at hk
    have h' : a ∈ bAddr vs ds := by
      cases r <;> simpa [bAddr] using h
    obtain ⟨d, h1, h2⟩ := bAddr_spec rs hk.2 a h'
    exact ⟨d, List.mem_cons_of_mem _ h1, h2⟩
  | _, _, .cons (vs := vs) (ds := ds) (.bo (a := b) (ds := xs) hb r) rs, hk, a, h => by
    rw [List.all_cons, Bool.and_eq_true] at hk
    simp only [bAddr] at h
    rcases List.mem_cons.mp h with rfl | h
    · have h3 := hk.1
      simp only [shd1_bo, Bool.false_or, argB] at h3
      obtain ⟨ms, hm⟩ := Option.isSome_iff_exists.mp h3
      have e := intsOf_eq hm
      refine ⟨_, List.mem_cons_self .., ms, hm, ?_⟩
      rw [e] at r
      have : ∀ {us : List V} {ms : List Int}, Bos K cls F H us (ms.map D.int) → us = ms.map V.int := fun {us ms} => by
        induction ms generalizing us with
        | nil => intro h; cases h; rfl
        | cons n ns ih =>
          intro h
          cases h with
          | cons a b =>
            obtain rfl := a.int
            rw [ih b]; rfl
      rw [hb, this r]
    · obtain ⟨d, h1, h2⟩ := bAddr_spec rs hk.2 a h
      exact ⟨d, List.mem_cons_of_mem _ h1, h2⟩
  | _, _, .cons (.bd ..) rs, hk, a, h => by
    rw [List.all_cons, Bool.and_eq_true] at hk
    have := hk.1
    simp [argB] at this
  | _, _, .cons (.bb ..) rs, hk, a, h => by
    rw [List.all_cons, Bool.and_eq_true] at hk
    have := hk.1
    simp [argB] at this
theorem pln_rp {v : V} {d : D} (r : Rp K cls F v d) : pln d = d := by cases r <;> rfl
theorem plns_ints : ∀ ms : List Int, plns (ms.map D.int) = ms.map D.int
  | [] => rfl
  | m :: ms => by
    have e : pln (D.int m) = D.int m := by simp [pln]
    rw [List.map_cons, plns, e, plns_ints ms]
theorem bos_rps {F2 : Hp} (s : Same F F2) : ∀ {vs : List V} {ds : List D}, Bos K cls F H vs ds → (ds.all fun d => shd1 d || (argB d).isSome) = true → (∀ a ∈ bAddr vs ds, F2 a = H a) → Rps K cls F2 vs (plns ds)
  | _, _, .nil, _, _ => .nil
  | _, _, .cons (vs := vs) (ds := ds) (.sh r) rs, hk, hb => by
    rw [List.all_cons, Bool.and_eq_true] at hk
    simp only [plns]
    rw [pln_rp r]
    refine .cons (r.mono s) (bos_rps s rs hk.2 fun a ha => hb a ?_)
    cases r <;> simpa [bAddr] using ha
  | _, _, .cons (vs := vs) (ds := ds) (.bo (a := b) (ds := xs) h r) rs, hk, hb => by
    rw [List.all_cons, Bool.and_eq_true] at hk
    have h3 := hk.1
    simp only [shd1_bo, Bool.false_or, argB] at h3
    obtain ⟨ms, hm⟩ := Option.isSome_iff_exists.mp h3
    have e := intsOf_eq hm
    have this : ∀ {us : List V} {ms : List Int}, Bos K cls F H us (ms.map D.int) → us = ms.map V.int := fun {us ms} => by
      induction ms generalizing us with
      | nil => intro h; cases h; rfl
      | cons n ns ih =>
        intro h
        cases h with
        | cons a b =>
          obtain rfl := a.int
          rw [ih b]; rfl
    subst e
    rw [this r] at h
    simp only [plns, pln, plns_ints]
    refine .cons (.ls ((hb b (by simp [bAddr])).trans h) rps_ints) (bos_rps s rs hk.2 fun a ha => hb a ?_)
    simp [bAddr, ha]
  | _, _, .cons (.bd ..) rs, hk, _ => by
    rw [List.all_cons, Bool.and_eq_true] at hk
    have := hk.1
    simp [argB] at this
  | _, _, .cons (.bb ..) rs, hk, _ => by
    rw [List.all_cons, Bool.and_eq_true] at hk
    have := hk.1
    simp [argB] at this
theorem spD_call2 {n : Nat} {g : List D → Res D} {vs : List V} {ds : List D} {E : XK} (s : Same F H) (b : Bos K cls F H vs ds) (hn : ds.length = n)
    (p : match calD2 g ds with
      | .ok d => ∀ v F' H' O', Ext F H F' H' → Fresh H O' → Ow K cls F' H' v d O' → Q v H'
      | .xc c => ∀ F' H', Ext F H F' H' → E (excV cls c) none H'
      | .bad => False) : spD K cls n g vs H Q E := by
  classical
  unfold calD2 at p
  by_cases hk : (ds.all fun d => shd1 d || (argB d).isSome) = true
  · rw [if_pos hk] at p
    let F2 : Hp := fun a => if a ∈ bAddr vs ds then H a else F a
    have s2 : Same F F2 := fun a o h => by
      show (if a ∈ bAddr vs ds then H a else F a) = some o
      split
      · exact s a o h
      · exact h
    have s3 : Same F2 H := fun a o h => by
      have h' : (if a ∈ bAddr vs ds then H a else F a) = some o := h
      split at h'
      · exact h'
      · exact s a o h'
    have sp := bAddr_spec b hk
    refine ⟨F2, plns ds, s3, bos_rps s2 b hk fun a ha => if_pos ha, by rw [plns_len]; exact hn, ?_⟩
    -- back again
    have back : ∀ {F' H' : Hp}, Ext F2 H F' H' → Ext F H (fun a => if a ∈ bAddr vs ds ∧ F a = none then none else F' a) H' := fun {F' H'} x => by
      refine ⟨fun a o h => ?_, x.hh, fun a o h => ?_, fun a h1 h2 => ?_⟩
      · show (if a ∈ bAddr vs ds ∧ F a = none then none else F' a) = some o
        rw [if_neg (fun z => by rw [h] at z; cases z.2)]
        exact x.ff a o (s2 a o h)
      · have h' : (if a ∈ bAddr vs ds ∧ F a = none then none else F' a) = some o := h
        split at h'
        · cases h'
        · exact x.fh a o h'
      · show (if a ∈ bAddr vs ds ∧ F a = none then none else F' a) = none
        split
        · rfl
        · rename_i hz
          refine x.ow a ?_ h2
          show (if a ∈ bAddr vs ds then H a else F a) = none
          rw [if_neg (fun z => hz ⟨z, h1⟩)]
          exact h1
    cases e : g (plns ds) with
    | xc c => rw [e] at p; exact fun F' H' x => p _ H' (back x)
    | bad => rw [e] at p; exact p.elim
    | ok d =>
      rw [e] at p
      cases d with
      | ls xs =>
        simp only at p
        cases e2 : intsOf xs with
        | none => rw [e2] at p; exact p.elim
        | some ns =>
          rw [e2] at p
          dsimp only at p
          by_cases hz : (ds.all fun d => !decide (argB d = some ns)) = true
          · rw [if_pos hz] at p
            intro v F' H' O' x fr ow
            obtain rfl := intsOf_eq e2
            cases ow with
            | sh r =>
              cases r with
              | ls h r =>
                rename_i a ws
                have ew := r.ints
                refine p (.ref a) _ H' [] (back x) Fresh.nil (.sh (.ls (vs := ws) ?_ (by rw [ew]; exact rps_ints)))
                show (if a ∈ bAddr vs ds ∧ F a = none then none else F' a) = _
                rw [if_neg, h]
                rintro ⟨z1, z2⟩
                obtain ⟨d, d1, ms, d2, d3⟩ := sp a z1
                have h2 : F2 a = some (.lst (ms.map V.int)) := (if_pos z1).trans d3
                have h3 := x.ff a _ h2
                rw [h] at h3
                have h4 : ws = ms.map V.int := by injection h3 with h3; injection h3
                have h5 : ns = ms := by
                  have : ns.map V.int = ms.map V.int := by rw [← ew, h4]
                  exact List.map_inj_right (fun x y h => by injection h) |>.mp this
                have := List.all_eq_true.mp hz d d1
                rw [d2, h5] at this
                simp at this
          · rw [if_neg hz] at p; exact p.elim
      | _ => exact p.elim
  · rw [if_neg hk] at p; exact p.elim
def eOwn2 (g : List D → Res D) (fs : Env → Res (List D)) : Env → Res D := fun e => (fs e).bind fun ds => calD2 g ds
@[simp] theorem eOwn2_ (g : List D → Res D) (fs : Env → Res (List D)) (e : Env) : eOwn2 g fs e = (fs e).bind fun ds => calD2 g ds := rfl
theorem je_own2 {x : Str} {f : Addr} {fd : FuncData} {ps : List Str} {k n : Nat} {g : List D → Res D} {p : Pos} (c : Cn X W k) (G : FnOk X.prog X.w X.K X.mg X.base (L2.CX X.prog X.w) k f fd ps (spD X.K cls n g))
    (hm : X.mg x = some (.ref f)) (hk : PySem.W.keepIn X.K (.ref f) = true) (hb : Binds X.K fd ps []) (ha : JA X cls W (e :: es) fs) (hn : ∀ g ds, fs g = .ok ds → ds.length = n) (hg : Gl X x := by rfl)
    (hdb : (x == ("__debug__" : Str)) = false := by decide) (he : starEach (e :: es) X.env = (false, eval e X.env) :: starEach es X.env := by rfl) (hpl : (backTo pos (starEach es X.env)).any (·.1) = false := by rfl) :
    JE X cls W (.Call (.Name x p) (e :: es) [] pos) (eOwn2 g fs) := by
  obtain ⟨ta, pa, da⟩ := ha.ex
  refine ⟨_, pe_callS G c.hr hg hm hk hb (fun σ => passAt c.tk σ) pa hdb he hpl, ?_⟩
  intro σ F H env O Q s st p
  rw [eOwn2_] at p
  refine da.go s st (fun c e => by rw [e] at p; exact p) (fun e => by rw [e] at p; exact p) fun ds e vs F1 H1 x1 b1 => ?_
  rw [e] at p
  simp only [Res.bind] at p
  refine spD_call2 x1.fh b1 (hn env ds e) ?_
  cases eo : calD2 g ds with
  | ok d => rw [eo] at p; exact fun v F' H' O' y fr ow => p v F' H' O' (x1.trans y) (fr.mono x1.hh) (.inl ow)
  | xc c => rw [eo] at p; exact fun F' H' y => p F' H' (x1.trans y)
  | bad => rw [eo] at p; exact p
end
end DL
/-! max of a tuple of ints -/
namespace DL
open PySem PySem.Spec PyProof.Rows L2 TL PySem.W
section
variable {K : PySem.W.Frag} {cls : Cls} {X : Cx} {F H F' H' F1 H1 : Hp} {O O1 : List Addr} {Q : VK}
def rMaxT (K : PySem.W.Frag) : List V → Hp → VK → Prop := fun vs H Q => ∃ (a : Addr) (n : Int) (ns : List Int), vs = [V.ref a] ∧ SqT K H a ((n :: ns).map V.int) ∧ Q (.int (ns.foldl max n)) H
theorem dpAll_ints {K : PySem.W.Frag} {H : Hp} : ∀ ns : List Int, DpAll K H (ns.map V.int) (ns.map PyData.int)
  | [] => .nil
  | n :: ns => .cons (.int n) (dpAll_ints ns)
theorem maxD_mem : ∀ (ps : List PyData) (p : PyData), maxD p ps ∈ p :: ps
  | [], p => List.mem_cons_self ..
  | q :: ps, p => by
    have h : maxD p (q :: ps) = maxD (if dataLt p q then q else p) ps := rfl
    rw [h]
    have := maxD_mem ps (if dataLt p q then q else p)
    rcases List.mem_cons.mp this with e | e
    · rw [e]
      split <;> simp
    · exact List.mem_cons_of_mem _ (List.mem_cons_of_mem _ e)
theorem cr_maxT (hc : X.calm = true) (hu : X.A.units + 65 < cLine) : CallR X (.builtin "max") (rMaxT X.K) := by
  intro pins s σ H vs us Q I r h
  obtain ⟨a, n, ns, rfl, hs, q⟩ := h
  obtain ⟨its, rv, hl, hz⟩ := I.tuple hs
  obtain ⟨u, rfl, ru⟩ := vals1 r
  obtain rfl : u = Value.ref a := ru
  have hl' : s.heap.IsTuple a its.toArray := hl
  obtain ⟨as, hr⟩ := Dp.readsAll I ((n :: ns).map .int) _ its (dpAll_ints (n :: ns)) rv
  have ha : AlikeAll ((n :: ns).map PyData.int) := ⟨fun x hx y hy => by
    obtain ⟨i, _, rfl⟩ := List.mem_map.mp hx
    obtain ⟨j, _, rfl⟩ := List.mem_map.mp hy
    simp [alike], fun x hx => by
    obtain ⟨i, _, rfl⟩ := List.mem_map.mp hx
    simp⟩
  have hd : PyData.depthAll ((n :: ns).map PyData.int) ≤ 0 := dep_map (p := PyData.int) (fun a => by simp [PyData.depth]) (n :: ns)
  refine max_tuple_data (vs := its.toArray) (x := .int n) (xs := ns.map .int) (I.ok.hd hc) hl' (by simpa using hr) ha (by simp only [List.map_cons] at hd; omega) fun i v h' tk bs hv hrd hk => ?_
  have hv' : its[i]? = some v := by simpa using hv
  obtain ⟨x, hx, rx⟩ := vals_at rv i v hv'
  obtain ⟨e, bs', he, hre⟩ := readsAll_one hr i v hv'
  have em : e ∈ (n :: ns).map PyData.int := List.mem_of_getElem? he
  have eq : e = maxD (.int n) (ns.map .int) := alike_unique _ _ _ _ _ (ha.1 _ em _ (maxD_mem _ _)) (Reads.keeps hk hre) hrd
  rw [maxD_ints] at eq
  rw [List.getElem?_map] at hx he
  cases hq : (n :: ns)[i]? with
  | none => rw [hq] at hx; cases hx
  | some m =>
    rw [hq] at hx he
    cases hx
    cases he
    have : m = ns.foldl max n := by injection eq
    exact ⟨.int m, H, I.kept hk, rx, by rw [this]; exact q⟩
def rMax3 (K : PySem.W.Frag) : List V → Hp → VK → Prop := fun vs H Q => rMax K vs H Q ∨ rMaxT K vs H Q
theorem cr_max3 (hc : X.calm = true) (hu : X.A.units + 65 < cLine) : CallR X (.builtin "max") (rMax3 X.K) := by
  intro pins s σ H vs us Q I r h
  rcases h with h | h
  · exact cr_max hc pins s σ H vs us Q I r h
  · exact cr_maxT hc hu pins s σ H vs us Q I r h
def caMax3 (ds : List D) : Option D := match ds with
  | [.tp xs] => match intsOf xs with
    | some (n :: ns) => some (.int (ns.foldl max n))
    | _ => none
  | ds => caMax ds
theorem ok_max3 : CaOk K cls (rMax3 K) caMax3 := by
  intro F H vs ds d Q s b e q
  unfold caMax3 at e
  split at e
  · rename_i xs
    split at e
    · rename_i n ns h
      cases e
      obtain ⟨v, rfl, b1⟩ := b.one
      obtain rfl := intsOf_eq h
      obtain ⟨a, vs, rfl, h3, _, r⟩ := b1.tpv s (xs := (n :: ns).map D.int) rfl
      obtain rfl := r.ints
      exact .inr ⟨a, n, ns, rfl, h3, pi1 s (.int _) q⟩
    · cases e
  · exact .inl (ok_max F H vs _ d Q s b e q)
@[simp] theorem caMax3_tp (n : Int) (ns : List Int) : caMax3 [.tp (.int n :: ns.map D.int)] = some (.int (ns.foldl max n)) := by
  have : intsOf (D.int n :: ns.map D.int) = some (n :: ns) := intsOf_map (n :: ns)
  simp [caMax3, this]
end
end DL
/-! enumerate of a tuple -/
namespace PySem
open Sem (wp)
open AutoSeq1 (wpAny_loadPart')
theorem own_enumT (l : Addr) (items : Array Value) (n : Nat) (dct : Option Addr) (sl : Array (Option Value)) :
    Meets (Builtin.«enumerate.__new__» ⟨[.type "enumerate", .ref l], []⟩) (fun _ R s => s.heap.get? l = some { cls := .type "tuple", dict := dct, data := .seq items n, slots := sl } ∧
      R (.ok (.ret (.ref (s.heap.push { cls := .type "tuple_iterator", data := .fields #[.ref l, .int 0 0] }).objs.size)))
        { s with heap := (s.heap.push { cls := .type "tuple_iterator", data := .fields #[.ref l, .int 0 0] }).push { cls := .type "enumerate", data := .fields #[.none, .bool false, .ref s.heap.objs.size, rawInt 0, .none, .none] } }) :=
  .of_wp fun prog w A R s h => by
    obtain ⟨hp, g, d, tk, os⟩ := s; obtain ⟨hl, h⟩ := h
    have hsub := sub_enumerate
    have hL : Heap.IsTuple (Shared.heap ⟨hp, g, d, tk, os⟩) l items := ⟨_, hl, rfl, n, rfl⟩
    wp_walk using wpAny_loadPart' hl
    refine wpAny_stack_any fun st => wpAny_pure ?_
    split
    · rename_i c _ _ _ _ _
      cases (c == Value.type "enumerate")
      · wp_walk using wpAny_loadPart' hl, wpAny_pyIter_tuple hL
        exact ⟨_, rfl, h⟩
      · wp_walk using wpAny_loadPart' hl, wpAny_pyIter_tuple hL
        exact ⟨_, rfl, h⟩
    · wp_walk using wpAny_loadPart' hl, wpAny_pyIter_tuple hL
      exact ⟨_, rfl, h⟩
section
variable {prog : Program} {w : World} {A : Around} {E : Value → Shared → Prop} {s : Shared}
theorem own_call_enumT {l : Addr} {items : Array Value} {Q : Value → Shared → Prop} (hL : s.heap.IsTuple l items)
    (h : ∀ h', IsEnum h' (s.heap.objs.size + 1) s.heap.objs.size 0 .none → h'.IsTupleIter s.heap.objs.size l 0 → h'.objs.size = s.heap.objs.size + 2 →
      (∀ b o, s.heap.get? b = some o → h'.get? b = some o) → Q (.ref (s.heap.objs.size + 1)) { s with heap := h' }) :
    wpAny (model prog w) A (call (.type "enumerate") [.ref l]) Q E s := by
  obtain ⟨⟨c, dct, dt, sl⟩, hl, hc, n, hd⟩ := hL
  replace hc : c = .type "tuple" := hc
  replace hd : dt = .seq items n := hd
  subst hc hd
  refine callType_new F.called_enumerate (by decide) (F.typeCall_enumerate_1 _) (F.newCall_enumerate_1 _) (fun obj => F.args_object_init_2 obj _) F.entry_enumerate_new
    (own_enumT l items n dct sl) ⟨hl, ?_⟩
  have hz : (s.heap.push { cls := .type "tuple_iterator", data := .fields #[.ref l, .int 0 0] }).objs.size = s.heap.objs.size + 1 := Heap.size_push ..
  show _ ∧ _
  rw [hz]
  have he : IsEnum ((s.heap.push { cls := .type "tuple_iterator", data := .fields #[.ref l, .int 0 0] }).push
      { cls := .type "enumerate", data := .fields #[.none, .bool false, .ref s.heap.objs.size, rawInt 0, .none, .none] }) (s.heap.objs.size + 1) s.heap.objs.size 0 .none := by
    have := Heap.get?_push_size (s.heap.push { cls := .type "tuple_iterator", data := .fields #[.ref l, .int 0 0] })
      (o := { cls := .type "enumerate", data := .fields #[.none, .bool false, .ref s.heap.objs.size, rawInt 0, .none, .none] }) rfl
    rw [hz] at this; exact this
  refine ⟨⟨_, he, rfl⟩, h _ he ⟨_, Heap.get?_push_of_some _ (Heap.get?_push_size _ rfl), rfl, rfl⟩ (by rw [Heap.size_push, hz]) fun b o x => Heap.get?_push_of_some _ (Heap.get?_push_of_some _ x)⟩
theorem own_enum_endT {e it l : Addr} {i : Nat} {items : Array Value} {old : Value} {Q : Option Value → Shared → Prop} (hh : A.handled = none)
    (he : IsEnum s.heap e it i old) (hit : s.heap.IsTupleIter it l i) (hl : s.heap.IsTuple l items) (hx : items[i]? = none)
    (hQ : ∀ h', Heap.ExtBut it s.heap h' → Q none { s with heap := h' }) : wpAny (model prog w) A (pyNext (.ref e)) Q E s := by
  have hT : s.TypeIs (.ref e) "enumerate" := ⟨_, he, rfl⟩
  unfold pyNext
  refine wpAny_bind (wpAny_attempt (wpAny_callSpecial?_slot (name := Str.ofString "__next__") hT F.slot_enumerate_next
    (wpAny_call_entry F.slot_enumerate_next hT F.entry_enumerate_next ?_ (F.args_enumerate_next_1 _))))
  show wpAny _ _ (field (.ref e) 2 >>= _) _ _ _
  refine wpAny_bind (wpAny_field he rfl (x := .ref it) rfl ?_)
  refine wpAny_bind (wpAny_nextOf_tuple_end hh hit hl hx fun h' x he' hx' => ?_)
  obtain ⟨o, ho, hc⟩ := hx'
  refine wpAny_bind (wpAny_isInstance (T := "StopIteration") (b := true) ⟨o, ho, hc⟩ isSubtype_stop ?_)
  exact wpAny_pure (hQ _ he')
end
end PySem
namespace DL
open PySem PySem.Spec PyProof.Rows L2 TL PySem.W
/-- the tuple at a as it stands at each turn, each item in a new pair -/
def ItU (K : PySem.W.Frag) (a : Addr) : It :=
  ⟨fun i H => ∃ (xs : List V) (x : V), SqT K H a xs ∧ xs[i]? = some x, fun i H v H' => ∃ T x, v = .ref T ∧ H T = none ∧ H' = upd H T (.tup [.int (i : Nat), x]) ∧ ∀ xs, SqT K H a xs → xs[i]? = some x, fun i H => ∃ xs : List V, SqT K H a xs ∧ xs.length ≤ i⟩
theorem turn_enumU {P : Program} {w : World} {K : PySem.W.Frag} {elts : List Expr} {kk : Nat} {tpos : Pos} (a e it : Addr) :
    Turn P w K (.Tuple elts kk tpos) (ItU K a) [e, it] e (fun i h => (∃ old, IsEnum h e it ((i : Nat) : Int) old) ∧ h.IsTupleIter it a i ∧ e ≠ it) where
  mem := by simp
  obj := fun i h st b hb => by
    obtain ⟨⟨old, he⟩, ⟨o, ho, hc, hd⟩, _⟩ := st
    have e' : b = e ∨ b = it := by simpa using hb
    rcases e' with z | z
    · rw [z]; exact ⟨_, he, fun v q => nomatch q⟩
    · rw [z]; exact ⟨o, ho, fun v q => by rw [hd] at q; cases q⟩
  keep := fun i h h' st k => let ⟨⟨old, he⟩, hi, hne⟩ := st; ⟨⟨old, k e (by simp) _ he⟩, hi.at fun o q => k it (by simp) o q, hne⟩
  item := by
    intro X hP hw hK hc i pins s σ H E I hf st hg
    subst hP hw hK
    obtain ⟨⟨old, he⟩, hit, hne⟩ := st
    obtain ⟨xs, x, hq, hx⟩ := hg
    obtain ⟨its, rv, p, hz⟩ := I.tuple hq
    have p' : s.heap.IsTuple a its.toArray := p
    obtain ⟨u, hu, ru⟩ := rv.get hx
    have hel : e < s.heap.objs.size := Heap.lt_size he
    have hil : it < s.heap.objs.size := by obtain ⟨_, q, _⟩ := hit; exact Heap.lt_size q
    have hai : a ≠ it := fun z => by
      subst z
      obtain ⟨o1, q1, c1, _⟩ := hit
      obtain ⟨o2, q2, c2, _⟩ := p'
      rw [q1] at q2; cases q2
      rw [c1] at c2
      exact absurd (Value.type.inj c2) (by decide)
    have hea : e ≠ a := fun z => by
      subst z
      obtain ⟨o2, q2, c2, _⟩ := p'
      have q1 := he
      unfold IsEnum at q1
      rw [q1] at q2; cases q2
      exact absurd (Value.type.inj c2) (by decide)
    have hlen := rv.length
    have hil2 : i < its.toArray.size := by
      have := (List.getElem?_eq_some_iff.mp hu).1
      simpa using this
    refine wpAny_pyNext_enum_itemD (Draws.tuple (A := X.A.in1) (I.ok.hd hc) it a hai its.toArray) he ⟨hit, p'⟩ hil2 hne (by simp [hne, hea]) fun y h' tk hy ho hst' hT hsz hk => ?_
    obtain rfl : y = u := by
      have e1 : its[i]? = some y := by simpa using hy
      rw [hu] at e1; cases e1; rfl
    refine ⟨_, rfl, wpAny_letOwnedTupleGo_enum (s := { s with heap := h', toks := tk + 1 }) ho fun h'' he' sb => ?_⟩
    have hT2 : h''.get? s.heap.objs.size = some { cls := .type "tuple", data := .seq #[.int i tk, y] } := (sb.2 _ (Nat.ne_of_gt hel)).trans hT
    have new : ObjOk X.prog X.w (upd H s.heap.objs.size (.tup [.int (i : Nat), x])) h'' s.heap.objs.size (.tup [.int (i : Nat), x]) :=
      ⟨by show 2 ≤ sizeLine; decide, [.int i tk, y], .cons ⟨_, rfl⟩ (.cons ru .nil), ⟨_, hT2, rfl, _, rfl⟩⟩
    have I1 : Inv X pins σ (upd H s.heap.objs.size (.tup [.int (i : Nat), x])) { s with heap := h'', toks := tk + 1 } :=
      I.turnedNew (ch := [e, it]) (fun b ob hb q => (sb.2 b (fun z => hb (by simp [z]))).trans (hk b ob (fun z => hb (by simp [z])) (fun z => hb (by simp [z])) q)) hf (Nat.le_refl _) new
    refine ⟨.ref s.heap.objs.size, _, I1, rfl, ⟨_, x, rfl, I.hok.fresh (Nat.le_refl _), rfl, fun ys hy => by rw [I.tuple_inj hy hq]; exact hx⟩, ⟨⟨y, ?_⟩, hst'.1.at fun o q => (sb.2 it (Ne.symm hne)).trans q, hne⟩, fun b hb => ?_⟩
    · have e1 : ((i + 1 : Nat) : Int) = (i : Int) + 1 := by omega
      rw [e1]; exact he'
    · have hb' : b < s.heap.objs.size := by
        have e' : b = e ∨ b = it := by simpa using hb
        rcases e' with z | z
        · rw [z]; exact hel
        · rw [z]; exact hil
      rw [upd_ne (Nat.ne_of_lt hb')]
      exact (hf b hb).1
  done := by
    intro X hP hw hK hc i pins s σ H E I hf st hg
    subst hP hw hK
    obtain ⟨⟨old, he⟩, hit, hne⟩ := st
    obtain ⟨xs, hq, hx⟩ := hg
    obtain ⟨its, rv, p, hz⟩ := I.tuple hq
    have p' : s.heap.IsTuple a its.toArray := p
    obtain ⟨f0, f1, f2, f3, f4, f5⟩ := hf it (by simp)
    have hl := rv.length
    exact own_enum_endT (I.ok.hd hc) he hit p' (by simp; omega) fun h' eb => ⟨rfl, I.turned (t' := s.toks) (fun b o hb q => eb b o hb q) f0 f1 f3 f4 f5⟩
  self := fun A i s Q E st h => let ⟨⟨_, he⟩, _⟩ := st; wpAny_pyIter_enum he h
def iEnumU (K : PySem.W.Frag) (ta : TA) : TI := fun σ H R => ta σ H fun vs H1 => ∃ a xs, vs = [.ref a] ∧ SqT K H1 a xs ∧ R (ItU K a) H1
theorem pi_enumU {X : Cx} {e : Expr} {ta : TA} {p pos tpos : Pos} {elts : List Expr} {kk : Nat} (hg : Gl X "enumerate") (hm : X.mg "enumerate" = none) (ha : PA X [e] ta) (hs : starEach [e] X.env = [(false, eval e X.env)] := by rfl) :
    PI X (.Tuple elts kk tpos) (.Call (.Name "enumerate" p) [e] [] pos) (iEnumU X.K ta) := by
  refine ⟨fun pins s σ H R I h => ?_⟩
  refine Call_ (ld_blt I hg hm boot_enumerate (PyProof.Rows.callWith_type1 (thn (ha.run pos pins s σ H _ I h) fun us s1 ⟨vs, H1, I1, r1, q1⟩ => ?_) hs rfl))
  obtain ⟨a, xs, ex, hq, q⟩ := q1
  subst ex
  cases r1 with
  | cons r rr =>
    cases rr
    cases r
    obtain ⟨its, rv, p', hz⟩ := I1.tuple hq
    have p2 : s1.heap.IsTuple a its.toArray := p'
    refine own_call_enumT p2 fun h' he hit hsz hk => wpAny_pyIter_enum he ?_
    have I2 : Inv X pins σ H1 { s1 with heap := h' } := I1.kept (t' := s1.toks) hk
    refine ⟨s1.heap.objs.size + 1, [s1.heap.objs.size + 1, s1.heap.objs.size], _, _, H1, rfl, I2, turn_enumU a (s1.heap.objs.size + 1) s1.heap.objs.size, ⟨⟨.none, he⟩, hit, Nat.succ_ne_self _⟩, fun b hb => ?_, q⟩
    have e' : b = s1.heap.objs.size + 1 ∨ b = s1.heap.objs.size := by simpa using hb
    have hle : s1.heap.objs.size ≤ b := by
      rcases e' with z | z
      · rw [z]; exact Nat.le_add_right _ _
      · rw [z]; exact Nat.le_refl _
    exact I1.fpOk hle (I1.hok.fresh hle)
section
variable {K : PySem.W.Frag} {cls : Cls} {W : WX} {X : Cx} {F H F' H' F1 H1 : Hp} {O O1 : List Addr} {a : Expr} {fs : Env → Res (List D)} {pos : Pos}
theorem feeds_enumU {a : Addr} {vs : List V} {ds : List D} (h : SqT K F a vs) (r : Rps K cls F vs ds) : Feeds K cls F (ItU K a) (enm 0 ds) where
  go := fun i d e F' H' s1 s2 => by
    obtain ⟨d', e1, rfl⟩ := enm_get e
    obtain ⟨v, h1, h2⟩ := r.get e1
    have h' : SqT K H' a vs := sameT (s1.trans s2) h
    refine ⟨⟨vs, v, h', h1⟩, fun x H'' y => ?_⟩
    obtain ⟨T, w, e1, e2, e3, y⟩ := y
    subst e1 e3
    have := y vs h'
    rw [h1] at this
    cases this
    have px := Ext.put (o := .tup [.int ((0 + i : Nat) : Int), v]) s2 e2
    rw [Nat.zero_add] at px ⊢
    exact ⟨_, px, .tp (SqT.of upd_same) (.cons (.int _) (.cons (h2.mono (s1.trans px.ff)) .nil))⟩
  stop := fun F' H' s1 s2 => ⟨vs, sameT (s1.trans s2) h, by rw [enm_len, r.len]; exact Nat.le_refl _⟩
/-- enumerate of a list or a tuple -/
def iEnm3 (fs : Env → Res (List D)) : Env → Res (List D) := fun g => (fs g).bind fun ds => match ds with
  | [d] => (Res.of (sqS d)).bind fun xs => .ok (enm 0 xs)
  | _ => .bad
@[simp] theorem iEnm3_ (fs : Env → Res (List D)) (g : Env) : iEnm3 fs g = (fs g).bind fun ds => match ds with
  | [d] => (Res.of (sqS d)).bind fun xs => .ok (enm 0 xs)
  | _ => .bad := rfl
theorem ji_enm3 {p tpos : Pos} {elts : List Expr} {kk : Nat} (hm : X.mg "enumerate" = none) (ha : JA X cls W [a] fs) (hg : Gl X "enumerate" := by rfl) (hs : starEach [a] X.env = [(false, eval a X.env)] := by rfl) :
    JI X cls W (.Tuple elts kk tpos) (.Call (.Name "enumerate" p) [a] [] pos) (iEnm3 fs) := by
  obtain ⟨t, p, d⟩ := ha.ex
  refine ⟨_, pi_or (pi_enum hg hm p hs) (pi_enumU hg hm p hs), ?_⟩
  intro σ F H g O R s st p
  rw [iEnm3_] at p
  cases ea : fs g with
  | xc c =>
    rw [ea] at p
    exact .inl (d.go s st (fun c e => by rw [ea] at e; cases e; exact p) (fun e => by rw [ea] at e; cases e) fun d e => by rw [ea] at e; cases e)
  | bad => rw [ea] at p; exact p.elim
  | ok dd =>
    rw [ea] at p
    simp only [Res.bind] at p
    split at p
    · rename_i d1
      have side : (∃ xs, lsS d1 = some xs ∧ sqS d1 = some xs) ∨ (∃ xs, tpv d1 = some xs ∧ sqS d1 = some xs) ∨ sqS d1 = none := by
        cases d1 <;> simp
      rcases side with ⟨xs, e1, e2⟩ | ⟨xs, e1, e2⟩ | e2
      · rw [e2] at p
        refine .inl (d.go s st (fun c e => by rw [ea] at e; cases e) (fun e => by rw [ea] at e; cases e) fun ds e vs F1 H1 x b => ?_)
        rw [ea] at e; cases e
        obtain ⟨v, rfl, b1⟩ := b.one
        obtain ⟨a, vs, rfl, h, r⟩ := b1.lsS e1
        exact ⟨a, vs, rfl, x.fh.seq h, p _ F1 H1 x (feeds_enum h r)⟩
      · rw [e2] at p
        refine .inr (d.go s st (fun c e => by rw [ea] at e; cases e) (fun e => by rw [ea] at e; cases e) fun ds e vs F1 H1 x b => ?_)
        rw [ea] at e; cases e
        obtain ⟨v, rfl, b1⟩ := b.one
        obtain ⟨a, vs, rfl, h, h', r⟩ := b1.tpv x.fh e1
        exact ⟨a, vs, rfl, h, p _ F1 H1 x (feeds_enumU h' r)⟩
      · rw [e2] at p; exact p.elim
    · exact p.elim
end
end DL
/-! x.clear() -/
namespace DL
open PySem PySem.Spec PyProof.Rows L2 TL PySem.W
section
variable {K : PySem.W.Frag} {cls : Cls} {W : WX} {X : Cx} {pos : Pos}
def sClr (i : Nat) : Env → Out := fun g => match g[i]? with
  | some (.ol _) => .nx (g.set i (.ol []))
  | _ => .bad
@[simp] theorem sClr_ (i : Nat) (g : Env) : sClr i g = match g[i]? with
  | some (.ol _) => .nx (g.set i (.ol []))
  | _ => .bad := rfl
theorem js_clear {i : Nat} {x : Str} {npos apos cpos : Pos} (hN : X.N[i]? = some x) (hv : Vis X.env.scope x) (hd : (x == ("__debug__" : Str)) = false := by decide) (hcd : (x == ("__classdict__" : Str)) = false := by decide)
    (hbase : attributeBase (.Name x npos) "clear" X.env (eval (.Name x npos) X.env) = eval (.Name x npos) X.env := by rfl)
    (hline : (apos.endLine == cpos.line) = true := by rfl)
    (hsw : swapsWith (.Call (.Attribute (.Name x npos) "clear" apos) [] [] cpos) none pos.line X.env = pure false := by rfl) :
    JS X cls W (.Expr (.Call (.Attribute (.Name x npos) "clear" apos) [] [] cpos) pos) (sClr i) := by
  refine ⟨_, ps_expr (pe_bm0 PySem.F.plainAttrs_list PySem.F.slot_list_clear PySem.F.type_list_clear mt_clear (pe_var hN hv hd hcd) hbase hline) hsw, ?_⟩
  intro D σ F H g O s st p
  rw [sClr_] at p
  split at p
  · rename_i xs eg
    obtain ⟨q, vs, O1, h1, h2, h2', h3, h4, h5, h6, h7⟩ := st.lst eg
    refine ⟨.ref q, h1, .inl ⟨rfl, vs, SqL.of h2⟩, ?_⟩
    obtain ⟨O'', z1, z2⟩ := h7 F H [] [] [] (.refl s) .nil (by simp) (fun a z => nomatch z)
    exact ⟨q, vs, rfl, rfl, h2, p σ F _ O'' z2 z1⟩
  · exact p.elim
end
end DL
/-! sorted of a list of data (lists, tuples, nested) -/
namespace DL
open PySem PySem.Spec PyProof.Rows L2 TL PySem.W
section
variable {K : PySem.W.Frag} {cls : Cls} {X : Cx} {F H F' H' F1 H1 : Hp} {O O1 : List Addr} {Q : VK}
def leP {α : Type} (a b : α × PyData) : Bool := !dataLt b.2 a.2
def rSortedD (K : PySem.W.Frag) : List V → Hp → VK → Prop := fun vs H Q => ∃ (a : Addr) (xs : List V) (ps : List PyData), vs = [V.ref a] ∧ SqL K H a xs ∧ DpAll K H xs ps ∧ W.AllAlike ps ∧ W.Sortable ps ∧ (∀ p ∈ ps, p.depth ≤ 60) ∧
  ∀ (q : Addr), H q = none → Q (.ref q) (upd H q (.lst (((xs.zip ps).mergeSort leP).map (·.1))))
theorem dpAll_len : ∀ {xs : List V} {ps : List PyData}, DpAll K H xs ps → xs.length = ps.length
  | _, _, .nil => rfl
  | _, _, .cons _ r => by simp [dpAll_len r]
theorem each_zip {h : Heap} : ∀ {xs : List V} {us : List Value} {ps : List PyData} {as : List Addr}, Vals xs us → ReadsAll h us ps as → W.EachIs (fun u (b : V × PyData) => RelV b.1 u ∧ ∃ as, Reads h u b.2 as) us (xs.zip ps)
  | _, _, _, _, .nil, .nil => .nil
  | _, _, _, _, .cons r rs, .cons q qs => .cons ⟨r, _, q⟩ (each_zip rs qs)
theorem each_vals : ∀ {us : List Value} {bs : List (V × PyData)}, W.EachIs (fun u (b : V × PyData) => RelV b.1 u) us bs → Vals (bs.map (·.1)) us
  | _, _, .nil => .nil
  | _, _, .cons r rs => .cons r (each_vals rs)
theorem zip_snd : ∀ {xs : List V} {ps : List PyData}, xs.length = ps.length → (xs.zip ps).map (·.2) = ps
  | [], [], _ => rfl
  | [], _ :: _, h => by simp at h
  | _ :: _, [], h => by simp at h
  | x :: xs, p :: ps, h => by simp [zip_snd (xs := xs) (ps := ps) (by simpa using h)]
theorem cr_sortedD (hu : X.A.units + 65 < cLine) : CallR X (.builtin "sorted") (rSortedD X.K) := by
  intro pins s σ H vs us Q I r h
  obtain ⟨a, xs, ps, rfl, hs, hd, hal, hsb, hdp, q⟩ := h
  obtain ⟨its, rv, hl, hz⟩ := I.list hs
  obtain ⟨u, rfl, ru⟩ := vals1 r
  obtain rfl : u = Value.ref a := ru
  obtain ⟨as, hr⟩ := Dp.readsAll I ps xs its hd rv
  have hlen := dpAll_len hd
  have ez := each_zip rv hr
  have zs := zip_snd hlen
  refine W.sorted_data (β := V × PyData) (bs := xs.zip ps) (enc := (·.2)) (R := fun u b => RelV b.1 u) hl.isList (ez.mono fun _ _ h => h.1) (ez.mono fun _ _ h => h.2) (by rw [zs]; exact hal) (by rw [zs]; exact hsb) ?_ (fun b hb => ?_) fun out ho he => ?_
  · rw [List.length_zip, ← hlen]; simpa using hz
  · have : b.2 ∈ ps := by rw [← zs]; exact List.mem_map.mpr ⟨b, hb, rfl⟩
    have := hdp _ this
    omega
  · have hv := each_vals he
    obtain ⟨n, hn⟩ := sortedAll_at s.heap its out.toArray
    refine ⟨.ref (s.heap.objs.size + 1), upd H (s.heap.objs.size + 1) (.lst (((xs.zip ps).mergeSort leP).map (·.1))), I.laid (t' := s.toks) (fun b o e => sortedAll_old e) (Nat.le_succ _) ⟨?_, out, n, hv, hn⟩, rfl, q _ (I.hok.fresh (Nat.le_succ _))⟩
    rw [List.length_map, List.length_mergeSort, List.length_zip, ← hlen]
    simpa using hz
def rSorted4 (K : PySem.W.Frag) : List V → Hp → VK → Prop := fun vs H Q => rSorted3 K vs H Q ∨ rSortedD K vs H Q
theorem cr_sorted4 (hu : X.A.units + 65 < cLine) : CallR X (.builtin "sorted") (rSorted4 X.K) := by
  intro pins s σ H vs us Q I r h
  rcases h with h | h
  · exact cr_sorted3 pins s σ H vs us Q I r h
  · exact cr_sortedD hu pins s σ H vs us Q I r h
def isT1 : PyData → Bool
  | .tuple (_ :: _) => true
  | _ => false
def isO1 : PyData → Bool
  | .none => false
  | .tuple _ => false
  | _ => true
theorem sortable_of {ps : List PyData} (h : (ps.all isT1 || ps.all isO1) = true) : W.Sortable ps := by
  rcases Bool.or_eq_true _ _ |>.mp h with h | h
  · left
    intro d hd
    have := List.all_eq_true.mp h d hd
    cases d with
    | tuple l => cases l with
      | nil => simp [isT1] at this
      | cons x r => exact ⟨x, r, rfl⟩
    | _ => simp [isT1] at this
  · right
    intro d hd
    have := List.all_eq_true.mp h d hd
    cases d <;> simp [isO1] at this ⊢
def sortD (xs : List D) : Option D := match toPys xs with
  | some ps => if (ps.all fun a => ps.all fun b => alike a b) = true ∧ (ps.all isT1 || ps.all isO1) = true ∧ (ps.all fun p => decide (p.depth ≤ 60)) = true then some (.ol (((xs.zip ps).mergeSort leP).map (·.1))) else none
  | none => none
def caSorted4 (ds : List D) : Option D := match ds with
  | [d] => match sqK d with
    | some (.ls y :: xs) => sortD (.ls y :: xs)
    | some (.tp (.int i :: .tp y :: r) :: xs) => sortD (.tp (.int i :: .tp y :: r) :: xs)
    | _ => caSorted3 ds
  | ds => caSorted3 ds
def zip3 : List V → List D → List PyData → List (V × D × PyData)
  | v :: vs, d :: ds, p :: ps => (v, d, p) :: zip3 vs ds ps
  | _, _, _ => []
theorem zip3_a : ∀ {vs : List V} {ds : List D} {ps : List PyData}, vs.length = ds.length → ds.length = ps.length → (zip3 vs ds ps).map (fun x => (x.1, x.2.2)) = vs.zip ps ∧ (zip3 vs ds ps).map (fun x => (x.2.1, x.2.2)) = ds.zip ps
  | [], [], [], _, _ => ⟨rfl, rfl⟩
  | v :: vs, d :: ds, p :: ps, h1, h2 => by
    obtain ⟨a, b⟩ := zip3_a (vs := vs) (ds := ds) (ps := ps) (by simpa using h1) (by simpa using h2)
    simp [zip3, a, b]
  | [], _ :: _, _, h, _ => by simp at h
  | _ :: _, [], _, h, _ => by simp at h
  | [], [], _ :: _, _, h => by simp at h
  | _ :: _, _ :: _, [], _, h => by simp at h
theorem zip3_rp : ∀ {vs : List V} {ds : List D} {ps : List PyData}, Rps K cls F vs ds → ∀ x ∈ zip3 vs ds ps, Rp K cls F x.1 x.2.1
  | _, _, _, .nil, x, h => by simp [zip3] at h
  | _, _, [], .cons a r, x, h => by simp [zip3] at h
  | _, _, p :: ps, .cons a r, x, h => by
    simp only [zip3] at h
    rcases List.mem_cons.mp h with rfl | h
    · exact a
    · exact zip3_rp r x h
theorem rps_tri : ∀ {t : List (V × D × PyData)}, (∀ x ∈ t, Rp K cls F x.1 x.2.1) → Rps K cls F (t.map (·.1)) (t.map (·.2.1))
  | [], _ => .nil
  | x :: t, h => .cons (h x (List.mem_cons_self ..)) (rps_tri fun y hy => h y (List.mem_cons_of_mem _ hy))
theorem toPys_len : ∀ {ds : List D} {ps : List PyData}, toPys ds = some ps → ds.length = ps.length
  | [], ps, h => by simp [toPys] at h; subst h; rfl
  | a :: as, ps, h => by
    unfold toPys at h
    cases q1 : toPy a with
    | none => rw [q1] at h; cases h
    | some p1 =>
      cases q2 : toPys as with
      | none => rw [q1, q2] at h; cases h
      | some p2 => rw [q1, q2] at h; cases h; simp [toPys_len q2]
theorem sortD_ok {d0 : D} {xs : List D} {v : V} {d : D} (s : Same F H) (b1 : Bo K cls F H v d0) (h1 : sqK d0 = some xs) (e : sortD xs = some d) (q : ∀ v F' H' O', Ext F H F' H' → Fresh H O' → Tm K cls F' H' v d O' → Q v H') : rSortedD K [v] H Q := by
  unfold sortD at e
  split at e
  · rename_i ps h2
    split at e
    · rename_i hn
      cases e
      obtain ⟨hal, hso, hdp⟩ := hn
      obtain ⟨a, ws, rfl, h3, r⟩ := b1.sqK s h1
      have hl := toPys_len h2
      have hw := r.len
      refine ⟨a, ws, ps, rfl, h3, Rps.dp s r h2, fun x hx y hy => List.all_eq_true.mp (List.all_eq_true.mp hal x hx) y hy, sortable_of hso, fun p hp => by have := List.all_eq_true.mp hdp p hp; simpa using this, fun p hp => ?_⟩
      obtain ⟨z1, z2⟩ := zip3_a (vs := ws) (ds := xs) (ps := ps) hw hl
      have m1 : ((ws.zip ps).mergeSort leP).map (·.1) = ((zip3 ws xs ps).mergeSort fun a b => !dataLt b.2.2 a.2.2).map (·.1) := by
        rw [← z1, ← List.map_mergeSort (r := fun a b => !dataLt b.2.2 a.2.2) (fun a _ b _ => rfl), List.map_map]
        rfl
      have m2 : ((xs.zip ps).mergeSort leP).map (·.1) = ((zip3 ws xs ps).mergeSort fun a b => !dataLt b.2.2 a.2.2).map (·.2.1) := by
        rw [← z2, ← List.map_mergeSort (r := fun a b => !dataLt b.2.2 a.2.2) (fun a _ b _ => rfl), List.map_map]
        rfl
      have rr : Rps K cls F (((ws.zip ps).mergeSort leP).map (·.1)) (((xs.zip ps).mergeSort leP).map (·.1)) := by
        rw [m1, m2]
        exact rps_tri fun x hx => zip3_rp r x ((List.mergeSort_perm _ _).mem_iff.mp hx)
      exact q _ _ _ [p] (Ext.own s hp) (fresh_new hp) (.inl (ow_new s hp rr.toOws))
    · cases e
  · cases e
theorem ok_sorted4 : CaOk K cls (rSorted4 K) caSorted4 := by
  intro F H vs ds d Q s b e q
  unfold caSorted4 at e
  split at e
  · rename_i d0
    split at e
    · rename_i y xs h1
      obtain ⟨v, rfl, b1⟩ := b.one
      exact .inr (sortD_ok s b1 h1 e q)
    · rename_i i y r xs h1
      obtain ⟨v, rfl, b1⟩ := b.one
      exact .inr (sortD_ok s b1 h1 e q)
    · exact .inl (ok_sorted3 F H vs _ d Q s b e q)
  · exact .inl (ok_sorted3 F H vs _ d Q s b e q)
/-! what it tells -/
theorem sortD_enc {α : Type} {f : α → D} {g : α → PyData} {lt : α → α → Bool} (h1 : ∀ a, toPy (f a) = some (g a)) (h4 : ∀ a, (g a).depth ≤ 60) (L : List α)
    (h3 : ∀ x ∈ L, ∀ y ∈ L, alike (g x) (g y) = true) (h5 : ∀ x ∈ L, ∀ y ∈ L, dataLt (g x) (g y) = lt x y) (h6 : (∀ a, isT1 (g a) = true) ∨ ∀ a, isO1 (g a) = true) :
    sortD (L.map f) = some (.ol ((L.mergeSort fun a b => !lt b a).map f)) := by
  have e1 := toPys_enc h1 L
  unfold sortD
  rw [e1]
  dsimp only
  have hz : (L.map f).zip (L.map g) = L.map fun a => (f a, g a) := by
    rw [List.zip_map']
  have hs : (((L.map f).zip (L.map g)).mergeSort leP).map (·.1) = (L.mergeSort fun a b => !lt b a).map f := by
    rw [hz, ← List.map_mergeSort (r := fun a b => !lt b a) (fun a ha b hb => by simp only [leP]; rw [h5 b hb a ha]), List.map_map]
    rfl
  rw [hs]
  refine if_pos ⟨?_, ?_, ?_⟩
  · rw [List.all_eq_true]
    intro y hy
    rw [List.all_eq_true]
    intro z hz
    obtain ⟨y', k1, rfl⟩ := List.mem_map.mp hy
    obtain ⟨z', k2, rfl⟩ := List.mem_map.mp hz
    exact h3 y' k1 z' k2
  · rcases h6 with h6 | h6
    · rw [Bool.or_eq_true]; left
      rw [List.all_eq_true]
      intro y hy
      obtain ⟨y', k1, rfl⟩ := List.mem_map.mp hy
      exact h6 y'
    · rw [Bool.or_eq_true]; right
      rw [List.all_eq_true]
      intro y hy
      obtain ⟨y', k1, rfl⟩ := List.mem_map.mp hy
      exact h6 y'
  · rw [List.all_eq_true]
    intro y hy
    obtain ⟨y', k1, rfl⟩ := List.mem_map.mp hy
    simpa using h4 y'
/-- lists of ints -/
def pI (l : List Int) : PyData := .list (l.map .int)
theorem toPy_I (l : List Int) : toPy (dL l) = some (pI l) := by
  have : toPys (l.map D.int) = some (l.map PyData.int) := toPys_map (fun a => by simp [toPy]) l
  simp [dL, toPy, this, pI]
theorem caSorted4_LL (L : List (List Int)) : caSorted4 [.ls (L.map dL)] = some (.ol ((L.mergeSort fun a b => !HT.lexLt b a).map dL)) := by
  have h := sortD_enc (f := dL) (g := pI) (lt := HT.lexLt) toPy_I (fun a => by
    have := depth_T a
    simp only [pI, pT, PyData.depth] at this ⊢
    omega) L (fun x _ y _ => by simp only [pI, alike]; exact alikeAll_ints x y) (fun x _ y _ => by
    unfold pI
    rw [dataLt_list, toks_ints_lt]) (.inr fun a => rfl)
  cases L with
  | nil => simp [caSorted4, caSorted3]; rfl
  | cons a L =>
    simp only [List.map_cons, dL] at h ⊢
    simp only [caSorted4, sqK]
    exact h
theorem caSorted4_NT (L : List (Int × List Int)) : caSorted4 [.ls (L.map dNT)] = some (.ol ((L.mergeSort fun a b => !HT.lexLt (b.1 :: b.2) (a.1 :: a.2)).map dNT)) := by
  have h := sortD_enc (f := dNT) (g := pNT) (lt := fun x y => HT.lexLt (x.1 :: x.2) (y.1 :: y.2)) toPy_NT (fun a => by have := depth_NT a; omega) L (fun x _ y _ => alike_NT x y) (fun x _ y _ => lt_NT x y) (.inl fun a => rfl)
  cases L with
  | nil => simp [caSorted4, caSorted3]; rfl
  | cons a L =>
    simp only [List.map_cons, dNT] at h ⊢
    simp only [caSorted4, sqK]
    exact h
@[simp] theorem caSorted4_tp (ns : List Int) : caSorted4 [.tp (ns.map D.int)] = some (.ol ((srt ns).map D.int)) := by
  simp [caSorted4]
@[simp] theorem caSorted4_ls (ns : List Int) : caSorted4 [.ls (ns.map D.int)] = some (.ol ((srt ns).map D.int)) := by
  cases ns with
  | nil => simp [caSorted4]; rfl
  | cons a l => simp [caSorted4]; exact caSorted3_ls (a :: l)
@[simp] theorem caSorted4_bo (ns : List Int) : caSorted4 [.bo (ns.map D.int)] = some (.ol ((srt ns).map D.int)) := by
  cases ns with
  | nil => simp [caSorted4]; rfl
  | cons a l => simp [caSorted4]; exact caSorted3_bo (a :: l)
end
end DL
/-! x.insert(i, n) of a list of ints, and x.pop(i) as a statement -/
namespace DL
open PySem PySem.Spec PyProof.Rows L2 TL PySem.W
section
variable {K : PySem.W.Frag} {cls : Cls} {W : WX} {X : Cx} {F H F' H' F1 H1 : Hp} {O O1 : List Addr} {Q : VK} {a b e : Expr} {es : List Expr} {fa fb fc : Env → Res D} {fs : Env → Res (List D)} {pos : Pos}
theorem Ows.int1 : ∀ {vs : List V} {ns : List Int} {O : List Addr}, Ows K cls F H vs (ns.map D.int) O → vs = ns.map V.int
  | _, [], _, .nil => rfl
  | _, n :: ns, _, .cons a b _ _ => by
    obtain ⟨rfl, _⟩ := a.int
    rw [Ows.int1 b]; rfl
def sIns (i : Nat) (fs : Env → Res (List D)) : Env → Out := fun g => match g[i]? with
  | some (.ol xs) => (fs g).st g fun ds => match ds with
    | [.int j, .int n] => match intsOf xs with
      | some ns => if 0 ≤ j ∧ j ≤ 1000000000 ∧ xs.length < lim then .nx (g.set i (.ol ((ns.take j.toNat ++ [n] ++ ns.drop j.toNat).map D.int))) else .bad
      | none => .bad
    | _ => .bad
  | _ => .bad
@[simp] theorem sIns_ (i : Nat) (fs : Env → Res (List D)) (g : Env) : sIns i fs g = match g[i]? with
  | some (.ol xs) => (fs g).st g fun ds => match ds with
    | [.int j, .int n] => match intsOf xs with
      | some ns => if 0 ≤ j ∧ j ≤ 1000000000 ∧ xs.length < lim then .nx (g.set i (.ol ((ns.take j.toNat ++ [n] ++ ns.drop j.toNat).map D.int))) else .bad
      | none => .bad
    | _ => .bad
  | _ => .bad := rfl
theorem js_insert {i : Nat} {x : Str} {npos apos cpos : Pos} (hN : X.N[i]? = some x) (hv : Vis X.env.scope x) (ha : JA X cls W (a :: b :: []) fs) (hd : (x == ("__debug__" : Str)) = false := by decide) (hcd : (x == ("__classdict__" : Str)) = false := by decide)
    (hbase : attributeBase (.Name x npos) "insert" X.env (eval (.Name x npos) X.env) = eval (.Name x npos) X.env := by rfl)
    (hfew : ((backTo cpos (starEach (a :: b :: []) X.env)).all (fun x => !x.1) && (backToKw cpos (keywordEach [] X.env)).all (fun x => x.1.isSome)
      && decide ((a :: b :: []).length + ([] : List Keyword).length + (if ([] : List Keyword).isEmpty then 0 else 1) < 30)) = true := by rfl)
    (hline : (apos.endLine == cpos.line) = true := by rfl) (hs : starEach (a :: b :: []) X.env = (false, eval a X.env) :: starEach (b :: []) X.env := by rfl) (hplain : (backTo cpos (starEach (b :: []) X.env)).any (·.1) = false := by rfl)
    (hsw : swapsWith (.Call (.Attribute (.Name x npos) "insert" apos) [a, b] [] cpos) none pos.line X.env = pure false := by rfl) :
    JS X cls W (.Expr (.Call (.Attribute (.Name x npos) "insert" apos) [a, b] [] cpos) pos) (sIns i fs) := by
  obtain ⟨t, p, d⟩ := ha.ex
  refine ⟨_, ps_expr (pe_bm PySem.F.plainAttrs_list PySem.F.slot_list_insert PySem.F.type_list_insert mt_insert (pe_var hN hv hd hcd) p hbase hfew hline hs hplain) hsw, ?_⟩
  intro En σ F H g O s st p
  rw [sIns_] at p
  split at p
  · rename_i xs eg
    obtain ⟨q, vs, O1, h1, h2, h2', h3, h4, h5, h6, h7⟩ := st.lst eg
    refine ⟨.ref q, h1, .inl ⟨rfl, vs, SqL.of h2⟩, ?_⟩
    refine d.go s st (fun c e F' H' y => by rw [e] at p; exact p σ F' H' O (y.sext fun a h => .inl h) (st.ext y)) (fun e => by rw [e] at p; exact p) fun dd e us F1 H1 x b => ?_
    rw [e, Res.st_ok] at p
    split at p
    · rename_i j n
      split at p
      · rename_i ns en
        split at p
        · rename_i hn
          obtain ⟨j0, j1, hl⟩ := hn
          obtain rfl := intsOf_eq en
          obtain ⟨v1, v2, rfl, b1, b2⟩ := b.two
          obtain rfl := b1.int
          obtain rfl := b2.int
          have hv1 : vs = ns.map V.int := h4.int1
          have hlen : vs.length < lim := by rw [hv1]; simpa using hl
          refine ⟨q, vs, j, .int n, rfl, rfl, x.hh _ _ h2, lim_lt hlen, j0, by omega, ?_⟩
          have hz : vs.take j.toNat ++ [V.int n] ++ vs.drop j.toNat = (ns.take j.toNat ++ [n] ++ ns.drop j.toNat).map V.int := by rw [hv1]; simp
          rw [hz]
          obtain ⟨O'', z1, z2⟩ := h7 F1 H1 ((ns.take j.toNat ++ [n] ++ ns.drop j.toNat).map V.int) ((ns.take j.toNat ++ [n] ++ ns.drop j.toNat).map D.int) [] x (rps_ints.toOws) (by simp) (fun a z => nomatch z)
          exact p σ F1 _ O'' z2 z1
        · exact p.elim
      · exact p.elim
    · exact p.elim
  · exact p.elim
/-- x.pop(e), the item dropped -/
def sDel (i : Nat) (fa : Env → Res D) : Env → Out := fun g => match g[i]? with
  | some (.ol xs) => (fa g).st g fun d => match opd d with
    | .int z => match ixN xs.length z with
      | some k => match xs[k]? with
        | some y => if own1 y = false ∧ xs.length ≤ lim then .nx (g.set i (.ol (xs.eraseIdx k))) else .bad
        | none => .bad
      | none => .bad
    | _ => .bad
  | _ => .bad
@[simp] theorem sDel_ (i : Nat) (fa : Env → Res D) (g : Env) : sDel i fa g = match g[i]? with
  | some (.ol xs) => (fa g).st g fun d => match opd d with
    | .int z => match ixN xs.length z with
      | some k => match xs[k]? with
        | some y => if own1 y = false ∧ xs.length ≤ lim then .nx (g.set i (.ol (xs.eraseIdx k))) else .bad
        | none => .bad
      | none => .bad
    | _ => .bad
  | _ => .bad := rfl
theorem js_del {i : Nat} {x : Str} {npos apos cpos : Pos} (hN : X.N[i]? = some x) (hv : Vis X.env.scope x) (ha : JE X cls W a fa) (hd : (x == ("__debug__" : Str)) = false := by decide) (hcd : (x == ("__classdict__" : Str)) = false := by decide)
    (hbase : attributeBase (.Name x npos) "pop" X.env (eval (.Name x npos) X.env) = eval (.Name x npos) X.env := by rfl)
    (hfew : ((backTo cpos (starEach (a :: []) X.env)).all (fun x => !x.1) && (backToKw cpos (keywordEach [] X.env)).all (fun x => x.1.isSome)
      && decide ((a :: []).length + ([] : List Keyword).length + (if ([] : List Keyword).isEmpty then 0 else 1) < 30)) = true := by rfl)
    (hline : (apos.endLine == cpos.line) = true := by rfl) (hs : starEach (a :: []) X.env = (false, eval a X.env) :: starEach [] X.env := by rfl) (hplain : (backTo cpos (starEach [] X.env)).any (·.1) = false := by rfl)
    (hsw : swapsWith (.Call (.Attribute (.Name x npos) "pop" apos) [a] [] cpos) none pos.line X.env = pure false := by rfl) :
    JS X cls W (.Expr (.Call (.Attribute (.Name x npos) "pop" apos) [a] [] cpos) pos) (sDel i fa) := by
  obtain ⟨t, p, d⟩ := ha.ex
  refine ⟨_, ps_expr (pe_bm PySem.F.plainAttrs_list PySem.F.slot_list_pop PySem.F.type_list_pop mt_popAt (pe_var hN hv hd hcd) (pa_cons p pa_nil hs) hbase hfew hline hs hplain) hsw, ?_⟩
  intro En σ F H g O s st p
  rw [sDel_] at p
  split at p
  · rename_i xs eg
    obtain ⟨q, vs, O1, h1, h2, h2', h3, h4, h5, h6, h7⟩ := st.lst eg
    refine ⟨.ref q, h1, .inl ⟨rfl, vs, SqL.of h2⟩, ?_⟩
    refine d.go s st (fun c e F' H' y => by rw [e] at p; exact p σ F' H' O (y.sext fun a h => .inl h) (st.ext y)) (fun e => by rw [e] at p; exact p) fun dd e v F1 H1 x b => ?_
    rw [e, Res.st_ok] at p
    split at p
    · rename_i z eo
      rw [eo] at b
      obtain rfl := b.int
      split at p
      · rename_i kk ek
        split at p
        · rename_i yd ey
          split at p
          · rename_i hn
            obtain ⟨hn, hl⟩ := hn
            obtain ⟨e1, e2, e3, e4⟩ := ixN_seq ek
            obtain ⟨u, u1, u2, u3⟩ := (h4.ext x).erase ey hn
            have hlim : xs.length ≤ 1000000 := hl
            refine ⟨q, vs, z, kk, u, rfl, rfl, x.hh _ _ h2, by omega, by omega, by rw [h4.len]; exact e1, u1, ?_⟩
            obtain ⟨O'', z1, z2⟩ := h7 F1 H1 (vs.eraseIdx kk) (xs.eraseIdx kk) O1 x u3 h3 (fun a z => .inl z)
            exact p σ F1 _ O'' z2 z1
          · exact p.elim
        · exact p.elim
      · exact p.elim
    · exact p.elim
  · exact p.elim
end
end DL
set_option maxHeartbeats 1000000
namespace DL
/-- n - 1 .. 0 -/
def iotaR (n : Nat) : List Int := (List.range n).map fun i : Nat => (n : Int) - 1 - (i : Int)
end DL
namespace RR
open PySem PySem.Spec PyProof.Rows
theorem nolen_ri : typeLookup (.type "range_iterator") "__len__" = pure none := by rw [typeLookup_type, builtinLookup_eq_fast]; kernel_rfl
theorem slot_ri_hint : Slot "range_iterator" "__length_hint__" "range_iterator.__length_hint__" :=
  .of (owner := "range_iterator") (n := "__length_hint__") (by rw [typeLookup_type, builtinLookup_eq_fast]; kernel_rfl) (by decide +kernel) (by decide +kernel) (by decide +kernel)
    (by first | exact .inl (by decide +kernel) | exact .inr (by decide +kernel)) (by rw [isSubtype_type]; kernel_rfl)
theorem entry_ri_hint : entryFor table "range_iterator.__length_hint__" = some Builtin.«range_iterator.__length_hint__» := entryFor_of_tree (by kernel_rfl)
theorem owner_ri : Manifest.owners.lookup (String.ofList ['r', 'o', 't', 'a', 'r', 'e', 't', 'i', '_', 'e', 'g', 'n', 'a', 'r'].reverse) = some Manifest.sig_range_iterator := by kernel_rfl
section
variable {prog : Program} {w : World} {A : Around} {E : Value → Shared → Prop} {s : Shared}
theorem args_ri_hint (a : Value) : argsOk "range_iterator.__length_hint__" ⟨[a], []⟩ := by
  unfold argsOk; rw [signature?_of (id := "range_iterator.__length_hint__") (n := ['_', '_', 't', 'n', 'i', 'h', '_', 'h', 't', 'g', 'n', 'e', 'l', '_', '_']) (o := ['r', 'o', 't', 'a', 'r', 'e', 't', 'i', '_', 'e', 'g', 'n', 'a', 'r']) (by kernel_rfl) owner_ri]; kernel_rfl
theorem call_ri_hint {it : Addr} {x c : Int} {n : Int} {Q : Value → Shared → Prop} (hit : IsRangeIter s.heap it x n c) 
    (h : ∀ tk tk', Q (.int n tk) { s with toks := tk' }) : wpAny (model prog w) A (call (.builtin "range_iterator.__length_hint__") [.ref it]) Q E s := by
  have hT : s.TypeIs (.ref it) "range_iterator" := ⟨_, hit, rfl⟩
  refine wpAny_call_entry slot_ri_hint hT entry_ri_hint ?_ (args_ri_hint _)
  unfold Builtin.«range_iterator.__length_hint__»
  refine wpAny_bind (wpAny_of_eq (a := Value.ref it) rfl ?_)
  try dsimp only
  refine wpAny_bind (wpAny_field (s := s) hit rfl (x := rawInt n) rfl ?_)
  show wpAny _ _ (retInt n) _ _ _
  unfold retInt
  refine wpAny_bind (wpAny_mkInt ?_)
  exact wpAny_pure ⟨_, rfl, h _ _⟩

/-- list(it), it = reversed(range) -/
theorem call_list_ri {it : Addr} {a c : Int} {n : Nat} {Q : Value → Shared → Prop} (hh : A.handled = none) (hit : IsRangeIter s.heap it a n c) (hn : n ≤ sizeLine) 
    (hQ : ∀ (h' : Heap) (tk : Nat) (acc : Array Value) (cc : Nat), (∀ b o, b ≠ it → s.heap.get? b = some o → h'.get? b = some o) → h'.get? s.heap.objs.size = some { cls := .type "list", dict := none, data := .seq acc cc, slots := #[] } →
      ItemsOf (fun i v => ∃ t, v = .int (a + (i : Int) * c) t) acc n → Q (.ref s.heap.objs.size) { s with heap := h', toks := tk }) :
    wpAny (model prog w) A (call (.type "list") [.ref it]) Q E s := by
  refine callType_codes (Q₁ := fun obj s₁ => obj = .ref s.heap.objs.size ∧ s₁ = { s with heap := s.heap.push { cls := .type "list", data := .seq #[] } }) F.called_list (F.typeCall_list_1 _) F.entry_list_init
    (code_list_new _ ⟨rfl, rfl⟩) fun obj s₁ h₁ => ?_
  obtain ⟨rfl, rfl⟩ := h₁
  have hS : (s.heap.push { cls := .type "list", data := .seq #[] }).get? s.heap.objs.size = some { cls := .type "list", data := .seq #[] } := Heap.get?_push_size _ rfl
  refine ⟨⟨_, hS, rfl⟩, F.args_list_init_2 _ _, ?_⟩
  have W := (Walks.range (prog := prog) (w := w) (A := A.in1.in1) hh it a c n).toS
  have hoi : s.heap.get? it = some _ := hit
  have hSi : s.heap.objs.size ≠ it := Nat.ne_of_gt (Heap.lt_size hoi)
  have hSf : s.heap.objs.size ∉ [it] := by simp only [List.mem_cons, List.not_mem_nil, or_false]; exact hSi
  show wpAny _ _ (do let old ← Builtin.List.listItems (.ref s.heap.objs.size); Builtin.List.listUpdate (.ref s.heap.objs.size) (fun _ => #[]); letGo old.toList.reverse; Builtin.List.listExtendWith (.ref s.heap.objs.size) (.ref it) .none) _ _ _
  refine wpAny_bind ?_
  unfold Builtin.List.listItems
  refine wpAny_bind (wpAny_seqItems hS rfl (wpAny_pure ?_))
  show wpAny _ _ (updateSeq s.heap.objs.size (fun _ => #[]) >>= fun _ => letGo (#[] : Array Value).toList.reverse >>= fun _ => Builtin.List.listExtendWith (.ref s.heap.objs.size) (.ref it) .none) _ _ _
  refine wpAny_bind (wpAny_updateSeq hS rfl ?_)
  have hS₂ := Heap.get?_update_self (Obj.mapSeq (fun _ => (#[] : Array Value))) hS rfl
  have keep : ∀ b o, s.heap.get? b = some o → ((s.heap.push { cls := .type "list", data := .seq #[] }).update s.heap.objs.size (Obj.mapSeq (fun _ => (#[] : Array Value)))).get? b = some o :=
    fun b o e => (Heap.get?_update_other _ _ (Ne.symm (Nat.ne_of_lt (Heap.lt_size e)))).trans (Heap.get?_push_of_some _ e)
  refine wpAny_bind (wpAny_letGo ?_)
  generalize hU : (s.heap.push { cls := .type "list", data := .seq #[] }).update s.heap.objs.size (Obj.mapSeq (fun _ => (#[] : Array Value))) = U at hS₂ keep
  have hit1 : IsRangeIter U it a n c := keep _ _ hoi
  have hT : ({ s with heap := U } : Shared).TypeIs (.ref it) "range_iterator" := ⟨_, hit1, rfl⟩
  have h1 : Builtin.List.listSameRef (.ref s.heap.objs.size) (.ref it) = false := by simp [Builtin.List.listSameRef, hSi]
  show wpAny _ _ (Builtin.List.listExtendWith (.ref s.heap.objs.size) (.ref it) .none) _ _ { s with heap := U }
  unfold Builtin.List.listExtendWith
  refine wpAny_bind (wpAny_typeOf hT ?_)
  rw [if_neg (by rw [h1]; decide)]
  refine wpAny_bind (wpAny_pyIter_rangeiter (s := { s with heap := U }) hit1 ?_)
  refine wpAny_bind (wpAny_holding ?_)
  unfold Builtin.List.listLengthHint
  refine wpAny_bind (wpAny_specialOf hT nolen_ri ?_)
  show wpAny _ _ (specialOf (Value.ref it) (Str.ofString "__length_hint__") >>= _) _ _ _
  refine wpAny_bind (wpAny_specialOf hT slot_ri_hint.lookup ?_)
  generalize hid : ("range_iterator.__length_hint__" : String) = id0
  wp_delta
  rw [show splitId id0 = some ("range_iterator", "__length_hint__") from by subst hid; decide +kernel]
  subst hid
  refine wpAny_bind (wpAny_isInstance (b := true) hT (by rw [isSubtype_type]; kernel_rfl) ?_)
  rw [if_neg (by decide)]
  try dsimp only
  rw [if_pos (by decide +kernel)]
  rw [if_pos (by decide)]
  refine wpAny_bind (call_ri_hint (s := { s with heap := U }) hit1 fun tk tk' => ?_)
  have hA : asInt? (Value.int ((n : Nat) : Int) tk) = pure (some ((n : Nat) : Int)) := rfl
  have f2 : Builtin.List.listTooLong ((n : Nat) : Int).toNat = false := L2.notLongL (by simpa using hn)
  generalize hg : Value.int ((n : Nat) : Int) tk = vv at hA ⊢
  subst hg
  show wpAny _ _ (asInt? (Value.int ((n : Nat) : Int) tk) >>= _) _ _ _
  rw [hA, pure_bind]
  show wpAny _ _ (if Builtin.List.listTooLong ((n : Nat) : Int).toNat = true then _ else pure false) _ _ _
  rw [if_neg (by rw [f2]; decide)]
  refine wpAny_pure ?_
  show wpAny _ _ (if (false || _) = true then _ else again _) _ _ _
  rw [if_neg (by decide +kernel)]
  refine wpAny_pure ⟨plainId_quiet F.plain_extend_loop _, ?_⟩
  have hit2 : IsRangeIter U it (a + ((0 : Nat) : Int) * c) ((n : Int) - ((0 : Nat) : Int)) c := by
    have e1 : a + ((0 : Nat) : Int) * c = a := by simp
    have e2 : (n : Int) - ((0 : Nat) : Int) = n := by simp
    rw [e1, e2]; exact hit1
  obtain ⟨c0, hS2'⟩ : ∃ c0, U.get? s.heap.objs.size = some { cls := .type "list", dict := none, data := .seq #[] c0, slots := #[] } := ⟨_, hS₂⟩
  refine codeAny_extend_loopS W hn _ hSf _ n 0 { s with heap := U, toks := tk' } #[] c0 rfl (Nat.zero_le _) hit2 hS2' (ItemsOf.nil _) fun s' acc' c' hm hS' hacc => ?_
  rw [Moved.eq_with hm]
  refine ⟨rfl, hQ s'.heap s'.toks acc' c' (fun b o hb e => hm.heap b o (fun hmem => ?_) (keep b o e)) hS' hacc⟩
  rcases List.mem_cons.mp hmem with e' | hmem
  · exact absurd (Heap.lt_size e) (by rw [e']; exact Nat.lt_irrefl _)
  · exact hb (List.mem_singleton.mp hmem)
end
end RR
namespace DL
open PySem PySem.Spec PyProof.Rows L2
section
variable {X : Cx} {cls : Cls} {W : WX} {K : PySem.W.Frag}
/-- the ints b - 1 .. a -/
def rrV (a b : Int) : List V := (List.range (b - a).toNat).map fun i => V.int (a + (((b - a).toNat : Nat) : Int) - 1 + (i : Nat) * (-1))
theorem rrV_length (a b : Int) : (rrV a b).length = (b - a).toNat := by unfold rrV; rw [List.length_map, List.length_range]
theorem vals_rr {a b : Int} {acc : Array Value} (h : ItemsOf (fun i v => ∃ t, v = .int (a + (((b - a).toNat : Nat) : Int) - 1 + (i : Int) * (-1)) t) acc (b - a).toNat) : Vals (rrV a b) acc.toList := by
  have e : acc.toList.length = (b - a).toNat := by rw [Array.length_toList]; exact h.1
  unfold rrV
  rw [← e]
  refine vals_of_get acc.toList _ fun j u hj => ?_
  rw [e]
  obtain ⟨t, rfl⟩ := h.2 j u (by rw [← hj, Array.getElem?_toList])
  exact ⟨t, rfl⟩
theorem rrV_ints (b : Int) : rrV 0 b = (iotaR b.toNat).map V.int := by
  unfold rrV iotaR
  rw [List.map_map, Int.sub_zero]
  refine List.map_congr_left fun i _ => ?_
  show V.int (0 + ((b.toNat : Nat) : Int) - 1 + (i : Int) * (-1)) = V.int ((b.toNat : Int) - 1 - (i : Int))
  congr 1
  omega
def tLstRR (te : L2.St → Hp → (Int → Int → Hp → Prop) → Prop) : TE := fun σ H Q => te σ H fun a b H1 => RgOk a b ∧ ∀ q, H1 q = none → Q (.ref q) (upd H1 q (.lst (rrV a b)))
variable {e : Expr} {te : L2.St → Hp → (Int → Int → Hp → Prop) → Prop}
theorem pe_listRR {p p2 pos pos2 : Pos} (hc : X.calm = true) (hg : Gl X "list") (hm : X.mg "list" = none) (hg2 : Gl X "reversed") (hm2 : X.mg "reversed" = none) (he : PRg X e te)
    (hs : starEach [e] X.env = (false, eval e X.env) :: starEach [] X.env := by rfl)
    (hs2 : starEach [.Call (.Name "reversed" p2) [e] [] pos2] X.env = (false, eval (.Call (.Name "reversed" p2) [e] [] pos2) X.env) :: starEach [] X.env := by rfl) :
    PE X (.Call (.Name "list" p) [.Call (.Name "reversed" p2) [e] [] pos2] [] pos) (tLstRR te) := by
  refine ⟨fun pins s σ H Q I h => ?_⟩
  refine Call_ (ld_blt I hg hm boot_list (PyProof.Rows.callWith_type1 (args_cons (Call_ (ld_blt I hg2 hm2 PyProof.Rows.boot_reversed (PyProof.Rows.callWith_type1 (args_cons (thn (he pins s σ H _ I h) fun x s1 ⟨r, a, b, t, u, v, H1, ex, hr, I1, ok, q⟩ => args_nil ?_) hs) hs rfl))) hs2) hs2 rfl))
  subst ex
  obtain ⟨b1, b2, b3, b4, b5⟩ := ok
  have hn : Builtin.Range.rangeSize a b 1 = (((b - a).toNat : Nat) : Int) := rangeSize_nat a b
  refine call_reversed_range hr (smallRev_one b1 b2 b3 b4) (args_nil ?_)
  have k0 : ∀ c o, s1.heap.get? c = some o → (s1.heap.push (rngRevObj a b 1)).get? c = some o := fun c o e => Heap.get?_push_of_some _ e
  have I2 : Inv X pins σ H1 { s1 with heap := s1.heap.push (rngRevObj a b 1) } := I1.kept (t' := s1.toks) k0
  have hit : IsRangeIter (s1.heap.push (rngRevObj a b 1)) s1.heap.objs.size (a + (((b - a).toNat : Nat) : Int) - 1) (((b - a).toNat : Nat) : Int) (-1) := by
    have e1 : a + (((b - a).toNat : Nat) : Int) - 1 = a + (Builtin.Range.rangeSize a b 1 - 1) * 1 := by rw [hn]; omega
    show _ = some _
    rw [e1, ← hn]
    exact Heap.get?_push_size _ rfl
  have hz : (b - a).toNat ≤ sizeLine := by rw [sizeLine_eq]; omega
  refine RR.call_list_ri (s := { s1 with heap := s1.heap.push (rngRevObj a b 1) }) (I1.ok.hd hc) hit hz fun h' tk acc c hk hS hi => ?_
  have hn1 : H1 (s1.heap.push (rngRevObj a b 1)).objs.size = none := I2.hok.fresh (Nat.le_refl _)
  refine ⟨.ref _, upd H1 (s1.heap.push (rngRevObj a b 1)).objs.size (.lst (rrV a b)), I1.laid (t' := tk) (fun c o e => hk c o (Nat.ne_of_lt (Heap.lt_size e)) (k0 c o e)) (by rw [Heap.size_push]; exact Nat.le_succ _) (show ObjOk X.prog X.w _ _ _ (.lst (rrV a b)) from ⟨by rw [rrV_length]; exact hz, acc.toList, c, vals_rr hi, by rw [Array.toArray_toList]; exact hS⟩), rfl, q _ hn1⟩
/-- list(reversed(range(e))) -/
def eLRR1 (fa : Env → Res D) : Env → Res D := fun g => (fa g).bind fun d => match opd d with
  | .int n => if rgOk n ∧ n ≤ 1000000 then .ok (.ol ((iotaR n.toNat).map D.int)) else .bad
  | _ => .bad
@[simp] theorem eLRR1_ (fa : Env → Res D) (g : Env) : eLRR1 fa g = (fa g).bind fun d => match opd d with
  | .int n => if rgOk n ∧ n ≤ 1000000 then .ok (.ol ((iotaR n.toNat).map D.int)) else .bad
  | _ => .bad := rfl
theorem je_lrr1 {a : Expr} {p p2 p3 pos pos2 q : Pos} {fa : Env → Res D} (c : Cn X W k) (hm : X.mg "list" = none) (hm3 : X.mg "reversed" = none) (hm2 : X.mg "range" = none) (ha : JE X cls W a fa)
    (hg : Gl X "list" := by rfl) (hg3 : Gl X "reversed" := by rfl) (hg2 : Gl X "range" := by rfl) (na : starEach [a] X.env = (false, eval a X.env) :: starEach [] X.env := by rfl)
    (na2 : starEach [.Call (.Name "range" p2) [a] [] q] X.env = (false, eval (.Call (.Name "range" p2) [a] [] q) X.env) :: starEach [] X.env := by rfl)
    (na3 : starEach [.Call (.Name "reversed" p3) [.Call (.Name "range" p2) [a] [] q] [] pos2] X.env = (false, eval (.Call (.Name "reversed" p3) [.Call (.Name "range" p2) [a] [] q] [] pos2) X.env) :: starEach [] X.env := by rfl) :
    JE X cls W (.Call (.Name "list" p) [.Call (.Name "reversed" p3) [.Call (.Name "range" p2) [a] [] q] [] pos2] [] pos) (eLRR1 fa) := by
  obtain ⟨ta, pa, da⟩ := ha.ex
  refine ⟨_, pe_listRR c.calm hg hm hg3 hm3 (prg_1 hg2 hm2 pa na) na2 na3, ?_⟩
  intro σ F H g O Q s st p
  unfold eLRR1 at p
  refine da.go s st (fun c e => by rw [e] at p; exact p) (fun e => by rw [e] at p; exact p) fun d e v F1 H1 x1 b1 => ?_
  rw [e] at p
  simp only [Res.bind] at p
  cases eo : opd d with
  | int n =>
    rw [eo] at p b1
    simp only at p
    split at p
    · rename_i hn
      obtain rfl := b1.int
      refine ⟨n, rfl, ⟨by omega, by omega, hn.1.lo, hn.1.hi, by omega⟩, fun q hq => ?_⟩
      · refine p (.ref q) _ _ [q] (x1.trans (Ext.own x1.fh hq)) ((fresh_new hq).mono x1.hh) (.inl ?_)
        rw [rrV_ints]
        exact ow_new x1.fh hq rps_ints.toOws
    · exact p.elim
  | _ => rw [eo] at p; exact p.elim
end
end DL
namespace DL
open PySem PySem.Spec PyProof.Rows L2
section
variable {P : Program} {w : World} {A : Around} {E : Value → Shared → Prop} {s : Shared}
set_option maxHeartbeats 3200000 in
/-- set(l), l a tuple of ints: what is in it, and at most as many -/
theorem call_set_tupR {l : Addr} {items : Array Value} (ns : List Int) {Q : Value → Shared → Prop} (hh : A.handled = none) (hl : IsTup s.heap l items) (hit : IntsAre items.toList ns) (hb : ns.length + 1 < scanBound)
    (h : ∀ (h' : Heap) (tk c : Nat), SetR w h' s.heap.objs.size (fun j => decide (j ∈ ns)) c → c ≤ ns.length → (∀ b o, s.heap.get? b = some o → h'.get? b = some o) → Q (.ref s.heap.objs.size) { s with heap := h', toks := tk }) :
    wpAny (model P w) A (call (.type "set") [.ref l]) Q E s := by
  have hisz : items.size = ns.length := by
    have q := IntsAre.length hit
    rwa [Array.length_toList] at q
  obtain ⟨c, tl, hmro⟩ := F.called_set.mro
  have hmade := F.called_set.made
  have hsub := F.called_set.sub
  refine wpAny_call (codeAny_of_tree (wpAny_pure ⟨Code.quiet_builtin _ (by decide +kernel), codeAny_builtin F.entry_type_call ?_⟩))
  rw [Around.under_plain (weight_type_call_type "set" [.ref l] []) rfl]
  have h1 := F.called_set.notType
  have h2 := F.called_set.canCreate
  have hct := F.typeCall_set_1 (.ref l)
  repeat (any_goals (first | assumption | wp_step))
  generalize hO : ({ cls := .type "set", dict := none, data := .set #[] 0 (.fresh 0 0 (!w.params.followText "set-order")) } : Obj) = O
  refine codeAny_mono (code_set_led1 (.ref l) (E := E) (Q₁ := fun obj s₁ => obj = .ref s.heap.objs.size ∧ s₁ = { s with heap := s.heap.push O }) ⟨rfl, by rw [hO]⟩) fun r s₁ hr => ?_
  cases r with
  | error e => exact hr
  | ok fl =>
    cases fl with
    | ret obj =>
      obtain ⟨rfl, rfl⟩ := hr
      have hS : (s.heap.push O).get? s.heap.objs.size = some O := Heap.get?_push_size _ (by rw [← hO]; rfl)
      have hT : Shared.TypeIs { s with heap := s.heap.push O } (.ref s.heap.objs.size) "set" := ⟨_, hS, by rw [← hO]⟩
      have hli := F.called_set.init.lookup
      have hbi := F.called_set.init.bind (.ref s.heap.objs.size)
      repeat (any_goals (first | assumption | wp_step))
      refine codeAny_mono (codeAny_call_builtin (R := wants (fun r s₂ => r = .none ∧ ∃ h' tk c, s₂ = { s with heap := h', toks := tk } ∧ SetR w h' s.heap.objs.size (fun j => decide (j ∈ ns)) c ∧ c ≤ ns.length ∧
          (∀ b o, s.heap.get? b = some o → h'.get? b = some o)) E) F.called_set.init.plain F.entry_set_init (check_set_init_1 hT ?_)) fun r₂ s₂ hr₂ => ?_
      · have hlS : l < s.heap.objs.size := by
          obtain ⟨o, ho, _⟩ := hl
          exact Heap.lt_size ho
        have hl1 : IsTup (s.heap.push O) l items := by
          obtain ⟨o, ho, r⟩ := hl
          exact ⟨o, Heap.get?_push_of_some _ ho, r⟩
        obtain ⟨ol, hol', hcl, n0, hdl⟩ := hl1
        obtain ⟨ocls, odict, odata, oslots⟩ := ol
        simp only at hcl hdl
        subst hcl; subst hdl
        have hl2 : IsTup (s.heap.push O) l items := ⟨_, hol', rfl, _, rfl⟩
        have hsls := F.sub_tuple_set
        have hslf := F.sub_tuple_frozenset
        have hne : (Value.type "tuple" == Value.type "dict") = false := by decide
        have hneI : l ≠ (s.heap.push O).objs.size := by rw [Heap.size_push]; exact Nat.ne_of_lt (Nat.lt_succ_of_lt hlS)
        have hSf : s.heap.objs.size ∉ [(s.heap.push O).objs.size, l] := by
          rw [Heap.size_push]; simp only [List.mem_cons, List.not_mem_nil, or_false, not_or]
          exact ⟨Nat.ne_of_lt (Nat.lt_succ_self _), Nat.ne_of_gt hlS⟩
        subst hO
        unfold Builtin.«set.__init__» noKeywords Builtin.Frozenset.updateFrom
        generalize hPI : pyIter = PI
        wp_walk
        subst hPI
        refine wpAny_pyIter_tuple hl2 ?_
        refine wpAny_bind (wpAny_runValue ?_)
        have hval : ∀ (i : Nat) (v : Value), items[i]? = some v → ∃ k t, ns[i]? = some k ∧ v = .int k t := fun i v hv => by
          have hi : i < ns.length := by rw [← hisz]; exact (Array.getElem?_eq_some_iff.mp hv).1
          obtain ⟨t, e⟩ := PyProof.Rows.IntsAre.int_at hit i v (by rw [Array.getElem?_toList]; exact hv)
          exact ⟨ns[i], t, List.getElem?_eq_getElem hi, by rw [e, List.getD_eq_getElem?_getD, List.getElem?_eq_getElem hi] <;> rfl⟩
        refine set_update_ints ((Walks.tuple (by simp [hh]) _ l hneI items).toS) s.heap.objs.size hSf ns hisz hb hval (items.size - 0) 0 _ (by omega) (Nat.zero_le _)
          ⟨⟨_, Heap.get?_push_size _ rfl, rfl, rfl⟩, (hl2.push _)⟩ ⟨0, Nat.le_refl 0, setR_new_at (Heap.get?_push_of_some _ hS)⟩ fun s' c' hm hc' hS' => ?_
        obtain ⟨h', g2, d', tk', os'⟩ := s'
        have eg : g2 = s.gens := hm.gens
        have ed : d' = s.drawn := hm.drawn
        have eo : os' = s.os := hm.os
        subst eg; subst ed; subst eo
        refine wpAny_pure ?_
        rw [hisz] at hc'
        refine wpAny_pure ⟨rfl, h', tk', c', rfl, hS', hc', fun b o e => ?_⟩
        have hb0 : b < s.heap.objs.size := Heap.lt_size e
        refine hm.heap b o ?_ (Heap.get?_push_of_some _ (Heap.get?_push_of_some _ e))
        simp only [List.mem_cons, List.not_mem_nil, or_false, not_or, Heap.size_push]
        exact ⟨Nat.ne_of_lt hb0, Nat.ne_of_lt (Nat.lt_succ_of_lt hb0)⟩
      · cases r₂ with
        | error e => exact hr₂
        | ok fl₂ =>
          cases fl₂ with
          | ret r =>
            obtain ⟨rfl, h', tk, c', rfl, hS', hc', hk'⟩ := hr₂
            repeat (any_goals (first | assumption | wp_step))
            exact h _ _ _ hS' hc' hk'
          | _ => exact hr₂.elim
    | _ => exact hr.elim
end
end DL

namespace DL
open PySem PySem.Spec PyProof.Rows L2
section
variable {X : Cx} {cls : Cls} {W : WX} {K : PySem.W.Frag} {F H F' H' : Hp}
/-- len(set(t)), t a tuple of ints -/
def tLenST (K : PySem.W.Frag) (ta : TE) : TE := fun σ H Q => ta σ H fun x H1 => ∃ (l : Addr) (ns : List Int), x = V.ref l ∧ SqT K H1 l (ns.map V.int) ∧ ns.length ≤ 4000 ∧ Q (.int (sset ns).length) H1
theorem pe_lenST {a : Expr} {ta : TE} {p p2 q pos : Pos} (hc : X.calm = true) (hg : Gl X "len") (hm : X.mg "len" = none) (hg2 : Gl X "set") (hm2 : X.mg "set" = none) (ha : PE X a ta)
    (na : starEach [a] X.env = (false, eval a X.env) :: starEach [] X.env := by rfl) : PE X (.Call (.Name "len" p) [.Call (.Name "set" p2) [a] [] q] [] pos) (tLenST X.K ta) := by
  refine ⟨fun pins s σ H Q I h => ?_⟩
  refine Call_ (ld_blt I hg hm PySem.boot_len ?_)
  refine PyProof.Rows.callWith_builtin1 (PyProof.Rows.args_cons ?_ rfl) rfl rfl
  refine Call_ (ld_blt I hg2 hm2 PyProof.Rows.boot_set ?_)
  refine PyProof.Rows.callWith_type1 (PyProof.Rows.args_cons (thn (ha.run pins s σ H _ I h) fun v s1 ⟨x, H1, I1, r1, q1⟩ => PyProof.Rows.args_nil ?_) na) na rfl
  obtain ⟨l, ns, rfl, hq, h1, q1⟩ := q1
  cases r1
  obtain ⟨its, r, pl, _⟩ := I1.tuple hq
  refine call_set_tupR ns (I1.ok.hd hc) pl (by simpa using r.ints) (by unfold scanBound; omega) fun h' tk c hS hc' hk => ?_
  have e := setR_len hS
  obtain ⟨o, es, ep, t, ho, hex, hd, g, nd, hm, hb, hf, hn, hr, hl⟩ := hS
  refine PyProof.Rows.args_nil ?_
  have I2 : Inv X pins σ H1 { s1 with heap := h', toks := tk } := I1.kept hk
  exact call_len_set ho hex hd hf (by rw [hn] <;> omega) ⟨.int (sset ns).length, H1, I2.tok _, ⟨_, by rw [hn, e]⟩, q1⟩
/-- the ints of a tuple -/
def tpI (d : D) : Option (List Int) := match opd d with
  | .tp xs => intsOf xs
  | _ => none
@[simp] theorem tpI_tp (ns : List Int) : tpI (.tp (ns.map D.int)) = some ns := by simp [tpI]
def eLenSetT (fa : Env → Res D) : Env → Res D := fun g => (fa g).bind fun d => match tpI d with
  | some ns => if ns.length ≤ 4000 then .ok (.int (sset ns).length) else .bad
  | none => .bad
@[simp] theorem eLenSetT_ (fa : Env → Res D) (g : Env) : eLenSetT fa g = (fa g).bind fun d => match tpI d with
  | some ns => if ns.length ≤ 4000 then .ok (.int (sset ns).length) else .bad
  | none => .bad := rfl
theorem tpI_ok {v : V} {d : D} {ns : List Int} (s : Same F H) (b : Bo K cls F H v (opd d)) (e : tpI d = some ns) : ∃ a, v = .ref a ∧ SqT K H a (ns.map V.int) := by
  unfold tpI at e
  cases h1 : opd d with
  | tp xs =>
    rw [h1] at e b
    obtain ⟨a, vs, e1, h, _, r⟩ := b.tpv s (xs := xs) rfl
    rw [intsOf_eq e] at r
    rw [r.ints] at h
    exact ⟨a, e1, h⟩
  | _ => rw [h1] at e; cases e
theorem je_lensetT {a : Expr} {p p2 q pos : Pos} {fa : Env → Res D} (c : Cn X W k) (hm : X.mg "len" = none) (hm2 : X.mg "set" = none) (ha : JE X cls W a fa) (hg : Gl X "len" := by rfl) (hg2 : Gl X "set" := by rfl)
    (na : starEach [a] X.env = (false, eval a X.env) :: starEach [] X.env := by rfl) : JE X cls W (.Call (.Name "len" p) [.Call (.Name "set" p2) [a] [] q] [] pos) (eLenSetT fa) := by
  obtain ⟨ta, pa, da⟩ := ha.ex
  refine ⟨_, pe_lenST c.calm hg hm hg2 hm2 pa na, ?_⟩
  intro σ F H g O Q s st p
  unfold eLenSetT at p
  refine da.go s st (fun c e => by rw [e] at p; exact p) (fun e => by rw [e] at p; exact p) fun d e v F1 H1 x1 b1 => ?_
  rw [e] at p
  simp only [Res.bind] at p
  cases eo : tpI d with
  | none => rw [eo] at p; exact p.elim
  | some ns =>
    rw [eo] at p
    simp only at p
    split at p
    · rename_i hz
      obtain ⟨l, rfl, h⟩ := tpI_ok x1.fh b1 eo
      exact ⟨l, ns, rfl, h, hz, p _ F1 H1 [] x1 Fresh.nil (.inl (.sh (.int _)))⟩
    · exact p.elim
end
end DL
namespace DL
open PySem PySem.Spec PyProof.Rows L2
/-! ### dicts of a def's own: ints for keys -/
section
variable {κ β : Type} [DecidableEq κ]
def valG (kvs : List (κ × β)) (k : κ) : Option β := (kvs.find? fun kv => decide (kv.1 = k)).map (·.2)
def putG (kvs : List (κ × β)) (k : κ) (v : β) : List (κ × β) :=
  if (kvs.any fun kv => decide (kv.1 = k)) = true then kvs.map (fun kv => if kv.1 = k then (kv.1, v) else kv) else kvs ++ [(k, v)]
end
inductive PR (R : V → D → Prop) : List (Key × V) → List (Key × D) → Prop
  | nil : PR R [] []
  | cons {k : Key} {v : V} {d : D} {l : List (Key × V)} {m : List (Key × D)} : R v d → PR R l m → PR R ((k, v) :: l) ((k, d) :: m)
section
variable {R : V → D → Prop}
theorem PR.any {l : List (Key × V)} {m : List (Key × D)} (h : PR R l m) (k : Key) : (l.any fun kv => decide (kv.1 = k)) = m.any fun kv => decide (kv.1 = k) := by
  induction h with
  | nil => rfl
  | cons r _ ih => simp only [List.any_cons, ih]
theorem PR.val {l : List (Key × V)} {m : List (Key × D)} (h : PR R l m) {k : Key} {d : D} (e : valG m k = some d) : ∃ v, valV l k = some v ∧ R v d := by
  induction h with
  | nil => cases e
  | @cons j v d' l m r t ih =>
    unfold valG at e
    by_cases q : j = k
    · rw [List.find?_cons_of_pos (by simp [q])] at e
      cases e
      exact ⟨v, by unfold valV; rw [List.find?_cons_of_pos (by simp [q])]; rfl, r⟩
    · rw [List.find?_cons_of_neg (by simp [q])] at e
      obtain ⟨v', h1, h2⟩ := ih e
      exact ⟨v', by unfold valV; rw [List.find?_cons_of_neg (by simp [q])]; exact h1, h2⟩
theorem PR.rep {l : List (Key × V)} {m : List (Key × D)} (h : PR R l m) (k : Key) {v : V} {d : D} (r : R v d) : PR R (l.map fun kv => if kv.1 = k then (kv.1, v) else kv) (m.map fun kv => if kv.1 = k then (kv.1, d) else kv) := by
  induction h with
  | nil => exact .nil
  | @cons j v' d' l m r' t ih =>
    simp only [List.map_cons]
    by_cases q : j = k
    · rw [if_pos q, if_pos q]; exact .cons r ih
    · rw [if_neg q, if_neg q]; exact .cons r' ih
theorem PR.snoc {l : List (Key × V)} {m : List (Key × D)} (h : PR R l m) (k : Key) {v : V} {d : D} (r : R v d) : PR R (l ++ [(k, v)]) (m ++ [(k, d)]) := by
  induction h with
  | nil => exact .cons r .nil
  | cons r' t ih => exact .cons r' ih
theorem PR.put {l : List (Key × V)} {m : List (Key × D)} (h : PR R l m) (k : Key) {v : V} {d : D} (r : R v d) : PR R (putK l k v) (putG m k d) := by
  unfold putK putG
  rw [h.any k]
  split
  · exact h.rep k r
  · exact h.snoc k r
theorem PR.zipE {l : List (Key × V)} {m : List (Key × D)} (h : PR R l m) : l = (m.map (·.1)).zip (l.map (·.2)) ∧ (m.map (·.1)).length = (l.map (·.2)).length ∧ l.length = m.length := by
  induction h with
  | nil => exact ⟨rfl, rfl, rfl⟩
  | cons r t ih =>
    obtain ⟨h1, h2, h3⟩ := ih
    refine ⟨?_, by simp [h3], by simp [h3]⟩
    simp only [List.map_cons, List.zip_cons_cons]
    rw [← h1]
end
section
variable {K : PySem.W.Frag} {cls : Cls} {F H F' H' : Hp} {X : Cx} {W : WX} {O : List Addr}
theorem pr_bos : ∀ {ks : List Key} {vs : List V} {ds : List D}, Bos K cls F H vs ds → ks.length = vs.length → PR (Bo K cls F H) (ks.zip vs) (ks.zip ds)
  | [], _, _, _, _ => .nil
  | k :: ks, _, _, .cons a b, h => .cons a (pr_bos b (by simpa using h))
  | k :: ks, _, _, .nil, h => by simp at h
/-- all that is not owned -/
theorem ows_sh : ∀ {vs : List V} {ds : List D} {O : List Addr}, Ows K cls F H vs ds O → (ds.all fun d => !own1 d) = true → O = [] ∧ Rps K cls F vs ds
  | _, _, _, .nil, _ => ⟨rfl, .nil⟩
  | _, _, _, .cons a b dj e, h => by
    simp only [List.all_cons, Bool.and_eq_true] at h
    obtain ⟨h1, h2⟩ := ows_sh b h.2
    cases a with
    | sh r => exact ⟨by rw [e, h1]; rfl, .cons r h2⟩
    | _ => simp [own1] at h
theorem pr_rps : ∀ {ks : List Key} {vs : List V} {ds : List D}, Rps K cls F vs ds → ks.length = vs.length → PR (Rp K cls F) (ks.zip vs) (ks.zip ds)
  | [], _, _, _, _ => .nil
  | k :: ks, _, _, .cons a b, h => .cons a (pr_rps b (by simpa using h))
  | k :: ks, _, _, .nil, h => by simp at h
theorem PR.rps {l : List (Key × V)} {m : List (Key × D)} (h : PR (Rp K cls F) l m) : Rps K cls F (l.map (·.2)) (m.map (·.2)) := by
  induction h with
  | nil => exact .nil
  | cons r t ih => exact .cons r ih
/-- {} -/
def eDic : Env → Res D := fun _ => .ok (.od [] [])
@[simp] theorem eDic_ (g : Env) : eDic g = .ok (.od [] []) := rfl
theorem je_dic {pos : Pos} : JE X cls W (.Dict [] [] pos) eDic := by
  refine ⟨_, pe_dnewK, ?_⟩
  intro σ F H g O Q s st p q hq
  refine p (.ref q) F _ [q] (Ext.own s hq) (fresh_new hq) (.inl ?_)
  exact .od (O := []) (s.free hq) (by rw [upd_same]; rfl) rfl (fun h => nomatch h) .nil
/-- d[k] -/
def opDG : D → D → Option D
  | .bd ks ds, .int k => valG (ks.zip ds) (.inl k)
  | _, _ => none
def rDG : V → V → Hp → VK → Prop := fun x y H Q => ∃ a v, x = .ref a ∧ DGet H a y (some v) ∧ Q v H
theorem ok_dg : R2Ok K cls rDG opDG := by
  intro F H x y a b d Q s b1 b2 e q
  unfold opDG at e
  split at e
  · rename_i ks ds k
    obtain rfl := b2.int
    cases b1 with
    | sh r => cases r
    | @bd a' _ vs _ h l r =>
      obtain ⟨v, h1, h2⟩ := (pr_bos r l).val e
      refine ⟨a', v, rfl, ?_, q v F H [] (.refl s) Fresh.nil (.inr ⟨h2, rfl⟩)⟩
      rw [← h1]
      exact DGet.k (k := .inl k) h
  · cases e
theorem je_dget {a b : Expr} {fa fb : Env → Res D} {k : Nat} {pos : Pos} (c : Cn X W k) (ha : JE X cls W a fa) (hb : JE X cls W b fb) (hs : NoSl b := by exact fun _ _ => rfl) : JE X cls W (.Subscript a b pos) (eBin opDG fa fb) := by
  obtain ⟨ta, pa, da⟩ := ha.ex
  obtain ⟨tb, pb, db⟩ := hb.ex
  have hu := c.eq
  exact ⟨tOp rDG ta tb, pe_dget (by omega) pa pb hs, de_bin ok_dg da db⟩
/-- k in d -/
def cDI : D → D → Option Bool
  | .int k, .bd ks ds => some ((ks.zip ds).any fun kv => decide (kv.1 = .inl k))
  | _, _ => none
def cDN : D → D → Option Bool := fun a b => (cDI a b).map (!·)
def rDI (n : Bool) : V → V → Hp → VK → Prop := fun y x H Q => ∃ a o, x = .ref a ∧ DGet H a y o ∧ Q (.bl (if n then !o.isSome else o.isSome)) H
theorem op_di (hu : X.A.units + 1 < cLine) : OpR X (compareOp .In) (rDI false) := by
  intro pins s σ H x y v u Q I rx ry h
  obtain ⟨a, o, ex, g, q⟩ := h
  subst ex
  obtain rfl : u = Value.ref a := ry
  exact d_in hu I g rx fun s3 I3 => ⟨.bl o.isSome, H, I3, rfl, q⟩
theorem op_dn (hu : X.A.units + 1 < cLine) : OpR X (compareOp .NotIn) (rDI true) := by
  intro pins s σ H x y v u Q I rx ry h
  obtain ⟨a, o, ex, g, q⟩ := h
  subst ex
  obtain rfl : u = Value.ref a := ry
  exact d_notIn hu I g rx fun s3 I3 => ⟨.bl (!o.isSome), H, I3, rfl, q⟩
theorem valV_anyK (l : List (Key × V)) (k : Key) : (valV l k).isSome = l.any fun kv => decide (kv.1 = k) := (valV_any k l).symm
theorem di_ok {x y : V} {a b : D} {d : Bool} (b1 : Bo K cls F H x a) (b2 : Bo K cls F H y b) (e : cDI a b = some d) : ∃ q o, y = .ref q ∧ DGet H q x o ∧ o.isSome = d := by
  unfold cDI at e
  split at e
  · rename_i k ks ds
    obtain rfl := b1.int
    cases b2 with
    | sh r => cases r
    | @bd a' _ vs _ h l r =>
      refine ⟨a', valV (ks.zip vs) (.inl k), rfl, DGet.k (k := .inl k) h, ?_⟩
      rw [valV_anyK, (pr_bos r l).any]
      exact Option.some.inj e
  · cases e
theorem ok_di : C2Ok K cls (rDI false) cDI := by
  intro F H x y a b d Q s b1 b2 e q
  obtain ⟨p, o, e1, h1, h2⟩ := di_ok b1 b2 e
  exact ⟨p, o, e1, h1, by rw [if_neg (by decide), h2]; exact q⟩
theorem ok_dn : C2Ok K cls (rDI true) cDN := by
  intro F H x y a b d Q s b1 b2 e q
  unfold cDN at e
  cases e0 : cDI a b with
  | none => rw [e0] at e; cases e
  | some k =>
    rw [e0] at e
    cases e
    obtain ⟨p, o, e1, h1, h2⟩ := di_ok b1 b2 e0
    exact ⟨p, o, e1, h1, by rw [if_pos rfl, h2]; exact q⟩
/-- a dict in a slot -/
theorem Sts.dct {g : Env} {i : Nat} {ks : List Key} {xs : List D} {σ : L2.St} (st : Sts K cls F H σ g O) (e : g[i]? = some (.od ks xs)) : ∃ p vs O1, σ[i]? = some (some (.ref p)) ∧ H p = some (.dK (ks.zip vs)) ∧ ks.length = vs.length ∧ F p = none ∧ Ows K cls F H vs xs O1 ∧
    ∀ (F' H' : Hp) (ks' : List Key) (ws : List V) (ys : List D), Ext F H F' H' → Rps K cls F' ws ys → ks'.length = ws.length →
      ∃ O'', Sts K cls F' (upd H' p (.dK (ks'.zip ws))) σ (g.set i (.od ks' ys)) O'' ∧ SExt F H O F' (upd H' p (.dK (ks'.zip ws))) O'' := by
  obtain ⟨P, h1, h2, h3, _⟩ := st.at i (List.getElem?_eq_some_iff.mp e).1
  rcases h2 with ⟨h2, _⟩ | ⟨v, d, h2, h2', ow⟩
  · rw [e] at h2; cases h2
  · rw [e] at h2'; cases h2'
    cases ow with
    | sh r => cases r
    | @od p _ vs _ O1 f1 f2 fl f3 f4 =>
      refine ⟨p, vs, O1, h2, f2, fl, f1, f4, fun F' H' ks' ws ys x w hl => ?_⟩
      have hp : F' p = none := x.ow p f1 (by rw [f2]; exact fun e => nomatch e)
      have up : ∀ b, b ≠ p → upd H' p (.dK (ks'.zip ws)) b = H' b := fun b hb => upd_ne hb
      obtain ⟨O'', q1, q2⟩ := h3 F' (upd H' p (.dK (ks'.zip ws))) (.ref p) (.od ks' ys) [p] (fun b hb hn => by
          obtain ⟨e1, e2⟩ := x.get (st.dom b hb).1 (st.dom b hb).2
          exact ⟨(up b fun z => hn (by simp [z])).trans e1, e2⟩) x.ff
        (.od (O := []) hp upd_same hl (fun h => nomatch h) w.toOws) (fun a ha hO => by
          rcases List.mem_cons.mp ha with rfl | ha
          · simp
          · exact nomatch ha)
      rw [set_self h2] at q1
      refine ⟨O'', q1, x.ff, fun b o q => ?_, fun b o q hn => ?_, fun b h1 h2 _ => x.ow b h1 h2, fun b hb => ?_⟩
      · rw [up b fun z => by rw [z, hp] at q; cases q]; exact x.fh b o q
      · rw [up b fun z => hn (z ▸ h1 p (by simp))]; exact x.hh b o q
      · rcases q2 b hb with z | z
        · exact .inl z
        · rcases List.mem_cons.mp z with rfl | z
          · exact .inl (h1 _ (by simp))
          · exact nomatch z
/-- x[k] = e, x a dict -/
def sDSet (i : Nat) (fk fa : Env → Res D) : Env → Out := fun g => ((fa g).bind kp).st g fun d => match g[i]? with
  | some (.od ks xs) => (fk g).st g fun k => match opd k with
    | .int k => if xs.all (fun d => !own1 d) = true ∧ own1 d = false ∧ ks.length < lim then .nx (g.set i (.od ((putG (ks.zip xs) (.inl k) d).map (·.1)) ((putG (ks.zip xs) (.inl k) d).map (·.2)))) else .bad
    | _ => .bad
  | _ => .bad
@[simp] theorem sDSet_ (i : Nat) (fk fa : Env → Res D) (g : Env) : sDSet i fk fa g = ((fa g).bind kp).st g fun d => match g[i]? with
  | some (.od ks xs) => (fk g).st g fun k => match opd k with
    | .int k => if xs.all (fun d => !own1 d) = true ∧ own1 d = false ∧ ks.length < lim then .nx (g.set i (.od ((putG (ks.zip xs) (.inl k) d).map (·.1)) ((putG (ks.zip xs) (.inl k) d).map (·.2)))) else .bad
    | _ => .bad
  | _ => .bad := rfl
theorem js_dset {a b : Expr} {fa : Env → Res D} {pos : Pos} {i k : Nat} {x : Str} {npos spos : Pos} {fk : Env → Res D} (c : Cn X W k) (hN : X.N[i]? = some x) (hv : Vis X.env.scope x) (ha : JE X cls W a fa) (hk : JE X cls W b fk) (hd : (x == ("__debug__" : Str)) = false := by decide) (hcd : (x == ("__classdict__" : Str)) = false := by decide)
    (hs : swapsWith a (some (.Subscript (.Name x npos) b spos)) pos.line X.env = pure false := by rfl) : JS X cls W (.Assign [.Subscript (.Name x npos) b spos] a pos) (sDSet i fk fa) := by
  obtain ⟨t, p, d⟩ := ha.ex
  obtain ⟨t2, p2, d2⟩ := hk.ex
  have hu := c.eq
  refine ⟨_, ps_dput (by omega) (pe_var hN hv hd hcd) p2 p hs, ?_⟩
  intro D σ F H g O s st p
  rw [sDSet_] at p
  refine d.goS s st p fun dd e p v F1 H1 O2 x fr w => ?_
  split at p
  · rename_i ks xs eg
    obtain ⟨q, vs, O1, h1, h2, hl, h2', h4, h7⟩ := st.dct eg
    refine ⟨.ref q, h1, ?_⟩
    refine d2.go x.fh (st.ext x) (fun c e F' H' y => by rw [e] at p; exact p σ F' H' O ((x.trans y).sext fun a h => .inl h) (st.ext (x.trans y))) (fun e => by rw [e] at p; exact p) fun kd e kv F3 H3 x3 b3 => ?_
    rw [e, Res.st_ok] at p
    split at p
    · rename_i k ek
      split at p
      · rename_i hc
        obtain ⟨c1, c2, c3⟩ := hc
        rw [ek] at b3
        obtain rfl := b3.int
        have x13 := x.trans x3
        obtain ⟨rfl, r1⟩ := ows_sh (h4.ext x13) c1
        have rd : Rp X.K cls F3 v dd := by
          cases w with
          | sh r => exact r.mono x3.ff
          | _ => simp [own1] at c2
        have pr := (pr_rps r1 hl).put (.inl k) rd
        obtain ⟨z1, z2, z3⟩ := pr.zipE
        have lz : (ks.zip vs).length < sizeLine := by
          have : (ks.zip vs).length ≤ ks.length := by rw [List.length_zip]; exact Nat.min_le_left _ _
          have := lim_lt c3
          omega
        refine ⟨q, _, rfl, DPut.k (k := .inl k) (x13.hh _ _ h2) lz, ?_⟩
        obtain ⟨O'', y1, y2⟩ := h7 F3 H3 ((putG (ks.zip xs) (.inl k) dd).map (·.1)) ((putK (ks.zip vs) (.inl k) v).map (·.2)) ((putG (ks.zip xs) (.inl k) dd).map (·.2)) x13 pr.rps z2
        rw [← z1] at y1 y2
        exact p σ F3 _ O'' y2 y1
      · exact p.elim
    · exact p.elim
  · exact p.elim
end
/-! reckoning -/
def ddK (l : List (Int × D)) : List Key := l.map fun x => .inl x.1
def ddV (l : List (Int × D)) : List D := l.map (·.2)
theorem zip_ddK (l : List (Int × D)) : (ddK l).zip (ddV l) = l.map fun x => ((.inl x.1 : Key), x.2) := by
  unfold ddK ddV
  induction l with
  | nil => rfl
  | cons a l ih => simp [ih]
theorem put_ddK (l : List (Int × D)) (k : Int) (d : D) : putG ((ddK l).zip (ddV l)) (.inl k) d = (ddK (putG l k d)).zip (ddV (putG l k d)) := by
  rw [zip_ddK, zip_ddK]
  unfold putG
  have e : ((l.map fun x => ((.inl x.1 : Key), x.2)).any fun kv => decide (kv.1 = .inl k)) = l.any fun kv => decide (kv.1 = k) := by
    rw [List.any_map]; congr 1; funext x; simp
  rw [e]
  split
  · rw [List.map_map, List.map_map]
    refine List.map_congr_left fun x _ => ?_
    by_cases q : x.1 = k <;> simp [q]
  · simp
theorem putD_k (l : List (Int × D)) (k : Int) (d : D) : (putG ((ddK l).zip (ddV l)) (.inl k) d).map (·.1) = ddK (putG l k d) := by
  rw [put_ddK, List.map_fst_zip]; simp [ddK, ddV]
theorem putD_d (l : List (Int × D)) (k : Int) (d : D) : (putG ((ddK l).zip (ddV l)) (.inl k) d).map (·.2) = ddV (putG l k d) := by
  rw [put_ddK, List.map_snd_zip]; simp [ddK, ddV]
theorem opDG_dd (l : List (Int × D)) (k : Int) : opDG (.bd (ddK l) (ddV l)) (.int k) = valG l k := by
  show valG ((ddK l).zip (ddV l)) (.inl k) = _
  rw [zip_ddK]
  induction l with
  | nil => rfl
  | cons a l ih =>
    unfold valG at ih ⊢
    by_cases q : a.1 = k
    · rw [List.map_cons, List.find?_cons_of_pos (by simp [q]), List.find?_cons_of_pos (by simp [q])]; rfl
    · rw [List.map_cons, List.find?_cons_of_neg (by simp [q]), List.find?_cons_of_neg (by simp [q])]; exact ih
theorem cDI_dd (l : List (Int × D)) (k : Int) : cDI (.int k) (.bd (ddK l) (ddV l)) = some (l.any fun kv => decide (kv.1 = k)) := by
  show some (((ddK l).zip (ddV l)).any fun kv => decide (kv.1 = .inl k)) = _
  rw [zip_ddK, List.any_map]
  congr 2
  funext x; simp
end DL
namespace DL
open L2 in
theorem Cn.eq1 {X : L2.Cx} {W : L2.WX} {k : Nat} (c : Cn X W k) : X.A.units + 1 < PySem.cLine := by have := c.eq; omega
end DL
noncomputable section
namespace Lw
open DL
def f_law_cell : Env → Out := sSeq (sIf (tC2 cLt (eVar 1) (eCall caLen (aCons (eVar 0) (aNil)))) (sRet (eBin opMod (eBin opIx (eVar 0) (eVar 1)) (eBin opPow (eC (.int 10)) (eC (.int 60))))) (sNil)) (sRet (eC (.int 0)))
def g_law_cell : List D → Res D := runF f_law_cell 2
def f_law_mixed : Env → Out := sSeq (sAsgF 2 (eBin opMod (eBin opMul (eBin opAdd (eBin opAdd (eVar 0) (eBin opMul (eC (.int 7919)) (eVar 1))) (eC (.int 1))) (eC (.int 48271))) (eC (.int 2147483647)))) (sSeq (sAsgF 3 (eBin opMod (eBin opAdd (eBin opAdd (eBin opMul (eVar 2) (eVar 2)) (eBin opMul (eC (.int 40692)) (eVar 1))) (eC (.int 3))) (eC (.int 2147483629)))) (sRet (eBin opDiv (eBin opMod (eBin opMul (eVar 3) (eVar 3)) (eC (.int 2147483587))) (eC (.int 8)))))
def g_law_mixed : List D → Res D := runF f_law_mixed 4
def f_law_draws_c1 : Env → Res D := eBin opMod (eVar 9) (eBin opPow (eC (.int 10)) (eC (.int 60)))
def f_law_draws_c2 : Env → Res D := eBin opAdd (eBin opMul (eC (.int 7)) (eVar 6)) (eC (.int 5))
def f_law_draws_l3 : Env → Out := sSeq (sAsgF 7 (eBin opMod (eVar 6) (eCall caMax2 (aCons (eC (.int 1)) (aCons (eVar 2) (aNil)))))) (sIf (tC2 cGt (eVar 2) (eC (.int 0))) (sSet 5 (eVar 7) (eBin opMod (eBin opAdd (eBin opMul (eBin opIx (eVar 5) (eVar 7)) (eC (.int 31))) (eBin opIx (eVar 0) (eVar 6))) (eBin opPow (eC (.int 10)) (eC (.int 60))))) (sNil))
def f_law_draws_l4 : Env → Out := sIf (tAn (tC2 cEq (eVar 3) (eC (.int 0))) (tC2 cGt (eVar 4) (eC (.int 0)))) (sSeq (sApp 8 (eBin opMod (eVar 4) (eC (.int 210)))) (sAsgF 4 (eBin opDiv (eVar 4) (eC (.int 210))))) (sApp 8 (eOwn g_law_mixed (aCons (eBin opIx (eVar 5) (eVar 6)) (aCons (eVar 6) (aNil)))))
def f_law_draws : Env → Out := sSeq (sAsgF 4 (eBin opMod (eCall caSum (aCons (eLc (iSeq (eSl (eVar 0) (ePart (some (eVar 1))) (ePart none))) [9] (gtN 9) (tYesG) f_law_draws_c1) (aNil))) (eBin opPow (eC (.int 10)) (eC (.int 60))))) (sSeq (sAsg 5 (eLc (iRg1 (aCons (eVar 2) (aNil))) [6] (gtN 6) (tYesG) f_law_draws_c2)) (sSeq (sFor (iRg2 (aCons (eVar 1) (aCons (eCall caLen (aCons (eVar 0) (aNil))) (aNil)))) (gtN 6) f_law_draws_l3) (sSeq (sAsg 8 (eLst (aNil))) (sSeq (sFor (iRg1 (aCons (eVar 2) (aNil))) (gtN 6) f_law_draws_l4) (sRetV 8)))))
def g_law_draws : List D → Res D := runF f_law_draws 10
def f_law_ties_l1 : Env → Out := sSeq (sAsgF 5 (eBin opMod (eBin opIx (eVar 0) (eVar 4)) (eVar 1))) (sSeq (sAsgF 6 (eBin opMod (eBin opDiv (eBin opIx (eVar 0) (eVar 4)) (eVar 1)) (eVar 1))) (sSeq (sIf (tAn (tTr (eVar 2)) (tC2 cLt (eVar 4) (eBin opSub (eVar 1) (eC (.int 1))))) (sSeq (sAsgF 7 (eTup (aConsO (eBin opMod (eBin opIx (eVar 0) (eVar 4)) (eBin opAdd (eVar 4) (eC (.int 1)))) (aConsO (eBin opAdd (eVar 4) (eC (.int 1))) (aNil))))) (sSeq (sAsgF 5 (eBin opIx (eVar 7) (eBin opMod (eBin opDiv (eBin opIx (eVar 0) (eVar 4)) (eC (.int 105))) (eC (.int 2))))) (sAsgF 6 (eBin opIx (eVar 7) (eBin opSub (eC (.int 1)) (eBin opMod (eBin opDiv (eBin opIx (eVar 0) (eVar 4)) (eC (.int 105))) (eC (.int 2)))))))) (sNil)) (sApp 3 (eTup (aConsO (eVar 5) (aConsO (eVar 6) (aNil)))))))
def f_law_ties : Env → Out := sSeq (sAsg 3 (eLst (aNil))) (sSeq (sFor (iRg1 (aCons (eCall caLen (aCons (eVar 0) (aNil))) (aNil))) (gtN 4) f_law_ties_l1) (sSeq (sAsgF 8 (eBin opMod (eCall caSum (aCons (eVar 0) (aNil))) (eCall caMax2 (aCons (eC (.int 1)) (aCons (eCall caLen (aCons (eVar 3) (aNil))) (aNil)))))) (sRet (eBin opAdd (eSl (eVar 3) (ePart (some (eVar 8))) (ePart none)) (eSl (eVar 3) (ePart none) (ePart (some (eVar 8))))))))
def g_law_ties : List D → Res D := runF f_law_ties 9
def f_law_web : Env → Out := sSeq (sAsgF 3 (eOwn g_law_cell (aCons (eVar 0) (aCons (eC (.int 0)) (aNil))))) (sSeq (sAsgF 4 (eBin opAdd (eC (.int 1)) (eBin opMod (eVar 3) (eVar 1)))) (sSeq (sAsgF 5 (eCall caMin2 (aCons (eVar 2) (aCons (eBin opAdd (eBin opMod (eBin opDiv (eVar 3) (eVar 1)) (eBin opAdd (eVar 2) (eC (.int 1)))) (eBin opMul (eBin opMod (eBin opDiv (eVar 3) (eC (.int 97))) (eC (.int 2))) (eVar 4))) (aNil))))) (sSeq (sAsgF 6 (eOwn g_law_draws (aCons (eVar 0) (aCons (eC (.int 1)) (aCons (eVar 5) (aCons (eBin opMod (eBin opDiv (eVar 3) (eC (.int 194))) (eC (.int 2))) (aNil))))))) (sRet (eTup (aConsO (eVar 4) (aConsO (eOwn g_law_ties (aCons (eVar 6) (aCons (eVar 4) (aCons (eB (tC2 cGt (eBin opMod (eBin opDiv (eVar 3) (eC (.int 388))) (eC (.int 3))) (eC (.int 0)))) (aNil))))) (aNil))))))))
def g_law_web : List D → Res D := runF f_law_web 7
end Lw
end
namespace Lw
open DL
theorem cell_ok (s : List Int) (k : Int) (hk : 0 ≤ k) : ∃ c : Int, 0 ≤ c ∧ c < e60 ∧ g_law_cell [.sc (s.map D.int), .int k] = .ok (.int c) := by
  by_cases h : k < s.length
  · obtain ⟨a, e, _⟩ := DL.atI_of hk h
    refine ⟨a % e60, Int.emod_nonneg _ (by have := e60_pos; omega), Int.emod_lt_of_pos _ e60_pos, ?_⟩
    simp [g_law_cell, runF, f_law_cell, h, e]
  · refine ⟨0, by omega, e60_pos, ?_⟩
    simp [g_law_cell, runF, f_law_cell, h]
/-- the mixing of a number -/
def mix1 (c k : Int) : Int := (c + 7919 * k + 1) * 48271 % 2147483647
def mix2 (c k : Int) : Int := (mix1 c k * mix1 c k + 40692 * k + 3) % 2147483629
def mixF (c k : Int) : Int := mix2 c k * mix2 c k % 2147483587 / 8
theorem mix1_b (c k : Int) : 0 ≤ mix1 c k ∧ mix1 c k < 2147483647 := by unfold mix1; omega
theorem mix2_b (c k : Int) : 0 ≤ mix2 c k ∧ mix2 c k < 2147483629 := by unfold mix2; omega
theorem mixF_nn (c k : Int) : 0 ≤ mixF c k := by unfold mixF; omega
theorem mixed_ok (c k : Int) : g_law_mixed [.int c, .int k] = .ok (.int (mixF c k)) := by
  have h1 := mix1_b c k
  have h2 := mix2_b c k
  have e1 : (c + 7919 * k + 1) * 48271 % 2147483647 = mix1 c k := rfl
  have e2 : (mix1 c k * mix1 c k + 40692 * k + 3) % 2147483629 = mix2 c k := rfl
  have e3 : mix2 c k * mix2 c k % 2147483587 / 8 = mixF c k := rfl
  have a1 : -18446744073709551616 < mix1 c k := by omega
  have a2 : mix1 c k < 18446744073709551616 := by omega
  have b1 : -18446744073709551616 < mix2 c k := by omega
  have b2 : mix2 c k < 18446744073709551616 := by omega
  simp [g_law_mixed, runF, f_law_mixed, e1, a1, a2, e2, b1, b2, e3]
end Lw
namespace Lw
open DL
theorem draws_l4 (x0 x1 x6 x7 x9 : D) (F : List Int) (T count way : Int) (h2 : count ≤ 1000) (hF : F.length = count.toNat) (hT : 0 ≤ T) :
    ∃ (g' : Env) (l : List Int), forL (gtN 6) f_law_draws_l4 (rng 0 count.toNat) [x0, x1, .int count, .int way, .int T, .ol (F.map D.int), x6, x7, .ol [], x9] = .nx g' ∧ l.length = count.toNat ∧ (∀ x ∈ l, 0 ≤ x) ∧ g'[8]? = some (.ol (l.map D.int)) := by
  obtain ⟨g', e, T', l, k, hT', hl, hp, rfl⟩ := for_rngN (s := 6) (b := f_law_draws_l4) (lo := 0) (n := count.toNat)
    (fun i g => ∃ (T : Int) (l : List Int) (k : D), 0 ≤ T ∧ l.length = i ∧ (∀ x ∈ l, 0 ≤ x) ∧ g = [x0, x1, .int count, .int way, .int T, .ol (F.map D.int), k, x7, .ol (l.map D.int), x9])
    (g := [x0, x1, .int count, .int way, .int T, .ol (F.map D.int), x6, x7, .ol [], x9]) ⟨T, [], x6, hT, rfl, by simp, rfl⟩ (fun i g hi ⟨T, l, k, hT, hl, hp, hg⟩ => by
      subst hg
      obtain ⟨a, ea, _⟩ := DL.atI_of (l := F) (i := (i : Int)) (by omega) (by omega)
      have hlim : l.length < lim := by rw [lim_eq]; omega
      have hm := mixed_ok a (i : Int)
      by_cases q : way = 0
      · by_cases q2 : 0 < T
        · refine ⟨[x0, x1, .int count, .int way, .int (T / 210), .ol (F.map D.int), .int (0 + (i : Int)), x7, .ol ((l ++ [T % 210]).map D.int), x9], .inl ?_, T / 210, l ++ [T % 210], _, by omega, by simp [hl], ?_, rfl⟩
          · simp [f_law_draws_l4, q, q2, hlim]
          · intro x hx
            rcases List.mem_append.mp hx with h | h
            · exact hp x h
            · simp at h; omega
        · refine ⟨[x0, x1, .int count, .int way, .int T, .ol (F.map D.int), .int (0 + (i : Int)), x7, .ol ((l ++ [mixF a (i : Int)]).map D.int), x9], .inl ?_, T, l ++ [mixF a (i : Int)], _, hT, by simp [hl], ?_, rfl⟩
          · simp [f_law_draws_l4, q, q2, ea, hm, hlim]
          · intro x hx
            rcases List.mem_append.mp hx with h | h
            · exact hp x h
            · simp at h; rw [h]; exact mixF_nn a i
      · refine ⟨[x0, x1, .int count, .int way, .int T, .ol (F.map D.int), .int (0 + (i : Int)), x7, .ol ((l ++ [mixF a (i : Int)]).map D.int), x9], .inl ?_, T, l ++ [mixF a (i : Int)], _, hT, by simp [hl], ?_, rfl⟩
        · simp [f_law_draws_l4, q, ea, hm, hlim]
        · intro x hx
          rcases List.mem_append.mp hx with h | h
          · exact hp x h
          · simp at h; rw [h]; exact mixF_nn a i)
  exact ⟨_, l, e, hl, hp, rfl⟩
theorem draws_l3 (s : List Int) (start count : Int) (x3 x4 x6 x7 x8 x9 : D) (F : List Int) (hs : s.length ≤ 63) (h0 : 0 ≤ start) (hF : F.length = count.toNat) :
    ∃ (g' : Env) (F' : List Int) (y6 y7 : D), forL (gtN 6) f_law_draws_l3 (rng start (s.length - start).toNat) [.sc (s.map D.int), .int start, .int count, x3, x4, .ol (F.map D.int), x6, x7, x8, x9] = .nx g' ∧ F'.length = count.toNat ∧
      g' = [.sc (s.map D.int), .int start, .int count, x3, x4, .ol (F'.map D.int), y6, y7, x8, x9] := by
  obtain ⟨g', e, F', y6, y7, h1, h2⟩ := for_rngN (s := 6) (b := f_law_draws_l3) (lo := start) (n := (s.length - start).toNat)
    (fun i g => ∃ (F : List Int) (y6 y7 : D), F.length = count.toNat ∧ g = [.sc (s.map D.int), .int start, .int count, x3, x4, .ol (F.map D.int), y6, y7, x8, x9])
    (g := [.sc (s.map D.int), .int start, .int count, x3, x4, .ol (F.map D.int), x6, x7, x8, x9]) ⟨F, x6, x7, hF, rfl⟩ (fun i g hi ⟨F, y6, y7, hF, hg⟩ => by
      subst hg
      obtain ⟨c, ec, _⟩ := DL.atI_of (l := s) (i := start + (i : Int)) (by omega) (by omega)
      have hmax : 0 < max 1 count := by omega
      by_cases hc : 0 < count
      · have hat : (start + (i : Int)) % max 1 count < count := by
          have := Int.emod_lt_of_pos (start + (i : Int)) hmax
          omega
        have hat0 : 0 ≤ (start + (i : Int)) % max 1 count := Int.emod_nonneg _ (by omega)
        obtain ⟨a, ea, _⟩ := DL.atI_of (l := F) (i := (start + (i : Int)) % max 1 count) hat0 (by omega)
        have hix : L2.ixN (F.map D.int).length ((start + (i : Int)) % max 1 count) = some ((start + (i : Int)) % max 1 count).toNat := ixN_nat hat0 (by simp; omega)
        refine ⟨[.sc (s.map D.int), .int start, .int count, x3, x4, .ol ((F.set ((start + (i : Int)) % max 1 count).toNat ((a * 31 + c) % e60)).map D.int), .int (start + (i : Int)), .int ((start + (i : Int)) % max 1 count), x8, x9], .inl ?_, _, _, _, ?_, rfl⟩
        · simp at hix
          simp [f_law_draws_l3, hmax, hc, ea, ec, hix]
        · simp [hF]
      · refine ⟨[.sc (s.map D.int), .int start, .int count, x3, x4, .ol (F.map D.int), .int (start + (i : Int)), .int ((start + (i : Int)) % max 1 count), x8, x9], .inl ?_, _, _, _, hF, rfl⟩
        simp [f_law_draws_l3, hmax, hc])
  exact ⟨g', F', y6, y7, e, h1, h2⟩
theorem draws_ok (s : List Int) (hs : s.length ≤ 63) (start count way : Int) (h0 : 0 ≤ start) (h0' : start ≤ 1000) (h1 : 0 ≤ count) (h2 : count ≤ 1000) :
    ∃ l : List Int, l.length = count.toNat ∧ (∀ x ∈ l, 0 ≤ x) ∧ g_law_draws [.sc (s.map D.int), .int start, .int count, .int way] = .ok (.ol (l.map D.int)) := by
  have hc1 : ∀ (g : Env) (l : List Int), 9 < g.length → lcL (gtN 9) tYesG f_law_draws_c1 g (l.map D.int) = .ok ((l.map (· % e60)).map D.int) := fun g l hg => by
    rw [← map_int]
    refine lcL_mapN l fun a _ => ?_
    simp [f_law_draws_c1, hg]
  have hc2 : ∀ (g : Env), 6 < g.length → lcL (gtN 6) tYesG f_law_draws_c2 g (rng 0 count.toNat) = .ok (((List.range count.toNat).map fun i : Nat => 7 * (i : Int) + 5).map D.int) := fun g hg => by
    rw [← map_int]
    unfold rng
    refine lcL_mapN _ fun a _ => ?_
    simp [f_law_draws_c2, hg]
  obtain ⟨g3, F', y6, y7, e3, hF', rfl⟩ := draws_l3 s start count (.int way) (.int (((s.drop start.toNat).map (· % e60)).sum % e60)) .un .un .un .un ((List.range count.toNat).map fun i : Nat => 7 * (i : Int) + 5) hs h0 (by simp)
  obtain ⟨g4, l, e4, hl, hp, e8⟩ := draws_l4 (.sc (s.map D.int)) (.int start) y6 y7 .un F' (((s.drop start.toNat).map (· % e60)).sum % e60) count way h2 hF' (Int.emod_nonneg _ (by have := e60_pos; omega))
  refine ⟨l, hl, hp, ?_⟩
  have b1 : (cut s (some start) none).length ≤ lim := Nat.le_trans (cut_len s _ _) (by rw [lim_eq]; omega)
  have b2 : (rng 0 count.toNat).length ≤ lim := by rw [rng_len, lim_eq]; omega
  have b3 : rgOk count := rgOk_of (by omega) (by omega)
  have b4 : rgOk start := rgOk_of (by omega) (by omega)
  have b5 : rgOk (s.length : Int) := rgOk_of (by omega) (by omega)
  simp only [cut_from s start h0] at b1
  simp [g_law_draws, runF, f_law_draws, hc1, hc2, cut_from s start h0, b1, b2, b3, b4, b5, e3, e4, e8, -List.map_drop, -List.map_map, -List.length_drop]
end Lw
namespace Lw
open DL
/-- ends that are places -/
def EndsOk (n : Int) (l : List (Int × Int)) : Prop := ∀ p ∈ l, (0 ≤ p.1 ∧ p.1 < n) ∧ 0 ≤ p.2 ∧ p.2 < n
theorem EndsOk.app {n : Int} {l m : List (Int × Int)} (h : EndsOk n l) (h' : EndsOk n m) : EndsOk n (l ++ m) := fun p hp => (List.mem_append.mp hp).elim (h p) (h' p)
theorem EndsOk.one {n : Int} {a b : Int} (h : (0 ≤ a ∧ a < n) ∧ 0 ≤ b ∧ b < n) : EndsOk n [(a, b)] := fun p hp => by simp at hp; subst hp; exact h
theorem ties_l1 (ds : List Int) (places : Int) (hang : Bool) (x5 x6 x7 x8 : D) (hd : ds.length ≤ 1000) (hp : 1 ≤ places) (hp2 : places ≤ 1000) :
    ∃ (g' : Env) (l : List (Int × Int)), forL (gtN 4) f_law_ties_l1 (rng 0 ds.length) [.ls (ds.map D.int), .int places, .bl hang, .ol [], .un, x5, x6, x7, x8] = .nx g' ∧ l.length = ds.length ∧ EndsOk places l ∧ ∃ y4 y5 y6 y7, g' = [.ls (ds.map D.int), .int places, .bl hang, .ol (l.map dP), y4, y5, y6, y7, x8] := by
  obtain ⟨g', e, l, h1, h2, h3⟩ := for_rngN (s := 4) (b := f_law_ties_l1) (lo := 0) (n := ds.length)
    (fun i g => ∃ (l : List (Int × Int)), l.length = i ∧ EndsOk places l ∧ ∃ y4 y5 y6 y7, g = [.ls (ds.map D.int), .int places, .bl hang, .ol (l.map dP), y4, y5, y6, y7, x8])
    (g := [.ls (ds.map D.int), .int places, .bl hang, .ol [], .un, x5, x6, x7, x8]) ⟨[], rfl, (fun _ h => nomatch h), _, _, _, _, rfl⟩ (fun i g hi ⟨l, hl, he, y4, y5, y6, y7, hg⟩ => by
      subst hg
      obtain ⟨a, ea, _⟩ := DL.atI_of (l := ds) (i := (i : Int)) (by omega) (by omega)
      have hlim : l.length < lim := by rw [lim_eq]; omega
      have hpp : 0 < places := by omega
      have hp3 : places < 1073741824 := by omega
      have o1 := Int.emod_nonneg a (by omega : places ≠ 0)
      have o2 := Int.emod_lt_of_pos a hpp
      have p1 := Int.emod_nonneg (a / places) (by omega : places ≠ 0)
      have p2 := Int.emod_lt_of_pos (a / places) hpp
      have plain : f_law_ties_l1 [.ls (ds.map D.int), .int places, .bl hang, .ol (l.map dP), .int (i : Int), y5, y6, y7, x8] = .nx [.ls (ds.map D.int), .int places, .bl hang, .ol ((l ++ [(a % places, a / places % places)]).map dP), .int (i : Int), .int (a % places), .int (a / places % places), y7, x8] ∨ (hang = true ∧ (i : Int) < places - 1) := by
        by_cases hh : hang = true ∧ (i : Int) < places - 1
        · exact .inr hh
        · left
          cases hang with
          | false => simp [f_law_ties_l1, ea, hpp, hp3, hlim]
          | true =>
            have : ¬ (i : Int) < places - 1 := fun z => hh ⟨rfl, z⟩
            simp [f_law_ties_l1, ea, hpp, hp3, hlim, this]
      rcases plain with h | ⟨hh, hi2⟩
      · refine ⟨_, .inl (by simpa using h), l ++ [(a % places, a / places % places)], by simp [hl], he.app (.one ⟨⟨o1, o2⟩, p1, p2⟩), _, _, _, _, rfl⟩
      · subst hh
        have hk : 0 < (i : Int) + 1 := by omega
        have q1 := Int.emod_nonneg a (by omega : (i : Int) + 1 ≠ 0)
        have q2 := Int.emod_lt_of_pos a hk
        rcases Int.emod_two_eq (a / 105) with z | z
        · refine ⟨[.ls (ds.map D.int), .int places, .bl true, .ol ((l ++ [(a % ((i : Int) + 1), (i : Int) + 1)]).map dP), .int (i : Int), .int (a % ((i : Int) + 1)), .int ((i : Int) + 1), .tp [.int (a % ((i : Int) + 1)), .int ((i : Int) + 1)], x8], .inl ?_, _, by simp [hl], he.app (.one ⟨⟨q1, by omega⟩, by omega, by omega⟩), _, _, _, _, rfl⟩
          simp [f_law_ties_l1, ea, hpp, hp3, hlim, hi2, hk, z]
        · refine ⟨[.ls (ds.map D.int), .int places, .bl true, .ol ((l ++ [((i : Int) + 1, a % ((i : Int) + 1))]).map dP), .int (i : Int), .int ((i : Int) + 1), .int (a % ((i : Int) + 1)), .tp [.int (a % ((i : Int) + 1)), .int ((i : Int) + 1)], x8], .inl ?_, _, by simp [hl], he.app (.one ⟨⟨by omega, by omega⟩, q1, by omega⟩), _, _, _, _, rfl⟩
          simp [f_law_ties_l1, ea, hpp, hp3, hlim, hi2, hk, z])
  exact ⟨g', l, e, h1, h2, h3⟩
theorem cut_mem {α : Type} {l : List α} {lo hi : Option Int} {a : α} (h : a ∈ cut l lo hi) : a ∈ l := by
  unfold cut at h
  exact List.mem_of_mem_drop (List.mem_of_mem_take h)
theorem EndsOk.cut {n : Int} {l : List (Int × Int)} (h : EndsOk n l) (lo hi : Option Int) : EndsOk n (cut l lo hi) := fun p hp => h p (cut_mem hp)
theorem ties_ok (ds : List Int) (places : Int) (hang : Bool) (hd : ds.length ≤ 1000) (hp : 1 ≤ places) (hp2 : places ≤ 1000) :
    ∃ l : List (Int × Int), l.length = ds.length ∧ EndsOk places l ∧ g_law_ties [.ls (ds.map D.int), .int places, .bl hang] = .ok (.ol (l.map dP)) := by
  obtain ⟨g', l, e, h1, h2, y4, y5, y6, y7, rfl⟩ := ties_l1 ds places hang .un .un .un .un hd hp hp2
  have hmax : 0 < max 1 (l.length : Int) := by omega
  have t0 : 0 ≤ ds.sum % max 1 (l.length : Int) := Int.emod_nonneg _ (by omega)
  have b1 : rgOk (ds.length : Int) := rgOk_of (by omega) (by omega)
  have b2 : (l.drop (ds.sum % max 1 (l.length : Int)).toNat).length + (l.take (ds.sum % max 1 (l.length : Int)).toNat).length ≤ lim := by
    rw [List.length_drop, List.length_take, lim_eq]; omega
  refine ⟨l.drop (ds.sum % max 1 (l.length : Int)).toNat ++ l.take (ds.sum % max 1 (l.length : Int)).toNat, ?_, ?_, ?_⟩
  · rw [List.length_append, List.length_drop, List.length_take]; omega
  · exact EndsOk.app (fun p hp => h2 p (List.mem_of_mem_drop hp)) (fun p hp => h2 p (List.mem_of_mem_take hp))
  · simp [g_law_ties, runF, f_law_ties, b1, e, hmax, cut_from l _ t0, cut_to l _ t0, b2, -List.map_drop, -List.map_take, -List.length_drop, -List.length_take, -List.map_map]
end Lw
namespace Lw
open DL
/-- the web of a script -/
theorem web_ok (s : List Int) (hs : s.length ≤ 63) (most count : Int) (h1 : 1 ≤ most) (h2 : most ≤ 1000) (h3 : 0 ≤ count) (h4 : count ≤ 1000) :
    ∃ (p : Int) (l : List (Int × Int)), 1 ≤ p ∧ p ≤ most ∧ (l.length : Int) ≤ count ∧ EndsOk p l ∧ g_law_web [.sc (s.map D.int), .int most, .int count] = .ok (.tp [.int p, .ls (l.map dP)]) := by
  obtain ⟨c, c0, c1, ec⟩ := cell_ok s 0 (by omega)
  have m0 := Int.emod_nonneg c (by omega : most ≠ 0)
  have m1 := Int.emod_lt_of_pos c (by omega : 0 < most)
  have n0 := Int.emod_nonneg (c / most) (by omega : count + 1 ≠ 0)
  have n1 := Int.emod_lt_of_pos (c / most) (by omega : 0 < count + 1)
  have z0 := Int.emod_nonneg (c / 97) (by omega : (2 : Int) ≠ 0)
  have z1 := Int.emod_lt_of_pos (c / 97) (by omega : 0 < (2 : Int))
  have q0 : 0 ≤ c / 97 % 2 * (1 + c % most) := Int.mul_nonneg z0 (by omega)
  obtain ⟨ds, d1, d2, d3⟩ := draws_ok s hs 1 (min count (c / most % (count + 1) + c / 97 % 2 * (1 + c % most))) (c / 194 % 2) (by omega) (by omega) (by omega) (by omega)
  obtain ⟨l, l1, l2, l3⟩ := ties_ok ds (1 + c % most) (decide (0 < c / 388 % 3)) (by omega) (by omega) (by omega)
  refine ⟨1 + c % most, l, by omega, by omega, by omega, l2, ?_⟩
  have a0 : 0 < most := by omega
  have a1 : most < 1073741824 := by omega
  have a2 : 0 < count + 1 := by omega
  have a3 : -18446744073709551616 < c / 97 % 2 := by omega
  have a4 : c / 97 % 2 < 18446744073709551616 := by omega
  simp [g_law_web, runF, f_law_web, ec, a0, a1, a2, a3, a4, d3, l3]
end Lw
noncomputable section
namespace Lw
open DL
def f_Web_init_l1 : Env → Out := sIf (tOr_ (tNo (tCh cLe cLt (eC (.int 0)) (eVar 3) (eVar 1))) (tNo (tCh cLe cLt (eC (.int 0)) (eVar 4) (eVar 1)))) (sRaise 1) (sNil)
def f_Web_init : Env → Out := sSeq (sIf (tOr_ (tNo (tCh cLe cLe (eC (.int 1)) (eVar 1) (eC (.int 14)))) (tC2 cGt (eCall caLen (aCons (eVar 2) (aNil))) (eC (.int 30)))) (sRaise 1) (sNil)) (sSeq (sFor (iSeq (eVar 2)) (gtT 2 (gtCons (gtN 3) (gtCons (gtN 4) (gtNil)))) f_Web_init_l1) (sSeq (sFld 0 14 0 (eVar 1)) (sFld 0 14 1 (eCall caList (aCons (eVar 2) (aNil))))))
def g_Web_init : List D → Res (List D) := mirI f_Web_init 14 5
def f_made_set_l1 : Env → Out := sSeq (sIf (tOr_ (tC2 cLe (eVar 3) (eVar 2)) (tC2 cGe (eVar 3) (eCall caLen (aCons (eUn (opFld 14 1) (eVar 0)) (aNil))))) (sRaise 2) (sNil)) (sAsgF 2 (eVar 3))
def f_made_set : Env → Out := sSeq (sAsgF 2 (eUn opNeg (eC (.int 1)))) (sSeq (sFor (iSeq (eVar 1)) (gtN 3) f_made_set_l1) (sRet (eCall caTuple (aCons (eVar 1) (aNil)))))
def g_made_set : List D → Res D := runF f_made_set 4
end Lw
end
namespace Lw
open DL
/-- an __init__ of a web whose ends are places -/
theorem web_init_l1 (p : Int) (x0 x2 : D) : ∀ (l : List (Int × Int)) (y3 y4 : D), EndsOk p l →
    ∃ z3 z4, forL (gtT 2 (gtCons (gtN 3) (gtCons (gtN 4) (gtNil)))) f_Web_init_l1 (l.map dP) [x0, .int p, x2, y3, y4] = .nx [x0, .int p, x2, z3, z4]
  | [], y3, y4, _ => ⟨y3, y4, by simp [forL]⟩
  | (a, b) :: l, y3, y4, h => by
    obtain ⟨⟨h1, h2⟩, h3, h4⟩ := h (a, b) (List.mem_cons_self ..)
    obtain ⟨z3, z4, e⟩ := web_init_l1 p x0 x2 l (.int a) (.int b) fun q hq => h q (List.mem_cons_of_mem _ hq)
    refine ⟨z3, z4, ?_⟩
    rw [← e]
    simp at h1 h2 h3 h4
    simp [forL, f_Web_init_l1, h1, h2, h3, h4]
theorem web_init_ok (p : Int) (l : List (Int × Int)) (h1 : 1 ≤ p) (h2 : p ≤ 14) (h3 : l.length ≤ 30) (h4 : EndsOk p l) : g_Web_init [.int p, .ls (l.map dP)] = .ok [.int p, .ol (l.map dP)] := by
  refine mirI_eq fun x => ?_
  obtain ⟨z3, z4, e⟩ := web_init_l1 p (.oo (some x) 14 []) (.ls (l.map dP)) l .un .un h4
  have h5 : ¬ (30 < (l.length : Int)) := by omega
  simp [runI, f_Web_init, h1, h2, h5, e, outI]
/-- a set handed in: the numbers ascend and are numbers of ties -/
def goodAux (count : Int) : Int → List Int → Bool
  | _, [] => true
  | a, x :: l => !(decide (x ≤ a)) && !(decide (x ≥ count)) && goodAux count x l
def goodB (count : Int) (l : List Int) : Bool := goodAux count (-1) l
theorem made_set_l1 (p : Int) (ts : List (Int × Int)) (x1 : D) : ∀ (l : List Int) (a : Int) (y3 : D),
    (goodAux ts.length a l = true ∧ ∃ z2 z3, forL (gtN 3) f_made_set_l1 (l.map D.int) [.ob 14 [.int p, .ls (ts.map dP)], x1, .int a, y3] = .nx [.ob 14 [.int p, .ls (ts.map dP)], x1, z2, z3]) ∨
    (goodAux ts.length a l = false ∧ ∃ g, forL (gtN 3) f_made_set_l1 (l.map D.int) [.ob 14 [.int p, .ls (ts.map dP)], x1, .int a, y3] = .xc 2 g)
  | [], a, y3 => .inl ⟨rfl, .int a, y3, by simp [forL]⟩
  | x :: l, a, y3 => by
    by_cases c1 : x ≤ a
    · exact .inr ⟨by simp [goodAux, c1], by simp [forL, f_made_set_l1, c1]⟩
    · by_cases c2 : (ts.length : Int) ≤ x
      · exact .inr ⟨by simp [goodAux, c2], by simp [forL, f_made_set_l1, c1, c2]⟩
      · have e : goodAux ts.length a (x :: l) = goodAux ts.length x l := by simp [goodAux, c1, c2]
        have e2 : forL (gtN 3) f_made_set_l1 ((x :: l).map D.int) [.ob 14 [.int p, .ls (ts.map dP)], x1, .int a, y3] = forL (gtN 3) f_made_set_l1 (l.map D.int) [.ob 14 [.int p, .ls (ts.map dP)], x1, .int x, .int x] := by
          simp [forL, f_made_set_l1, c1, c2]
        rw [e, e2]
        exact made_set_l1 p ts x1 l x (.int x)
theorem made_set_ls (p : Int) (ts : List (Int × Int)) (l : List Int) : g_made_set [.ob 14 [.int p, .ls (ts.map dP)], .ls (l.map D.int)] = if goodB ts.length l = true then .ok (.tp (l.map D.int)) else .xc 2 := by
  rcases made_set_l1 p ts (.ls (l.map D.int)) l (-1) .un with ⟨h, z2, z3, e⟩ | ⟨h, g, e⟩
  · simp [g_made_set, runF, f_made_set, e, goodB, h]
  · simp [g_made_set, runF, f_made_set, e, goodB, h]
theorem made_set_tp (p : Int) (ts : List (Int × Int)) (l : List Int) : g_made_set [.ob 14 [.int p, .ls (ts.map dP)], .tp (l.map D.int)] = if goodB ts.length l = true then .ok (.tp (l.map D.int)) else .xc 2 := by
  rcases made_set_l1 p ts (.tp (l.map D.int)) l (-1) .un with ⟨h, z2, z3, e⟩ | ⟨h, g, e⟩
  · simp [g_made_set, runF, f_made_set, e, goodB, h]
  · simp [g_made_set, runF, f_made_set, e, goodB, h]
end Lw
noncomputable section
namespace Lw
open DL
def f_marks_over_c1 : Env → Res D := eIf (tC2 cEq (eVar 8) (eVar 7)) (eVar 6) (eVar 8)
def f_marks_over_l1 : Env → Out := sSeq (sAsgT (gtT 2 (gtCons (gtN 4) (gtCons (gtN 5) (gtNil)))) (eBin opIx (eUn (opFld 14 1) (eVar 0)) (eVar 3))) (sSeq (sAsgF 6 (eCall caMin2 (aCons (eBin opIx (eVar 2) (eVar 4)) (aCons (eBin opIx (eVar 2) (eVar 5)) (aNil))))) (sSeq (sAsgF 7 (eCall caMax2 (aCons (eBin opIx (eVar 2) (eVar 4)) (aCons (eBin opIx (eVar 2) (eVar 5)) (aNil))))) (sAsgF 2 (eLc (iSeq (eVar 2)) [8] (gtN 8) (tYesG) f_marks_over_c1))))
def f_marks_over : Env → Out := sSeq (sAsgF 2 (eLR1 (eUn (opFld 14 0) (eVar 0)))) (sSeq (sFor (iSeq (eVar 1)) (gtN 3) f_marks_over_l1) (sRetV 2))
def g_marks_over : List D → Res D := runF f_marks_over 9
def f_is_joined : Env → Out := sRet (eB (tC2 cEq (eLenSet (eOwn g_marks_over (aCons (eVar 0) (aCons (eOwn g_made_set (aCons (eVar 0) (aCons (eVar 1) (aNil)))) (aNil))))) (eC (.int 1))))
def g_is_joined : List D → Res D := runF f_is_joined 2
def f_joined_ends : Env → Out := sSeq (sAsgF 4 (eOwn g_marks_over (aCons (eVar 0) (aCons (eOwn g_made_set (aCons (eVar 0) (aCons (eVar 1) (aNil)))) (aNil))))) (sRet (eB (tC2 cEq (eBin opIx (eVar 4) (eVar 2)) (eBin opIx (eVar 4) (eVar 3)))))
def g_joined_ends : List D → Res D := runF f_joined_ends 5
end Lw
end
namespace Lw
open DL L2
/-- a number of a list, by its place -/
def nth (m : List Int) (i : Int) : Int := m.getD i.toNat 0
theorem nth_at {m : List Int} {i : Int} (h0 : 0 ≤ i) (h1 : i < m.length) : atI m i = some (nth m i) := by
  obtain ⟨a, e, e2⟩ := DL.atI_of h0 h1
  rw [e]; simp [nth, List.getD_eq_getElem?_getD, e2]
def tieAt (ts : List (Int × Int)) (i : Int) : Int × Int := ts.getD i.toNat (0, 0)
theorem tie_at {ts : List (Int × Int)} {i : Int} (h0 : 0 ≤ i) (h1 : i < ts.length) : atI ts i = some (tieAt ts i) ∧ tieAt ts i ∈ ts := by
  obtain ⟨a, e, e2⟩ := DL.atI_of h0 h1
  have : tieAt ts i = a := by simp [tieAt, List.getD_eq_getElem?_getD, e2]
  rw [this]
  exact ⟨e, List.mem_of_getElem? e2⟩
/-- the marks where one tie is put in -/
def stepM (m : List Int) (t : Int × Int) : List Int := m.map fun x => if x = max (nth m t.1) (nth m t.2) then min (nth m t.1) (nth m t.2) else x
def marksM (p : Nat) (ts : List (Int × Int)) (l : List Int) : List Int := l.foldl (fun m t => stepM m (tieAt ts t)) (iota p)
theorem stepM_len (m : List Int) (t : Int × Int) : (stepM m t).length = m.length := by simp [stepM]
theorem foldM_len (ts : List (Int × Int)) : ∀ (l m : List Int), (l.foldl (fun m t => stepM m (tieAt ts t)) m).length = m.length
  | [], m => rfl
  | t :: l, m => by rw [List.foldl_cons, foldM_len ts l, stepM_len]
theorem marksM_len (p : Nat) (ts : List (Int × Int)) (l : List Int) : (marksM p ts l).length = p := by simp [marksM, foldM_len]
/-- numbers of ties -/
def InT (n : Nat) (l : List Int) : Prop := ∀ t ∈ l, 0 ≤ t ∧ t < n
theorem goodAux_in (n : Nat) : ∀ (l : List Int) (a : Int), -1 ≤ a → goodAux n a l = true → InT n l
  | [], _, _, _ => fun _ h => nomatch h
  | x :: l, a, ha, h => by
    simp only [goodAux, Bool.and_eq_true, Bool.not_eq_true', decide_eq_false_iff_not] at h
    obtain ⟨⟨h1, h2⟩, h3⟩ := h
    intro t ht
    rcases List.mem_cons.mp ht with rfl | ht
    · omega
    · exact goodAux_in n l x (by omega) h3 t ht
theorem good_in {n : Nat} {l : List Int} (h : goodB n l = true) : InT n l := goodAux_in n l (-1) (by omega) h
theorem marks_l1 (p : Int) (ts : List (Int × Int)) (hE : EndsOk p ts) (hp : p ≤ 1000) (x1 : D) : ∀ (l m : List Int) (y3 y4 y5 y6 y7 y8 : D), (m.length : Int) = p → InT ts.length l → y8 = .un →
    ∃ z3 z4 z5 z6 z7, forL (gtN 3) f_marks_over_l1 (l.map D.int) [.ob 14 [.int p, .ls (ts.map dP)], x1, .ls (m.map D.int), y3, y4, y5, y6, y7, y8] = .nx [.ob 14 [.int p, .ls (ts.map dP)], x1, .ls ((l.foldl (fun m t => stepM m (tieAt ts t)) m).map D.int), z3, z4, z5, z6, z7, .un]
  | [], m, y3, y4, y5, y6, y7, y8, _, _, h8 => ⟨y3, y4, y5, y6, y7, by subst h8; simp [forL]⟩
  | t :: l, m, y3, y4, y5, y6, y7, y8, hm, hl, h8 => by
    subst h8
    obtain ⟨t0, t1⟩ := hl t (List.mem_cons_self ..)
    obtain ⟨e1, e2⟩ := tie_at t0 t1
    obtain ⟨⟨a0, a1⟩, b0, b1⟩ := hE _ e2
    have ea := nth_at (m := m) a0 (by omega)
    have eb := nth_at (m := m) b0 (by omega)
    obtain ⟨z3, z4, z5, z6, z7, ih⟩ := marks_l1 p ts hE hp x1 l (stepM m (tieAt ts t)) (.int t) (.int (tieAt ts t).1) (.int (tieAt ts t).2) (.int (min (nth m (tieAt ts t).1) (nth m (tieAt ts t).2))) (.int (max (nth m (tieAt ts t).1) (nth m (tieAt ts t).2))) .un (by rw [stepM_len]; exact hm) (fun t h => hl t (List.mem_cons_of_mem _ h)) rfl
    refine ⟨z3, z4, z5, z6, z7, ?_⟩
    rw [List.foldl_cons, ← ih]
    have lc : lcL (gtN 8) tYesG f_marks_over_c1 [.ob 14 [.int p, .ls (ts.map dP)], x1, .ls (m.map D.int), .int t, .int (tieAt ts t).1, .int (tieAt ts t).2, .int (min (nth m (tieAt ts t).1) (nth m (tieAt ts t).2)), .int (max (nth m (tieAt ts t).1) (nth m (tieAt ts t).2)), .un] (m.map D.int) = .ok ((stepM m (tieAt ts t)).map D.int) := by
      unfold stepM
      rw [← map_int]
      refine lcL_mapN m fun x _ => ?_
      by_cases hx : x = max (nth m (tieAt ts t).1) (nth m (tieAt ts t).2) <;> simp [f_marks_over_c1, hx]
    have hlim : m.length ≤ lim := by rw [lim_eq]; omega
    simp [forL, f_marks_over_l1, e1, ea, eb, lc, hlim]
theorem marks_ok_tp (p : Int) (ts : List (Int × Int)) (hE : EndsOk p ts) (h1 : 1 ≤ p) (h2 : p ≤ 1000) (l : List Int) (hl : InT ts.length l) : g_marks_over [.ob 14 [.int p, .ls (ts.map dP)], .tp (l.map D.int)] = .ok (.ls ((marksM p.toNat ts l).map D.int)) := by
  obtain ⟨z3, z4, z5, z6, z7, e⟩ := marks_l1 p ts hE h2 (.tp (l.map D.int)) l (iota p.toNat) .un .un .un .un .un .un (by simp; omega) hl rfl
  have hr : rgOk p := rgOk_of (by omega) (by omega)
  have h3 : p ≤ 1000000 := by omega
  simp [g_marks_over, runF, f_marks_over, hr, h3, rng_iota, e, marksM]
theorem marks_ok_ls (p : Int) (ts : List (Int × Int)) (hE : EndsOk p ts) (h1 : 1 ≤ p) (h2 : p ≤ 1000) (l : List Int) (hl : InT ts.length l) : g_marks_over [.ob 14 [.int p, .ls (ts.map dP)], .ls (l.map D.int)] = .ok (.ls ((marksM p.toNat ts l).map D.int)) := by
  obtain ⟨z3, z4, z5, z6, z7, e⟩ := marks_l1 p ts hE h2 (.ls (l.map D.int)) l (iota p.toNat) .un .un .un .un .un .un (by simp; omega) hl rfl
  have hr : rgOk p := rgOk_of (by omega) (by omega)
  have h3 : p ≤ 1000000 := by omega
  simp [g_marks_over, runF, f_marks_over, hr, h3, rng_iota, e, marksM]
theorem is_joined_ls (p : Int) (ts : List (Int × Int)) (hE : EndsOk p ts) (h1 : 1 ≤ p) (h2 : p ≤ 1000) (l : List Int) : g_is_joined [.ob 14 [.int p, .ls (ts.map dP)], .ls (l.map D.int)] = if goodB ts.length l = true then .ok (.bl (decide ((sset (marksM p.toNat ts l)).length = 1))) else .xc 2 := by
  have ms := made_set_ls p ts l
  by_cases h : goodB ts.length l = true
  · rw [if_pos h] at ms ⊢
    have mo := marks_ok_tp p ts hE h1 h2 l (good_in h)
    have hz : p ≤ 4000 := by omega
    simp [g_is_joined, runF, f_is_joined, ms, mo, marksM_len, hz]
    omega
  · rw [if_neg h] at ms ⊢
    simp [g_is_joined, runF, f_is_joined, ms]
theorem joined_ends_tp (p : Int) (ts : List (Int × Int)) (hE : EndsOk p ts) (h1 : 1 ≤ p) (h2 : p ≤ 1000) (l : List Int) (a b : Int) (ha : 0 ≤ a ∧ a < p) (hb : 0 ≤ b ∧ b < p) :
    g_joined_ends [.ob 14 [.int p, .ls (ts.map dP)], .tp (l.map D.int), .int a, .int b] = if goodB ts.length l = true then .ok (.bl (decide (nth (marksM p.toNat ts l) a = nth (marksM p.toNat ts l) b))) else .xc 2 := by
  have ms := made_set_tp p ts l
  by_cases h : goodB ts.length l = true
  · rw [if_pos h] at ms ⊢
    have mo := marks_ok_tp p ts hE h1 h2 l (good_in h)
    have ea := nth_at (m := marksM p.toNat ts l) ha.1 (by rw [marksM_len]; omega)
    have eb := nth_at (m := marksM p.toNat ts l) hb.1 (by rw [marksM_len]; omega)
    simp [g_joined_ends, runF, f_joined_ends, ms, mo, ea, eb]
  · rw [if_neg h] at ms ⊢
    simp [g_joined_ends, runF, f_joined_ends, ms]
end Lw
noncomputable section
namespace Lw
open DL
def f_law_some_l1 : Env → Out := sSeq (sIf (tC2 cEq (eBin opMod (eVar 0) (eC (.int 2))) (eC (.int 1))) (sApp 2 (eVar 3)) (sNil)) (sAsgF 0 (eBin opDiv (eVar 0) (eC (.int 2))))
def f_law_some : Env → Out := sSeq (sAsg 2 (eLst (aNil))) (sSeq (sFor (iRg1 (aCons (eVar 1) (aNil))) (gtN 3) f_law_some_l1) (sRetV 2))
def g_law_some : List D → Res D := runF f_law_some 4
def f_law_marks_l1 : Env → Out := sIf (tC2 cEq (eBin opIx (eVar 3) (eVar 9)) (eVar 7)) (sSet 3 (eVar 9) (eVar 8)) (sNil)
def f_law_marks_l2 : Env → Out := sSeq (sAsgT (gtT 2 (gtCons (gtN 5) (gtCons (gtN 6) (gtNil)))) (eBin opIx (eVar 1) (eVar 4))) (sIf (tC2 cNe (eBin opIx (eVar 3) (eVar 5)) (eBin opIx (eVar 3) (eVar 6))) (sSeq (sAsgF 7 (eBin opIx (eVar 3) (eVar 6))) (sSeq (sAsgF 8 (eBin opIx (eVar 3) (eVar 5))) (sFor (iRg1 (aCons (eVar 0) (aNil))) (gtN 9) f_law_marks_l1))) (sNil))
def f_law_marks : Env → Out := sSeq (sAsg 3 (eLR1 (eVar 0))) (sSeq (sFor (iSeq (eVar 2)) (gtN 4) f_law_marks_l2) (sRetV 3))
def g_law_marks : List D → Res D := runF f_law_marks 10
end Lw
end
namespace Lw
open DL L2
theorem some_l1 (n : Int) : ∀ (k : Nat) (lo c : Int) (l : List Int) (y : D), l.length + k ≤ lim →
    ∃ (c' : Int) (l' : List Int) (z : D), l'.length ≤ l.length + k ∧ forL (gtN 3) f_law_some_l1 (rng lo k) [.int c, .int n, .ol (l.map D.int), y] = .nx [.int c', .int n, .ol (l'.map D.int), z]
  | 0, lo, c, l, y, _ => ⟨c, l, y, by omega, by simp [rng_zero, forL]⟩
  | k + 1, lo, c, l, y, hl => by
    have h1 : l.length < lim := by omega
    rcases Int.emod_two_eq c with e | e
    · obtain ⟨c', l', z, h2, h3⟩ := some_l1 n k (lo + 1) (c / 2) l (.int lo) (by omega)
      refine ⟨c', l', z, by omega, ?_⟩
      rw [← h3]
      simp [rng_succ, forL, f_law_some_l1, e]
    · obtain ⟨c', l', z, h2, h3⟩ := some_l1 n k (lo + 1) (c / 2) (l ++ [lo]) (.int lo) (by simp; omega)
      refine ⟨c', l', z, by simp at h2; omega, ?_⟩
      rw [← h3]
      simp [rng_succ, forL, f_law_some_l1, e, h1]
theorem some_ok (c : Int) (n : Nat) (hn : n ≤ 1000) : ∃ l : List Int, l.length ≤ n ∧ g_law_some [.int c, .int n] = .ok (.ol (l.map D.int)) := by
  obtain ⟨c', l', z, h1, h2⟩ := some_l1 n n 0 c [] .un (by simp [lim_eq]; omega)
  have b1 : rgOk (n : Int) := rgOk_of (by omega) (by omega)
  refine ⟨l', by simpa using h1, ?_⟩
  simp at h2
  simp [g_law_some, runF, f_law_some, b1, h2]

/-- the law's own marks, where one tie is put in -/
def stepL (m : List Int) (t : Int × Int) : List Int := if nth m t.1 = nth m t.2 then m else m.map fun x => if x = nth m t.2 then nth m t.1 else x
def marksL (p : Nat) (ts : List (Int × Int)) (l : List Int) : List Int := l.foldl (fun m t => stepL m (tieAt ts t)) (iota p)
theorem stepL_len (m : List Int) (t : Int × Int) : (stepL m t).length = m.length := by unfold stepL; split <;> simp
theorem foldL_len (ts : List (Int × Int)) : ∀ (l m : List Int), (l.foldl (fun m t => stepL m (tieAt ts t)) m).length = m.length
  | [], m => rfl
  | t :: l, m => by rw [List.foldl_cons, foldL_len ts l, stepL_len]
theorem marksL_len (p : Nat) (ts : List (Int × Int)) (l : List Int) : (marksL p ts l).length = p := by simp [marksL, foldL_len]
theorem lmarks_l1 (p : Int) (x1 x2 x4 x5 x6 : D) (gone kept : Int) : ∀ (rest pre : List Int) (y9 : D),
    ∃ z9, forL (gtN 9) f_law_marks_l1 (rng pre.length rest.length) [.int p, x1, x2, .ol ((pre ++ rest).map D.int), x4, x5, x6, .int gone, .int kept, y9] = .nx [.int p, x1, x2, .ol ((pre ++ rest.map fun x => if x = gone then kept else x).map D.int), x4, x5, x6, .int gone, .int kept, z9]
  | [], pre, y9 => ⟨y9, by simp [rng_zero, forL]⟩
  | x :: rest, pre, y9 => by
    have e1 : atI (pre ++ x :: rest) (pre.length : Int) = some x := by rw [DL.atI_natG (j := pre.length) rfl (by simp)]; simp
    have e2 : ixN (pre.length + (rest.length + 1)) (pre.length : Int) = some pre.length := by rw [ixN_nat (by omega) (by omega)]; simp
    have hr : rng (pre.length : Int) (x :: rest).length = .int pre.length :: rng ((pre.length : Int) + 1) rest.length := rng_succ ..
    obtain ⟨z9, ih⟩ := lmarks_l1 p x1 x2 x4 x5 x6 gone kept rest (pre ++ [if x = gone then kept else x]) (.int pre.length)
    have el : (((pre ++ [if x = gone then kept else x]).length : Nat) : Int) = (pre.length : Int) + 1 := by simp
    rw [el] at ih
    refine ⟨z9, ?_⟩
    rw [hr]
    have step : f_law_marks_l1 [.int p, x1, x2, .ol (pre.map D.int ++ D.int x :: rest.map D.int), x4, x5, x6, .int gone, .int kept, .int pre.length] = .nx [.int p, x1, x2, .ol (pre.map D.int ++ D.int (if x = gone then kept else x) :: rest.map D.int), x4, x5, x6, .int gone, .int kept, .int pre.length] := by
      have e1' : atI (List.map D.int pre ++ D.int x :: List.map D.int rest) (pre.length : Int) = some (.int x) := by rw [DL.atI_natG (j := pre.length) rfl (by simp)]; simp
      by_cases h : x = gone
      · subst h
        simp [f_law_marks_l1, e1', e2]
      · simp [f_law_marks_l1, e1', h]
    simpa [forL, step] using ih

theorem lmarks_l2 (p : Int) (hp : 1 ≤ p) (hp2 : p ≤ 1000) (ts : List (Int × Int)) (hE : EndsOk p ts) (x2 : D) : ∀ (l m : List Int) (y4 y5 y6 y7 y8 y9 : D), (m.length : Int) = p → InT ts.length l →
    ∃ z4 z5 z6 z7 z8 z9, forL (gtN 4) f_law_marks_l2 (l.map D.int) [.int p, .ls (ts.map dP), x2, .ol (m.map D.int), y4, y5, y6, y7, y8, y9] = .nx [.int p, .ls (ts.map dP), x2, .ol ((l.foldl (fun m t => stepL m (tieAt ts t)) m).map D.int), z4, z5, z6, z7, z8, z9]
  | [], m, y4, y5, y6, y7, y8, y9, _, _ => ⟨y4, y5, y6, y7, y8, y9, by simp [forL]⟩
  | t :: l, m, y4, y5, y6, y7, y8, y9, hm, hl => by
    obtain ⟨t0, t1⟩ := hl t (List.mem_cons_self ..)
    obtain ⟨e1, e2⟩ := tie_at t0 t1
    obtain ⟨⟨a0, a1⟩, b0, b1⟩ := hE _ e2
    have ea := nth_at (m := m) a0 (by omega)
    have eb := nth_at (m := m) b0 (by omega)
    have hr : rgOk p := rgOk_of (by omega) (by omega)
    have hl' : InT ts.length l := fun t h => hl t (List.mem_cons_of_mem _ h)
    rw [List.foldl_cons]
    by_cases h : nth m (tieAt ts t).1 = nth m (tieAt ts t).2
    · obtain ⟨z4, z5, z6, z7, z8, z9, ih⟩ := lmarks_l2 p hp hp2 ts hE x2 l m (.int t) (.int (tieAt ts t).1) (.int (tieAt ts t).2) y7 y8 y9 hm hl'
      refine ⟨z4, z5, z6, z7, z8, z9, ?_⟩
      have es : stepL m (tieAt ts t) = m := if_pos h
      rw [es, ← ih]
      have st : f_law_marks_l2 [.int p, .ls (ts.map dP), x2, .ol (m.map D.int), .int t, y5, y6, y7, y8, y9] = .nx [.int p, .ls (ts.map dP), x2, .ol (m.map D.int), .int t, .int (tieAt ts t).1, .int (tieAt ts t).2, y7, y8, y9] := by
        simp [f_law_marks_l2, e1, ea, eb, h]
      simp [forL, st]
    · have es : stepL m (tieAt ts t) = m.map fun x => if x = nth m (tieAt ts t).2 then nth m (tieAt ts t).1 else x := if_neg h
      obtain ⟨w9, iw⟩ := lmarks_l1 p (.ls (ts.map dP)) x2 (.int t) (.int (tieAt ts t).1) (.int (tieAt ts t).2) (nth m (tieAt ts t).2) (nth m (tieAt ts t).1) m [] y9
      obtain ⟨z4, z5, z6, z7, z8, z9, ih⟩ := lmarks_l2 p hp hp2 ts hE x2 l (stepL m (tieAt ts t)) (.int t) (.int (tieAt ts t).1) (.int (tieAt ts t).2) (.int (nth m (tieAt ts t).2)) (.int (nth m (tieAt ts t).1)) w9 (by rw [stepL_len]; exact hm) hl'
      refine ⟨z4, z5, z6, z7, z8, z9, ?_⟩
      rw [← ih]
      have hpn : p.toNat = m.length := by omega
      simp only [List.length_nil, List.nil_append, Int.ofNat_zero, ← hpn] at iw
      rw [← es] at iw
      have st : f_law_marks_l2 [.int p, .ls (ts.map dP), x2, .ol (m.map D.int), .int t, y5, y6, y7, y8, y9] = .nx [.int p, .ls (ts.map dP), x2, .ol ((stepL m (tieAt ts t)).map D.int), .int t, .int (tieAt ts t).1, .int (tieAt ts t).2, .int (nth m (tieAt ts t).2), .int (nth m (tieAt ts t).1), w9] := by
        simp [f_law_marks_l2, e1, ea, eb, h, hr, iw]
      simp [forL, st]
theorem lmarks_ok (p : Int) (ts : List (Int × Int)) (hE : EndsOk p ts) (h1 : 1 ≤ p) (h2 : p ≤ 1000) (l : List Int) (hl : InT ts.length l) : g_law_marks [.int p, .ls (ts.map dP), .ls (l.map D.int)] = .ok (.ol ((marksL p.toNat ts l).map D.int)) := by
  obtain ⟨z4, z5, z6, z7, z8, z9, e⟩ := lmarks_l2 p h1 h2 ts hE (.ls (l.map D.int)) l (iota p.toNat) .un .un .un .un .un .un (by simp; omega) hl
  have hr : rgOk p := rgOk_of (by omega) (by omega)
  have h3 : p ≤ 1000000 := by omega
  simp [g_law_marks, runF, f_law_marks, hr, h3, rng_iota, e, marksL]
/-- the same parts -/
def SameP (p : Nat) (m m' : List Int) : Prop := ∀ i j : Int, 0 ≤ i → i < p → 0 ≤ j → j < p → (nth m i = nth m j ↔ nth m' i = nth m' j)
theorem nth_map {m : List Int} {f : Int → Int} {i : Int} (h0 : 0 ≤ i) (h1 : i < m.length) : nth (m.map f) i = f (nth m i) := by
  unfold nth
  have : i.toNat < m.length := by omega
  simp [List.getD_eq_getElem?_getD, List.getElem?_map, List.getElem?_eq_getElem this]
theorem same_step {p : Nat} {m m' : List Int} {t : Int × Int} (h : SameP p m m') (hm : m.length = p) (hm' : m'.length = p) (ht : (0 ≤ t.1 ∧ t.1 < p) ∧ 0 ≤ t.2 ∧ t.2 < p) : SameP p (stepM m t) (stepL m' t) := by
  obtain ⟨⟨a0, a1⟩, b0, b1⟩ := ht
  intro i j i0 i1 j0 j1
  have hab := h t.1 t.2 a0 a1 b0 b1
  have hia := h i t.1 i0 i1 a0 a1
  have hib := h i t.2 i0 i1 b0 b1
  have hja := h j t.1 j0 j1 a0 a1
  have hjb := h j t.2 j0 j1 b0 b1
  have hij := h i j i0 i1 j0 j1
  unfold stepM stepL
  rw [nth_map i0 (by omega), nth_map j0 (by omega)]
  by_cases c : nth m' t.1 = nth m' t.2
  · rw [if_pos c]
    have c' := hab.mpr c
    rw [← hij]
    rw [show max (nth m t.1) (nth m t.2) = nth m t.2 by omega, show min (nth m t.1) (nth m t.2) = nth m t.2 by omega]
    by_cases q1 : nth m i = nth m t.2 <;> by_cases q2 : nth m j = nth m t.2 <;> simp [q1, q2]
  · rw [if_neg c, nth_map i0 (by omega), nth_map j0 (by omega)]
    have c' : ¬ nth m t.1 = nth m t.2 := fun z => c (hab.mp z)
    generalize nth m t.1 = a at *
    generalize nth m t.2 = b at *
    generalize nth m' t.1 = a' at *
    generalize nth m' t.2 = b' at *
    generalize nth m i = x at *
    generalize nth m j = y at *
    generalize nth m' i = x' at *
    generalize nth m' j = y' at *
    rcases Int.le_total a b with z | z
    · rw [show max a b = b by omega, show min a b = a by omega]
      by_cases u1 : x = b <;> by_cases u2 : y = b <;> by_cases u3 : x' = b' <;> by_cases u4 : y' = b' <;> simp_all <;> omega
    · rw [show max a b = a by omega, show min a b = b by omega]
      by_cases u1 : x = a <;> by_cases u2 : y = a <;> by_cases u3 : x' = b' <;> by_cases u4 : y' = b' <;> simp_all <;> omega
end Lw
namespace Lw
open DL L2
theorem same_fold (p : Nat) (ts : List (Int × Int)) (hE : EndsOk p ts) : ∀ (l m m' : List Int), SameP p m m' → m.length = p → m'.length = p → InT ts.length l → SameP p (l.foldl (fun m t => stepM m (tieAt ts t)) m) (l.foldl (fun m t => stepL m (tieAt ts t)) m')
  | [], _, _, h, _, _, _ => h
  | t :: l, m, m', h, hm, hm', hl => by
    obtain ⟨t0, t1⟩ := hl t (List.mem_cons_self ..)
    exact same_fold p ts hE l _ _ (same_step h hm hm' (hE _ (tie_at t0 t1).2)) (by rw [stepM_len]; exact hm) (by rw [stepL_len]; exact hm') fun t h => hl t (List.mem_cons_of_mem _ h)
theorem same_marks (p : Nat) (ts : List (Int × Int)) (hE : EndsOk p ts) (l : List Int) (hl : InT ts.length l) : SameP p (marksM p ts l) (marksL p ts l) :=
  same_fold p ts hE l _ _ (fun _ _ _ _ _ _ => Iff.rfl) (by simp) (by simp) hl
theorem nth_mem {m : List Int} {i : Int} (h0 : 0 ≤ i) (h1 : i < m.length) : nth m i ∈ m := by
  have : i.toNat < m.length := by omega
  unfold nth
  rw [List.getD_eq_getElem?_getD, List.getElem?_eq_getElem this]
  exact List.getElem_mem this
theorem mem_nth {m : List Int} {x : Int} (h : x ∈ m) : ∃ i : Int, 0 ≤ i ∧ i < m.length ∧ nth m i = x := by
  obtain ⟨i, hi, e⟩ := List.mem_iff_getElem.mp h
  refine ⟨i, by omega, by omega, ?_⟩
  unfold nth
  simp [List.getD_eq_getElem?_getD, List.getElem?_eq_getElem hi, e]
theorem sset_one {m : List Int} (h : 1 ≤ m.length) : (sset m).length = 1 ↔ ∀ i : Int, 0 ≤ i → i < m.length → nth m i = nth m 0 := by
  constructor
  · intro e i i0 i1
    obtain ⟨x, hx⟩ := List.length_eq_one_iff.mp e
    have a := (sset_mem (nth m i) m).mpr (nth_mem i0 i1)
    have b := (sset_mem (nth m 0) m).mpr (nth_mem (Int.le_refl 0) (by omega))
    rw [hx] at a b
    rw [List.mem_singleton.mp a, List.mem_singleton.mp b]
  · intro k
    have : sset m = [nth m 0] := rise_uniq (sset_rise m) (by simp) fun x => by
      rw [sset_mem, List.mem_singleton]
      constructor
      · intro hx
        obtain ⟨i, i0, i1, rfl⟩ := mem_nth hx
        exact k i i0 i1
      · rintro rfl
        exact nth_mem (Int.le_refl 0) (by omega)
    rw [this]; rfl
theorem same_one {p : Nat} {m m' : List Int} (hp : 1 ≤ p) (h : SameP p m m') (hm : m.length = p) (hm' : m'.length = p) : (sset m).length = 1 ↔ (sset m').length = 1 := by
  rw [sset_one (by omega), sset_one (by omega)]
  constructor
  · intro k i i0 i1
    exact (h i 0 i0 (by omega) (Int.le_refl 0) (by omega)).mp (k i i0 (by omega))
  · intro k i i0 i1
    exact (h i 0 i0 (by omega) (Int.le_refl 0) (by omega)).mpr (k i i0 (by omega))
theorem goodAux_mono {n : Int} : ∀ {l : List Int} {a b : Int}, b ≤ a → goodAux n a l = true → goodAux n b l = true
  | [], _, _, _, _ => rfl
  | x :: l, a, b, h, g => by
    simp only [goodAux, Bool.and_eq_true, Bool.not_eq_true', decide_eq_false_iff_not] at g ⊢
    exact ⟨⟨by omega, g.1.2⟩, g.2⟩
theorem some_l2 (n : Int) : ∀ (k : Nat) (lo c : Int) (l : List Int) (y : D), l.length + k ≤ lim →
    ∃ (c' : Int) (r : List Int) (z : D), r.length ≤ k ∧ goodAux (lo + k) (lo - 1) r = true ∧ forL (gtN 3) f_law_some_l1 (rng lo k) [.int c, .int n, .ol (l.map D.int), y] = .nx [.int c', .int n, .ol ((l ++ r).map D.int), z]
  | 0, lo, c, l, y, _ => ⟨c, [], y, by simp, rfl, by simp [rng_zero, forL]⟩
  | k + 1, lo, c, l, y, hl => by
    have h1 : l.length < lim := by omega
    rcases Int.emod_two_eq c with e | e
    · obtain ⟨c', r, z, h2, hg, h3⟩ := some_l2 n k (lo + 1) (c / 2) l (.int lo) (by omega)
      refine ⟨c', r, z, by omega, ?_, ?_⟩
      · rw [show lo + ((k + 1 : Nat) : Int) = lo + 1 + k by omega]
        exact goodAux_mono (by omega) hg
      · rw [← h3]
        simp [rng_succ, forL, f_law_some_l1, e]
    · obtain ⟨c', r, z, h2, hg, h3⟩ := some_l2 n k (lo + 1) (c / 2) (l ++ [lo]) (.int lo) (by simp; omega)
      refine ⟨c', lo :: r, z, by simp; omega, ?_, ?_⟩
      · rw [show lo + ((k + 1 : Nat) : Int) = lo + 1 + k by omega]
        rw [show lo + 1 - 1 = lo by omega] at hg
        simp only [goodAux, Bool.and_eq_true, Bool.not_eq_true', decide_eq_false_iff_not]
        exact ⟨⟨by omega, by omega⟩, hg⟩
      · rw [show l ++ lo :: r = l ++ [lo] ++ r by simp, ← h3]
        simp [rng_succ, forL, f_law_some_l1, e, h1]
theorem some_good (c : Int) (n : Nat) (hn : n ≤ 1000) : ∃ l : List Int, l.length ≤ n ∧ goodB n l = true ∧ g_law_some [.int c, .int n] = .ok (.ol (l.map D.int)) := by
  obtain ⟨c', r, z, h1, hg, h2⟩ := some_l2 n n 0 c [] .un (by simp [lim_eq]; omega)
  have b1 : rgOk (n : Int) := rgOk_of (by omega) (by omega)
  refine ⟨r, h1, by simpa [goodB] using hg, ?_⟩
  simp at h2
  simp [g_law_some, runF, f_law_some, b1, h2]
def up (lo : Int) : Nat → List Int
  | 0 => []
  | k + 1 => lo :: up (lo + 1) k
theorem range_up : ∀ (k : Nat) (lo : Int), ((List.range k).map fun i : Nat => lo + (i : Int)) = up lo k
  | 0, _ => rfl
  | k + 1, lo => by
    rw [List.range_succ_eq_map, List.map_cons, List.map_map, up, ← range_up k (lo + 1)]
    congr 1
    · simp
    · refine List.map_congr_left fun a _ => ?_
      simp; omega
theorem iota_up (n : Nat) : iota n = up 0 n := by rw [← range_up]; unfold iota; simp
theorem up_good : ∀ (k : Nat) (lo : Int), goodAux (lo + k) (lo - 1) (up lo k) = true
  | 0, _ => rfl
  | k + 1, lo => by
    have := up_good k (lo + 1)
    rw [show lo + 1 - 1 = lo by omega] at this
    simp only [up, goodAux, Bool.and_eq_true, Bool.not_eq_true', decide_eq_false_iff_not]
    exact ⟨⟨by omega, by omega⟩, by rw [show lo + ((k + 1 : Nat) : Int) = lo + 1 + k by omega]; exact this⟩
theorem iota_good (n : Nat) : goodB n (iota n) = true := by
  rw [iota_up]; simpa [goodB] using up_good n 0
end Lw
namespace Lw
open DL L2
/-! hanging together, over a list of ties -/
inductive Conn (es : List (Int × Int)) : Int → Int → Prop
  | refl (a : Int) : Conn es a a
  | tie {a b : Int} : (a, b) ∈ es → Conn es a b
  | symm {a b : Int} : Conn es a b → Conn es b a
  | trans {a b c : Int} : Conn es a b → Conn es b c → Conn es a c
theorem Conn.mono {es fs : List (Int × Int)} (h : ∀ e ∈ es, e ∈ fs) {a b : Int} (c : Conn es a b) : Conn fs a b := by
  induction c with
  | refl a => exact .refl a
  | tie h' => exact .tie (h _ h')
  | symm _ ih => exact ih.symm
  | trans _ _ ih1 ih2 => exact ih1.trans ih2
/-- where each tie of the one is hung together by the other -/
theorem Conn.le {es fs : List (Int × Int)} (h : ∀ e ∈ es, Conn fs e.1 e.2) {a b : Int} (c : Conn es a b) : Conn fs a b := by
  induction c with
  | refl a => exact .refl a
  | tie h' => exact h _ h'
  | symm _ ih => exact ih.symm
  | trans _ _ ih1 ih2 => exact ih1.trans ih2
theorem conn_snoc {es : List (Int × Int)} {t : Int × Int} {i j : Int} : Conn (es ++ [t]) i j ↔ Conn es i j ∨ (Conn es i t.1 ∧ Conn es t.2 j) ∨ (Conn es i t.2 ∧ Conn es t.1 j) := by
  constructor
  · intro c
    induction c with
    | refl a => exact .inl (.refl a)
    | tie h =>
      rcases List.mem_append.mp h with h | h
      · exact .inl (.tie h)
      · simp at h
        subst h
        exact .inr (.inl ⟨.refl _, .refl _⟩)
    | symm _ ih =>
      rcases ih with h | ⟨h1, h2⟩ | ⟨h1, h2⟩
      · exact .inl h.symm
      · exact .inr (.inr ⟨h2.symm, h1.symm⟩)
      · exact .inr (.inl ⟨h2.symm, h1.symm⟩)
    | trans _ _ ih1 ih2 =>
      rcases ih1 with h | ⟨h1, h2⟩ | ⟨h1, h2⟩ <;> rcases ih2 with k | ⟨k1, k2⟩ | ⟨k1, k2⟩
      · exact .inl (h.trans k)
      · exact .inr (.inl ⟨h.trans k1, k2⟩)
      · exact .inr (.inr ⟨h.trans k1, k2⟩)
      · exact .inr (.inl ⟨h1, h2.trans k⟩)
      · exact .inl ((h1.trans (h2.trans k1).symm).trans k2)
      · exact .inl (h1.trans k2)
      · exact .inr (.inr ⟨h1, h2.trans k⟩)
      · exact .inl (h1.trans k2)
      · exact .inl ((h1.trans (h2.trans k1).symm).trans k2)
  · have m : ∀ {a b}, Conn es a b → Conn (es ++ [t]) a b := fun c => c.mono fun e h => List.mem_append_left _ h
    have ht : Conn (es ++ [t]) t.1 t.2 := .tie (List.mem_append_right _ (by simp))
    rintro (h | ⟨h1, h2⟩ | ⟨h1, h2⟩)
    · exact m h
    · exact ((m h1).trans ht).trans (m h2)
    · exact ((m h1).trans ht.symm).trans (m h2)
theorem conn_nil {i j : Int} (c : Conn [] i j) : i = j := by
  induction c with
  | refl a => rfl
  | tie h => exact (nomatch h)
  | symm _ ih => exact ih.symm
  | trans _ _ ih1 ih2 => exact ih1.trans ih2
/-- the marks of a list of ties, as the laws give them -/
def mk (p : Nat) (es : List (Int × Int)) : List Int := es.foldl stepL (iota p)
theorem mk_len (p : Nat) (es : List (Int × Int)) : (mk p es).length = p := by
  have : ∀ (es : List (Int × Int)) (m : List Int), (es.foldl stepL m).length = m.length := by
    intro es
    induction es with
    | nil => intro m; rfl
    | cons t es ih => intro m; rw [List.foldl_cons, ih, stepL_len]
  unfold mk
  rw [this]; simp
theorem mk_snoc (p : Nat) (es : List (Int × Int)) (t : Int × Int) : mk p (es ++ [t]) = stepL (mk p es) t := by simp [mk, List.foldl_append]
theorem marksL_mk (p : Nat) (ts : List (Int × Int)) (l : List Int) : marksL p ts l = mk p (l.map (tieAt ts)) := by unfold marksL mk; rw [List.foldl_map]
theorem nth_iota {p : Nat} {i : Int} (h0 : 0 ≤ i) (h1 : i < p) : nth (iota p) i = i := by
  have : i.toNat < p := by omega
  unfold nth iota
  rw [List.getD_eq_getElem?_getD, List.getElem?_map, List.getElem?_range this]
  simp; omega
theorem stepL_same {m : List Int} {t : Int × Int} {i j : Int} (hi : 0 ≤ i ∧ i < m.length) (hj : 0 ≤ j ∧ j < m.length) :
    nth (stepL m t) i = nth (stepL m t) j ↔ nth m i = nth m j ∨ (nth m i = nth m t.1 ∧ nth m t.2 = nth m j) ∨ (nth m i = nth m t.2 ∧ nth m t.1 = nth m j) := by
  unfold stepL
  by_cases c : nth m t.1 = nth m t.2
  · rw [if_pos c, c]
    constructor
    · exact .inl
    · rintro (h | ⟨h1, h2⟩ | ⟨h1, h2⟩)
      · exact h
      · exact h1.trans h2
      · exact h1.trans h2
  · rw [if_neg c, nth_map hi.1 hi.2, nth_map hj.1 hj.2]
    generalize nth m t.1 = a at *
    generalize nth m t.2 = b at *
    generalize nth m i = x at *
    generalize nth m j = y at *
    by_cases u1 : x = b <;> by_cases u2 : y = b <;> simp [u1, u2] <;> omega
theorem mk_conn (p : Nat) : ∀ (n : Nat) (es : List (Int × Int)), es.length = n → EndsOk p es → ∀ i j : Int, 0 ≤ i → i < p → 0 ≤ j → j < p → (nth (mk p es) i = nth (mk p es) j ↔ Conn es i j)
  | 0, es, hn, hE, i, j, i0, i1, j0, j1 => by
    obtain rfl := List.eq_nil_of_length_eq_zero hn
    show nth (iota p) i = nth (iota p) j ↔ _
    rw [nth_iota i0 i1, nth_iota j0 j1]
    constructor
    · rintro rfl; exact .refl _
    · exact conn_nil
  | n + 1, es, hn, hE, i, j, i0, i1, j0, j1 => by
    have hne : es ≠ [] := by intro z; subst z; simp at hn
    have hsp := List.dropLast_concat_getLast hne
    generalize es.dropLast = fs at hsp
    generalize es.getLast hne = t at hsp
    subst hsp
    have hf : EndsOk p fs := fun e h => hE e (List.mem_append_left _ h)
    have ht := hE t (List.mem_append_right _ (by simp))
    have ih := mk_conn p n fs (by simpa using hn) hf
    rw [mk_snoc, stepL_same ⟨i0, by rw [mk_len]; exact i1⟩ ⟨j0, by rw [mk_len]; exact j1⟩, conn_snoc, ih i j i0 i1 j0 j1, ih i t.1 i0 i1 ht.1.1 ht.1.2, ih t.2 j ht.2.1 ht.2.2 j0 j1, ih i t.2 i0 i1 ht.2.1 ht.2.2, ih t.1 j ht.1.1 ht.1.2 j0 j1]
end Lw
namespace Lw
open DL L2
theorem nodup_le : ∀ {l m : List Int}, l.Nodup → (∀ x ∈ l, x ∈ m) → l.length ≤ m.length
  | [], m, _, _ => Nat.zero_le _
  | x :: l, m, h, k => by
    have hx := k x (List.mem_cons_self ..)
    obtain ⟨h1, h2⟩ := List.nodup_cons.mp h
    have := nodup_le (l := l) (m := m.erase x) h2 fun y hy => (List.mem_erase_of_ne (fun (z : y = x) => h1 (by rw [← z]; exact hy))).mpr (k y (List.mem_cons_of_mem _ hy))
    rw [List.length_erase_of_mem hx] at this
    have hp : 0 < m.length := List.length_pos_of_mem hx
    simp only [List.length_cons]
    omega
theorem idx_nth {m : List Int} {x : Int} (h : x ∈ m) : ((m.idxOf x : Nat) : Int) < m.length ∧ nth m (m.idxOf x : Nat) = x := by
  have hl := List.idxOf_lt_length_of_mem h
  refine ⟨by omega, ?_⟩
  unfold nth
  simp [List.getD_eq_getElem?_getD, List.getElem?_eq_getElem hl, List.getElem_idxOf]
/-- fewer kinds of marks where the like ones are like -/
theorem sset_le {m m' : List Int} (hl : m.length = m'.length) (h : ∀ i j : Int, 0 ≤ i → i < m.length → 0 ≤ j → j < m.length → nth m i = nth m j → nth m' i = nth m' j) : (sset m').length ≤ (sset m).length := by
  have : (sset m').length ≤ ((sset m).map fun x => nth m' (m.idxOf x : Nat)).length := by
    refine nodup_le (rise_nodup (sset_rise m')) fun y hy => ?_
    obtain ⟨i, i0, i1, rfl⟩ := mem_nth ((sset_mem y m').mp hy)
    have hx : nth m i ∈ m := nth_mem i0 (by omega)
    obtain ⟨k1, k2⟩ := idx_nth hx
    refine List.mem_map.mpr ⟨nth m i, (sset_mem _ m).mpr hx, ?_⟩
    exact h _ i (by omega) k1 i0 (by omega) k2
  simpa using this
theorem same_cnt {p : Nat} {m m' : List Int} (h : SameP p m m') (hm : m.length = p) (hm' : m'.length = p) : (sset m).length = (sset m').length :=
  Nat.le_antisymm (sset_le (by omega) fun i j i0 i1 j0 j1 e => (h i j i0 (by omega) j0 (by omega)).mpr e) (sset_le (by omega) fun i j i0 i1 j0 j1 e => (h i j i0 (by omega) j0 (by omega)).mp e)
/-- in how many pieces -/
def cnt (p : Nat) (es : List (Int × Int)) : Nat := (sset (mk p es)).length
theorem cnt_le {p : Nat} {es fs : List (Int × Int)} (h1 : EndsOk p es) (h2 : EndsOk p fs) (h : ∀ e ∈ es, Conn fs e.1 e.2) : cnt p fs ≤ cnt p es := by
  refine sset_le (by rw [mk_len, mk_len]) fun i j i0 i1 j0 j1 e => ?_
  rw [mk_len] at i1 j1
  rw [mk_conn p _ es rfl h1 i j i0 i1 j0 j1] at e
  exact (mk_conn p _ fs rfl h2 i j i0 i1 j0 j1).mpr (e.le h)
theorem cnt_eq {p : Nat} {es fs : List (Int × Int)} (h1 : EndsOk p es) (h2 : EndsOk p fs) (h : ∀ e ∈ es, Conn fs e.1 e.2) (h' : ∀ e ∈ fs, Conn es e.1 e.2) : cnt p es = cnt p fs :=
  Nat.le_antisymm (cnt_le h2 h1 h') (cnt_le h1 h2 h)
theorem cnt_set {p : Nat} {es fs : List (Int × Int)} (h1 : EndsOk p es) (h2 : EndsOk p fs) (h : ∀ e, e ∈ es ↔ e ∈ fs) : cnt p es = cnt p fs :=
  cnt_eq h1 h2 (fun e he => .tie ((h e).mp he)) fun e he => .tie ((h e).mpr he)
theorem cnt_nil (p : Nat) : cnt p [] = p := by
  show (sset (iota p)).length = p
  rw [rise_uniq (sset_rise (iota p)) (m := iota p) ?_ fun k => sset_mem k _]
  · simp
  · unfold iota
    rw [List.pairwise_map]
    exact List.pairwise_lt_range.imp fun h => by omega
theorem cnt_same {p : Nat} {es : List (Int × Int)} {t : Int × Int} (h : EndsOk p (es ++ [t])) (c : Conn es t.1 t.2) : cnt p (es ++ [t]) = cnt p es := by
  refine cnt_eq h (fun e he => h e (List.mem_append_left _ he)) (fun e he => ?_) fun e he => .tie (List.mem_append_left _ he)
  rcases List.mem_append.mp he with z | z
  · exact .tie z
  · simp at z; subst z; exact c
theorem sset_step {m : List Int} {t : Int × Int} (h1 : 0 ≤ t.1 ∧ t.1 < m.length) (h2 : 0 ≤ t.2 ∧ t.2 < m.length) (n : nth m t.1 ≠ nth m t.2) : (sset (stepL m t)).length + 1 = (sset m).length := by
  have hb : nth m t.2 ∈ sset m := (sset_mem _ m).mpr (nth_mem h2.1 h2.2)
  have nd := rise_nodup (sset_rise m)
  have e : sset (stepL m t) = (sset m).erase (nth m t.2) := by
    refine rise_uniq (sset_rise _) ((sset_rise m).sublist List.erase_sublist) fun k => ?_
    rw [sset_mem, nd.mem_erase_iff, sset_mem]
    unfold stepL
    rw [if_neg n, List.mem_map]
    constructor
    · rintro ⟨x, hx, rfl⟩
      by_cases c : x = nth m t.2
      · rw [if_pos c]; exact ⟨n, nth_mem h1.1 h1.2⟩
      · rw [if_neg c]; exact ⟨c, hx⟩
    · rintro ⟨c, hx⟩
      exact ⟨k, hx, if_neg c⟩
  rw [e, List.length_erase_of_mem hb]
  have := List.length_pos_of_mem hb
  omega
theorem cnt_new {p : Nat} {es : List (Int × Int)} {t : Int × Int} (h : EndsOk p (es ++ [t])) (c : ¬ Conn es t.1 t.2) : cnt p (es ++ [t]) + 1 = cnt p es := by
  have ht := h t (by simp)
  have hf : EndsOk p es := fun e he => h e (List.mem_append_left _ he)
  unfold cnt
  rw [mk_snoc]
  refine sset_step ⟨ht.1.1, by rw [mk_len]; exact ht.1.2⟩ ⟨ht.2.1, by rw [mk_len]; exact ht.2.2⟩ fun e => c ?_
  exact (mk_conn p _ es rfl hf t.1 t.2 ht.1.1 ht.1.2 ht.2.1 ht.2.2).mp e
theorem cnt_pos {p : Nat} (hp : 1 ≤ p) (es : List (Int × Int)) : 1 ≤ cnt p es := by
  have : nth (mk p es) 0 ∈ sset (mk p es) := (sset_mem _ _).mpr (nth_mem (Int.le_refl 0) (by rw [mk_len]; omega))
  exact List.length_pos_of_mem this
theorem snoc_of {α : Type} {es : List α} {n : Nat} (h : es.length = n + 1) : ∃ fs t, es = fs ++ [t] ∧ fs.length = n := by
  have hne : es ≠ [] := by intro z; subst z; simp at h
  exact ⟨es.dropLast, es.getLast hne, (List.dropLast_concat_getLast hne).symm, by simp; omega⟩
theorem cnt_lo (p : Nat) : ∀ (n : Nat) (es : List (Int × Int)), es.length = n → EndsOk p es → p ≤ cnt p es + n
  | 0, es, hn, hE => by
    obtain rfl := List.eq_nil_of_length_eq_zero hn
    rw [cnt_nil]; omega
  | n + 1, es, hn, hE => by
    obtain ⟨fs, t, rfl, hl⟩ := snoc_of hn
    have ih := cnt_lo p n fs hl fun e he => hE e (List.mem_append_left _ he)
    by_cases c : Conn fs t.1 t.2
    · rw [cnt_same hE c]; omega
    · have := cnt_new hE c; omega
/-- all places are hung together just where there is one piece -/
theorem cnt_one {p : Nat} (hp : 1 ≤ p) {es : List (Int × Int)} (hE : EndsOk p es) : cnt p es = 1 ↔ ∀ i j : Int, 0 ≤ i → i < p → 0 ≤ j → j < p → Conn es i j := by
  unfold cnt
  rw [sset_one (by rw [mk_len]; exact hp), mk_len]
  constructor
  · intro h i j i0 i1 j0 j1
    exact (mk_conn p _ es rfl hE i j i0 i1 j0 j1).mp ((h i i0 i1).trans (h j j0 j1).symm)
  · intro h i i0 i1
    exact (mk_conn p _ es rfl hE i 0 i0 i1 (by omega) (by omega)).mpr (h i 0 i0 i1 (by omega) (by omega))
/-- the ties of numbers -/
def tiesAt (ts : List (Int × Int)) (l : List Int) : List (Int × Int) := l.map (tieAt ts)
theorem tiesAt_ok {p : Int} {ts : List (Int × Int)} (hE : EndsOk p ts) {l : List Int} (hl : InT ts.length l) : EndsOk p (tiesAt ts l) := fun e he => by
  obtain ⟨t, ht, rfl⟩ := List.mem_map.mp he
  obtain ⟨t0, t1⟩ := hl t ht
  exact hE _ (tie_at t0 t1).2
theorem cntM (p : Nat) (ts : List (Int × Int)) (hE : EndsOk p ts) (l : List Int) (hl : InT ts.length l) : (sset (marksM p ts l)).length = cnt p (tiesAt ts l) := by
  rw [same_cnt (same_marks p ts hE l hl) (marksM_len ..) (marksL_len ..), marksL_mk]; rfl
theorem nthM (p : Nat) (ts : List (Int × Int)) (hE : EndsOk p ts) (l : List Int) (hl : InT ts.length l) (i j : Int) (i0 : 0 ≤ i) (i1 : i < p) (j0 : 0 ≤ j) (j1 : j < p) : nth (marksM p ts l) i = nth (marksM p ts l) j ↔ Conn (tiesAt ts l) i j := by
  rw [same_marks p ts hE l hl i j i0 i1 j0 j1, marksL_mk]
  exact mk_conn p _ _ rfl (tiesAt_ok hE hl) i j i0 i1 j0 j1
theorem nthL (p : Nat) (ts : List (Int × Int)) (hE : EndsOk p ts) (l : List Int) (hl : InT ts.length l) (i j : Int) (i0 : 0 ≤ i) (i1 : i < p) (j0 : 0 ≤ j) (j1 : j < p) : nth (marksL p ts l) i = nth (marksL p ts l) j ↔ Conn (tiesAt ts l) i j := by
  rw [marksL_mk]
  exact mk_conn p _ _ rfl (tiesAt_ok hE hl) i j i0 i1 j0 j1
/-- the numbers of a tree -/
def treeB (p : Int) (ts : List (Int × Int)) (l : List Int) : Bool := decide ((l.length : Int) = p - 1) && goodB ts.length l && decide (cnt p.toNat (tiesAt ts l) = 1)
end Lw
noncomputable section
namespace Lw
open DL
def f_is_tree_l1 : Env → Out := sSeq (sIf (tOr_ (tC2 cLe (eVar 3) (eVar 2)) (tC2 cGe (eVar 3) (eCall caLen (aCons (eUn (opFld 14 1) (eVar 0)) (aNil))))) (sRet (eC (.bl false))) (sNil)) (sAsgF 2 (eVar 3))
def f_is_tree : Env → Out := sSeq (sIf (tC2 cNe (eCall caLen (aCons (eVar 1) (aNil))) (eBin opSub (eUn (opFld 14 0) (eVar 0)) (eC (.int 1)))) (sRet (eC (.bl false))) (sNil)) (sSeq (sAsgF 2 (eUn opNeg (eC (.int 1)))) (sSeq (sFor (iSeq (eVar 1)) (gtN 3) f_is_tree_l1) (sRet (eB (tC2 cEq (eLenSet (eOwn g_marks_over (aCons (eVar 0) (aCons (eVar 1) (aNil))))) (eC (.int 1)))))))
def g_is_tree : List D → Res D := runF f_is_tree 4
end Lw
end
namespace Lw
open DL L2
theorem tree_l1 (p : Int) (ts : List (Int × Int)) (x1 : D) : ∀ (l : List Int) (a : Int) (y3 : D),
    (goodAux ts.length a l = true ∧ ∃ z2 z3, forL (gtN 3) f_is_tree_l1 (l.map D.int) [.ob 14 [.int p, .ls (ts.map dP)], x1, .int a, y3] = .nx [.ob 14 [.int p, .ls (ts.map dP)], x1, z2, z3]) ∨
    (goodAux ts.length a l = false ∧ forL (gtN 3) f_is_tree_l1 (l.map D.int) [.ob 14 [.int p, .ls (ts.map dP)], x1, .int a, y3] = .rt (.bl false))
  | [], a, y3 => .inl ⟨rfl, .int a, y3, by simp [forL]⟩
  | x :: l, a, y3 => by
    by_cases c1 : x ≤ a
    · exact .inr ⟨by simp [goodAux, c1], by simp [forL, f_is_tree_l1, c1]⟩
    · by_cases c2 : (ts.length : Int) ≤ x
      · exact .inr ⟨by simp [goodAux, c2], by simp [forL, f_is_tree_l1, c1, c2]⟩
      · have e : goodAux ts.length a (x :: l) = goodAux ts.length x l := by simp [goodAux, c1, c2]
        have e2 : forL (gtN 3) f_is_tree_l1 ((x :: l).map D.int) [.ob 14 [.int p, .ls (ts.map dP)], x1, .int a, y3] = forL (gtN 3) f_is_tree_l1 (l.map D.int) [.ob 14 [.int p, .ls (ts.map dP)], x1, .int x, .int x] := by
          simp [forL, f_is_tree_l1, c1, c2]
        rw [e, e2]
        exact tree_l1 p ts x1 l x (.int x)
theorem is_tree_ls (p : Int) (ts : List (Int × Int)) (hE : EndsOk p ts) (h1 : 1 ≤ p) (h2 : p ≤ 1000) (l : List Int) : g_is_tree [.ob 14 [.int p, .ls (ts.map dP)], .ls (l.map D.int)] = .ok (.bl (treeB p ts l)) := by
  by_cases c : (l.length : Int) = p - 1
  · rcases tree_l1 p ts (.ls (l.map D.int)) l (-1) .un with ⟨h, z2, z3, e⟩ | ⟨h, e⟩
    · have hg : goodB ts.length l = true := h
      have mo := marks_ok_ls p ts hE h1 h2 l (good_in hg)
      have hz : p ≤ 4000 := by omega
      have hE' : EndsOk (p.toNat : Int) ts := by rw [show (p.toNat : Int) = p by omega]; exact hE
      have hc := cntM p.toNat ts hE' l (good_in hg)
      simp [g_is_tree, runF, f_is_tree, c, e, mo, marksM_len, hz, treeB, hg, hc]
      omega
    · have hg : goodB ts.length l = false := h
      simp [g_is_tree, runF, f_is_tree, c, e, treeB, hg]
  · simp [g_is_tree, runF, f_is_tree, c, treeB]
theorem is_tree_tp (p : Int) (ts : List (Int × Int)) (hE : EndsOk p ts) (h1 : 1 ≤ p) (h2 : p ≤ 1000) (l : List Int) : g_is_tree [.ob 14 [.int p, .ls (ts.map dP)], .tp (l.map D.int)] = .ok (.bl (treeB p ts l)) := by
  by_cases c : (l.length : Int) = p - 1
  · rcases tree_l1 p ts (.tp (l.map D.int)) l (-1) .un with ⟨h, z2, z3, e⟩ | ⟨h, e⟩
    · have hg : goodB ts.length l = true := h
      have mo := marks_ok_tp p ts hE h1 h2 l (good_in hg)
      have hz : p ≤ 4000 := by omega
      have hE' : EndsOk (p.toNat : Int) ts := by rw [show (p.toNat : Int) = p by omega]; exact hE
      have hc := cntM p.toNat ts hE' l (good_in hg)
      simp [g_is_tree, runF, f_is_tree, c, e, mo, marksM_len, hz, treeB, hg, hc]
      omega
    · have hg : goodB ts.length l = false := h
      simp [g_is_tree, runF, f_is_tree, c, e, treeB, hg]
  · simp [g_is_tree, runF, f_is_tree, c, treeB]
end Lw
noncomputable section
namespace Lw
open DL
def f_law_tree_by_l1 : Env → Out := sSeq (sPop 7 3 (eBin opMod (eOwn g_law_mixed (aCons (eVar 2) (aCons (eBin opAdd (eC (.int 500)) (eVar 6)) (aNil)))) (eCall caLen (aCons (eVar 3) (aNil))))) (sSeq (sAsgT (gtT 2 (gtCons (gtN 8) (gtCons (gtN 9) (gtNil)))) (eBin opIx (eVar 1) (eVar 7))) (sIf (tC2 cNe (eBin opIx (eVar 5) (eVar 8)) (eBin opIx (eVar 5) (eVar 9))) (sSeq (sApp 4 (eVar 7)) (sAsgF 5 (eOwn g_law_marks (aCons (eVar 0) (aCons (eVar 1) (aCons (eVar 4) (aNil))))))) (sNil)))
def f_law_tree_by : Env → Out := sSeq (sAsg 3 (eLR1 (eCall caLen (aCons (eVar 1) (aNil))))) (sSeq (sAsg 4 (eLst (aNil))) (sSeq (sAsgF 5 (eLR1 (eVar 0))) (sSeq (sFor (iRg1 (aCons (eCall caLen (aCons (eVar 1) (aNil))) (aNil))) (gtN 6) f_law_tree_by_l1) (sSeq (sIf (tC2 cGt (eLenSet (eVar 5)) (eC (.int 1))) (sRet (eC .non)) (sNil)) (sRet (eCall caTuple (aCons (eCall caSorted3 (aCons (eVar 4) (aNil))) (aNil))))))))
def g_law_tree_by : List D → Res D := runF f_law_tree_by 10
end Lw
end
namespace Lw
open DL L2
theorem goodAux_of {n : Int} : ∀ {l : List Int} {a : Int}, (∀ x ∈ l, a < x ∧ x < n) → l.Pairwise (· < ·) → goodAux n a l = true
  | [], _, _, _ => rfl
  | x :: l, a, h, hp => by
    obtain ⟨h1, h2⟩ := List.pairwise_cons.mp hp
    have hx := h x (List.mem_cons_self ..)
    simp only [goodAux, Bool.and_eq_true, Bool.not_eq_true', decide_eq_false_iff_not]
    exact ⟨⟨by omega, by omega⟩, goodAux_of (fun y hy => ⟨h1 y hy, (h y (List.mem_cons_of_mem _ hy)).2⟩) h2⟩
theorem good_of {n : Nat} {l : List Int} (h : InT n l) (hp : l.Pairwise (· < ·)) : goodB n l = true :=
  goodAux_of (fun x hx => ⟨by have := h x hx; omega, (h x hx).2⟩) hp
theorem srt_mem {l : List Int} {x : Int} : x ∈ srt l ↔ x ∈ l := (srt_perm l).mem_iff
theorem srt_lt {l : List Int} (h : l.Nodup) : (srt l).Pairwise (· < ·) := by
  have h1 := srt_sorted l
  have h2 : (srt l).Nodup := (srt_perm l).nodup_iff.mpr h
  exact (h1.and h2).imp fun ⟨a, b⟩ => by omega
theorem srt_good {n : Nat} {l : List Int} (h : InT n l) (hn : l.Nodup) : goodB n (srt l) = true := good_of (fun t ht => h t (srt_mem.mp ht)) (srt_lt hn)
theorem tiesAt_mem {ts : List (Int × Int)} {l m : List Int} (h : ∀ x, x ∈ l ↔ x ∈ m) : ∀ e, e ∈ tiesAt ts l ↔ e ∈ tiesAt ts m := fun e => by
  unfold tiesAt
  simp only [List.mem_map, h]
theorem iota_nodup (n : Nat) : (iota n).Nodup := by
  unfold iota
  exact List.Pairwise.map _ (fun a b h => by omega) List.nodup_range
theorem iota_mem {n : Nat} {x : Int} : x ∈ iota n ↔ 0 ≤ x ∧ x < n := by
  unfold iota
  simp only [List.mem_map, List.mem_range]
  constructor
  · rintro ⟨a, h, rfl⟩; omega
  · intro ⟨h0, h1⟩; exact ⟨x.toNat, by omega, by omega⟩
theorem nd_erase {l : List Int} {k : Nat} {x : Int} (h : l.Nodup) (hx : l[k]? = Option.some x) : x ∉ l.eraseIdx k := by
  obtain ⟨hk, e⟩ := List.getElem?_eq_some_iff.mp hx
  have hs : l = l.take k ++ x :: l.drop (k + 1) := by rw [← e]; simp
  rw [List.eraseIdx_eq_take_drop_succ]
  rw [hs, List.nodup_append] at h
  obtain ⟨h1, h2, h3⟩ := h
  intro m
  rcases List.mem_append.mp m with z | z
  · exact h3 x z x (by simp) rfl
  · exact (List.nodup_cons.mp h2).1 z
structure Grown (p : Nat) (ts : List (Int × Int)) (i : Nat) (left some : List Int) : Prop where
  len : left.length + i = ts.length
  nd : left.Nodup
  lin : InT ts.length left
  snd : some.Nodup
  sin : InT ts.length some
  sl : ∀ x ∈ some, x ∉ left
  ct : cnt p (tiesAt ts some) + some.length = p
theorem tree_by_l1 (p : Nat) (hp : 1 ≤ p) (hp2 : p ≤ 1000) (ts : List (Int × Int)) (hE : EndsOk p ts) (ht : ts.length ≤ 1000) (c : Int) (i : Nat) (hi : i < ts.length) (left some : List Int) (h : Grown p ts i left some) (y7 y8 y9 : D) :
    ∃ (left' some' : List Int) (z7 z8 z9 : D), Grown p ts (i + 1) left' some' ∧ f_law_tree_by_l1 [.int p, .ls (ts.map dP), .int c, .ol (left.map D.int), .ol (some.map D.int), .ls ((marksL p ts some).map D.int), .int i, y7, y8, y9] = .nx [.int p, .ls (ts.map dP), .int c, .ol (left'.map D.int), .ol (some'.map D.int), .ls ((marksL p ts some').map D.int), .int i, z7, z8, z9] := by
  have hl := h.len
  have hlp : (0 : Int) < left.length := by omega
  have hlpN : 0 < left.length := by omega
  have z0 := Int.emod_nonneg (mixF c (500 + (i : Int))) (by omega : (left.length : Int) ≠ 0)
  have z1 := Int.emod_lt_of_pos (mixF c (500 + (i : Int))) hlp
  have hm := mixed_ok c (500 + (i : Int))
  have hix : ixN left.length (mixF c (500 + (i : Int)) % (left.length : Int)) = Option.some (mixF c (500 + (i : Int)) % (left.length : Int)).toNat := ixN_nat z0 z1
  have hk : (mixF c (500 + (i : Int)) % (left.length : Int)).toNat < left.length := by omega
  generalize (mixF c (500 + (i : Int)) % (left.length : Int)).toNat = k at hix hk
  obtain ⟨x, hx⟩ : ∃ x, left[k]? = Option.some x := ⟨left[k], List.getElem?_eq_getElem hk⟩
  have hxl := h.lin x (List.mem_of_getElem? hx)
  obtain ⟨e1, e2⟩ := tie_at hxl.1 hxl.2
  obtain ⟨⟨a0, a1⟩, b0, b1⟩ := hE _ e2
  have ml : (marksL p ts some).length = p := marksL_len ..
  have ea := nth_at (m := marksL p ts some) a0 (by omega)
  have eb := nth_at (m := marksL p ts some) b0 (by omega)
  have hc := nthL p ts hE some h.sin (tieAt ts x).1 (tieAt ts x).2 a0 a1 b0 b1
  have hn := nd_erase h.nd hx
  have sle : some.length ≤ ts.length := by
    have := nodup_le (l := some) (m := iota ts.length) h.snd fun y hy => iota_mem.mpr (h.sin y hy)
    simpa using this
  have lim1 : some.length < lim := by rw [lim_eq]; omega
  have lim2 : left.length ≤ lim := by rw [lim_eq]; omega
  have hy : (List.map D.int left)[k]? = Option.some (.int x) := by rw [List.getElem?_map, hx]; rfl
  have he : (List.map D.int left).eraseIdx k = (left.eraseIdx k).map D.int := by rw [List.eraseIdx_eq_take_drop_succ, List.eraseIdx_eq_take_drop_succ]; simp
  have lin' : InT ts.length (left.eraseIdx k) := fun y hy => h.lin y ((List.eraseIdx_sublist left k).subset hy)
  have len' : (left.eraseIdx k).length + (i + 1) = ts.length := by rw [List.length_eraseIdx_of_lt hk]; omega
  by_cases q : nth (marksL p ts some) (tieAt ts x).1 = nth (marksL p ts some) (tieAt ts x).2
  · refine ⟨left.eraseIdx k, some, .int x, .int (tieAt ts x).1, .int (tieAt ts x).2, ⟨len', h.nd.sublist (List.eraseIdx_sublist ..), lin', h.snd, h.sin, fun y hy hz => h.sl y hy ((List.eraseIdx_sublist left k).subset hz), h.ct⟩, ?_⟩
    simp [f_law_tree_by_l1, hm, hlp, hlpN, hix, hx, he, lim2, e1, ea, eb, q]
  · have sin' : InT ts.length (some ++ [x]) := fun y hy => by
      rcases List.mem_append.mp hy with z | z
      · exact h.sin y z
      · simp at z; subst z; exact hxl
    have lm := lmarks_ok p ts hE (by omega) (by omega) (some ++ [x]) sin'
    rw [Int.toNat_natCast] at lm
    have ct' : cnt p (tiesAt ts (some ++ [x])) + (some ++ [x]).length = p := by
      have eT : tiesAt ts (some ++ [x]) = tiesAt ts some ++ [tieAt ts x] := by simp [tiesAt]
      have := cnt_new (p := p) (es := tiesAt ts some) (t := tieAt ts x) (by rw [← eT]; exact tiesAt_ok hE sin') (fun z => q (hc.mpr z))
      have := h.ct
      rw [eT]
      simp
      omega
    refine ⟨left.eraseIdx k, some ++ [x], .int x, .int (tieAt ts x).1, .int (tieAt ts x).2, ⟨len', h.nd.sublist (List.eraseIdx_sublist ..), lin', ?_, sin', fun y hy hz => ?_, ct'⟩, ?_⟩
    · rw [List.nodup_append]
      refine ⟨h.snd, by simp, fun a ha b hb e => ?_⟩
      simp at hb
      subst hb
      subst e
      exact h.sl a ha (List.mem_of_getElem? hx)
    · rcases List.mem_append.mp hy with z | z
      · exact h.sl y z ((List.eraseIdx_sublist left k).subset hz)
      · simp at z; subst z; exact hn hz
    · simp at lm
      simp [f_law_tree_by_l1, hm, hlp, hlpN, hix, hx, he, lim1, lim2, e1, ea, eb, q, lm, calD]
theorem grown_start (p : Nat) (ts : List (Int × Int)) : Grown p ts 0 (iota ts.length) [] := ⟨by simp, iota_nodup _, fun x hx => iota_mem.mp hx, by simp, fun _ h => (nomatch h), fun _ h => (nomatch h), by simp [tiesAt, cnt_nil]⟩
/-- a tree grown by a drawn order, or none -/
theorem tree_by_ok (p : Int) (ts : List (Int × Int)) (hE : EndsOk p ts) (h1 : 1 ≤ p) (h2 : p ≤ 1000) (ht : ts.length ≤ 1000) (c : Int) :
    g_law_tree_by [.int p, .ls (ts.map dP), .int c] = .ok .non ∨ ∃ l : List Int, treeB p ts l = true ∧ g_law_tree_by [.int p, .ls (ts.map dP), .int c] = .ok (.tp (l.map D.int)) := by
  obtain ⟨P, rfl⟩ : ∃ P : Nat, p = P := ⟨p.toNat, by omega⟩
  have hr : rgOk (ts.length : Int) := rgOk_of (by omega) (by omega)
  have hr2 : rgOk (P : Int) := rgOk_of (by omega) (by omega)
  have h3 : (P : Int) ≤ 1000000 := by omega
  have h4 : ts.length ≤ 1000000 := by omega
  have h3' : P ≤ 1000000 := by omega
  have h4' : (ts.length : Int) ≤ 1000000 := by omega
  obtain ⟨g', e, left, so, z6, z7, z8, z9, hG, rfl⟩ := for_rngN (s := 6) (b := f_law_tree_by_l1) (lo := 0) (n := ts.length)
    (fun i g => ∃ (left so : List Int) (y6 y7 y8 y9 : D), Grown P ts i left so ∧ g = [.int P, .ls (ts.map dP), .int c, .ol (left.map D.int), .ol (so.map D.int), .ls ((marksL P ts so).map D.int), y6, y7, y8, y9])
    (g := [.int P, .ls (ts.map dP), .int c, .ol ((iota ts.length).map D.int), .ol [], .ls ((iota P).map D.int), .un, .un, .un, .un]) ⟨_, [], _, _, _, _, grown_start P ts, rfl⟩ (fun i g hi ⟨left, so, y6, y7, y8, y9, hG, hg⟩ => by
      subst hg
      obtain ⟨left', so', z7, z8, z9, hG', e⟩ := tree_by_l1 P (by omega) (by omega) ts hE ht c i hi left so hG y7 y8 y9
      exact ⟨_, .inl (by simpa using e), left', so', _, _, _, _, hG', rfl⟩)
  rw [rng_iota] at e
  have hm := hG.ct
  have hmem : ∀ e, e ∈ tiesAt ts so → e ∈ ts := fun e he => by
    obtain ⟨t, ht, rfl⟩ := List.mem_map.mp he
    obtain ⟨t0, t1⟩ := hG.sin t ht
    exact (tie_at t0 t1).2
  have hcl : cnt P ts ≤ cnt P (tiesAt ts so) := cnt_le (tiesAt_ok hE hG.sin) hE fun e he => .tie (hmem e he)
  have hcs : (sset (marksL P ts so)).length = cnt P (tiesAt ts so) := by rw [marksL_mk]; rfl
  have h5 : P ≤ 4000 := by omega
  have sle : so.length ≤ ts.length := by
    have := nodup_le (l := so) (m := iota ts.length) hG.snd fun y hy => iota_mem.mpr (hG.sin y hy)
    simpa using this
  have hs1 : (srt so).length ≤ lim := by rw [srt_len, lim_eq]; omega
  have hs2 : so.length ≤ lim := by rw [lim_eq]; omega
  have cp := cnt_pos (p := P) (by omega) (tiesAt ts so)
  by_cases q : 1 < cnt P (tiesAt ts so)
  · left
    have q' : (1 : Int) < (cnt P (tiesAt ts so) : Nat) := by omega
    simp [g_law_tree_by, runF, f_law_tree_by, hr, hr2, h3, h4, h3', h4', rng_iota, e, marksL_len, hcs, h5, q']
  · right
    have q1 : cnt P (tiesAt ts so) = 1 := by omega
    refine ⟨srt so, ?_, ?_⟩
    · have : cnt P (tiesAt ts (srt so)) = 1 := by
        rw [← q1]
        exact cnt_set (tiesAt_ok hE fun t ht => hG.sin t (srt_mem.mp ht)) (tiesAt_ok hE hG.sin) (tiesAt_mem fun x => srt_mem)
      simp only [treeB, Int.toNat_natCast, this, srt_good hG.sin hG.snd, srt_len, decide_true, Bool.and_true, decide_eq_true_eq]
      omega
    · simp [g_law_tree_by, runF, f_law_tree_by, hr, hr2, h3, h4, h3', h4', rng_iota, e, marksL_len, hcs, h5, q1, srt_len, hs2]
end Lw
noncomputable section
namespace Lw
open DL
def f_look_at_tree : Env → Out := sIf (tNo (tTr (eOwn g_is_tree (aCons (eVar 0) (aCons (eVar 1) (aNil)))))) (sRaise 4) (sNil)
def g_look_at_tree : List D → Res D := runF f_look_at_tree 2
def f_without_tie_c1 : Env → Res D := eVar 2
def f_without_tie_c1t : Env → Res Bool := tC2 cNe (eVar 2) (eVar 1)
def f_without_tie : Env → Out := sRet (eCall caTuple (aCons (eLc (iSeq (eVar 0)) [2] (gtN 2) (f_without_tie_c1t) f_without_tie_c1) (aNil)))
def g_without_tie : List D → Res D := runF f_without_tie 3
def f_ring_of_l1 : Env → Out := sSeq (sAsgF 7 (eOwn g_marks_over (aCons (eVar 0) (aCons (eOwn g_without_tie (aCons (eVar 1) (aCons (eVar 6) (aNil)))) (aNil))))) (sIf (tC2 cNe (eBin opIx (eVar 7) (eVar 3)) (eBin opIx (eVar 7) (eVar 4))) (sApp 5 (eVar 6)) (sNil))
def f_ring_of : Env → Out := sSeq (sExp (eOwn g_look_at_tree (aCons (eVar 0) (aCons (eVar 1) (aNil))))) (sSeq (sIf (tOr_ (tNo (tCh cLe cLt (eC (.int 0)) (eVar 2) (eCall caLen (aCons (eUn (opFld 14 1) (eVar 0)) (aNil))))) (tC2 cIn (eVar 2) (eVar 1))) (sRaise 5) (sNil)) (sSeq (sAsgT (gtT 2 (gtCons (gtN 3) (gtCons (gtN 4) (gtNil)))) (eBin opIx (eUn (opFld 14 1) (eVar 0)) (eVar 2))) (sSeq (sAsg 5 (eLst (aConsO (eVar 2) (aNil)))) (sSeq (sFor (iSeq (eVar 1)) (gtN 6) f_ring_of_l1) (sRet (eCall caTuple (aCons (eCall caSorted3 (aCons (eVar 5) (aNil))) (aNil))))))))
def g_ring_of : List D → Res D := runF f_ring_of 8
end Lw
end
noncomputable section
namespace Lw
open DL
def f_cut_of_c1 : Env → Res D := eVar 4
def f_cut_of_c1t : Env → Res Bool := tC2 cNe (eBin opIx (eVar 3) (eBin opIx (eVar 5) (eC (.int 0)))) (eBin opIx (eVar 3) (eBin opIx (eVar 5) (eC (.int 1))))
def f_cut_of : Env → Out := sSeq (sExp (eOwn g_look_at_tree (aCons (eVar 0) (aCons (eVar 1) (aNil))))) (sSeq (sIf (tC2 cNIn (eVar 2) (eVar 1)) (sRaise 5) (sNil)) (sSeq (sAsgF 3 (eOwn g_marks_over (aCons (eVar 0) (aCons (eOwn g_without_tie (aCons (eVar 1) (aCons (eVar 2) (aNil)))) (aNil))))) (sRet (eCall caTuple (aCons (eLc (iEnm (aCons (eUn (opFld 14 1) (eVar 0)) (aNil))) [4, 5] (gtT 2 (gtCons (gtN 4) (gtCons (gtN 5) (gtNil)))) (f_cut_of_c1t) f_cut_of_c1) (aNil))))))
def g_cut_of : List D → Res D := runF f_cut_of 6
end Lw
end
namespace Lw
open DL L2
/-- a list or a tuple of ints -/
def LT (o : D) (l : List Int) : Prop := o = .ls (l.map D.int) ∨ o = .tp (l.map D.int)
def wo (l : List Int) (t : Int) : List Int := l.filter fun x => !decide (x = t)
theorem wo_in {n : Nat} {l : List Int} (h : InT n l) (t : Int) : InT n (wo l t) := fun x hx => h x ((List.mem_filter.mp hx).1)
theorem wo_len (l : List Int) (t : Int) : (wo l t).length ≤ l.length := List.length_filter_le ..
theorem is_tree_LT {o : D} (p : Int) (ts : List (Int × Int)) (hE : EndsOk p ts) (h1 : 1 ≤ p) (h2 : p ≤ 1000) (l : List Int) (ho : LT o l) : g_is_tree [.ob 14 [.int p, .ls (ts.map dP)], o] = .ok (.bl (treeB p ts l)) := by
  rcases ho with rfl | rfl
  · exact is_tree_ls p ts hE h1 h2 l
  · exact is_tree_tp p ts hE h1 h2 l
theorem LT_shd {o : D} {l : List Int} (ho : LT o l) : shd1 o = true ∧ brw o = o ∧ opd o = o := by rcases ho with rfl | rfl <;> simp
theorem look_ok {o : D} (p : Int) (ts : List (Int × Int)) (hE : EndsOk p ts) (h1 : 1 ≤ p) (h2 : p ≤ 1000) (l : List Int) (ho : LT o l) (h : treeB p ts l = true) : g_look_at_tree [.ob 14 [.int p, .ls (ts.map dP)], o] = .ok .non := by
  have e := is_tree_LT p ts hE h1 h2 l ho
  rcases ho with rfl | rfl <;> simp [g_look_at_tree, runF, f_look_at_tree, e, h]
theorem look_no {o : D} (p : Int) (ts : List (Int × Int)) (hE : EndsOk p ts) (h1 : 1 ≤ p) (h2 : p ≤ 1000) (l : List Int) (ho : LT o l) (h : treeB p ts l = false) : g_look_at_tree [.ob 14 [.int p, .ls (ts.map dP)], o] = .xc 4 := by
  have e := is_tree_LT p ts hE h1 h2 l ho
  rcases ho with rfl | rfl <;> simp [g_look_at_tree, runF, f_look_at_tree, e, h]
theorem without_ok {o : D} (l : List Int) (ho : LT o l) (hl : l.length ≤ 1000) (t : Int) : g_without_tie [o, .int t] = .ok (.tp ((wo l t).map D.int)) := by
  have b1 : l.length ≤ lim := by rw [lim_eq]; omega
  have b2 : (wo l t).length ≤ lim := by have := wo_len l t; omega
  have lc : ∀ g : Env, 2 < g.length → g[1]? = some (.int t) → lcL (gtN 2) f_without_tie_c1t f_without_tie_c1 g (l.map D.int) = .ok ((wo l t).map D.int) := fun g hg e1 => by
    refine lcL_filterN l fun x _ => ?_
    have e2 : (g.set 2 (.int x))[2]? = some (.int x) := by rw [List.getElem?_set_self hg]
    have e3 : (g.set 2 (.int x))[1]? = some (.int t) := by rw [List.getElem?_set_ne (by decide)]; exact e1
    exact ⟨by simp [f_without_tie_c1t, e2, e3], fun _ => by simp [f_without_tie_c1, e2]⟩
  rcases ho with rfl | rfl <;> simp [g_without_tie, runF, f_without_tie, lc, b1, b2]
/-- a tie of the tree is on the ring -/
def onR (p : Nat) (ts : List (Int × Int)) (l : List Int) (t : Int) (x : Int) : Bool := !decide (nth (marksM p ts (wo l x)) (tieAt ts t).1 = nth (marksM p ts (wo l x)) (tieAt ts t).2)
theorem ring_l1 {o : D} (p : Int) (ts : List (Int × Int)) (hE : EndsOk p ts) (h1 : 1 ≤ p) (h2 : p ≤ 1000) (T : List Int) (hT : T.length ≤ 1000) (hin : InT ts.length T) (ho : LT o T) (t : Int) (t0 : 0 ≤ t) (t1 : t < ts.length) : ∀ (l told : List Int) (y6 y7 : D), told.length + l.length ≤ 5000 →
    ∃ z6 z7, forL (gtN 6) f_ring_of_l1 (l.map D.int) [.ob 14 [.int p, .ls (ts.map dP)], o, .int t, .int (tieAt ts t).1, .int (tieAt ts t).2, .ol (told.map D.int), y6, y7] = .nx [.ob 14 [.int p, .ls (ts.map dP)], o, .int t, .int (tieAt ts t).1, .int (tieAt ts t).2, .ol ((told ++ l.filter (onR p.toNat ts T t)).map D.int), z6, z7]
  | [], told, y6, y7, _ => ⟨y6, y7, by simp [forL]⟩
  | x :: l, told, y6, y7, hl => by
    have w := without_ok T ho hT x
    have mo := marks_ok_tp p ts hE h1 h2 (wo T x) (wo_in hin x)
    obtain ⟨e1, e2⟩ := tie_at t0 t1
    obtain ⟨⟨a0, a1⟩, b0, b1⟩ := hE _ e2
    have ml : (marksM p.toNat ts (wo T x)).length = p.toNat := marksM_len ..
    have ea := nth_at (m := marksM p.toNat ts (wo T x)) a0 (by omega)
    have eb := nth_at (m := marksM p.toNat ts (wo T x)) b0 (by omega)
    have hlim : told.length < lim := by rw [lim_eq]; simp at hl; omega
    obtain ⟨s1, s2, s3⟩ := LT_shd ho
    by_cases c : onR p.toNat ts T t x = true
    · have c' : ¬ nth (marksM p.toNat ts (wo T x)) (tieAt ts t).1 = nth (marksM p.toNat ts (wo T x)) (tieAt ts t).2 := by simpa [onR] using c
      obtain ⟨z6, z7, ih⟩ := ring_l1 p ts hE h1 h2 T hT hin ho t t0 t1 l (told ++ [x]) (.int x) (.ls ((marksM p.toNat ts (wo T x)).map D.int)) (by simp at hl ⊢; omega)
      refine ⟨z6, z7, ?_⟩
      rw [List.filter_cons_of_pos c, show told ++ x :: List.filter (onR p.toNat ts T t) l = told ++ [x] ++ List.filter (onR p.toNat ts T t) l by simp, ← ih]
      rcases ho with rfl | rfl <;> simp [forL, f_ring_of_l1, w, mo, ea, eb, c', hlim]
    · have c' : nth (marksM p.toNat ts (wo T x)) (tieAt ts t).1 = nth (marksM p.toNat ts (wo T x)) (tieAt ts t).2 := by simpa [onR] using c
      obtain ⟨z6, z7, ih⟩ := ring_l1 p ts hE h1 h2 T hT hin ho t t0 t1 l told (.int x) (.ls ((marksM p.toNat ts (wo T x)).map D.int)) (by simp at hl ⊢; omega)
      refine ⟨z6, z7, ?_⟩
      rw [List.filter_cons_of_neg c, ← ih]
      rcases ho with rfl | rfl <;> simp [forL, f_ring_of_l1, w, mo, ea, eb, c']
theorem tree_parts {p : Int} {ts : List (Int × Int)} {l : List Int} (h : treeB p ts l = true) : (l.length : Int) = p - 1 ∧ goodB ts.length l = true ∧ InT ts.length l ∧ cnt p.toNat (tiesAt ts l) = 1 := by
  simp only [treeB, Bool.and_eq_true, decide_eq_true_eq] at h
  exact ⟨h.1.1, h.1.2, good_in h.1.2, h.2⟩
def ringL (p : Int) (ts : List (Int × Int)) (l : List Int) (t : Int) : List Int := srt (t :: l.filter (onR p.toNat ts l t))
theorem ring_ok {o : D} (p : Int) (ts : List (Int × Int)) (hE : EndsOk p ts) (h1 : 1 ≤ p) (h2 : p ≤ 1000) (l : List Int) (ho : LT o l) (h : treeB p ts l = true) (t : Int) :
    g_ring_of [.ob 14 [.int p, .ls (ts.map dP)], o, .int t] = if (0 ≤ t ∧ t < ts.length) ∧ t ∉ l then .ok (.tp ((ringL p ts l t).map D.int)) else .xc 5 := by
  obtain ⟨k1, k2, k3, k4⟩ := tree_parts h
  have lk := look_ok p ts hE h1 h2 l ho h
  obtain ⟨s1, s2, s3⟩ := LT_shd ho
  by_cases c0 : 0 ≤ t
  · by_cases c1 : t < ts.length
    · by_cases c2 : t ∈ l
      · rw [if_neg (by simp [c2])]
        rcases ho with rfl | rfl <;> simp [g_ring_of, runF, f_ring_of, lk, c0, c1, c2]
      · rw [if_pos ⟨⟨c0, c1⟩, c2⟩]
        obtain ⟨e1, e2⟩ := tie_at c0 c1
        obtain ⟨z6, z7, e⟩ := ring_l1 p ts hE h1 h2 l (by omega) k3 ho t c0 c1 l [t] .un .un (by simp; omega)
        have hf := List.length_filter_le (onR p.toNat ts l t) l
        have hl : (ringL p ts l t).length ≤ lim := by rw [lim_eq]; unfold ringL; rw [srt_len]; simp; omega
        have hs : caSorted3 [.bo (D.int t :: (l.filter (onR p.toNat ts l t)).map D.int)] = some (.ol ((ringL p ts l t).map D.int)) := by
          have := caSorted3_bo (t :: l.filter (onR p.toNat ts l t))
          simpa [ringL] using this
        simp at e
        rcases ho with rfl | rfl <;> simp [g_ring_of, runF, f_ring_of, lk, c0, c1, c2, e1, e, hs, hl]
    · rw [if_neg (by simp [c1])]
      rcases ho with rfl | rfl <;> simp [g_ring_of, runF, f_ring_of, lk, c0, c1]
  · rw [if_neg (by simp [c0])]
    rcases ho with rfl | rfl <;> simp [g_ring_of, runF, f_ring_of, lk, c0]
/-- a tie in the cut -/
def inC (p : Nat) (ts : List (Int × Int)) (l : List Int) (t : Int) (x : Int) : Bool := !decide (nth (marksM p ts (wo l t)) (tieAt ts x).1 = nth (marksM p ts (wo l t)) (tieAt ts x).2)
def cutL (p : Int) (ts : List (Int × Int)) (l : List Int) (t : Int) : List Int := (iota ts.length).filter (inC p.toNat ts l t)
theorem enm_iota (ts : List (Int × Int)) : enm 0 (ts.map dP) = (iota ts.length).map fun i => (.tp [.int i, dP (tieAt ts i)] : D) := by
  have : ∀ (l pre : List (Int × Int)), ts = pre ++ l → enm pre.length (l.map dP) = (List.range l.length).map fun j => (.tp [.int ((pre.length + j : Nat) : Int), dP (tieAt ts ((pre.length + j : Nat) : Int))] : D) := by
    intro l
    induction l with
    | nil => intro pre _; simp [enm]
    | cons t l ih =>
      intro pre e
      have := ih (pre ++ [t]) (by rw [e]; simp)
      rw [List.map_cons, enm, List.length_cons, List.range_succ_eq_map, List.map_cons, List.map_map]
      simp only [List.length_append, List.length_cons, List.length_nil, Nat.zero_add] at this
      rw [this]
      have et : tieAt ts ((pre.length : Nat) : Int) = t := by simp [tieAt, e]
      simp only [Nat.add_zero, et]
      congr 1
      refine List.map_congr_left fun j _ => ?_
      simp only [Function.comp, Nat.succ_eq_add_one]
      rw [show pre.length + 1 + j = pre.length + (j + 1) by omega]
  have h := this ts [] rfl
  simp only [List.length_nil, Nat.zero_add] at h
  rw [h]
  unfold iota
  rw [List.map_map]
  rfl
theorem cut_ok {o : D} (p : Int) (ts : List (Int × Int)) (hE : EndsOk p ts) (h1 : 1 ≤ p) (h2 : p ≤ 1000) (ht : ts.length ≤ 1000) (l : List Int) (ho : LT o l) (h : treeB p ts l = true) (t : Int) :
    g_cut_of [.ob 14 [.int p, .ls (ts.map dP)], o, .int t] = if t ∈ l then .ok (.tp ((cutL p ts l t).map D.int)) else .xc 5 := by
  obtain ⟨k1, k2, k3, k4⟩ := tree_parts h
  have lk := look_ok p ts hE h1 h2 l ho h
  obtain ⟨s1, s2, s3⟩ := LT_shd ho
  by_cases c : t ∈ l
  · rw [if_pos c]
    have w := without_ok l ho (by omega) t
    have mo := marks_ok_tp p ts hE h1 h2 (wo l t) (wo_in k3 t)
    have ml : (marksM p.toNat ts (wo l t)).length = p.toNat := marksM_len ..
    have b1 : ts.length ≤ lim := by rw [lim_eq]; omega
    have b2 : (cutL p ts l t).length ≤ lim := by
      have := List.length_filter_le (inC p.toNat ts l t) (iota ts.length)
      unfold cutL
      rw [iota_len] at this
      omega
    have lc : ∀ x0 x1 x2 : D, lcL (gtT 2 (gtCons (gtN 4) (gtCons (gtN 5) (gtNil)))) f_cut_of_c1t f_cut_of_c1 [x0, x1, x2, .ls ((marksM p.toNat ts (wo l t)).map D.int), .un, .un] (enm 0 (ts.map dP)) = .ok ((cutL p ts l t).map D.int) := fun x0 x1 x2 => by
      rw [enm_iota]
      refine lcL_filter (iota ts.length) fun i hi => ?_
      obtain ⟨i0, i1⟩ := iota_mem.mp hi
      obtain ⟨e1, e2⟩ := tie_at i0 i1
      obtain ⟨⟨a0, a1⟩, b0, b1⟩ := hE _ e2
      have ea := nth_at (m := marksM p.toNat ts (wo l t)) a0 (by omega)
      have eb := nth_at (m := marksM p.toNat ts (wo l t)) b0 (by omega)
      exact ⟨[x0, x1, x2, .ls ((marksM p.toNat ts (wo l t)).map D.int), .int i, dP (tieAt ts i)], rfl, by simp [f_cut_of_c1t, ea, eb, inC], fun _ => by simp [f_cut_of_c1]⟩
    rcases ho with rfl | rfl <;> simp [g_cut_of, runF, f_cut_of, lk, c, w, mo, lc, b1, b2, enm_len]
  · rw [if_neg c]
    rcases ho with rfl | rfl <;> simp [g_cut_of, runF, f_cut_of, lk, c]
end Lw
noncomputable section
namespace Lw
open DL
def f_law_marks_v2_c1 : Env → Res D := eBin opIx (eLst (aConsO (eVar 7) (aConsO (eVar 5) (aNil)))) (eCall caInt (aCons (eB (tC2 cEq (eVar 7) (eVar 6))) (aNil)))
def f_law_marks_v2_l2 : Env → Out := sSeq (sAsgF 5 (eCall caMin2 (aCons (eBin opIx (eVar 2) (eVar 3)) (aCons (eBin opIx (eVar 2) (eVar 4)) (aNil))))) (sSeq (sAsgF 6 (eCall caMax2 (aCons (eBin opIx (eVar 2) (eVar 3)) (aCons (eBin opIx (eVar 2) (eVar 4)) (aNil))))) (sAsgF 2 (eLc (iSeq (eVar 2)) [7] (gtN 7) (tYesG) f_law_marks_v2_c1)))
def f_law_marks_v2 : Env → Out := sSeq (sAsgF 2 (eLR1 (eVar 0))) (sSeq (sFor (iSeq (eVar 1)) (gtT 2 (gtCons (gtN 3) (gtCons (gtN 4) (gtNil)))) f_law_marks_v2_l2) (sRetV 2))
def g_law_marks_v2 : List D → Res D := runF f_law_marks_v2 8
def f_law_tree_c1 : Env → Res D := eBin opIx (eVar 1) (eVar 3)
def f_law_tree : Env → Out := sSeq (sIf (tC2 cNe (eCall caLen (aCons (eVar 2) (aNil))) (eBin opSub (eVar 0) (eC (.int 1)))) (sRet (eC (.bl false))) (sNil)) (sRet (eB (tC2 cEq (eLenSet (eOwn g_law_marks_v2 (aCons (eVar 0) (aCons (eLc (iSeq (eVar 2)) [3] (gtN 3) (tYesG) f_law_tree_c1) (aNil))))) (eC (.int 1)))))
def g_law_tree : List D → Res D := runF f_law_tree 4
def f_law_trees_v2_c1 : Env → Res D := eBin opAdd (eVar 4) (eTup (aConsO (eVar 3) (aNil)))
def f_law_trees_v2_c1t : Env → Res Bool := tC2 cLt (eCall caLen (aCons (eVar 4) (aNil))) (eBin opSub (eVar 0) (eC (.int 1)))
def f_law_trees_v2_l3 : Env → Out := sAsgF 2 (eBin opAdd (eVar 2) (eLc (iSeq (eVar 2)) [4] (gtN 4) (f_law_trees_v2_c1t) f_law_trees_v2_c1))
def f_law_trees_v2_c4 : Env → Res D := eVar 4
def f_law_trees_v2_c4t : Env → Res Bool := tTr (eOwn g_law_tree (aCons (eVar 0) (aCons (eVar 1) (aCons (eVar 4) (aNil)))))
def f_law_trees_v2 : Env → Out := sSeq (sAsgF 2 (eLst (aConsO (eTup (aNil)) (aNil)))) (sSeq (sFor (iRg1 (aCons (eCall caLen (aCons (eVar 1) (aNil))) (aNil))) (gtN 3) f_law_trees_v2_l3) (sRet (eCall caSorted3 (aCons (eLc (iSeq (eVar 2)) [4] (gtN 4) (f_law_trees_v2_c4t) f_law_trees_v2_c4) (aNil)))))
def g_law_trees_v2 : List D → Res D := runF f_law_trees_v2 5
end Lw
end
namespace Lw
open DL L2 TL
section
variable (L : List (List Int))
@[simp] theorem brws_T : brws (L.map dT) = L.map dT := (dulls dull_T L).1
@[simp] theorem frzs_T : frzs (L.map dT) = L.map dT := (dulls dull_T L).2.1
@[simp] theorem plns_T : plns (L.map dT) = L.map dT := (dulls dull_T L).2.2.1
@[simp] theorem nods_T : nods (L.map dT) = true := (dulls dull_T L).2.2.2.1
@[simp] theorem shd_T : shd (L.map dT) = true := (dulls dull_T L).2.2.2.2.1
@[simp] theorem ploks_T : ploks (L.map dT) = true := (dulls dull_T L).2.2.2.2.2
end
theorem goodAux_rise {n : Int} : ∀ {l : List Int} {a : Int}, goodAux n a l = true → (∀ x ∈ l, a < x) ∧ l.Pairwise (· < ·)
  | [], _, _ => ⟨fun _ h => (nomatch h), .nil⟩
  | x :: l, a, g => by
    simp only [goodAux, Bool.and_eq_true, Bool.not_eq_true', decide_eq_false_iff_not] at g
    obtain ⟨h1, h2⟩ := goodAux_rise g.2
    refine ⟨fun y hy => ?_, List.pairwise_cons.mpr ⟨h1, h2⟩⟩
    rcases List.mem_cons.mp hy with rfl | hy
    · omega
    · have := h1 y hy; omega
theorem good_iff {n : Nat} {l : List Int} : goodB n l = true ↔ InT n l ∧ l.Pairwise (· < ·) := ⟨fun h => ⟨good_in h, (goodAux_rise h).2⟩, fun h => good_of h.1 h.2⟩
theorem good_nodup {n : Nat} {l : List Int} (h : goodB n l = true) : l.Nodup := rise_nodup (good_iff.mp h).2
/-- all ascending lists of at most q numbers below k -/
def allB (q : Nat) : Nat → List (List Int)
  | 0 => [[]]
  | k + 1 => allB q k ++ ((allB q k).filter fun l => decide (l.length < q)).map (· ++ [(k : Int)])
theorem allB_mem (q : Nat) : ∀ (k : Nat) (l : List Int), l ∈ allB q k ↔ l.length ≤ q ∧ goodB k l = true
  | 0, l => by
    simp only [allB, List.mem_singleton]
    constructor
    · rintro rfl; simp [goodB, goodAux]
    · rintro ⟨_, h⟩
      match l, good_in h with
      | [], _ => rfl
      | x :: l, h => have := h x (List.mem_cons_self ..); omega
  | k + 1, l => by
    simp only [allB, List.mem_append, List.mem_map, List.mem_filter, decide_eq_true_eq, allB_mem q k]
    constructor
    · rintro (⟨h1, h2⟩ | ⟨m, ⟨⟨h1, h2⟩, h3⟩, rfl⟩)
      · obtain ⟨k1, k2⟩ := good_iff.mp h2
        exact ⟨h1, good_of (fun t ht => by have := k1 t ht; omega) k2⟩
      · obtain ⟨k1, k2⟩ := good_iff.mp h2
        refine ⟨by simp; omega, good_of (fun t ht => ?_) ?_⟩
        · rcases List.mem_append.mp ht with z | z
          · have := k1 t z; omega
          · simp at z; omega
        · rw [List.pairwise_append]
          exact ⟨k2, List.pairwise_singleton _ _, fun a ha b hb => by simp at hb; have := k1 a ha; omega⟩
    · rintro ⟨h1, h2⟩
      obtain ⟨k1, k2⟩ := good_iff.mp h2
      by_cases hk : (k : Int) ∈ l
      · right
        have hne : l ≠ [] := List.ne_nil_of_mem hk
        have hs := List.dropLast_concat_getLast hne
        generalize l.dropLast = m at hs
        generalize l.getLast hne = x at hs
        subst hs
        rw [List.pairwise_append] at k2
        obtain ⟨p1, _, p3⟩ := k2
        have hx := k1 x (by simp)
        have ex : x = (k : Int) := by
          rcases List.mem_append.mp hk with z | z
          · have := p3 _ z x (by simp); omega
          · simp at z; exact z.symm
        subst ex
        refine ⟨m, ⟨⟨by simp at h1; omega, good_of (fun t ht => ?_) p1⟩, by simp at h1; omega⟩, rfl⟩
        have a := k1 t (List.mem_append_left _ ht)
        have b := p3 t ht (k : Int) (by simp)
        omega
      · left
        refine ⟨h1, good_of (fun t ht => ?_) k2⟩
        have := k1 t ht
        have ne : t ≠ (k : Int) := fun z => hk (z ▸ ht)
        omega
theorem allB_nodup (q : Nat) : ∀ k : Nat, (allB q k).Nodup
  | 0 => by simp [allB]
  | k + 1 => by
    simp only [allB]
    rw [List.nodup_append]
    refine ⟨allB_nodup q k, ?_, fun a ha b hb e => ?_⟩
    · refine List.Pairwise.map _ (fun a b h e => h ?_) ((allB_nodup q k).filter _)
      simpa using e
    · obtain ⟨m, _, rfl⟩ := List.mem_map.mp hb
      subst e
      have := good_in ((allB_mem q k _).mp ha).2 (k : Int) (by simp)
      omega
theorem allB_len (q : Nat) : ∀ k : Nat, (allB q k).length ≤ 2 ^ k
  | 0 => by simp [allB]
  | k + 1 => by
    have := allB_len q k
    have h2 := List.length_filter_le (fun l : List Int => decide (l.length < q)) (allB q k)
    simp only [allB, List.length_append, List.length_map, Nat.pow_succ]
    omega
theorem tree_parts' {p : Nat} {ts : List (Int × Int)} {l : List Int} (h : treeB p ts l = true) : (l.length : Int) = p - 1 ∧ goodB ts.length l = true ∧ InT ts.length l ∧ cnt p (tiesAt ts l) = 1 := by
  simp only [treeB, Bool.and_eq_true, decide_eq_true_eq, Int.toNat_natCast] at h
  exact ⟨h.1.1, h.1.2, good_in h.1.2, h.2⟩
/-- all trees, ascending -/
def trees (p : Nat) (ts : List (Int × Int)) : List (List Int) := srtL ((allB (p - 1) ts.length).filter (treeB p ts))
theorem trees_mem {p : Nat} (hp : 1 ≤ p) {ts : List (Int × Int)} {l : List Int} : l ∈ trees p ts ↔ treeB p ts l = true := by
  unfold trees
  rw [(srtL_perm _).mem_iff, List.mem_filter, allB_mem]
  constructor
  · exact fun h => h.2
  · intro h
    obtain ⟨k1, k2, _⟩ := tree_parts' h
    exact ⟨⟨by omega, k2⟩, h⟩
theorem trees_nodup (p : Nat) (ts : List (Int × Int)) : (trees p ts).Nodup := (srtL_perm _).nodup_iff.mpr ((allB_nodup _ _).filter _)
theorem trees_len (p : Nat) (ts : List (Int × Int)) : (trees p ts).length ≤ 2 ^ ts.length := by
  unfold trees
  rw [srtL_len]
  exact Nat.le_trans (List.length_filter_le ..) (allB_len _ _)
theorem marksv_l2 (p : Int) (hp : p ≤ 1000) (x1 : D) : ∀ (es : List (Int × Int)) (m : List Int) (y3 y4 y5 y6 : D), EndsOk p es → (m.length : Int) = p →
    ∃ z3 z4 z5 z6, forL (gtT 2 (gtCons (gtN 3) (gtCons (gtN 4) (gtNil)))) f_law_marks_v2_l2 (es.map dP) [.int p, x1, .ls (m.map D.int), y3, y4, y5, y6, .un] = .nx [.int p, x1, .ls ((es.foldl stepM m).map D.int), z3, z4, z5, z6, .un]
  | [], m, y3, y4, y5, y6, _, _ => ⟨y3, y4, y5, y6, by simp [forL]⟩
  | t :: es, m, y3, y4, y5, y6, hE, hm => by
    obtain ⟨⟨a0, a1⟩, b0, b1⟩ := hE t (List.mem_cons_self ..)
    have ea := nth_at (m := m) a0 (by omega)
    have eb := nth_at (m := m) b0 (by omega)
    obtain ⟨z3, z4, z5, z6, ih⟩ := marksv_l2 p hp x1 es (stepM m t) (.int t.1) (.int t.2) (.int (min (nth m t.1) (nth m t.2))) (.int (max (nth m t.1) (nth m t.2))) (fun q hq => hE q (List.mem_cons_of_mem _ hq)) (by rw [stepM_len]; exact hm)
    refine ⟨z3, z4, z5, z6, ?_⟩
    rw [List.foldl_cons, ← ih]
    have hlim : m.length ≤ lim := by rw [lim_eq]; omega
    have lc : lcL (gtN 7) tYesG f_law_marks_v2_c1 [.int p, x1, .ls (m.map D.int), .int t.1, .int t.2, .int (min (nth m t.1) (nth m t.2)), .int (max (nth m t.1) (nth m t.2)), .un] (m.map D.int) = .ok ((stepM m t).map D.int) := by
      unfold stepM
      rw [← map_int]
      refine lcL_mapN m fun x _ => ?_
      by_cases hx : x = max (nth m t.1) (nth m t.2) <;> simp [f_law_marks_v2_c1, hx]
    simp [forL, f_law_marks_v2_l2, ea, eb, lc, hlim]
theorem foldM_ties (ts : List (Int × Int)) : ∀ (l m : List Int), (tiesAt ts l).foldl stepM m = l.foldl (fun m t => stepM m (tieAt ts t)) m := fun l m => by
  unfold tiesAt; rw [List.foldl_map]
theorem marksv_ok (p : Int) (h1 : 1 ≤ p) (h2 : p ≤ 1000) (es : List (Int × Int)) (hE : EndsOk p es) : g_law_marks_v2 [.int p, .ls (es.map dP)] = .ok (.ls ((es.foldl stepM (iota p.toNat)).map D.int)) := by
  obtain ⟨z3, z4, z5, z6, e⟩ := marksv_l2 p h2 (.ls (es.map dP)) es (iota p.toNat) .un .un .un .un hE (by simp; omega)
  have hr : rgOk p := rgOk_of (by omega) (by omega)
  have h3 : p ≤ 1000000 := by omega
  simp [g_law_marks_v2, runF, f_law_marks_v2, hr, h3, rng_iota, e]
theorem ltree_ok (p : Nat) (h1 : 1 ≤ p) (h2 : p ≤ 1000) (ts : List (Int × Int)) (hE : EndsOk p ts) (l : List Int) (hg : goodB ts.length l = true) (hl : l.length ≤ 1000) : g_law_tree [.int p, .ls (ts.map dP), .tp (l.map D.int)] = .ok (.bl (treeB p ts l)) := by
  have hin := good_in hg
  have hb : l.length ≤ lim := by rw [lim_eq]; omega
  by_cases c : (l.length : Int) = (p : Int) - 1
  · have lc : ∀ x0 x2 : D, lcL (gtN 3) tYesG f_law_tree_c1 [x0, .ls (ts.map dP), x2, .un] (l.map D.int) = .ok ((tiesAt ts l).map dP) := fun x0 x2 => by
      unfold tiesAt
      rw [List.map_map]
      refine lcL_mapN l fun t ht => ?_
      obtain ⟨t0, t1⟩ := hin t ht
      obtain ⟨e1, e2⟩ := tie_at t0 t1
      simp [f_law_tree_c1, e1]
    have mo := marksv_ok p (by omega) (by omega) (tiesAt ts l) (tiesAt_ok hE hin)
    rw [foldM_ties] at mo
    have hc := cntM p ts hE l hin
    unfold marksM at hc
    rw [Int.toNat_natCast] at mo
    have ml := foldM_len ts l (iota p)
    rw [iota_len] at ml
    have h4 : p ≤ 4000 := by omega
    simp [g_law_tree, runF, f_law_tree, c, lc, mo, hb, hc, ml, h4, treeB, hg]
    omega
  · simp [g_law_tree, runF, f_law_tree, c, treeB]
theorem trees_ok (p : Nat) (h1 : 1 ≤ p) (h2 : p ≤ 1000) (ts : List (Int × Int)) (hE : EndsOk p ts) (ht : ts.length ≤ 15) : g_law_trees_v2 [.int p, .ls (ts.map dP)] = .ok (.ol ((trees p ts).map dT)) := by
  have hr : rgOk (ts.length : Int) := rgOk_of (by omega) (by omega)
  have big : ∀ k, k ≤ ts.length → (allB (p - 1) k).length ≤ 32768 := fun k hk =>
    Nat.le_trans (allB_len (p - 1) k) (Nat.le_trans (Nat.pow_le_pow_right (by omega) (show k ≤ 15 by omega)) (by decide))
  obtain ⟨g', e, y3, rfl⟩ := for_rngN (s := 3) (b := f_law_trees_v2_l3) (lo := 0) (n := ts.length)
    (fun i g => ∃ y3, g = [.int p, .ls (ts.map dP), .ls ((allB (p - 1) i).map dT), y3, .un])
    (g := [.int p, .ls (ts.map dP), .ls [.tp []], .un, .un]) ⟨.un, rfl⟩ (fun i g hi ⟨y3, hg⟩ => by
      subst hg
      have b1 := big i (by omega)
      have b2 := List.length_filter_le (fun l : List Int => decide (l.length < p - 1)) (allB (p - 1) i)
      have lc : lcL (gtN 4) f_law_trees_v2_c1t f_law_trees_v2_c1 [.int p, .ls (ts.map dP), .ls ((allB (p - 1) i).map dT), .int i, .un] ((allB (p - 1) i).map dT) = .ok ((((allB (p - 1) i).filter fun l => decide (l.length < p - 1)).map (· ++ [(i : Int)])).map dT) := by
        rw [List.map_map]
        refine lcL_filterN _ fun l hl => ?_
        have hll := ((allB_mem _ _ _).mp hl).1
        have e1 : decide (l.length < p - 1) = decide ((l.length : Int) < (p : Int) - 1) := by rw [decide_eq_decide]; omega
        have e2 : l.length + 1 ≤ lim := by rw [lim_eq]; omega
        exact ⟨by rw [e1]; simp [f_law_trees_v2_c1t, dT], fun _ => by simp [f_law_trees_v2_c1, dT, e2]⟩
      have b3 : (allB (p - 1) i).length ≤ lim := by rw [lim_eq]; omega
      have b4 : (allB (p - 1) i).length + (List.filter (fun l => decide (l.length < p - 1)) (allB (p - 1) i)).length ≤ lim := by rw [lim_eq]; omega
      refine ⟨_, .inl ?_, .int i, rfl⟩
      simp only [allB, List.map_append]
      have n1 := nods_T (((allB (p - 1) i).filter fun l => decide (l.length < p - 1)).map (· ++ [(i : Int)]))
      have n2 := frzs_T (((allB (p - 1) i).filter fun l => decide (l.length < p - 1)).map (· ++ [(i : Int)]))
      have n3 := nods_T (allB (p - 1) i)
      have n4 := frzs_T (allB (p - 1) i)
      simp [f_law_trees_v2_l3, lc, b3, b4, n1, n2, n3, n4, -List.map_map])
  have lc : ∀ y3 : D, lcL (gtN 4) f_law_trees_v2_c4t f_law_trees_v2_c4 [.int p, .ls (ts.map dP), .ls ((allB (p - 1) ts.length).map dT), y3, .un] ((allB (p - 1) ts.length).map dT) = .ok (((allB (p - 1) ts.length).filter (treeB p ts)).map dT) := fun y3 => by
    refine lcL_filterN _ fun l hl => ?_
    have hll := (allB_mem _ _ _).mp hl
    have lt := ltree_ok p h1 h2 ts hE l hll.2 (by omega)
    exact ⟨by simp [f_law_trees_v2_c4t, dT, lt], fun _ => by simp [f_law_trees_v2_c4, dT]⟩
  have b5 := big ts.length (Nat.le_refl _)
  have b6 := List.length_filter_le (treeB p ts) (allB (p - 1) ts.length)
  have b7 : (allB (p - 1) ts.length).length ≤ lim := by rw [lim_eq]; omega
  have cs := caSorted3_TL ((allB (p - 1) ts.length).filter (treeB p ts)) (by
    by_cases hp1 : p = 1
    · left
      have : ∀ l ∈ (allB (p - 1) ts.length).filter (treeB p ts), l = [] := fun l hl => by
        have := ((allB_mem _ _ _).mp (List.mem_filter.mp hl).1).1
        exact List.eq_nil_of_length_eq_zero (by omega)
      have nd := (allB_nodup (p - 1) ts.length).filter (treeB p ts)
      match h : (allB (p - 1) ts.length).filter (treeB p ts), this, nd with
      | [], _, _ => simp
      | [a], _, _ => simp
      | a :: b :: r, this, nd =>
        have ha := this a (by simp)
        have hb := this b (by simp)
        subst ha; subst hb
        simp at nd
    · right
      rw [List.all_eq_true]
      intro l hl
      have := (tree_parts' (List.mem_filter.mp hl).2).1
      match l, this with
      | [], h => simp at h; omega
      | _ :: _, _ => rfl)
  have cs2 : caSorted3 [.ls (((allB (p - 1) ts.length).filter (treeB p ts)).map dT)] = some (.ol ((trees p ts).map dT)) := cs
  simp [g_law_trees_v2, runF, f_law_trees_v2, hr, e, lc, b7, cs2]
end Lw
namespace Lw
open DL L2 TL
/-- ties without a ring among them -/
structure Ind (p : Nat) (ts : List (Int × Int)) (J : List Int) : Prop where
  nd : J.Nodup
  inn : InT ts.length J
  ct : cnt p (tiesAt ts J) + J.length = p
theorem tiesAt_snoc (ts : List (Int × Int)) (J : List Int) (t : Int) : tiesAt ts (J ++ [t]) = tiesAt ts J ++ [tieAt ts t] := by simp [tiesAt]
theorem conn_at {ts : List (Int × Int)} {J : List Int} {t : Int} (h : t ∈ J) : Conn (tiesAt ts J) (tieAt ts t).1 (tieAt ts t).2 := .tie (List.mem_map.mpr ⟨t, h, rfl⟩)
theorem conn_sub {ts : List (Int × Int)} {J S : List Int} (h : ∀ x ∈ J, x ∈ S) {a b : Int} (c : Conn (tiesAt ts J) a b) : Conn (tiesAt ts S) a b :=
  c.mono fun e he => by
    obtain ⟨t, ht, rfl⟩ := List.mem_map.mp he
    exact List.mem_map.mpr ⟨t, h t ht, rfl⟩
theorem Ind.snoc {p : Nat} {ts : List (Int × Int)} (hE : EndsOk p ts) {J : List Int} (h : Ind p ts J) {t : Int} (t0 : 0 ≤ t ∧ t < ts.length) (c : ¬ Conn (tiesAt ts J) (tieAt ts t).1 (tieAt ts t).2) : Ind p ts (J ++ [t]) := by
  have hin : InT ts.length (J ++ [t]) := fun x hx => by
    rcases List.mem_append.mp hx with z | z
    · exact h.inn x z
    · simp at z; subst z; exact t0
  refine ⟨?_, hin, ?_⟩
  · rw [List.nodup_append]
    refine ⟨h.nd, by simp, fun a ha b hb e => ?_⟩
    simp at hb
    subst hb
    subst e
    exact c (conn_at ha)
  · have := cnt_new (p := p) (es := tiesAt ts J) (t := tieAt ts t) (by rw [← tiesAt_snoc]; exact tiesAt_ok hE hin) c
    have := h.ct
    rw [tiesAt_snoc, List.length_append, List.length_singleton]
    omega
theorem ind_ext {p : Nat} {ts : List (Int × Int)} (hE : EndsOk p ts) : ∀ (S J : List Int), Ind p ts J → InT ts.length S → ∃ J', Ind p ts J' ∧ (∀ x ∈ J, x ∈ J') ∧ (∀ x ∈ J', x ∈ J ∨ x ∈ S) ∧ ∀ t ∈ S, Conn (tiesAt ts J') (tieAt ts t).1 (tieAt ts t).2
  | [], J, h, _ => ⟨J, h, fun _ h => h, fun _ h => .inl h, fun _ h => (nomatch h)⟩
  | t :: S, J, h, hS => by
    by_cases c : Conn (tiesAt ts J) (tieAt ts t).1 (tieAt ts t).2
    · obtain ⟨J', h1, h2, h3, h4⟩ := ind_ext hE S J h fun x hx => hS x (List.mem_cons_of_mem _ hx)
      refine ⟨J', h1, h2, fun x hx => (h3 x hx).imp id (List.mem_cons_of_mem _), fun x hx => ?_⟩
      rcases List.mem_cons.mp hx with rfl | hx
      · exact conn_sub h2 c
      · exact h4 x hx
    · obtain ⟨J', h1, h2, h3, h4⟩ := ind_ext hE S (J ++ [t]) (h.snoc hE (hS t (List.mem_cons_self ..)) c) fun x hx => hS x (List.mem_cons_of_mem _ hx)
      refine ⟨J', h1, fun x hx => h2 x (List.mem_append_left _ hx), fun x hx => ?_, fun x hx => ?_⟩
      · rcases h3 x hx with z | z
        · rcases List.mem_append.mp z with z | z
          · exact .inl z
          · simp at z; subst z; exact .inr (List.mem_cons_self ..)
        · exact .inr (List.mem_cons_of_mem _ z)
      · rcases List.mem_cons.mp hx with rfl | hx
        · exact conn_at (h2 x (List.mem_append_right _ (by simp)))
        · exact h4 x hx
theorem ind_nil (p : Nat) (ts : List (Int × Int)) : Ind p ts [] := ⟨by simp, fun _ h => (nomatch h), by simp [tiesAt, cnt_nil]⟩
theorem treeB_nat {p : Nat} {ts : List (Int × Int)} {l : List Int} : treeB p ts l = true ↔ (l.length : Int) = p - 1 ∧ goodB ts.length l = true ∧ cnt p (tiesAt ts l) = 1 := by
  simp only [treeB, Bool.and_eq_true, decide_eq_true_eq, Int.toNat_natCast, and_assoc]
theorem cnt_srt {p : Nat} {ts : List (Int × Int)} (hE : EndsOk p ts) {l : List Int} (h : InT ts.length l) : cnt p (tiesAt ts (srt l)) = cnt p (tiesAt ts l) :=
  cnt_set (tiesAt_ok hE fun t ht => h t (srt_mem.mp ht)) (tiesAt_ok hE h) (tiesAt_mem fun x => srt_mem)
/-- ties that hang all together, some of them without a ring: a tree between -/
theorem tree_between {p : Nat} (hp : 1 ≤ p) {ts : List (Int × Int)} (hE : EndsOk p ts) {I S : List Int} (hI : Ind p ts I) (hs : ∀ x ∈ I, x ∈ S) (hS : InT ts.length S) (hc : cnt p (tiesAt ts S) = 1) :
    ∃ T, treeB p ts T = true ∧ (∀ x ∈ I, x ∈ T) ∧ ∀ x ∈ T, x ∈ S := by
  obtain ⟨J, h1, h2, h3, h4⟩ := ind_ext hE S I hI hS
  have hJS : ∀ x ∈ J, x ∈ S := fun x hx => (h3 x hx).elim (hs x) id
  have c1 : cnt p (tiesAt ts J) ≤ cnt p (tiesAt ts S) := cnt_le (tiesAt_ok hE hS) (tiesAt_ok hE h1.inn) fun e he => by
    obtain ⟨t, ht, rfl⟩ := List.mem_map.mp he
    exact h4 t ht
  have c2 := cnt_pos hp (tiesAt ts J)
  have c3 := h1.ct
  refine ⟨srt J, treeB_nat.mpr ⟨?_, srt_good h1.inn h1.nd, ?_⟩, fun x hx => srt_mem.mpr (h2 x hx), fun x hx => hJS x (srt_mem.mp hx)⟩
  · rw [srt_len]; omega
  · rw [cnt_srt hE h1.inn]; omega
/-- a tree has no ring -/
theorem tree_ind {p : Nat} {ts : List (Int × Int)} {T : List Int} (h : treeB p ts T = true) (hp : 1 ≤ p) : Ind p ts T := by
  obtain ⟨h1, h2, h3⟩ := treeB_nat.mp h
  exact ⟨good_nodup h2, good_in h2, by omega⟩
/-- what is left of ties without a ring has none -/
theorem Ind.sub {p : Nat} {ts : List (Int × Int)} (hE : EndsOk p ts) {J K : List Int} (h : Ind p ts J) (hn : K.Nodup) (hs : ∀ x ∈ K, x ∈ J) : Ind p ts K := by
  have hK : InT ts.length K := fun x hx => h.inn x (hs x hx)
  refine ⟨hn, hK, ?_⟩
  obtain ⟨K', k1, k2, k3, k4⟩ := ind_ext hE K [] (ind_nil p ts) hK
  obtain ⟨J', j1, j2, j3, j4⟩ := ind_ext hE J K' k1 h.inn
  have hKK : K'.length ≤ K.length := nodup_le k1.nd fun x hx => (k3 x hx).elim (fun z => (nomatch z)) id
  have e1 : cnt p (tiesAt ts K') = cnt p (tiesAt ts K) := cnt_eq (tiesAt_ok hE k1.inn) (tiesAt_ok hE hK)
    (fun e he => by
      obtain ⟨t, ht, rfl⟩ := List.mem_map.mp he
      exact conn_at ((k3 t ht).elim (fun z => (nomatch z)) id))
    (fun e he => by
      obtain ⟨t, ht, rfl⟩ := List.mem_map.mp he
      exact k4 t ht)
  -- as many as there are: else J would have a ring
  have hJJ : J'.length = J.length := by
    have a : cnt p (tiesAt ts J') = cnt p (tiesAt ts J) := cnt_eq (tiesAt_ok hE j1.inn) (tiesAt_ok hE h.inn)
      (fun e he => by
        obtain ⟨t, ht, rfl⟩ := List.mem_map.mp he
        refine conn_at ?_
        rcases j3 t ht with z | z
        · exact hs t ((k3 t z).elim (fun z => (nomatch z)) id)
        · exact z)
      (fun e he => by
        obtain ⟨t, ht, rfl⟩ := List.mem_map.mp he
        exact j4 t ht)
    have := j1.ct
    have := h.ct
    omega
  have sub : ∀ x ∈ J', x ∈ J := fun x hx => by
    rcases j3 x hx with z | z
    · exact hs x ((k3 x z).elim (fun z => (nomatch z)) id)
    · exact z
  have all : ∀ x ∈ J, x ∈ J' := fun x hx => by
    rcases Classical.em (x ∈ J') with z | z
    · exact z
    · have := nodup_le (l := x :: J') (m := J) (List.nodup_cons.mpr ⟨z, j1.nd⟩) fun y hy => by
        rcases List.mem_cons.mp hy with rfl | hy
        · exact hx
        · exact sub y hy
      simp at this
      omega
  -- each of K is in K': else it would be put in to K' behind, though hung together
  have hKl : K.length ≤ K'.length := by
    refine nodup_le hn fun x hx => ?_
    rcases Classical.em (x ∈ K') with z | z
    · exact z
    · exfalso
      have hxJ := all x (hs x hx)
      -- J' less x hangs together what J' does
      have c := k4 x hx
      have i1 : InT ts.length (J'.erase x) := fun y hy => j1.inn y (List.mem_of_mem_erase hy)
      have sub2 : ∀ y ∈ K', y ∈ J'.erase x := fun y hy => (List.mem_erase_of_ne (fun (e : y = x) => z (by rw [← e]; exact hy))).mpr (j2 y hy)
      have e2 : cnt p (tiesAt ts (J'.erase x)) = cnt p (tiesAt ts J') := cnt_eq (tiesAt_ok hE i1) (tiesAt_ok hE j1.inn)
        (fun e he => by
          obtain ⟨t, ht, rfl⟩ := List.mem_map.mp he
          exact conn_at (List.mem_of_mem_erase ht))
        (fun e he => by
          obtain ⟨t, ht, rfl⟩ := List.mem_map.mp he
          by_cases ee : t = x
          · subst ee; exact conn_sub sub2 c
          · exact conn_at ((List.mem_erase_of_ne ee).mpr ht))
      have lo := cnt_lo p _ _ rfl (tiesAt_ok hE i1)
      have l2 : (tiesAt ts (J'.erase x)).length = J'.length - 1 := by rw [tiesAt, List.length_map, List.length_erase_of_mem hxJ]
      have hp := List.length_pos_of_mem hxJ
      have := j1.ct
      omega
  rw [← e1]
  have := k1.ct
  omega
end Lw
noncomputable section
namespace Lw
open DL
def f_alone_in_c1 : Env → Res D := eVar 2
def f_alone_in_c1t : Env → Res Bool := tC2 cNIn (eVar 2) (eVar 1)
def f_alone_in : Env → Out := sRet (eLc (iSeq (eVar 0)) [2] (gtN 2) (f_alone_in_c1t) f_alone_in_c1)
def g_alone_in : List D → Res D := runF f_alone_in 3
def f_instead_c1 : Env → Res D := eVar 3
def f_instead_c1t : Env → Res Bool := tC2 cNe (eVar 3) (eVar 1)
def f_instead : Env → Out := sRet (eCall caTuple (aCons (eCall caSorted3 (aCons (eBin opAdd (eLc (iSeq (eVar 0)) [3] (gtN 3) (f_instead_c1t) f_instead_c1) (eLst (aConsO (eVar 2) (aNil)))) (aNil))) (aNil)))
def g_instead : List D → Res D := runF f_instead 4
def f_walk_between_c1 : Env → Res D := eVar 7
def f_walk_between_c1t : Env → Res Bool := tTr (eOwn g_is_tree (aCons (eVar 0) (aCons (eOwn g_instead (aCons (eVar 3) (aCons (eVar 5) (aCons (eVar 7) (aNil))))) (aNil))))
def f_walk_between_l1 : Env → Out := sSeq (sAsgF 6 (eLc (iSeq (eOwn g_alone_in (aCons (eVar 2) (aCons (eVar 3) (aNil))))) [7] (gtN 7) (f_walk_between_c1t) f_walk_between_c1)) (sSeq (sApp 4 (eTup (aConsO (eVar 5) (aConsO (eBin opIx (eVar 6) (eC (.int 0))) (aNil))))) (sAsgF 3 (eOwn g_instead (aCons (eVar 3) (aCons (eVar 5) (aCons (eBin opIx (eVar 6) (eC (.int 0))) (aNil)))))))
def f_walk_between : Env → Out := sSeq (sExp (eOwn g_look_at_tree (aCons (eVar 0) (aCons (eVar 1) (aNil))))) (sSeq (sExp (eOwn g_look_at_tree (aCons (eVar 0) (aCons (eVar 2) (aNil))))) (sSeq (sAsgF 3 (eCall caTuple (aCons (eVar 1) (aNil)))) (sSeq (sAsg 4 (eLst (aNil))) (sSeq (sFor (iSeq (eOwn g_alone_in (aCons (eVar 1) (aCons (eVar 2) (aNil))))) (gtN 5) f_walk_between_l1) (sRetV 4)))))
def g_walk_between : List D → Res D := runF f_walk_between 8
end Lw
end
namespace Lw
open DL L2 TL
/-- the tree with one tie out and another one in -/
def swap (l : List Int) (o i : Int) : List Int := srt (wo l o ++ [i])
theorem wo_mem {l : List Int} {t x : Int} : x ∈ wo l t ↔ x ∈ l ∧ x ≠ t := by simp [wo]
theorem wo_nodup {l : List Int} (h : l.Nodup) (t : Int) : (wo l t).Nodup := h.filter _
theorem swap_mem {l : List Int} {o i x : Int} : x ∈ swap l o i ↔ (x ∈ l ∧ x ≠ o) ∨ x = i := by
  unfold swap; rw [srt_mem, List.mem_append, wo_mem]; simp
theorem wo_erase {l : List Int} (h : l.Nodup) (t : Int) : wo l t = l.erase t := by
  rw [h.erase_eq_filter]
  unfold wo
  refine List.filter_congr fun x _ => ?_
  by_cases e : x = t <;> simp [e]
theorem wo_length {l : List Int} (h : l.Nodup) {t : Int} (ht : t ∈ l) : (wo l t).length + 1 = l.length := by
  rw [wo_erase h, List.length_erase_of_mem ht]
  have := List.length_pos_of_mem ht
  omega
theorem cnt_append {p : Nat} {ts : List (Int × Int)} (l : List Int) (t : Int) : tiesAt ts (l ++ [t]) = tiesAt ts l ++ [tieAt ts t] := tiesAt_snoc ts l t
/-- just the ties across lead to a tree -/
theorem swap_tree {p : Nat} (hp : 1 ≤ p) {ts : List (Int × Int)} (hE : EndsOk p ts) {T : List Int} (hT : treeB p ts T = true) {o i : Int} (ho : o ∈ T) (hi : i ∉ T) (hr : 0 ≤ i ∧ i < ts.length) :
    treeB p ts (swap T o i) = true ↔ ¬ Conn (tiesAt ts (wo T o)) (tieAt ts i).1 (tieAt ts i).2 := by
  have hI := tree_ind hT hp
  obtain ⟨h1, h2, h3⟩ := treeB_nat.mp hT
  have hW := hI.sub hE (wo_nodup hI.nd o) (fun x hx => (wo_mem.mp hx).1)
  have hwl := wo_length hI.nd ho
  have hin : InT ts.length (wo T o ++ [i]) := fun x hx => by
    rcases List.mem_append.mp hx with z | z
    · exact hW.inn x z
    · simp at z; subst z; exact hr
  have hnd : (wo T o ++ [i]).Nodup := by
    rw [List.nodup_append]
    refine ⟨hW.nd, by simp, fun a ha b hb e => ?_⟩
    simp at hb
    subst hb; subst e
    exact hi (wo_mem.mp ha).1
  have hct := hW.ct
  have hEs : EndsOk p (tiesAt ts (wo T o) ++ [tieAt ts i]) := by rw [← tiesAt_snoc]; exact tiesAt_ok hE hin
  have e1 : cnt p (tiesAt ts (swap T o i)) = cnt p (tiesAt ts (wo T o) ++ [tieAt ts i]) := by unfold swap; rw [cnt_srt hE hin, tiesAt_snoc]
  rw [treeB_nat]
  constructor
  · rintro ⟨_, _, h⟩ c
    rw [e1, cnt_same hEs c] at h
    omega
  · intro c
    have := cnt_new hEs c
    refine ⟨?_, srt_good hin hnd, by rw [e1]; omega⟩
    unfold swap
    rw [srt_len, List.length_append, List.length_singleton]
    omega
/-- the other tree has a tie across -/
theorem swap_ex {p : Nat} (hp : 1 ≤ p) {ts : List (Int × Int)} (hE : EndsOk p ts) {T U : List Int} (hT : treeB p ts T = true) (hU : treeB p ts U = true) {o : Int} (ho : o ∈ T) (hoU : o ∉ U) :
    ∃ i ∈ U, i ∉ T ∧ treeB p ts (swap T o i) = true := by
  have hI := tree_ind hT hp
  obtain ⟨u1, u2, u3⟩ := treeB_nat.mp hU
  have hW := hI.sub hE (wo_nodup hI.nd o) (fun x hx => (wo_mem.mp hx).1)
  have hwl := wo_length hI.nd ho
  obtain ⟨h1, h2, h3⟩ := treeB_nat.mp hT
  have hct := hW.ct
  rcases Classical.em (∃ i ∈ U, ¬ Conn (tiesAt ts (wo T o)) (tieAt ts i).1 (tieAt ts i).2) with ⟨i, hi, hc⟩ | h
  · have hiT : i ∉ T := fun z => hc (conn_at (wo_mem.mpr ⟨z, fun e => hoU (e ▸ hi)⟩))
    exact ⟨i, hi, hiT, (swap_tree hp hE hT ho hiT (good_in u2 i hi)).mpr hc⟩
  · exfalso
    have : cnt p (tiesAt ts (wo T o)) ≤ cnt p (tiesAt ts U) := cnt_le (tiesAt_ok hE (good_in u2)) (tiesAt_ok hE hW.inn) fun e he => by
      obtain ⟨t, ht, rfl⟩ := List.mem_map.mp he
      rcases Classical.em (Conn (tiesAt ts (wo T o)) (tieAt ts t).1 (tieAt ts t).2) with z | z
      · exact z
      · exact absurd ⟨t, ht, z⟩ h
    omega
/-! walks -/
def alone (a b : List Int) : List Int := a.filter fun x => !decide (x ∈ b)
theorem alone_ok {oa ob : D} (a b : List Int) (ha : LT oa a) (hb : LT ob b) (hl : a.length ≤ 1000) : g_alone_in [oa, ob] = .ok (.ol ((alone a b).map D.int)) := by
  have b1 : a.length ≤ lim := by rw [lim_eq]; omega
  have lc : ∀ x0 : D, lcL (gtN 2) f_alone_in_c1t f_alone_in_c1 [x0, ob, .un] (a.map D.int) = .ok ((alone a b).map D.int) := fun x0 => by
    refine lcL_filterN _ fun x _ => ?_
    exact ⟨by rcases hb with rfl | rfl <;> simp [f_alone_in_c1t], fun _ => by rcases hb with rfl | rfl <;> simp [f_alone_in_c1]⟩
  rcases ha with rfl | rfl <;> rcases hb with rfl | rfl <;> simp [g_alone_in, runF, f_alone_in, lc, b1]
theorem instead_ok (l : List Int) (hl : l.length ≤ 1000) (o i : Int) : g_instead [.tp (l.map D.int), .int o, .int i] = .ok (.tp ((swap l o i).map D.int)) := by
  have b1 : l.length ≤ lim := by rw [lim_eq]; omega
  have b2 := wo_len l o
  have b3 : (wo l o).length + 1 ≤ lim := by rw [lim_eq]; omega
  have b4 : (swap l o i).length ≤ lim := by unfold swap; rw [srt_len]; simp; omega
  have lc : ∀ x0 x2 : D, lcL (gtN 3) f_instead_c1t f_instead_c1 [x0, .int o, x2, .un] (l.map D.int) = .ok ((wo l o).map D.int) := fun x0 x2 => by
    refine lcL_filterN _ fun x _ => ?_
    exact ⟨by simp [f_instead_c1t], fun _ => by simp [f_instead_c1]⟩
  have cs := caSorted3_ls (wo l o ++ [i])
  simp only [List.map_append, List.map_cons, List.map_nil] at cs
  have e : srt (wo l o ++ [i]) = swap l o i := rfl
  rw [e] at cs
  simp [g_instead, runF, f_instead, lc, b1, b3, cs, b4]
end Lw
namespace Lw
open DL L2 TL
def goodI (p : Nat) (ts : List (Int × Int)) (U N : List Int) (o : Int) : List Int := (alone U N).filter fun i => treeB p ts (swap N o i)
def walkL (p : Nat) (ts : List (Int × Int)) (U : List Int) : List Int → List Int → List (Int × Int)
  | [], _ => []
  | o :: os, N => (o, (goodI p ts U N o).headD 0) :: walkL p ts U os (swap N o ((goodI p ts U N o).headD 0))
def endL (p : Nat) (ts : List (Int × Int)) (U : List Int) : List Int → List Int → List Int
  | [], N => N
  | o :: os, N => endL p ts U os (swap N o ((goodI p ts U N o).headD 0))
theorem walkL_len (p : Nat) (ts : List (Int × Int)) (U : List Int) : ∀ (os N : List Int), (walkL p ts U os N).length = os.length
  | [], _ => rfl
  | o :: os, N => by simp [walkL, walkL_len p ts U os]
/-- one step: a tie of the other one comes in -/
theorem good_step {p : Nat} (hp : 1 ≤ p) {ts : List (Int × Int)} (hE : EndsOk p ts) {N U : List Int} (hN : treeB p ts N = true) (hU : treeB p ts U = true) {o : Int} (ho : o ∈ N) (hoU : o ∉ U) :
    ∃ g r, goodI p ts U N o = g :: r ∧ g ∈ U ∧ g ∉ N ∧ treeB p ts (swap N o g) = true := by
  obtain ⟨i, i1, i2, i3⟩ := swap_ex hp hE hN hU ho hoU
  have hi : i ∈ goodI p ts U N o := by simp [goodI, alone, i1, i2, i3]
  match h : goodI p ts U N o, hi with
  | g :: r, _ =>
    have : g ∈ goodI p ts U N o := by rw [h]; exact List.mem_cons_self ..
    obtain ⟨k1, k2⟩ := List.mem_filter.mp this
    obtain ⟨k3, k4⟩ := List.mem_filter.mp k1
    exact ⟨g, r, rfl, k3, by simpa using k4, k2⟩
theorem tree_len {p : Nat} (hp : 1 ≤ p) {ts : List (Int × Int)} {N : List Int} (h : treeB p ts N = true) : N.length + 1 = p := by
  have := (treeB_nat.mp h).1
  omega
theorem walk_for {oa ob : D} (p : Nat) (hp : 1 ≤ p) (hp2 : p ≤ 1000) (ts : List (Int × Int)) (hE : EndsOk p ts) (U : List Int) (hU : treeB p ts U = true) (hb : LT ob U) (ha : brw oa = oa) : ∀ (os N : List Int) (S : List (Int × Int)) (y5 y6 : D), treeB p ts N = true → (∀ o ∈ os, o ∈ N ∧ o ∉ U) → os.Nodup → S.length + os.length ≤ 5000 →
    ∃ z5 z6, forL (gtN 5) f_walk_between_l1 (os.map D.int) [.ob 14 [.int p, .ls (ts.map dP)], oa, ob, .tp (N.map D.int), .ol (S.map dP), y5, y6, .un] = .nx [.ob 14 [.int p, .ls (ts.map dP)], oa, ob, .tp ((endL p ts U os N).map D.int), .ol ((S ++ walkL p ts U os N).map dP), z5, z6, .un]
  | [], N, S, y5, y6, _, _, _, _ => ⟨y5, y6, by simp [forL, endL, walkL]⟩
  | o :: os, N, S, y5, y6, hN, ho, hn, hs => by
    obtain ⟨o1, o2⟩ := ho o (List.mem_cons_self ..)
    obtain ⟨g, r, e0, e1, e2, e3⟩ := good_step hp hE hN hU o1 o2
    have eh : (goodI p ts U N o).headD 0 = g := by rw [e0]; rfl
    obtain ⟨n1, n2⟩ := List.nodup_cons.mp hn
    obtain ⟨z5, z6, ih⟩ := walk_for p hp hp2 ts hE U hU hb ha os (swap N o g) (S ++ [(o, g)]) (.int o) (.ls ((goodI p ts U N o).map D.int)) e3 (fun x hx => ⟨swap_mem.mpr (.inl ⟨(ho x (List.mem_cons_of_mem _ hx)).1, fun e => n1 (e ▸ hx)⟩), (ho x (List.mem_cons_of_mem _ hx)).2⟩) n2 (by simp at hs ⊢; omega)
    refine ⟨z5, z6, ?_⟩
    have hNl := tree_len hp hN
    have hUl := tree_len hp hU
    have al := alone_ok U N hb (.inr rfl) (by omega)
    have ins := fun i => instead_ok N (by omega) o i
    have lc : ∀ x1 x2 x4 x6 : D, lcL (gtN 7) f_walk_between_c1t f_walk_between_c1 [.ob 14 [.int p, .ls (ts.map dP)], x1, x2, .tp (N.map D.int), x4, .int o, x6, .un] ((alone U N).map D.int) = .ok ((goodI p ts U N o).map D.int) := fun x1 x2 x4 x6 => by
      refine lcL_filterN _ fun i _ => ?_
      have it := is_tree_tp p ts hE (by omega) (by omega) (swap N o i)
      exact ⟨by simp [f_walk_between_c1t, ins, it], fun _ => by simp [f_walk_between_c1]⟩
    have b1 : (alone U N).length ≤ lim := by
      have := List.length_filter_le (fun x => !decide (x ∈ N)) U
      unfold alone
      rw [lim_eq]; omega
    have b2 : S.length < lim := by rw [lim_eq]; simp at hs; omega
    have ix : atI (goodI p ts U N o) 0 = some g := by rw [e0]; exact (DL.atI_natG (i := 0) (j := 0) rfl (by simp)).trans rfl
    simp only [walkL, endL, eh]
    rw [show S ++ (o, g) :: walkL p ts U os (swap N o g) = S ++ [(o, g)] ++ walkL p ts U os (swap N o g) by simp, ← ih]
    rcases hb with rfl | rfl <;> simp [forL, f_walk_between_l1, al, lc, b1, b2, ix, ins, ha]
theorem walk_ok {oa ob : D} (p : Nat) (hp : 1 ≤ p) (hp2 : p ≤ 1000) (ts : List (Int × Int)) (hE : EndsOk p ts) (A U : List Int) (hA : treeB p ts A = true) (hU : treeB p ts U = true) (ha : LT oa A) (hb : LT ob U) :
    g_walk_between [.ob 14 [.int p, .ls (ts.map dP)], oa, ob] = .ok (.ol ((walkL p ts U (alone A U) A).map dP)) := by
  have l1 := look_ok p ts hE (by omega) (by omega) A ha hA
  have l2 := look_ok p ts hE (by omega) (by omega) U hb hU
  have hAl := tree_len hp hA
  have hUl := tree_len hp hU
  have al := alone_ok A U ha hb (by omega)
  have b0 : A.length ≤ lim := by rw [lim_eq]; omega
  have hlen := List.length_filter_le (fun x => !decide (x ∈ U)) A
  obtain ⟨z5, z6, e⟩ := walk_for p hp hp2 ts hE U hU hb (oa := oa) (LT_shd ha).2.1 (alone A U) A [] .un .un hA (fun o ho => by simpa [alone] using ho) ((good_nodup (treeB_nat.mp hA).2.1).filter _) (by unfold alone; simp; omega)
  simp only [List.map_nil, List.nil_append] at e
  rcases ha with rfl | rfl <;> rcases hb with rfl | rfl <;> simp [g_walk_between, runF, f_walk_between, l1, l2, al, b0, e]
/-- where it leads -/
theorem endL_ok {p : Nat} (hp : 1 ≤ p) {ts : List (Int × Int)} (hE : EndsOk p ts) {U : List Int} (hU : treeB p ts U = true) : ∀ (os N : List Int), treeB p ts N = true → (∀ o ∈ os, o ∈ N ∧ o ∉ U) → os.Nodup → (∀ x ∈ N, x ∉ U → x ∈ os) → endL p ts U os N = U
  | [], N, hN, _, _, hx => by
    obtain ⟨a1, a2, _⟩ := treeB_nat.mp hN
    obtain ⟨b1, b2, _⟩ := treeB_nat.mp hU
    have sub : ∀ x ∈ N, x ∈ U := fun x h => by
      rcases Classical.em (x ∈ U) with z | z
      · exact z
      · exact (nomatch hx x h z)
    refine rise_uniq (good_iff.mp a2).2 (good_iff.mp b2).2 fun k => ⟨sub k, fun hk => ?_⟩
    rcases Classical.em (k ∈ N) with z | z
    · exact z
    · have := nodup_le (l := k :: N) (m := U) (List.nodup_cons.mpr ⟨z, good_nodup a2⟩) fun y hy => by
        rcases List.mem_cons.mp hy with rfl | hy
        · exact hk
        · exact sub y hy
      simp at this
      omega
  | o :: os, N, hN, ho, hn, hx => by
    obtain ⟨o1, o2⟩ := ho o (List.mem_cons_self ..)
    obtain ⟨g, r, e0, e1, e2, e3⟩ := good_step hp hE hN hU o1 o2
    have eh : (goodI p ts U N o).headD 0 = g := by rw [e0]; rfl
    obtain ⟨n1, n2⟩ := List.nodup_cons.mp hn
    simp only [endL, eh]
    refine endL_ok hp hE hU os (swap N o g) e3 (fun x hx => ⟨swap_mem.mpr (.inl ⟨(ho x (List.mem_cons_of_mem _ hx)).1, fun e => n1 (e ▸ hx)⟩), (ho x (List.mem_cons_of_mem _ hx)).2⟩) n2 fun x h1 h2 => ?_
    rcases swap_mem.mp h1 with ⟨z1, z2⟩ | z
    · rcases List.mem_cons.mp (hx x z1 h2) with z | z
      · exact absurd z z2
      · exact z
    · subst z; exact absurd e1 h2
end Lw
noncomputable section
namespace Lw
open DL
def f_exchanges_of_c1 : Env → Res D := eTup (aConsO (eVar 3) (aConsO (eVar 4) (aNil)))
def f_exchanges_of_c1t : Env → Res Bool := tC2 cNe (eVar 4) (eVar 3)
def f_exchanges_of_l1 : Env → Out := sExt 2 (eLc (iSeq (eOwn g_cut_of (aCons (eVar 0) (aCons (eVar 1) (aCons (eVar 3) (aNil)))))) [4] (gtN 4) (f_exchanges_of_c1t) f_exchanges_of_c1)
def f_exchanges_of : Env → Out := sSeq (sExp (eOwn g_look_at_tree (aCons (eVar 0) (aCons (eVar 1) (aNil))))) (sSeq (sAsg 2 (eLst (aNil))) (sSeq (sFor (iSeq (eVar 1)) (gtN 3) f_exchanges_of_l1) (sRetV 2)))
def g_exchanges_of : List D → Res D := runF f_exchanges_of 5
def f_exchanged : Env → Out := sSeq (sExp (eOwn g_look_at_tree (aCons (eVar 0) (aCons (eVar 1) (aNil))))) (sSeq (sIf (tOr_ (tC2 cNIn (eVar 2) (eVar 1)) (tOr_ (tC2 cIn (eVar 3) (eVar 1)) (tNo (tCh cLe cLt (eC (.int 0)) (eVar 3) (eCall caLen (aCons (eUn (opFld 14 1) (eVar 0)) (aNil))))))) (sRaise 5) (sNil)) (sSeq (sAsgF 4 (eCall caTuple (aCons (eCall caSorted3 (aCons (eBin opAdd (eOwn g_without_tie (aCons (eVar 1) (aCons (eVar 2) (aNil)))) (eTup (aConsO (eVar 3) (aNil)))) (aNil))) (aNil)))) (sSeq (sIf (tNo (tTr (eOwn g_is_tree (aCons (eVar 0) (aCons (eVar 4) (aNil)))))) (sRaise 5) (sNil)) (sRetV 4))))
def g_exchanged : List D → Res D := runF f_exchanged 5
end Lw
end
namespace Lw
open DL L2 TL
/-- out and into are an exchange of the tree -/
def exB (p : Nat) (ts : List (Int × Int)) (T : List Int) (o i : Int) : Bool := decide (o ∈ T) && !decide (i ∈ T) && decide (0 ≤ i) && decide (i < ts.length) && treeB p ts (swap T o i)
theorem exB_iff {p : Nat} {ts : List (Int × Int)} {T : List Int} {o i : Int} : exB p ts T o i = true ↔ o ∈ T ∧ i ∉ T ∧ (0 ≤ i ∧ i < ts.length) ∧ treeB p ts (swap T o i) = true := by
  simp only [exB, Bool.and_eq_true, decide_eq_true_eq, Bool.not_eq_true', decide_eq_false_iff_not, and_assoc]
theorem exchanged_ok {w : D} (p : Nat) (hp : 1 ≤ p) (hp2 : p ≤ 1000) (ts : List (Int × Int)) (hE : EndsOk p ts) (T : List Int) (hT : treeB p ts T = true) (ho : LT w T) (o i : Int) :
    g_exchanged [.ob 14 [.int p, .ls (ts.map dP)], w, .int o, .int i] = if exB p ts T o i = true then .ok (.tp ((swap T o i).map D.int)) else .xc 5 := by
  have lk := look_ok p ts hE (by omega) (by omega) T ho hT
  have hTl := tree_len hp hT
  have wt := without_ok T ho (by omega) o
  have it := is_tree_tp p ts hE (by omega) (by omega) (swap T o i)
  have b2 := wo_len T o
  have b3 : (wo T o).length + 1 ≤ lim := by rw [lim_eq]; omega
  have b4 : (swap T o i).length ≤ lim := by unfold swap; rw [srt_len]; simp; omega
  have cs := caSorted3_tp (wo T o ++ [i])
  simp only [List.map_append, List.map_cons, List.map_nil] at cs
  have e : srt (wo T o ++ [i]) = swap T o i := rfl
  rw [e] at cs
  by_cases c1 : o ∈ T
  · by_cases c2 : i ∈ T
    · rw [if_neg (by rw [exB_iff]; exact fun h => h.2.1 c2)]
      rcases ho with rfl | rfl <;> simp [g_exchanged, runF, f_exchanged, lk, c1, c2]
    · by_cases c3 : 0 ≤ i
      · by_cases c4 : i < ts.length
        · cases c5 : treeB p ts (swap T o i) with
          | true =>
            rw [if_pos (exB_iff.mpr ⟨c1, c2, ⟨c3, c4⟩, c5⟩)]
            rcases ho with rfl | rfl <;> simp [g_exchanged, runF, f_exchanged, lk, c1, c2, c3, c4, wt, b3, cs, b4, it, c5]
          | false =>
            rw [if_neg (by rw [exB_iff, c5]; exact fun h => absurd h.2.2.2 (by decide))]
            rcases ho with rfl | rfl <;> simp [g_exchanged, runF, f_exchanged, lk, c1, c2, c3, c4, wt, b3, cs, b4, it, c5]
        · rw [if_neg (by rw [exB_iff]; exact fun h => c4 h.2.2.1.2)]
          rcases ho with rfl | rfl <;> simp [g_exchanged, runF, f_exchanged, lk, c1, c2, c3, c4]
      · rw [if_neg (by rw [exB_iff]; exact fun h => c3 h.2.2.1.1)]
        rcases ho with rfl | rfl <;> simp [g_exchanged, runF, f_exchanged, lk, c1, c2, c3]
  · rw [if_neg (by rw [exB_iff]; exact fun h => c1 h.1)]
    rcases ho with rfl | rfl <;> simp [g_exchanged, runF, f_exchanged, lk, c1]
/-- the exchanges with one tie out -/
def exOf (p : Nat) (ts : List (Int × Int)) (T : List Int) (o : Int) : List (Int × Int) := ((cutL p ts T o).filter fun x => !decide (x = o)).map fun i => (o, i)
def exAll (p : Nat) (ts : List (Int × Int)) (T : List Int) : List (Int × Int) := T.flatMap (exOf p ts T)
theorem exOf_len (p : Nat) (ts : List (Int × Int)) (T : List Int) (o : Int) : (exOf p ts T o).length ≤ ts.length := by
  unfold exOf cutL
  rw [List.length_map]
  have a := List.length_filter_le (fun x => !decide (x = o)) ((iota ts.length).filter (inC (p : Int).toNat ts T o))
  have b := List.length_filter_le (inC (p : Int).toNat ts T o) (iota ts.length)
  rw [iota_len] at b
  omega
theorem exch_l1 {w : D} (p : Nat) (hp : 1 ≤ p) (hp2 : p ≤ 100) (ts : List (Int × Int)) (hE : EndsOk p ts) (ht : ts.length ≤ 100) (T : List Int) (hT : treeB p ts T = true) (ho : LT w T) : ∀ (l : List Int) (S : List (Int × Int)) (y3 : D), (∀ o ∈ l, o ∈ T) → S.length + 100 * l.length ≤ 100000 →
    ∃ z3, forL (gtN 3) f_exchanges_of_l1 (l.map D.int) [.ob 14 [.int p, .ls (ts.map dP)], w, .ol (S.map dP), y3, .un] = .nx [.ob 14 [.int p, .ls (ts.map dP)], w, .ol ((S ++ l.flatMap (exOf p ts T)).map dP), z3, .un]
  | [], S, y3, _, _ => ⟨y3, by simp [forL]⟩
  | o :: l, S, y3, hl, hs => by
    have hm := hl o (List.mem_cons_self ..)
    have ct := cut_ok p ts hE (by omega) (by omega) (by omega) T ho hT o
    rw [if_pos hm] at ct
    have el := exOf_len p ts T o
    obtain ⟨z3, ih⟩ := exch_l1 p hp hp2 ts hE ht T hT ho l (S ++ exOf p ts T o) (.int o) (fun x hx => hl x (List.mem_cons_of_mem _ hx)) (by simp at hs ⊢; omega)
    refine ⟨z3, ?_⟩
    rw [List.flatMap_cons, ← List.append_assoc, ← ih]
    have lc : ∀ x2 : D, lcL (gtN 4) f_exchanges_of_c1t f_exchanges_of_c1 [.ob 14 [.int p, .ls (ts.map dP)], w, x2, .int o, .un] ((cutL p ts T o).map D.int) = .ok ((exOf p ts T o).map dP) := fun x2 => by
      unfold exOf
      rw [List.map_map]
      refine lcL_filterN _ fun x _ => ?_
      exact ⟨by rcases ho with rfl | rfl <;> simp [f_exchanges_of_c1t], fun _ => by rcases ho with rfl | rfl <;> simp [f_exchanges_of_c1]⟩
    have b1 : (cutL p ts T o).length ≤ lim := by
      have b := List.length_filter_le (inC (p : Int).toNat ts T o) (iota ts.length)
      rw [iota_len] at b
      unfold cutL
      rw [lim_eq]; omega
    have b2 : S.length + (exOf p ts T o).length ≤ lim := by rw [lim_eq]; simp at hs; omega
    rcases ho with rfl | rfl <;> simp [forL, f_exchanges_of_l1, ct, lc, b1, b2]
theorem exchanges_ok {w : D} (p : Nat) (hp : 1 ≤ p) (hp2 : p ≤ 100) (ts : List (Int × Int)) (hE : EndsOk p ts) (ht : ts.length ≤ 100) (T : List Int) (hT : treeB p ts T = true) (ho : LT w T) :
    g_exchanges_of [.ob 14 [.int p, .ls (ts.map dP)], w] = .ok (.ol ((exAll p ts T).map dP)) := by
  have lk := look_ok p ts hE (by omega) (by omega) T ho hT
  have hTl := tree_len hp hT
  obtain ⟨z3, e⟩ := exch_l1 p hp hp2 ts hE ht T hT ho T [] .un (fun _ h => h) (by simp; omega)
  simp only [List.map_nil, List.nil_append] at e
  rw [show T.flatMap (exOf p ts T) = exAll p ts T from rfl] at e
  rcases ho with rfl | rfl <;> simp [g_exchanges_of, runF, f_exchanges_of, lk, e]
/-- the cut's other ties are the exchanges -/
theorem cut_ex {p : Nat} (hp : 1 ≤ p) {ts : List (Int × Int)} (hE : EndsOk p ts) {T : List Int} (hT : treeB p ts T = true) {o : Int} (ho : o ∈ T) (x : Int) : (x ∈ cutL p ts T o ∧ x ≠ o) ↔ exB p ts T o x = true := by
  have hI := tree_ind hT hp
  have hW : InT ts.length (wo T o) := wo_in hI.inn o
  have key : ∀ x : Int, 0 ≤ x → x < ts.length → (inC (p : Int).toNat ts T o x = true ↔ ¬ Conn (tiesAt ts (wo T o)) (tieAt ts x).1 (tieAt ts x).2) := fun x x0 x1 => by
    obtain ⟨_, e2⟩ := tie_at x0 x1
    obtain ⟨⟨a0, a1⟩, b0, b1⟩ := hE _ e2
    simp only [inC, Int.toNat_natCast, Bool.not_eq_true', decide_eq_false_iff_not]
    rw [nthM p ts hE (wo T o) hW _ _ a0 a1 b0 b1]
  rw [exB_iff]
  constructor
  · rintro ⟨h1, h2⟩
    unfold cutL at h1
    obtain ⟨k1, k2⟩ := List.mem_filter.mp h1
    obtain ⟨x0, x1⟩ := iota_mem.mp k1
    have c := (key x x0 x1).mp k2
    have hx : x ∉ T := fun z => c (conn_at (wo_mem.mpr ⟨z, h2⟩))
    exact ⟨ho, hx, ⟨x0, x1⟩, (swap_tree hp hE hT ho hx ⟨x0, x1⟩).mpr c⟩
  · rintro ⟨_, hx, ⟨x0, x1⟩, h⟩
    refine ⟨?_, fun e => hx (e ▸ ho)⟩
    unfold cutL
    exact List.mem_filter.mpr ⟨iota_mem.mpr ⟨x0, x1⟩, (key x x0 x1).mpr ((swap_tree hp hE hT ho hx ⟨x0, x1⟩).mp h)⟩
end Lw
namespace Lw
open DL L2 TL
/-- tie by tie, where it makes no ring -/
def gr (p : Nat) (ts : List (Int × Int)) : List Int → List Int → List Int
  | [], J => J
  | t :: s, J => if nth (marksM p ts (srt J)) (tieAt ts t).1 = nth (marksM p ts (srt J)) (tieAt ts t).2 then gr p ts s J else gr p ts s (J ++ [t])
theorem gr_app (p : Nat) (ts : List (Int × Int)) : ∀ (s r J : List Int), gr p ts (s ++ r) J = gr p ts r (gr p ts s J)
  | [], r, J => rfl
  | t :: s, r, J => by
    simp only [List.cons_append, gr]
    split
    · exact gr_app p ts s r J
    · exact gr_app p ts s r (J ++ [t])
theorem conn_srt {ts : List (Int × Int)} {J : List Int} {a b : Int} : Conn (tiesAt ts (srt J)) a b ↔ Conn (tiesAt ts J) a b :=
  ⟨conn_sub fun x hx => srt_mem.mp hx, conn_sub fun x hx => srt_mem.mpr hx⟩
theorem gr_test {p : Nat} {ts : List (Int × Int)} (hE : EndsOk p ts) {J : List Int} (hJ : InT ts.length J) {t : Int} (ht : 0 ≤ t ∧ t < ts.length) : nth (marksM p ts (srt J)) (tieAt ts t).1 = nth (marksM p ts (srt J)) (tieAt ts t).2 ↔ Conn (tiesAt ts J) (tieAt ts t).1 (tieAt ts t).2 := by
  obtain ⟨_, e2⟩ := tie_at ht.1 ht.2
  obtain ⟨⟨a0, a1⟩, b0, b1⟩ := hE _ e2
  rw [nthM p ts hE (srt J) (fun x hx => hJ x (srt_mem.mp hx)) _ _ a0 a1 b0 b1, conn_srt]
theorem gr_ok {p : Nat} {ts : List (Int × Int)} (hE : EndsOk p ts) : ∀ (s J : List Int), Ind p ts J → InT ts.length s → Ind p ts (gr p ts s J) ∧ (∃ K, gr p ts s J = J ++ K ∧ K.Sublist s) ∧ ∀ t ∈ s, Conn (tiesAt ts (gr p ts s J)) (tieAt ts t).1 (tieAt ts t).2
  | [], J, h, _ => ⟨h, ⟨[], by simp [gr], .refl _⟩, fun _ h => (nomatch h)⟩
  | t :: s, J, h, hs => by
    have ht := hs t (List.mem_cons_self ..)
    have hs' : InT ts.length s := fun x hx => hs x (List.mem_cons_of_mem _ hx)
    simp only [gr]
    by_cases c : nth (marksM p ts (srt J)) (tieAt ts t).1 = nth (marksM p ts (srt J)) (tieAt ts t).2
    · rw [if_pos c]
      obtain ⟨k1, ⟨K, k2, k3⟩, k4⟩ := gr_ok hE s J h hs'
      refine ⟨k1, ⟨K, k2, k3.cons t⟩, fun x hx => ?_⟩
      rcases List.mem_cons.mp hx with rfl | hx
      · exact conn_sub (fun y hy => by rw [k2]; exact List.mem_append_left _ hy) ((gr_test hE h.inn ht).mp c)
      · exact k4 x hx
    · rw [if_neg c]
      obtain ⟨k1, ⟨K, k2, k3⟩, k4⟩ := gr_ok hE s (J ++ [t]) (h.snoc hE ht fun z => c ((gr_test hE h.inn ht).mpr z)) hs'
      refine ⟨k1, ⟨t :: K, by rw [k2]; simp, k3.cons₂ t⟩, fun x hx => ?_⟩
      rcases List.mem_cons.mp hx with rfl | hx
      · exact conn_at (by rw [k2]; simp)
      · exact k4 x hx
/-- what hangs together others' ties is as many -/
theorem Ind.le {p : Nat} {ts : List (Int × Int)} (hE : EndsOk p ts) {K J : List Int} (hK : Ind p ts K) (hJ : Ind p ts J) (h : ∀ t ∈ K, Conn (tiesAt ts J) (tieAt ts t).1 (tieAt ts t).2) : K.length ≤ J.length := by
  have : cnt p (tiesAt ts J) ≤ cnt p (tiesAt ts K) := cnt_le (tiesAt_ok hE hK.inn) (tiesAt_ok hE hJ.inn) fun e he => by
    obtain ⟨t, ht, rfl⟩ := List.mem_map.mp he
    exact h t ht
  have := hK.ct
  have := hJ.ct
  omega
/-! how many are below -/
def bel (l : List Int) (x : Int) : Nat := (l.filter fun y => decide (y < x)).length
theorem bel_perm {l m : List Int} (h : l.Perm m) (x : Int) : bel l x = bel m x := (h.filter _).length_eq
theorem bel_app (l m : List Int) (x : Int) : bel (l ++ m) x = bel l x + bel m x := by simp [bel, List.filter_append]
/-- ascending lists, the one with more below everywhere: it is the first in order -/
theorem gale_lex : ∀ {a b : List Int}, a.Pairwise (· < ·) → b.Pairwise (· < ·) → a.length = b.length → (∀ x, bel b x ≤ bel a x) → a ≠ b → HT.lexLt a b = true
  | [], [], _, _, _, _, n => absurd rfl n
  | [], _ :: _, _, _, h, _, _ => by simp at h
  | _ :: _, [], _, _, h, _, _ => by simp at h
  | x :: a, y :: b, ha, hb, hl, hd, n => by
    obtain ⟨a1, a2⟩ := List.pairwise_cons.mp ha
    obtain ⟨b1, b2⟩ := List.pairwise_cons.mp hb
    rw [HT.lexLt_cons]
    by_cases e : x = y
    · subst e
      rw [if_pos rfl]
      refine gale_lex a2 b2 (by simpa using hl) (fun z => ?_) fun q => n (by rw [q])
      have := hd z
      simp only [bel, List.filter_cons] at this ⊢
      split at this
      · simpa using this
      · exact this
    · rw [if_neg e]
      refine decide_eq_true ?_
      rcases Int.lt_or_le x y with z | z
      · exact z
      · exfalso
        have hlt : y < x := by omega
        have := hd (y + 1)
        have h1 : bel (x :: a) (y + 1) = 0 := by
          unfold bel
          rw [List.length_eq_zero_iff, List.filter_eq_nil_iff]
          intro w hw
          rcases List.mem_cons.mp hw with rfl | hw
          · simp; omega
          · have := a1 w hw; simp; omega
        have h2 : 1 ≤ bel (y :: b) (y + 1) := by
          unfold bel
          rw [List.filter_cons_of_pos (by simp; omega)]
          simp
        omega
theorem filter_split {l : List Int} (h : l.Pairwise (· < ·)) (x : Int) : l = (l.filter fun y => decide (y < x)) ++ l.filter fun y => !decide (y < x) := by
  induction l with
  | nil => rfl
  | cons a l ih =>
    obtain ⟨h1, h2⟩ := List.pairwise_cons.mp h
    by_cases c : a < x
    · rw [List.filter_cons_of_pos (by simpa using c), List.filter_cons_of_neg (by simpa using c), List.cons_append, ← ih h2]
    · rw [List.filter_cons_of_neg (by simpa using c), List.filter_cons_of_pos (by simpa using c)]
      have : (l.filter fun y => decide (y < x)) = [] := List.filter_eq_nil_iff.mpr fun y hy => by have := h1 y hy; simp; omega
      rw [this, List.nil_append]
      congr 1
      refine (List.filter_eq_self.mpr fun y hy => ?_).symm
      have := h1 y hy; simp; omega
theorem filter_none {l : List Int} {q : Int → Bool} (h : ∀ x ∈ l, q x = false) : l.filter q = [] := List.filter_eq_nil_iff.mpr fun x hx => by rw [h x hx]; decide
theorem filter_all {l : List Int} {q : Int → Bool} (h : ∀ x ∈ l, q x = true) : l.filter q = l := List.filter_eq_self.mpr h
/-- below x stand just those that were chosen so far -/
theorem gr_bel {p : Nat} {ts : List (Int × Int)} (hE : EndsOk p ts) {s J : List Int} (hJ : Ind p ts J) (hs : InT ts.length s) (hr : s.Pairwise (· < ·)) (x : Int) :
    bel (gr p ts s J) x + J.length = (gr p ts (s.filter fun y => decide (y < x)) J).length + bel J x := by
  have sp := filter_split hr x
  have h1 : InT ts.length (s.filter fun y => decide (y < x)) := fun y hy => hs y (List.mem_filter.mp hy).1
  have h2 : InT ts.length (s.filter fun y => !decide (y < x)) := fun y hy => hs y (List.mem_filter.mp hy).1
  have e : gr p ts s J = gr p ts (s.filter fun y => !decide (y < x)) (gr p ts (s.filter fun y => decide (y < x)) J) := by
    rw [← gr_app, ← sp]
  obtain ⟨i1, ⟨K1, k1, q1⟩, _⟩ := gr_ok hE (s.filter fun y => decide (y < x)) J hJ h1
  obtain ⟨i2, ⟨K2, k2, q2⟩, _⟩ := gr_ok hE (s.filter fun y => !decide (y < x)) (gr p ts (s.filter fun y => decide (y < x)) J) i1 h2
  rw [e, k2, k1, bel_app, bel_app, List.length_append]
  have b1 : bel K1 x = K1.length := by
    unfold bel
    rw [filter_all fun y hy => (List.mem_filter.mp (q1.subset hy)).2]
  have b2 : bel K2 x = 0 := by
    unfold bel
    rw [filter_none fun y hy => by have := (List.mem_filter.mp (q2.subset hy)).2; simpa using this]
    rfl
  omega
end Lw
namespace Lw
open DL L2 TL
def othL (n : Nat) (T : List Int) : List Int := (iota n).filter fun x => !decide (x ∈ T)
def farB (p : Nat) (ts : List (Int × Int)) (T : List Int) : List Int := gr p ts T (gr p ts (othL ts.length T) [])
def com (T S : List Int) : Nat := (S.filter fun x => decide (x ∈ T)).length
theorem len_split (l : List Int) (q : Int → Bool) : l.length = (l.filter q).length + (l.filter fun x => !q x).length := by
  induction l with
  | nil => rfl
  | cons a l ih => cases c : q a <;> simp [List.filter_cons, c, ih] <;> omega
theorem iota_rise (n : Nat) : (iota n).Pairwise (· < ·) := by
  unfold iota
  rw [List.pairwise_map]
  exact List.pairwise_lt_range.imp fun h => by omega
theorem oth_in (n : Nat) (T : List Int) : InT n (othL n T) := fun x hx => iota_mem.mp (List.mem_filter.mp hx).1
theorem oth_rise (n : Nat) (T : List Int) : (othL n T).Pairwise (· < ·) := (iota_rise n).filter _
theorem oth_mem {n : Nat} {T : List Int} {x : Int} : x ∈ othL n T ↔ (0 ≤ x ∧ x < n) ∧ x ∉ T := by simp [othL, iota_mem]
section
variable {p : Nat} (hp : 1 ≤ p) {ts : List (Int × Int)} (hE : EndsOk p ts) {T : List Int} (hT : treeB p ts T = true)
include hp hE hT
theorem far_parts : Ind p ts (farB p ts T) ∧ Ind p ts (gr p ts (othL ts.length T) []) ∧ (∀ x ∈ gr p ts (othL ts.length T) [], x ∈ othL ts.length T) ∧ (∀ t ∈ othL ts.length T, Conn (tiesAt ts (gr p ts (othL ts.length T) [])) (tieAt ts t).1 (tieAt ts t).2) ∧
    (∃ K, farB p ts T = gr p ts (othL ts.length T) [] ++ K ∧ K.Sublist T) ∧ (farB p ts T).length + 1 = p ∧ treeB p ts (srt (farB p ts T)) = true := by
  obtain ⟨t1, t2, t3⟩ := treeB_nat.mp hT
  have tin := good_in t2
  obtain ⟨i1, ⟨K1, k1, q1⟩, c1⟩ := gr_ok hE (othL ts.length T) [] (ind_nil p ts) (oth_in _ _)
  obtain ⟨i2, ⟨K2, k2, q2⟩, c2⟩ := gr_ok hE T _ i1 tin
  have cl : cnt p (tiesAt ts (farB p ts T)) ≤ cnt p (tiesAt ts T) := cnt_le (tiesAt_ok hE tin) (tiesAt_ok hE i2.inn) fun e he => by
    obtain ⟨t, ht, rfl⟩ := List.mem_map.mp he
    exact c2 t ht
  have cp := cnt_pos hp (tiesAt ts (farB p ts T))
  have ct : cnt p (tiesAt ts (farB p ts T)) + (farB p ts T).length = p := i2.ct
  refine ⟨i2, i1, fun x hx => ?_, c1, ⟨K2, k2, q2⟩, by omega, treeB_nat.mpr ⟨by rw [srt_len]; omega, srt_good i2.inn i2.nd, ?_⟩⟩
  · rw [k1] at hx; exact q1.subset (by simpa using hx)
  · have i2' : Ind p ts (farB p ts T) := i2
    rw [cnt_srt hE i2'.inn]; omega
theorem far_com : com T (srt (farB p ts T)) + (gr p ts (othL ts.length T) []).length + 1 = p := by
  obtain ⟨a1, a2, a3, a4, ⟨K, k1, k2⟩, a6, a7⟩ := far_parts hp hE hT
  have : com T (srt (farB p ts T)) = com T (farB p ts T) := ((srt_perm _).filter _).length_eq
  rw [this, k1]
  unfold com
  rw [List.filter_append, filter_none (l := gr p ts (othL ts.length T) []) fun x hx => by simpa using (oth_mem.mp (a3 x hx)).2, filter_all (l := K) fun x hx => by simpa using k2.subset hx]
  rw [k1] at a6
  simp at a6 ⊢
  omega
theorem oth_part {S : List Int} (hS : treeB p ts S = true) : Ind p ts (S.filter fun x => !decide (x ∈ T)) ∧ ∀ x ∈ S.filter (fun x => !decide (x ∈ T)), x ∈ othL ts.length T := by
  have hI := tree_ind hS hp
  refine ⟨hI.sub hE (hI.nd.sublist List.filter_sublist) fun x hx => (List.mem_filter.mp hx).1, fun x hx => ?_⟩
  obtain ⟨h1, h2⟩ := List.mem_filter.mp hx
  exact oth_mem.mpr ⟨hI.inn x h1, by simpa using h2⟩
/-- no tree has fewer ties in common -/
theorem far_le {S : List Int} (hS : treeB p ts S = true) : com T (srt (farB p ts T)) ≤ com T S := by
  obtain ⟨a1, a2, a3, a4, _, a6, a7⟩ := far_parts hp hE hT
  have fc := far_com hp hE hT
  obtain ⟨i1, i2⟩ := oth_part hp hE hT hS
  have := Ind.le hE i1 a2 fun t ht => a4 t (i2 t ht)
  have ls := len_split S fun x => decide (x ∈ T)
  have sl := (treeB_nat.mp hS).1
  unfold com at *
  omega
/-- of the trees with as few in common it is the least -/
theorem far_lex {S : List Int} (hS : treeB p ts S = true) (hc : com T S = com T (srt (farB p ts T))) (hn : S ≠ srt (farB p ts T)) : HT.lexLt (srt (farB p ts T)) S = true := by
  obtain ⟨a1, a2, a3, a4, _, a6, a7⟩ := far_parts hp hE hT
  have fc := far_com hp hE hT
  obtain ⟨i1, i2⟩ := oth_part hp hE hT hS
  obtain ⟨s1, s2, s3⟩ := treeB_nat.mp hS
  obtain ⟨t1, t2, t3⟩ := treeB_nat.mp hT
  have hI := tree_ind hS hp
  have tin := good_in t2
  have ls := len_split S fun x => decide (x ∈ T)
  refine gale_lex (srt_lt a1.nd) (good_iff.mp s2).2 (by rw [srt_len]; omega) (fun x => ?_) (Ne.symm hn)
  rw [bel_perm (srt_perm _) x]
  have g1 := gr_bel hE (ind_nil p ts) (oth_in ts.length T) (oth_rise ts.length T) x
  have g2 := gr_bel hE a2 tin (good_iff.mp t2).2 x
  have b0 : bel [] x = 0 := rfl
  simp only [List.length_nil] at g1
  obtain ⟨j1, _, j3⟩ := gr_ok hE ((othL ts.length T).filter fun y => decide (y < x)) [] (ind_nil p ts) (fun y hy => oth_in ts.length T y (List.mem_filter.mp hy).1)
  obtain ⟨m1, ⟨K, m2, _⟩, m3⟩ := gr_ok hE (T.filter fun y => decide (y < x)) _ a2 (fun y hy => tin y (List.mem_filter.mp hy).1)
  have sp := len_split (S.filter fun y => decide (y < x)) fun x => decide (x ∈ T)
  -- the others below
  have e1 : ((S.filter fun y => decide (y < x)).filter fun y => !decide (y ∈ T)).length ≤ (gr p ts ((othL ts.length T).filter fun y => decide (y < x)) []).length := by
    refine Ind.le hE (hI.sub hE ((hI.nd.sublist List.filter_sublist).sublist List.filter_sublist) fun y hy => (List.mem_filter.mp (List.mem_filter.mp hy).1).1) j1 fun t ht => j3 t ?_
    obtain ⟨h1, h2⟩ := List.mem_filter.mp ht
    obtain ⟨h3, h4⟩ := List.mem_filter.mp h1
    exact List.mem_filter.mpr ⟨oth_mem.mpr ⟨hI.inn t h3, by simpa using h2⟩, h4⟩
  -- those of the tree below
  have e2 : ((S.filter fun x => !decide (x ∈ T)) ++ ((S.filter fun y => decide (y < x)).filter fun y => decide (y ∈ T))).length ≤ (gr p ts (T.filter fun y => decide (y < x)) (gr p ts (othL ts.length T) [])).length := by
    refine Ind.le hE (hI.sub hE ?_ fun y hy => ?_) m1 fun t ht => ?_
    · rw [List.nodup_append]
      refine ⟨hI.nd.sublist List.filter_sublist, (hI.nd.sublist List.filter_sublist).sublist List.filter_sublist, fun a ha b hb e => ?_⟩
      subst e
      have h1 := (List.mem_filter.mp ha).2
      have h2 := (List.mem_filter.mp hb).2
      simp at h1 h2
      exact h1 h2
    · rcases List.mem_append.mp hy with z | z
      · exact (List.mem_filter.mp z).1
      · exact (List.mem_filter.mp (List.mem_filter.mp z).1).1
    · rcases List.mem_append.mp ht with z | z
      · exact conn_sub (fun y hy => by rw [m2]; exact List.mem_append_left _ hy) (a4 t (i2 t z))
      · obtain ⟨h1, h2⟩ := List.mem_filter.mp z
        exact m3 t (List.mem_filter.mpr ⟨by simpa using h2, (List.mem_filter.mp h1).2⟩)
  rw [List.length_append] at e2
  unfold com at *
  unfold farB at *
  have bs : bel S x = (S.filter fun y => decide (y < x)).length := rfl
  omega
end
/-- those ahead of it in the row have more in common -/
theorem far_ahead {p : Nat} (hp : 1 ≤ p) {ts : List (Int × Int)} (hE : EndsOk p ts) {T : List Int} (hT : treeB p ts T = true) : ∃ L1 L2, trees p ts = L1 ++ srt (farB p ts T) :: L2 ∧ (∀ S ∈ L1, com T (srt (farB p ts T)) < com T S) ∧ ∀ S ∈ L2, com T (srt (farB p ts T)) ≤ com T S := by
  obtain ⟨a1, a2, a3, a4, _, a6, a7⟩ := far_parts hp hE hT
  obtain ⟨L1, L2, e⟩ := List.append_of_mem ((trees_mem hp).mpr a7)
  have hm : ∀ S, S ∈ L1 ∨ S ∈ L2 → treeB p ts S = true := fun S h => (trees_mem hp).mp (by rw [e]; rcases h with h | h <;> simp [h])
  have rs : Rise (trees p ts) := srtL_rise _
  have nd := trees_nodup p ts
  rw [e] at rs nd
  refine ⟨L1, L2, e, fun S hS => ?_, fun S hS => far_le hp hE hT (hm S (.inr hS))⟩
  have h1 := far_le hp hE hT (hm S (.inl hS))
  rcases Nat.lt_or_ge (com T (srt (farB p ts T))) (com T S) with h | h
  · exact h
  · exfalso
    have hne : S ≠ srt (farB p ts T) := by
      intro q
      rw [List.nodup_append] at nd
      exact nd.2.2 S hS _ (List.mem_cons_self ..) q
    have h2 := far_lex hp hE hT (hm S (.inl hS)) (by omega) hne
    have h3 := (List.pairwise_append.mp rs).2.2 S hS _ (List.mem_cons_self ..)
    rw [h2] at h3
    cases h3
end Lw
noncomputable section
namespace Lw
open DL
def f_grown_l1 : Env → Out := sSeq (sAsgT (gtT 2 (gtCons (gtN 6) (gtCons (gtN 7) (gtNil)))) (eBin opIx (eUn (opFld 14 1) (eVar 0)) (eVar 5))) (sIf (tC2 cNe (eBin opIx (eVar 4) (eVar 6)) (eBin opIx (eVar 4) (eVar 7))) (sSeq (sApp 3 (eVar 5)) (sAsgF 4 (eOwn2 g_marks_over (aCons (eVar 0) (aCons (eVar 3) (aNil)))))) (sNil))
def f_grown : Env → Out := sSeq (sAsg 3 (eCall caList (aCons (eVar 1) (aNil)))) (sSeq (sAsgF 4 (eOwn2 g_marks_over (aCons (eVar 0) (aCons (eVar 3) (aNil))))) (sSeq (sFor (iSeq (eVar 2)) (gtN 5) f_grown_l1) (sRet (eCall caTuple (aCons (eCall caSorted3 (aCons (eVar 3) (aNil))) (aNil))))))
def g_grown : List D → Res D := runF f_grown 8
def f_least_tree : Env → Out := sSeq (sAsgF 1 (eOwn g_grown (aCons (eVar 0) (aCons (eTup (aNil)) (aCons (eLR1 (eCall caLen (aCons (eUn (opFld 14 1) (eVar 0)) (aNil)))) (aNil)))))) (sSeq (sIf (tC2 cLt (eCall caLen (aCons (eVar 1) (aNil))) (eBin opSub (eUn (opFld 14 0) (eVar 0)) (eC (.int 1)))) (sRaise 3) (sNil)) (sRetV 1))
def g_least_tree : List D → Res D := runF f_least_tree 2
def f_law_all_c1 : Env → Res D := eBin opAdd (eVar 5) (eTup (aConsO (eVar 7) (aNil)))
def f_law_all_l2 : Env → Out := sSeq (sAsgF 6 (eC (.int 0))) (sSeq (sIf (tC2 cGt (eVar 3) (eC (.int 0))) (sAsgF 6 (eBin opAdd (eBin opIx (eVar 5) (eBin opSub (eVar 3) (eC (.int 1)))) (eC (.int 1)))) (sNil)) (sExt 4 (eLc (iRg2 (aCons (eVar 6) (aCons (eCall caLen (aCons (eVar 1) (aNil))) (aNil)))) [7] (gtN 7) (tYesG) f_law_all_c1)))
def f_law_all_l3 : Env → Out := sSeq (sAsg 4 (eLst (aNil))) (sSeq (sFor (iSeq (eVar 2)) (gtN 5) f_law_all_l2) (sFrz 4 (sAsgF 2 (eVar 4))))
def f_law_all_c4 : Env → Res D := eVar 5
def f_law_all_c4t : Env → Res Bool := tC2 cEq (eLenSet (eOwn g_law_marks (aCons (eVar 0) (aCons (eVar 1) (aCons (eVar 5) (aNil)))))) (eC (.int 1))
def f_law_all : Env → Out := sSeq (sAsgF 2 (eLst (aConsO (eTup (aNil)) (aNil)))) (sSeq (sFor (iRg1 (aCons (eBin opSub (eVar 0) (eC (.int 1))) (aNil))) (gtN 3) f_law_all_l3) (sRet (eLc (iSeq (eVar 2)) [5] (gtN 5) (f_law_all_c4t) f_law_all_c4)))
def g_law_all : List D → Res D := runF f_law_all 8
end Lw
end
namespace Lw
open DL L2 TL
theorem nods_bls : ∀ bs : List Bool, nods (bs.map D.bl) = true
  | [] => rfl
  | b :: bs => by simp [nods_bls bs]
theorem frzs_bls : ∀ bs : List Bool, frzs (bs.map D.bl) = bs.map D.bl
  | [] => rfl
  | b :: bs => by simp [frzs_bls bs]
theorem blsOf_map : ∀ bs : List Bool, blsOf (bs.map D.bl) = some bs
  | [] => rfl
  | b :: bs => by simp [blsOf, blsOf_map bs]
theorem caAll_bls (bs : List Bool) : caAll [.ls (bs.map D.bl)] = some (.bl (bs.all id)) := by simp [caAll, blsOf_map]
theorem caAny_bls (bs : List Bool) : caAny [.ls (bs.map D.bl)] = some (.bl (bs.any id)) := by simp [caAny, blsOf_map]
theorem lmarks_ok_tp (p : Int) (ts : List (Int × Int)) (hE : EndsOk p ts) (h1 : 1 ≤ p) (h2 : p ≤ 1000) (l : List Int) (hl : InT ts.length l) : g_law_marks [.int p, .ls (ts.map dP), .tp (l.map D.int)] = .ok (.ol ((marksL p.toNat ts l).map D.int)) := by
  obtain ⟨z4, z5, z6, z7, z8, z9, e⟩ := lmarks_l2 p h1 h2 ts hE (.tp (l.map D.int)) l (iota p.toNat) .un .un .un .un .un .un (by simp; omega) hl
  have hr : rgOk p := rgOk_of (by omega) (by omega)
  have h3 : p ≤ 1000000 := by omega
  simp [g_law_marks, runF, f_law_marks, hr, h3, rng_iota, e, marksL]
theorem gr_testU {p : Nat} {ts : List (Int × Int)} (hE : EndsOk p ts) {J : List Int} (hJ : InT ts.length J) {t : Int} (ht : 0 ≤ t ∧ t < ts.length) : (nth (marksM p ts (srt J)) (tieAt ts t).1 = nth (marksM p ts (srt J)) (tieAt ts t).2) ↔ nth (marksM p ts J) (tieAt ts t).1 = nth (marksM p ts J) (tieAt ts t).2 := by
  obtain ⟨_, e2⟩ := tie_at ht.1 ht.2
  obtain ⟨⟨a0, a1⟩, b0, b1⟩ := hE _ e2
  rw [gr_test hE hJ ht, nthM p ts hE J hJ _ _ a0 a1 b0 b1]
theorem grown_l1 (p : Nat) (hp : 1 ≤ p) (hp2 : p ≤ 1000) (ts : List (Int × Int)) (hE : EndsOk p ts) (x1 x2 : D) : ∀ (l J : List Int) (y5 y6 y7 : D), InT ts.length l → Ind p ts J → J.length + l.length ≤ 5000 →
    ∃ z5 z6 z7, forL (gtN 5) f_grown_l1 (l.map D.int) [.ob 14 [.int p, .ls (ts.map dP)], x1, x2, .ol (J.map D.int), .ls ((marksM p ts J).map D.int), y5, y6, y7] = .nx [.ob 14 [.int p, .ls (ts.map dP)], x1, x2, .ol ((gr p ts l J).map D.int), .ls ((marksM p ts (gr p ts l J)).map D.int), z5, z6, z7]
  | [], J, y5, y6, y7, _, _, _ => ⟨y5, y6, y7, by simp [forL, gr]⟩
  | t :: l, J, y5, y6, y7, hl, hJ, hn => by
    obtain ⟨t0, t1⟩ := hl t (List.mem_cons_self ..)
    have hl' : InT ts.length l := fun x hx => hl x (List.mem_cons_of_mem _ hx)
    obtain ⟨e1, e2⟩ := tie_at t0 t1
    obtain ⟨⟨a0, a1⟩, b0, b1⟩ := hE _ e2
    have ml : (marksM p ts J).length = p := marksM_len ..
    have ea := nth_at (m := marksM p ts J) a0 (by omega)
    have eb := nth_at (m := marksM p ts J) b0 (by omega)
    have iff := gr_testU hE hJ.inn ⟨t0, t1⟩
    have bj : J.length < lim := by rw [lim_eq]; simp at hn; omega
    by_cases c : nth (marksM p ts J) (tieAt ts t).1 = nth (marksM p ts J) (tieAt ts t).2
    · obtain ⟨z5, z6, z7, ih⟩ := grown_l1 p hp hp2 ts hE x1 x2 l J (.int t) (.int (tieAt ts t).1) (.int (tieAt ts t).2) hl' hJ (by simp at hn ⊢; omega)
      refine ⟨z5, z6, z7, ?_⟩
      simp only [gr]
      rw [if_pos (iff.mpr c), ← ih]
      simp [forL, f_grown_l1, e1, ea, eb, c]
    · have hJ' := hJ.snoc hE ⟨t0, t1⟩ fun z => c (iff.mp ((gr_test hE hJ.inn ⟨t0, t1⟩).mpr z))
      have mo := marks_ok_ls p ts hE (by omega) (by omega) (J ++ [t]) hJ'.inn
      rw [Int.toNat_natCast] at mo
      simp only [List.map_append, List.map_cons, List.map_nil] at mo
      have q1 : argB (.bo (J.map D.int ++ [.int t])) = some (J ++ [t]) := by
        have : intsOf ((J ++ [t]).map D.int) = some (J ++ [t]) := intsOf_map _
        simpa [argB] using this
      have q2 : argB (.ob 14 [.int p, .ls (ts.map dP)]) = none := rfl
      have q3 : ¬ J ++ [t] = marksM p ts (J ++ [t]) := fun z => by
        have h1 := congrArg List.length z
        rw [marksM_len] at h1
        have h2 := hJ'.ct
        have h3 := cnt_pos hp (tiesAt ts (J ++ [t]))
        omega
      obtain ⟨z5, z6, z7, ih⟩ := grown_l1 p hp hp2 ts hE x1 x2 l (J ++ [t]) (.int t) (.int (tieAt ts t).1) (.int (tieAt ts t).2) hl' hJ' (by simp at hn ⊢; omega)
      refine ⟨z5, z6, z7, ?_⟩
      simp only [gr]
      rw [if_neg (fun z => c (iff.mp z)), ← ih]
      simp [forL, f_grown_l1, e1, ea, eb, c, bj, mo, calD2, q1, q2, q3]
def leastJ (p : Nat) (ts : List (Int × Int)) : List Int := gr p ts (iota ts.length) []
theorem leastJ_ind {p : Nat} {ts : List (Int × Int)} (hE : EndsOk p ts) : Ind p ts (leastJ p ts) ∧ ∀ t : Int, 0 ≤ t → t < ts.length → Conn (tiesAt ts (leastJ p ts)) (tieAt ts t).1 (tieAt ts t).2 := by
  obtain ⟨h1, _, h3⟩ := gr_ok hE (iota ts.length) [] (ind_nil p ts) fun x hx => iota_mem.mp hx
  exact ⟨h1, fun t t0 t1 => h3 t (iota_mem.mpr ⟨t0, t1⟩)⟩
theorem leastJ_len {p : Nat} (hp : 1 ≤ p) {ts : List (Int × Int)} (hE : EndsOk p ts) : (leastJ p ts).length + 1 ≤ p := by
  have h1 := (leastJ_ind hE).1.ct
  have := cnt_pos hp (tiesAt ts (leastJ p ts))
  omega
theorem least_tree_ok (p : Nat) (hp : 1 ≤ p) (hp2 : p ≤ 1000) (ts : List (Int × Int)) (hE : EndsOk p ts) (ht : ts.length ≤ 1000) :
    g_least_tree [.ob 14 [.int p, .ls (ts.map dP)]] = if (leastJ p ts).length + 1 = p then .ok (.tp ((srt (leastJ p ts)).map D.int)) else .xc 3 := by
  have hr : rgOk (ts.length : Int) := rgOk_of (by omega) (by omega)
  have mo := marks_ok_ls p ts hE (by omega) (by omega) [] (fun _ h => nomatch h)
  rw [Int.toNat_natCast] at mo
  simp only [List.map_nil] at mo
  have q1 : argB (.bo []) = some [] := rfl
  have q2 : argB (.ob 14 [.int p, .ls (ts.map dP)]) = none := rfl
  have q3 : ¬ [] = marksM p ts [] := fun z => by
    have h1 := congrArg List.length z
    rw [marksM_len] at h1
    simp at h1
    omega
  obtain ⟨z5, z6, z7, e⟩ := grown_l1 p hp hp2 ts hE (.tp []) (.ls ((iota ts.length).map D.int)) (iota ts.length) [] .un .un .un (fun x hx => iota_mem.mp hx) (ind_nil p ts) (by simp; omega)
  rw [show gr p ts (iota ts.length) [] = leastJ p ts from rfl] at e
  simp only [List.map_nil] at e
  have jl := leastJ_len hp hE
  have b1 : (srt (leastJ p ts)).length ≤ lim := by rw [srt_len, lim_eq]; omega
  have b2 : ts.length ≤ 1000000 := by omega
  have b2' : (ts.length : Int) ≤ 1000000 := by omega
  have cs := caSorted3_bo (leastJ p ts)
  have gg : g_grown [.ob 14 [.int p, .ls (ts.map dP)], .tp [], .ls ((iota ts.length).map D.int)] = .ok (.tp ((srt (leastJ p ts)).map D.int)) := by
    simp [g_grown, runF, f_grown, mo, e, cs, b1, calD2, q1, q2, q3]
  by_cases c : (leastJ p ts).length + 1 = p
  · rw [if_pos c]
    have c' : ¬ ((leastJ p ts).length : Int) < (p : Int) - 1 := by omega
    simp [g_least_tree, runF, f_least_tree, hr, rng_iota, b2, b2', gg, srt_len, c']
  · rw [if_neg c]
    have c' : ((leastJ p ts).length : Int) < (p : Int) - 1 := by omega
    simp [g_least_tree, runF, f_least_tree, hr, rng_iota, b2, b2', gg, srt_len, c']
/-- it is a tree where there is one, and the least -/
theorem least_tree_is {p : Nat} (hp : 1 ≤ p) {ts : List (Int × Int)} (hE : EndsOk p ts) (h : (leastJ p ts).length + 1 = p) : treeB p ts (srt (leastJ p ts)) = true := by
  have hI := (leastJ_ind hE).1
  have := hI.ct
  refine treeB_nat.mpr ⟨by rw [srt_len]; omega, srt_good hI.inn hI.nd, ?_⟩
  rw [cnt_srt hE hI.inn]; omega
theorem least_tree_has {p : Nat} (hp : 1 ≤ p) {ts : List (Int × Int)} (hE : EndsOk p ts) {S : List Int} (hS : treeB p ts S = true) : (leastJ p ts).length + 1 = p := by
  have hI := tree_ind hS hp
  have := Ind.le hE hI (leastJ_ind hE).1 fun t ht => (leastJ_ind hE).2 t (hI.inn t ht).1 (hI.inn t ht).2
  have := tree_len hp hS
  have := leastJ_len hp hE
  omega
theorem least_lex {p : Nat} (hp : 1 ≤ p) {ts : List (Int × Int)} (hE : EndsOk p ts) {S : List Int} (hS : treeB p ts S = true) (hn : S ≠ srt (leastJ p ts)) : HT.lexLt (srt (leastJ p ts)) S = true := by
  have hI := tree_ind hS hp
  have hJ := (leastJ_ind hE).1
  have hl := least_tree_has hp hE hS
  have sl := tree_len hp hS
  refine gale_lex (srt_lt hJ.nd) (good_iff.mp (treeB_nat.mp hS).2.1).2 (by rw [srt_len]; omega) (fun x => ?_) (Ne.symm hn)
  rw [bel_perm (srt_perm _) x]
  have g1 := gr_bel hE (ind_nil p ts) (fun x hx => iota_mem.mp hx) (iota_rise ts.length) x
  have b0 : bel [] x = 0 := rfl
  simp only [List.length_nil] at g1
  obtain ⟨j1, _, j3⟩ := gr_ok hE ((iota ts.length).filter fun y => decide (y < x)) [] (ind_nil p ts) (fun y hy => iota_mem.mp (List.mem_filter.mp hy).1)
  have e1 : (S.filter fun y => decide (y < x)).length ≤ (gr p ts ((iota ts.length).filter fun y => decide (y < x)) []).length := by
    refine Ind.le hE (hI.sub hE (hI.nd.sublist List.filter_sublist) fun y hy => (List.mem_filter.mp hy).1) j1 fun t ht => j3 t ?_
    obtain ⟨h1, h2⟩ := List.mem_filter.mp ht
    exact List.mem_filter.mpr ⟨iota_mem.mpr (hI.inn t h1), h2⟩
  have bs : bel S x = (S.filter fun y => decide (y < x)).length := rfl
  unfold leastJ
  omega
/-! all ascending lists of so many numbers -/
def upL (lo : Int) (n : Nat) : List Int := (List.range (n - lo).toNat).map fun i : Nat => lo + (i : Int)
theorem upL_mem {lo : Int} {n : Nat} {x : Int} : x ∈ upL lo n ↔ lo ≤ x ∧ x < n := by
  unfold upL
  rw [List.mem_map]
  constructor
  · rintro ⟨i, hi, rfl⟩
    rw [List.mem_range] at hi
    omega
  · rintro ⟨h1, h2⟩
    exact ⟨(x - lo).toNat, List.mem_range.mpr (by omega), by omega⟩
theorem upL_rise (lo : Int) (n : Nat) : (upL lo n).Pairwise (· < ·) := by
  unfold upL
  rw [List.pairwise_map]
  exact List.pairwise_lt_range.imp fun h => by omega
def nxt (k : Nat) (s : List Int) : Int := if k = 0 then 0 else nth s (k - 1 : Nat) + 1
def extA (n k : Nat) (s : List Int) : List (List Int) := (upL (nxt k s) n).map fun t => s ++ [t]
def allA (n : Nat) : Nat → List (List Int)
  | 0 => [[]]
  | k + 1 => (allA n k).flatMap (extA n k)
theorem nth_memN {s : List Int} {i : Nat} (h : i < s.length) : nth s (i : Nat) ∈ s := by
  have : nth s (i : Nat) = s[i] := by simp [nth, List.getD_eq_getElem?_getD, List.getElem?_eq_getElem h]
  rw [this]; exact List.getElem_mem h
theorem nth_last {s : List Int} {k : Nat} {t : Int} (h : s.length = k) : nth (s ++ [t]) (k : Nat) = t := by
  subst h
  simp [nth, List.getD_eq_getElem?_getD]
theorem allA_mem (n : Nat) : ∀ (k : Nat) (l : List Int), l ∈ allA n k ↔ l.length = k ∧ goodB n l = true
  | 0, l => by
    simp only [allA, List.mem_singleton]
    constructor
    · rintro rfl; exact ⟨rfl, good_iff.mpr ⟨fun _ h => (nomatch h), .nil⟩⟩
    · rintro ⟨h, _⟩; exact List.eq_nil_of_length_eq_zero h
  | k + 1, l => by
    simp only [allA, List.mem_flatMap, extA, List.mem_map, upL_mem]
    constructor
    · rintro ⟨s, hs, t, ⟨t0, t1⟩, rfl⟩
      obtain ⟨h1, h2⟩ := (allA_mem n k s).mp hs
      obtain ⟨h3, h4⟩ := good_iff.mp h2
      have h5 : ∀ x ∈ s, x < t := fun x hx => by
        unfold nxt at t0
        by_cases hk : k = 0
        · subst hk
          rw [List.eq_nil_of_length_eq_zero h1] at hx
          exact nomatch hx
        · rw [if_neg hk] at t0
          obtain ⟨i, hi⟩ := List.getElem?_of_mem hx
          have hi2 := (List.getElem?_eq_some_iff.mp hi).1
          have hn : nth s (k - 1 : Nat) = s[k - 1]'(by omega) := by
            simp [nth, List.getD_eq_getElem?_getD, List.getElem?_eq_getElem (show k - 1 < s.length by omega)]
          have hx' : x = s[i] := by rw [List.getElem?_eq_getElem hi2] at hi; cases hi; rfl
          by_cases e : i = k - 1
          · subst e; omega
          · have := List.pairwise_iff_getElem.mp h4 i (k - 1) hi2 (by omega) (by omega)
            omega
      have t2 : 0 ≤ t := by
        unfold nxt at t0
        by_cases hk : k = 0
        · rw [if_pos hk] at t0; exact t0
        · rw [if_neg hk] at t0
          have hm : nth s (k - 1 : Nat) ∈ s := by
            simp [nth, List.getD_eq_getElem?_getD, List.getElem?_eq_getElem (show k - 1 < s.length by omega)]
          have := (h3 _ hm).1
          omega
      refine ⟨by simp [h1], good_iff.mpr ⟨fun x hx => ?_, ?_⟩⟩
      · rcases List.mem_append.mp hx with z | z
        · exact h3 x z
        · simp at z; subst z; exact ⟨t2, t1⟩
      · rw [List.pairwise_append]
        exact ⟨h4, List.pairwise_singleton _ _, fun x hx y hy => by simp at hy; subst hy; exact h5 x hx⟩
    · rintro ⟨h1, h2⟩
      obtain ⟨h3, h4⟩ := good_iff.mp h2
      have hne : l ≠ [] := by intro z; subst z; simp at h1
      have hl := List.dropLast_concat_getLast hne
      refine ⟨l.dropLast, (allA_mem n k _).mpr ⟨by rw [List.length_dropLast]; omega, good_iff.mpr ⟨fun x hx => h3 x ((List.dropLast_sublist l).subset hx), h4.sublist (List.dropLast_sublist l)⟩⟩, l.getLast hne, ⟨?_, (h3 _ (List.getLast_mem hne)).2⟩, hl⟩
      unfold nxt
      by_cases hk : k = 0
      · rw [if_pos hk]; exact (h3 _ (List.getLast_mem hne)).1
      · rw [if_neg hk]
        have hd : l.dropLast.length = k := by rw [List.length_dropLast]; omega
        have hm : nth l.dropLast (k - 1 : Nat) ∈ l.dropLast := nth_memN (by omega)
        rw [← hl, List.pairwise_append] at h4
        have := h4.2.2 _ hm (l.getLast hne) (List.mem_singleton.mpr rfl)
        omega
theorem lex_app : ∀ {a b : List Int}, a.length = b.length → HT.lexLt a b = true → ∀ x y, HT.lexLt (a ++ x) (b ++ y) = true
  | [], [], _, h, _, _ => by rw [HT.lexLt_nil_nil] at h; cases h
  | [], _ :: _, h, _, _, _ => by simp at h
  | _ :: _, [], h, _, _, _ => by simp at h
  | a :: as, b :: bs, hl, h, x, y => by
    rw [List.cons_append, List.cons_append, HT.lexLt_cons]
    rw [HT.lexLt_cons] at h
    by_cases e : a = b
    · rw [if_pos e] at h ⊢
      exact lex_app (by simpa using hl) h x y
    · rw [if_neg e] at h ⊢
      exact h
theorem lex_one : ∀ (s : List Int) {t u : Int}, t < u → HT.lexLt (s ++ [t]) (s ++ [u]) = true
  | [], t, u, h => by
    rw [List.nil_append, List.nil_append, HT.lexLt_cons, if_neg (by omega)]
    simpa using h
  | a :: s, t, u, h => by
    rw [List.cons_append, List.cons_append, HT.lexLt_cons, if_pos rfl]
    exact lex_one s h
theorem allA_lex (n : Nat) : ∀ k : Nat, (allA n k).Pairwise fun a b => HT.lexLt a b = true
  | 0 => List.pairwise_singleton _ _
  | k + 1 => by
    rw [allA, List.pairwise_flatMap]
    refine ⟨fun s hs => ?_, ?_⟩
    · unfold extA
      rw [List.pairwise_map]
      exact (upL_rise _ _).imp fun h => lex_one s h
    · have ih := allA_lex n k
      refine List.Pairwise.imp_of_mem (fun {a b} ha hb h x hx y hy => ?_) ih
      unfold extA at hx hy
      obtain ⟨t, _, rfl⟩ := List.mem_map.mp hx
      obtain ⟨u, _, rfl⟩ := List.mem_map.mp hy
      have h1 := ((allA_mem n k a).mp ha).1
      have h2 := ((allA_mem n k b).mp hb).1
      exact lex_app (by omega) h _ _
theorem lex_irr (a : List Int) : HT.lexLt a a = false := by
  cases q : HT.lexLt a a with
  | false => rfl
  | true => have := NtL.lex_asym _ _ q; rw [q] at this; cases this
/-- all trees, as they are told one by one -/
theorem allA_trees {p : Nat} (hp : 1 ≤ p) (ts : List (Int × Int)) : (allA ts.length (p - 1)).filter (fun l => decide (cnt p (tiesAt ts l) = 1)) = trees p ts := by
  have hr := (allA_lex ts.length (p - 1)).filter (fun l => decide (cnt p (tiesAt ts l) = 1))
  have hd : ((allA ts.length (p - 1)).filter (fun l => decide (cnt p (tiesAt ts l) = 1))).Nodup := hr.imp fun {a b} h e => by
    subst e
    rw [lex_irr] at h; cases h
  have hm : ∀ l, l ∈ (allA ts.length (p - 1)).filter (fun l => decide (cnt p (tiesAt ts l) = 1)) ↔ l ∈ trees p ts := fun l => by
    rw [List.mem_filter, allA_mem, trees_mem hp, treeB_nat, decide_eq_true_eq]
    constructor
    · rintro ⟨⟨h1, h2⟩, h3⟩; exact ⟨by omega, h2, h3⟩
    · rintro ⟨h1, h2, h3⟩; exact ⟨⟨by omega, h2⟩, h3⟩
  have hp2 := (List.perm_ext_iff_of_nodup hd (trees_nodup p ts)).mpr hm
  have hrise : Rise ((allA ts.length (p - 1)).filter (fun l => decide (cnt p (tiesAt ts l) = 1))) := hr.imp fun {a b} h => NtL.lex_asym _ _ h
  exact rise_one hp2 hrise (srtL_rise _)
theorem allA_len (n : Nat) : ∀ k : Nat, (allA n k).length ≤ n ^ k
  | 0 => by simp [allA]
  | k + 1 => by
    rw [allA, List.length_flatMap]
    have : ∀ l : List (List Int), (∀ s ∈ l, (extA n k s).length ≤ n) → (l.map fun s => (extA n k s).length).sum ≤ l.length * n := fun l => by
      induction l with
      | nil => intro _; simp
      | cons s l ih =>
        intro h
        have h1 := h s (List.mem_cons_self ..)
        have h2 := ih fun x hx => h x (List.mem_cons_of_mem _ hx)
        simp only [List.map_cons, List.sum_cons, List.length_cons, Nat.succ_mul]
        omega
    have h1 := this (allA n k) fun s hs => by
      unfold extA upL
      simp only [List.length_map, List.length_range]
      have : 0 ≤ nxt k s := by
        unfold nxt
        obtain ⟨h1, h2⟩ := (allA_mem n k s).mp hs
        split
        · omega
        · have hm : nth s (k - 1 : Nat) ∈ s := by
            simp [nth, List.getD_eq_getElem?_getD, List.getElem?_eq_getElem (show k - 1 < s.length by omega)]
          have := (good_in h2 _ hm).1
          omega
      omega
    have h2 := Nat.mul_le_mul_right n (allA_len n k)
    rw [Nat.pow_succ]
    exact Nat.le_trans h1 h2
theorem all_l2 (x0 : D) (ts : List (Int × Int)) (ht : ts.length ≤ 100) (x2 : D) (k : Nat) (hk : k ≤ 100) : ∀ (l A : List (List Int)) (y5 y6 : D), (∀ s ∈ l, s ∈ allA ts.length k) → A.length + 100 * l.length ≤ 1000000 →
    ∃ z5 z6, forL (gtN 5) f_law_all_l2 (l.map dT) [x0, .ls (ts.map dP), x2, .int k, .ol (A.map dT), y5, y6, .un] = .nx [x0, .ls (ts.map dP), x2, .int k, .ol ((A ++ l.flatMap (extA ts.length k)).map dT), z5, z6, .un]
  | [], A, y5, y6, _, _ => ⟨y5, y6, by simp [forL]⟩
  | s :: l, A, y5, y6, hl, hA => by
    obtain ⟨h1, h2⟩ := (allA_mem _ _ s).mp (hl s (List.mem_cons_self ..))
    have hin := good_in h2
    have nx : 0 ≤ nxt k s ∧ nxt k s ≤ 100 := by
      unfold nxt
      split
      · omega
      · have hm : nth s (k - 1 : Nat) ∈ s := by
          simp [nth, List.getD_eq_getElem?_getD, List.getElem?_eq_getElem (show k - 1 < s.length by omega)]
        have := hin _ hm
        omega
    have ule : (upL (nxt k s) ts.length).length ≤ 100 := by unfold upL; simp only [List.length_map, List.length_range]; omega
    have ele : (extA ts.length k s).length ≤ 100 := by unfold extA; rw [List.length_map]; exact ule
    obtain ⟨z5, z6, ih⟩ := all_l2 x0 ts ht x2 k hk l (A ++ extA ts.length k s) (dT s) (.int (nxt k s)) (fun q hq => hl q (List.mem_cons_of_mem _ hq)) (by simp at hA ⊢; omega)
    refine ⟨z5, z6, ?_⟩
    rw [List.flatMap_cons, ← List.append_assoc, ← ih]
    have lc : ∀ x3 x4 : D, lcL (gtN 7) tYesG f_law_all_c1 [x0, .ls (ts.map dP), x2, x3, x4, dT s, .int (nxt k s), .un] ((upL (nxt k s) ts.length).map D.int) = .ok ((extA ts.length k s).map dT) := fun x3 x4 => by
      unfold extA
      rw [List.map_map]
      refine lcL_mapN _ fun t _ => ?_
      have b : s.length + 1 ≤ lim := by rw [lim_eq]; omega
      simp [f_law_all_c1, dT, b]
    simp only [dT] at lc
    have r2 : rgOk (ts.length : Int) := rgOk_of (by omega) (by omega)
    have b2 : A.length + (extA ts.length k s).length ≤ lim := by rw [lim_eq]; simp at hA; omega
    have b3 : (upL (nxt k s) ts.length).length ≤ lim := by rw [lim_eq]; omega
    have r1 : rgOk (nxt k s) := rgOk_of (by omega) (by omega)
    cases k with
    | zero =>
      have en : nxt 0 s = 0 := rfl
      rw [en] at lc b3 r1
      have er : rng 0 ts.length = (upL 0 ts.length).map D.int := by rw [rng_map]; unfold upL; simp
      simp [forL, f_law_all_l2, dT, r1, r2, er, lc, b2, b3, en]
    | succ j =>
      have en : nxt (j + 1) s = nth s (j : Nat) + 1 := rfl
      have er : rng (nxt (j + 1) s) ((ts.length : Int) - nxt (j + 1) s).toNat = (upL (nxt (j + 1) s) ts.length).map D.int := by rw [rng_map]; rfl
      have ea := nth_at (m := s) (i := ((j : Nat) : Int)) (by omega) (by omega)
      have hk1 : (0 : Int) < (j : Int) + 1 := by omega
      rw [en] at lc b3 r1 er
      simp [forL, f_law_all_l2, dT, ea, hk1, r1, r2, er, lc, b2, b3, en]
theorem all_l3 (x0 : D) (ts : List (Int × Int)) (ht : ts.length ≤ 9) (y5 y6 : D) : ∀ (n k : Nat) (y3 y4 z5 z6 : D), k + n ≤ 5 →
    ∃ w3 w4 w5 w6, forL (gtN 3) f_law_all_l3 (rng k n) [x0, .ls (ts.map dP), .ls ((allA ts.length k).map dT), y3, y4, z5, z6, .un] = .nx [x0, .ls (ts.map dP), .ls ((allA ts.length (k + n)).map dT), w3, w4, w5, w6, .un]
  | 0, k, y3, y4, z5, z6, _ => ⟨y3, y4, z5, z6, by simp [rng_zero, forL]⟩
  | n + 1, k, y3, y4, z5, z6, h => by
    have big : ∀ j, j ≤ 5 → (allA ts.length j).length ≤ 9 ^ 5 := fun j hj => Nat.le_trans (allA_len ts.length j) (Nat.le_trans (Nat.pow_le_pow_left ht j) (Nat.pow_le_pow_right (by omega) hj))
    have e59 : (9 : Nat) ^ 5 = 59049 := by decide
    have hb := big k (by omega)
    have hb2 := big (k + 1) (by omega)
    -- at most ten each
    obtain ⟨v5, v6, e⟩ := all_l2 x0 ts (by omega) (.ls ((allA ts.length k).map dT)) k (by omega) (allA ts.length k) [] z5 z6 (fun _ h => h) (by
      have := allA_len ts.length k
      have h4 : (allA ts.length k).length ≤ 9 ^ 4 := Nat.le_trans this (Nat.le_trans (Nat.pow_le_pow_left ht k) (Nat.pow_le_pow_right (by omega) (by omega)))
      have e4 : (9 : Nat) ^ 4 = 6561 := by decide
      simp
      omega)
    obtain ⟨w3, w4, w5, w6, ih⟩ := all_l3 x0 ts ht y5 y6 n (k + 1) (.int k) (.ls ((allA ts.length (k + 1)).map dT)) v5 v6 (by omega)
    refine ⟨w3, w4, w5, w6, ?_⟩
    rw [show k + (n + 1) = k + 1 + n by omega, ← ih]
    have ea : (allA ts.length k).flatMap (extA ts.length k) = allA ts.length (k + 1) := rfl
    simp only [List.map_nil, List.nil_append, ea] at e
    have r : rng (k : Int) (n + 1) = .int k :: rng ((k : Int) + 1) n := rng_succ ..
    simp [r, forL, f_law_all_l3, e, frzAt]
theorem all_ok (p : Nat) (hp : 1 ≤ p) (hp2 : p ≤ 5) (ts : List (Int × Int)) (hE : EndsOk p ts) (ht : ts.length ≤ 9) : g_law_all [.int p, .ls (ts.map dP)] = .ok (.ol ((trees p ts).map dT)) := by
  obtain ⟨w3, w4, w5, w6, e⟩ := all_l3 (.int p) ts ht .un .un (p - 1) 0 .un .un .un .un (by omega)
  have hr : rgOk ((p : Int) - 1) := rgOk_of (by omega) (by omega)
  have en : ((p : Int) - 1).toNat = p - 1 := by omega
  have hb : (allA ts.length (p - 1)).length ≤ 59049 := Nat.le_trans (allA_len ts.length (p - 1)) (Nat.le_trans (Nat.pow_le_pow_left ht _) (Nat.le_trans (Nat.pow_le_pow_right (by omega) (show p - 1 ≤ 5 by omega)) (by decide)))
  have hl : (allA ts.length (p - 1)).length ≤ lim := by rw [lim_eq]; omega
  have lc : ∀ x2 x3 x4 x6 x7 : D, lcL (gtN 5) f_law_all_c4t f_law_all_c4 [.int p, .ls (ts.map dP), x2, x3, x4, .un, x6, x7] ((allA ts.length (p - 1)).map dT) = .ok ((trees p ts).map dT) := fun x2 x3 x4 x6 x7 => by
    rw [← allA_trees hp ts]
    refine lcL_filterN _ fun s hs => ?_
    obtain ⟨h1, h2⟩ := (allA_mem _ _ s).mp hs
    have mo := lmarks_ok_tp p ts hE (by omega) (by omega) s (good_in h2)
    rw [Int.toNat_natCast] at mo
    have hcs : (sset (marksL p ts s)).length = cnt p (tiesAt ts s) := by rw [marksL_mk]; rfl
    have h5 : p ≤ 4000 := by omega
    refine ⟨?_, fun _ => by simp [f_law_all_c4, dT]⟩
    simp [f_law_all_c4t, dT, mo, marksL_len, hcs, h5]
    omega
  simp only [Nat.zero_add, allA] at e
  have e' : forL (gtN 3) f_law_all_l3 (rng 0 (p - 1)) [.int p, .ls (ts.map dP), .ls [.tp []], .un, .un, .un, .un, .un] = .nx [.int p, .ls (ts.map dP), .ls ((allA ts.length (p - 1)).map dT), w3, w4, w5, w6, .un] := e
  simp [g_law_all, runF, f_law_all, hr, en, e', hl, lc]
end Lw
namespace Lw
open DL L2 TL
def lsum (L l : List Int) : Int := (l.map (nth L)).sum
theorem perm_sumI {l m : List Int} (h : l.Perm m) : l.sum = m.sum := by
  induction h with
  | nil => rfl
  | cons a _ ih => simp [ih]
  | swap a b l => simp; omega
  | trans _ _ h1 h2 => exact h1.trans h2
theorem lsum_perm {L l m : List Int} (h : l.Perm m) : lsum L l = lsum L m := by
  unfold lsum
  exact perm_sumI (h.map _)
/-- shorter, or as long and of a lesser number -/
def KLt (L : List Int) (t u : Int) : Prop := nth L t < nth L u ∨ (nth L t = nth L u ∧ t < u)
instance (L : List Int) (t u : Int) : Decidable (KLt L t u) := by unfold KLt; infer_instance
def cb (L l : List Int) (k : Int) : Nat := (l.filter fun t => decide (KLt L t k)).length
theorem cb_cons (L : List Int) (a : Int) (l : List Int) (k : Int) : cb L (a :: l) k = (if KLt L a k then 1 else 0) + cb L l k := by
  unfold cb
  rw [List.filter_cons]
  by_cases c : KLt L a k
  · simp [c]; omega
  · simp [c]
theorem bel_cons (a : Int) (l : List Int) (x : Int) : bel (a :: l) x = (if a < x then 1 else 0) + bel l x := by
  unfold bel
  rw [List.filter_cons]
  by_cases c : a < x
  · simp [c]; omega
  · simp [c]
theorem lsum_cons (L : List Int) (a : Int) (l : List Int) : lsum L (a :: l) = nth L a + lsum L l := by simp [lsum]
theorem cb_zero {L : List Int} {k : Int} : ∀ {l : List Int}, (∀ t ∈ l, ¬ KLt L t k) → cb L l k = 0
  | [], _ => rfl
  | a :: l, h => by
    rw [cb_cons, if_neg (h a (List.mem_cons_self ..)), cb_zero fun t ht => h t (List.mem_cons_of_mem _ ht)]
/-- place by place shorter: the sum too; where it is alike, lesser numbers -/
theorem dom_el (L : List Int) : ∀ {a b : List Int}, a.Pairwise (KLt L) → b.Pairwise (KLt L) → a.length = b.length → (∀ k, cb L b k ≤ cb L a k) → lsum L a ≤ lsum L b ∧ (lsum L a = lsum L b → ∀ x, bel b x ≤ bel a x)
  | [], [], _, _, _, _ => ⟨Int.le_refl _, fun _ _ => Nat.le_refl _⟩
  | [], _ :: _, _, _, h, _ => by simp at h
  | _ :: _, [], _, _, h, _ => by simp at h
  | a :: as, b :: bs, ha, hb, hl, hd => by
    obtain ⟨a1, a2⟩ := List.pairwise_cons.mp ha
    obtain ⟨b1, b2⟩ := List.pairwise_cons.mp hb
    have hab : ¬ KLt L b a := fun z => by
      have h1 := hd a
      rw [cb_cons, cb_cons, if_pos z, if_neg (by unfold KLt; omega), cb_zero (l := as) fun t ht q => by
        have := a1 t ht
        unfold KLt at this q
        omega] at h1
      omega
    obtain ⟨h1, h2⟩ := dom_el L a2 b2 (by simpa using hl) fun k => by
      have h1 := hd k
      rw [cb_cons, cb_cons] at h1
      by_cases c1 : KLt L a k
      · by_cases c2 : KLt L b k
        · rw [if_pos c1, if_pos c2] at h1; omega
        · rw [cb_zero (l := bs) fun t ht q => by
            have := b1 t ht
            unfold KLt at this q c2
            omega]
          exact Nat.zero_le _
      · have c2 : ¬ KLt L b k := by unfold KLt at c1 hab ⊢; omega
        rw [if_neg c1, if_neg c2] at h1; omega
    rw [lsum_cons, lsum_cons]
    unfold KLt at hab
    refine ⟨by omega, fun e x => ?_⟩
    have h3 := h2 (by omega) x
    rw [bel_cons, bel_cons]
    have : a ≤ b := by omega
    split <;> split <;> omega
theorem split_by {R : Int → Int → Prop} {q : Int → Bool} (hq : ∀ a b, R a b → q b = true → q a = true) : ∀ {l : List Int}, l.Pairwise R → l = l.filter q ++ l.filter fun y => !q y
  | [], _ => rfl
  | a :: l, h => by
    obtain ⟨h1, h2⟩ := List.pairwise_cons.mp h
    cases c : q a with
    | true =>
      rw [List.filter_cons_of_pos c, List.filter_cons_of_neg (by simp [c]), List.cons_append, ← split_by hq h2]
    | false =>
      rw [List.filter_cons_of_neg (by simp [c]), List.filter_cons_of_pos (by simp [c])]
      have : l.filter q = [] := List.filter_eq_nil_iff.mpr fun y hy z => by
        have := hq a y (h1 y hy) z
        rw [c] at this; cases this
      rw [this, List.nil_append]
      congr 1
      refine (List.filter_eq_self.mpr fun y hy => ?_).symm
      cases z : q y with
      | false => rfl
      | true =>
        have := hq a y (h1 y hy) z
        rw [c] at this; cases this
/-- an order of all ties -/
structure Ord (L : List Int) (n : Nat) (O : List Int) : Prop where
  pm : O.Perm (iota n)
  lt : O.Pairwise (KLt L)
theorem Ord.mem {L : List Int} {n : Nat} {O : List Int} (h : Ord L n O) {x : Int} : x ∈ O ↔ 0 ≤ x ∧ x < n := by rw [h.pm.mem_iff, iota_mem]
section
variable {L : List Int} {p : Nat} {ts : List (Int × Int)} {O : List Int}
theorem gr_cb (hE : EndsOk p ts) (hO : Ord L ts.length O) (k : Int) : cb L (gr p ts O []) k = (gr p ts (O.filter fun t => decide (KLt L t k)) []).length := by
  have sp := split_by (R := KLt L) (q := fun t => decide (KLt L t k)) (fun a b h hb => by
    simp only [decide_eq_true_eq] at hb ⊢
    unfold KLt at *
    omega) hO.lt
  have h1 : InT ts.length (O.filter fun t => decide (KLt L t k)) := fun y hy => hO.mem.mp (List.mem_filter.mp hy).1
  have h2 : InT ts.length (O.filter fun t => !decide (KLt L t k)) := fun y hy => hO.mem.mp (List.mem_filter.mp hy).1
  have e : gr p ts O [] = gr p ts (O.filter fun t => !decide (KLt L t k)) (gr p ts (O.filter fun t => decide (KLt L t k)) []) := by
    rw [← gr_app, ← sp]
  obtain ⟨i1, ⟨K1, k1, q1⟩, _⟩ := gr_ok hE (O.filter fun t => decide (KLt L t k)) [] (ind_nil p ts) h1
  obtain ⟨i2, ⟨K2, k2, q2⟩, _⟩ := gr_ok hE (O.filter fun t => !decide (KLt L t k)) _ i1 h2
  rw [e, k2, k1]
  unfold cb
  simp only [List.nil_append, List.filter_append, List.length_append]
  rw [filter_all (l := K1) fun y hy => (List.mem_filter.mp (q1.subset hy)).2, filter_none (l := K2) fun y hy => by have := (List.mem_filter.mp (q2.subset hy)).2; simpa using this]
  simp
theorem kru_ok (hp : 1 ≤ p) (hE : EndsOk p ts) (hO : Ord L ts.length O) : Ind p ts (gr p ts O []) ∧ (gr p ts O []).length + 1 ≤ p ∧ ((gr p ts O []).length + 1 = p → treeB p ts (srt (gr p ts O [])) = true) ∧ (∀ S, treeB p ts S = true → (gr p ts O []).length + 1 = p) ∧ (gr p ts O []).Pairwise (KLt L) := by
  obtain ⟨h1, ⟨K, k1, k2⟩, h3⟩ := gr_ok hE O [] (ind_nil p ts) fun x hx => hO.mem.mp hx
  have hc := h1.ct
  have hcp := cnt_pos hp (tiesAt ts (gr p ts O []))
  refine ⟨h1, by omega, fun e => ?_, fun S hS => ?_, ?_⟩
  · refine treeB_nat.mpr ⟨by rw [srt_len]; omega, srt_good h1.inn h1.nd, ?_⟩
    rw [cnt_srt hE h1.inn]; omega
  · have hI := tree_ind hS hp
    have := Ind.le hE hI h1 fun t ht => h3 t (hO.mem.mpr (hI.inn t ht))
    have := tree_len hp hS
    omega
  · rw [k1, List.nil_append]
    exact hO.lt.sublist k2
theorem kru_least (hp : 1 ≤ p) (hE : EndsOk p ts) (hO : Ord L ts.length O) {S : List Int} (hS : treeB p ts S = true) (hn : S ≠ srt (gr p ts O [])) :
    HT.lexLt (lsum L (srt (gr p ts O [])) :: srt (gr p ts O [])) (lsum L S :: S) = true := by
  obtain ⟨h1, h2, h3, h4, h5⟩ := kru_ok hp hE hO
  have hI := tree_ind hS hp
  have hl := h4 S hS
  have sl := tree_len hp hS
  have rS := (good_iff.mp (treeB_nat.mp hS).2.1).2
  have pS : (O.filter fun t => decide (t ∈ S)).Perm S := by
    refine (List.perm_ext_iff_of_nodup ((hO.pm.nodup_iff.mpr (iota_nodup _)).sublist List.filter_sublist) hI.nd).mpr fun x => ?_
    rw [List.mem_filter, hO.mem, decide_eq_true_eq]
    exact ⟨fun h => h.2, fun h => ⟨hI.inn x h, h⟩⟩
  have dom := dom_el L h5 (hO.lt.sublist (List.filter_sublist (p := fun t => decide (t ∈ S)))) (by rw [pS.length_eq]; omega) fun k => by
    rw [gr_cb hE hO k]
    obtain ⟨j1, _, j3⟩ := gr_ok hE (O.filter fun t => decide (KLt L t k)) [] (ind_nil p ts) (fun y hy => hO.mem.mp (List.mem_filter.mp hy).1)
    have hsub : ∀ y ∈ (O.filter fun t => decide (t ∈ S)).filter (fun t => decide (KLt L t k)), y ∈ S := fun y hy => pS.mem_iff.mp (List.mem_filter.mp hy).1
    refine Ind.le hE (hI.sub hE ((pS.nodup_iff.mpr hI.nd).sublist List.filter_sublist) hsub) j1 fun t ht => j3 t ?_
    exact List.mem_filter.mpr ⟨hO.mem.mpr (hI.inn t (hsub t ht)), (List.mem_filter.mp ht).2⟩
  rw [lsum_perm pS] at dom
  rw [lsum_perm (srt_perm (gr p ts O []))]
  rw [HT.lexLt_cons]
  by_cases e : lsum L (gr p ts O []) = lsum L S
  · rw [if_pos e]
    refine gale_lex (srt_lt h1.nd) rS (by rw [srt_len]; omega) (fun x => ?_) (Ne.symm hn)
    have := dom.2 e x
    rw [bel_perm pS] at this
    rw [bel_perm (srt_perm _)]
    exact this
  · rw [if_neg e]
    have := dom.1
    simp; omega
end
end Lw
noncomputable section
namespace Lw
open DL
def f_law_at : Env → Out := sSeq (sIf (tC2 cLt (eVar 1) (eCall caLen (aCons (eVar 0) (aNil)))) (sRet (eBin opIx (eVar 0) (eVar 1))) (sNil)) (sRet (eC (.int 0)))
def g_law_at : List D → Res D := runF f_law_at 2
def f_law_mix : Env → Out := sSeq (sAsgF 3 (eC (.int 618970019642690137449562111))) (sSeq (sAsgF 4 (eBin opMul (eBin opAdd (eBin opAdd (eBin opMod (eVar 0) (eBin opPow (eC (.int 10)) (eC (.int 60)))) (eBin opMul (eC (.int 7907)) (eVar 1))) (eC (.int 1))) (eC (.int 271828182845904523536028747135266249775)))) (sSeq (sAsgF 5 (eBin opMod (eBin opMul (eVar 4) (eVar 4)) (eVar 3))) (sSeq (sAsgF 5 (eBin opMod (eBin opMul (eBin opAdd (eVar 5) (eBin opMul (eC (.int 104729)) (eBin opAdd (eVar 1) (eC (.int 1))))) (eVar 5)) (eVar 3))) (sRet (eBin opMod (eBin opDiv (eVar 5) (eC (.int 8))) (eVar 2))))))
def g_law_mix : List D → Res D := runF f_law_mix 6
def f_law_web_v2_l1 : Env → Out := sIf (tAn (tC2 cEq (eBin opMod (eBin opDiv (eBin opDiv (eVar 0) (eVar 2)) (eBin opAdd (eVar 3) (eC (.int 1)))) (eC (.int 2))) (eC (.int 0))) (tC2 cNIn (eVar 1) (eLst (aConsO (eC (.int 0)) (aConsO (eUn opNeg (eC (.int 1))) (aNil)))))) (sSeq (sApp 6 (eTup (aConsO (eBin opMod (eVar 1) (eVar 4)) (aConsO (eBin opMod (eBin opDiv (eVar 1) (eVar 4)) (eVar 4)) (aNil))))) (sAsgF 1 (eBin opDiv (eBin opDiv (eVar 1) (eVar 4)) (eVar 4)))) (sApp 6 (eTup (aConsO (eOwn g_law_mix (aCons (eVar 7) (aCons (eBin opMul (eC (.int 2)) (eVar 8)) (aCons (eVar 4) (aNil))))) (aConsO (eOwn g_law_mix (aCons (eVar 7) (aCons (eBin opAdd (eBin opMul (eC (.int 2)) (eVar 8)) (eC (.int 1))) (aCons (eVar 4) (aNil))))) (aNil)))))
def f_law_web_v2 : Env → Out := sSeq (sAsgF 4 (eBin opAdd (eC (.int 1)) (eBin opMod (eVar 0) (eVar 2)))) (sSeq (sAsgF 5 (eBin opMod (eBin opDiv (eVar 0) (eVar 2)) (eBin opAdd (eVar 3) (eC (.int 1))))) (sSeq (sAsg 6 (eLst (aNil))) (sSeq (sAsgF 7 (eVar 1)) (sSeq (sFor (iRg1 (aCons (eVar 5) (aNil))) (gtN 8) f_law_web_v2_l1) (sFrz 6 (sRet (eTup (aConsO (eVar 4) (aConsO (eVar 6) (aNil))))))))))
def g_law_web_v2 : List D → Res D := runF f_law_web_v2 9
end Lw
end
namespace Lw
open DL L2
theorem at_ok (s : List Int) (k : Int) (hk : 0 ≤ k) : ∃ c : Int, g_law_at [.sc (s.map D.int), .int k] = .ok (.int c) := by
  by_cases h : k < s.length
  · obtain ⟨a, e, _⟩ := DL.atI_of hk h
    exact ⟨a, by simp [g_law_at, runF, f_law_at, h, e]⟩
  · exact ⟨0, by simp [g_law_at, runF, f_law_at, h]⟩
theorem log2_le {n k : Nat} (h : n < 2 ^ k) : n.log2 ≤ k := by
  by_cases h0 : n = 0
  · subst h0; simp
  · exact Nat.le_of_lt ((Nat.log2_lt h0).mpr h)
theorem opMul_500 {a b : Int} (h : a.natAbs < 2 ^ 500) (h' : b.natAbs < 2 ^ 500) : opMul (.int a) (.int b) = some (.int (a * b)) := by
  rw [opMul_eq, if_pos]
  have := log2_le h
  have := log2_le h'
  exact .inr (by omega)
/-- the second way of mixing -/
def mPrime : Int := 618970019642690137449562111
def mBig : Int := 271828182845904523536028747135266249775
def mixA (c k : Int) : Int := (c % e60 + 7907 * k + 1) * mBig
def mixB (c k : Int) : Int := mixA c k * mixA c k % mPrime
def mixC (c k : Int) : Int := (mixB c k + 104729 * (k + 1)) * mixB c k % mPrime
def mixG (c k n : Int) : Int := mixC c k / 8 % n
theorem e60_lt : e60 < 2 ^ 250 := by decide
theorem mixG_b (c k n : Int) (hn : 0 < n) : 0 ≤ mixG c k n ∧ mixG c k n < n := ⟨Int.emod_nonneg _ (by omega), Int.emod_lt_of_pos _ hn⟩
theorem mix_ok (c k n : Int) (hk : 0 ≤ k) (hk2 : k ≤ 1000000) (hn : 0 < n) : g_law_mix [.int c, .int k, .int n] = .ok (.int (mixG c k n)) := by
  have c0 : 0 ≤ c % e60 := Int.emod_nonneg _ (by have := e60_pos; omega)
  have c1 : c % e60 < e60 := Int.emod_lt_of_pos _ e60_pos
  have hE := e60_lt
  have hP : (0 : Int) < 618970019642690137449562111 := by decide
  have w0 : 0 ≤ c % e60 + 7907 * k + 1 := by omega
  have w1 : c % e60 + 7907 * k + 1 < 2 ^ 251 := by
    have : (7907 * 1000000 + 1 : Int) < 2 ^ 250 := by decide
    have : (2 : Int) ^ 251 = 2 ^ 250 + 2 ^ 250 := by decide
    omega
  have e1 : opMul (.int (c % e60 + 7907 * k + 1)) (.int 271828182845904523536028747135266249775) = some (.int (mixA c k)) := by
    refine opMul_500 ?_ (by decide)
    have : (c % e60 + 7907 * k + 1).natAbs < 2 ^ 251 := by
      have : ((2 : Nat) ^ 251 : Nat) = ((2 : Int) ^ 251).natAbs := by decide
      omega
    exact Nat.lt_trans this (by decide)
  have A0 : (mixA c k).natAbs < 2 ^ 500 := by
    unfold mixA mBig
    rw [Int.natAbs_mul]
    have h1 : (c % e60 + 7907 * k + 1).natAbs < 2 ^ 251 := by
      have : ((2 : Nat) ^ 251 : Nat) = ((2 : Int) ^ 251).natAbs := by decide
      omega
    have h2 : (271828182845904523536028747135266249775 : Int).natAbs < 2 ^ 200 := by decide
    calc _ ≤ 2 ^ 251 * 2 ^ 200 := Nat.mul_le_mul (Nat.le_of_lt h1) (Nat.le_of_lt h2)
      _ < 2 ^ 500 := by decide
  have e2 := opMul_500 A0 A0
  have B0 : 0 ≤ mixB c k := Int.emod_nonneg _ (by decide)
  have B1 : mixB c k < mPrime := Int.emod_lt_of_pos _ (by decide)
  have Bn : (mixB c k).natAbs < 2 ^ 200 := by
    have : mPrime < 2 ^ 200 := by decide
    have : ((2 : Nat) ^ 200 : Nat) = ((2 : Int) ^ 200).natAbs := by decide
    omega
  have e3 : opMul (.int (mixB c k + 104729 * (k + 1))) (.int (mixB c k)) = some (.int ((mixB c k + 104729 * (k + 1)) * mixB c k)) := by
    refine opMul_500 ?_ (Nat.lt_trans Bn (by decide))
    have : (mixB c k + 104729 * (k + 1)).natAbs ≤ (mixB c k).natAbs + 104729 * 1000001 := by omega
    have : (2 : Nat) ^ 200 + 104729 * 1000001 < 2 ^ 500 := by decide
    omega
  have e4 : mixA c k * mixA c k % 618970019642690137449562111 = mixB c k := rfl
  have e5 : (mixB c k + 104729 * (k + 1)) * mixB c k % 618970019642690137449562111 = mixC c k := rfl
  simp [g_law_mix, runF, f_law_mix, e1, e2, hP, e4, e3, e5, hn, mixG]
end Lw
namespace Lw
open DL L2
theorem nin_two (a b c : Int) : cNIn (.int a) (.ls [.int b, .int c]) = some (!decide (a ∈ [b, c])) := by
  have := cNIn_ls (a := a) (ns := [b, c])
  simpa using this
theorem web2_l1 (head most tm p : Int) (whole : Int) (hm : 0 < most) (hm2 : most ≤ 1000) (ht : 0 ≤ tm) (ht2 : tm ≤ 1000) (hp : 0 < p) (hp2 : p ≤ 1000) (x5 : D) : ∀ (n : Nat) (lo : Int) (c : Int) (l : List (Int × Int)) (y8 : D), 0 ≤ lo → lo + n ≤ 1000 → l.length + n ≤ 1000 → EndsOk p l →
    ∃ (c' : Int) (l' : List (Int × Int)) (z8 : D), l'.length = l.length + n ∧ EndsOk p l' ∧ forL (gtN 8) f_law_web_v2_l1 (rng lo n) [.int head, .int c, .int most, .int tm, .int p, x5, .ol (l.map dP), .int whole, y8] = .nx [.int head, .int c', .int most, .int tm, .int p, x5, .ol (l'.map dP), .int whole, z8]
  | 0, lo, c, l, y8, _, _, _, hE => ⟨c, l, y8, by omega, hE, by simp [rng_zero, forL]⟩
  | n + 1, lo, c, l, y8, h0, h1, h2, hE => by
    have a1 : most < 1073741824 := by omega
    have a2 : 0 < tm + 1 := by omega
    have a3 : tm + 1 < 1073741824 := by omega
    have a4 : p < 1073741824 := by omega
    have hlim : l.length < lim := by rw [lim_eq]; omega
    by_cases hh : head / most / (tm + 1) % 2 = 0 ∧ c ∉ [0, -1]
    · obtain ⟨hA, hB⟩ := hh
      have hB' : ¬ c = 0 ∧ ¬ c = -1 := by simpa using hB
      have o1 := Int.emod_nonneg c (by omega : p ≠ 0)
      have o2 := Int.emod_lt_of_pos c hp
      have p1 := Int.emod_nonneg (c / p) (by omega : p ≠ 0)
      have p2 := Int.emod_lt_of_pos (c / p) hp
      obtain ⟨c', l', z8, h3, h4, h5⟩ := web2_l1 head most tm p whole hm hm2 ht ht2 hp hp2 x5 n (lo + 1) (c / p / p) (l ++ [(c % p, c / p % p)]) (.int lo) (by omega) (by omega) (by simp; omega) (hE.app (.one ⟨⟨o1, o2⟩, p1, p2⟩))
      refine ⟨c', l', z8, by simp at h3; omega, h4, ?_⟩
      rw [← h5]
      simp [rng_succ, forL, f_law_web_v2_l1, hm, a1, a2, a3, hp, a4, nin_two, hA, hB', hlim]
    · obtain ⟨o1, o2⟩ := mixG_b whole (2 * lo) p hp
      obtain ⟨p1, p2⟩ := mixG_b whole (2 * lo + 1) p hp
      have m1 := mix_ok whole (2 * lo) p (by omega) (by omega) hp
      have m2 := mix_ok whole (2 * lo + 1) p (by omega) (by omega) hp
      obtain ⟨c', l', z8, h3, h4, h5⟩ := web2_l1 head most tm p whole hm hm2 ht ht2 hp hp2 x5 n (lo + 1) c (l ++ [(mixG whole (2 * lo) p, mixG whole (2 * lo + 1) p)]) (.int lo) (by omega) (by omega) (by simp; omega) (hE.app (.one ⟨⟨o1, o2⟩, p1, p2⟩))
      refine ⟨c', l', z8, by simp at h3; omega, h4, ?_⟩
      rw [← h5]
      by_cases hA : head / most / (tm + 1) % 2 = 0
      · have hB : c ∈ [0, -1] := Classical.not_not.mp fun z => hh ⟨hA, z⟩
        have hB' : c = 0 ∨ c = -1 := by simpa using hB
        rcases hB' with rfl | rfl <;> simp [rng_succ, forL, f_law_web_v2_l1, hm, a1, a2, a3, hp, a4, nin_two, hA, hlim, m1, m2]
      · simp [rng_succ, forL, f_law_web_v2_l1, hm, a1, a2, a3, hp, a4, hA, hlim, m1, m2]
/-- the web of a head and a number -/
theorem web2_ok (head cell most tm : Int) (h1 : 1 ≤ most) (h2 : most ≤ 1000) (h3 : 0 ≤ tm) (h4 : tm ≤ 500) :
    ∃ (p : Int) (l : List (Int × Int)), 1 ≤ p ∧ p ≤ most ∧ (l.length : Int) ≤ tm ∧ EndsOk p l ∧ g_law_web_v2 [.int head, .int cell, .int most, .int tm] = .ok (.tp [.int p, .ls (l.map dP)]) := by
  have m0 := Int.emod_nonneg head (by omega : most ≠ 0)
  have m1 := Int.emod_lt_of_pos head (by omega : 0 < most)
  have n0 := Int.emod_nonneg (head / most) (by omega : tm + 1 ≠ 0)
  have n1 := Int.emod_lt_of_pos (head / most) (by omega : 0 < tm + 1)
  obtain ⟨c', l, z8, l1, l2, l3⟩ := web2_l1 head most tm (1 + head % most) cell (by omega) h2 h3 (by omega) (by omega) (by omega) (.int (head / most % (tm + 1))) (head / most % (tm + 1)).toNat 0 cell [] .un (by omega) (by omega) (by simp; omega) (fun _ h => nomatch h)
  simp at l1 l3
  have a0 : 0 < most := by omega
  have a1 : most < 1073741824 := by omega
  have a2 : 0 < tm + 1 := by omega
  have hr : rgOk (head / most % (tm + 1)) := rgOk_of (by omega) (by omega)
  refine ⟨1 + head % most, l, by omega, by omega, by omega, l2, ?_⟩
  simp [g_law_web_v2, runF, f_law_web_v2, a0, a1, a2, hr, l3, frzAt]
end Lw
noncomputable section
namespace Lw
open DL
def f_look_at_lengths : Env → Out := sIf (tC2 cNe (eCall caLen (aCons (eVar 1) (aNil))) (eCall caLen (aCons (eUn (opFld 14 1) (eVar 0)) (aNil)))) (sRaise 9) (sNil)
def g_look_at_lengths : List D → Res D := runF f_look_at_lengths 2
def f_law_stir : Env → Out := sSeq (sAsgF 2 (eBin opMod (eBin opMul (eBin opAdd (eBin opAdd (eBin opMod (eVar 0) (eBin opPow (eC (.int 10)) (eC (.int 60)))) (eBin opMul (eC (.int 977)) (eVar 1))) (eC (.int 1))) (eC (.int 48271))) (eC (.int 2147483647)))) (sSeq (sAsgF 2 (eBin opMod (eBin opMul (eVar 2) (eVar 2)) (eC (.int 2147483629)))) (sRet (eBin opDiv (eBin opMod (eBin opMul (eBin opAdd (eVar 2) (eBin opMul (eC (.int 40692)) (eBin opAdd (eVar 1) (eC (.int 3))))) (eC (.int 1583458089))) (eC (.int 2147483629))) (eC (.int 8)))))
def g_law_stir : List D → Res D := runF f_law_stir 3
def f_law_numbers_v3_l1 : Env → Out := sSeq (sAsgF 5 (eBin opMod (eBin opIx (eVar 0) (eVar 4)) (eBin opPow (eC (.int 10)) (eC (.int 18))))) (sIf (tC2 cLt (eCall caLen (aCons (eVar 3) (aNil))) (eVar 2)) (sApp 3 (eVar 5)) (sSet 3 (eBin opMod (eVar 4) (eVar 2)) (eBin opMod (eBin opAdd (eBin opMul (eBin opIx (eVar 3) (eBin opMod (eVar 4) (eVar 2))) (eC (.int 10007))) (eVar 5)) (eBin opPow (eC (.int 10)) (eC (.int 18))))))
def f_law_numbers_v3 : Env → Out := sSeq (sAsg 3 (eLst (aNil))) (sSeq (sFor (iRg2 (aCons (eVar 1) (aCons (eCall caLen (aCons (eVar 0) (aNil))) (aNil)))) (gtN 4) f_law_numbers_v3_l1) (sRetV 3))
def g_law_numbers_v3 : List D → Res D := runF f_law_numbers_v3 6
def f_law_digits_l1 : Env → Out := sSeq (sIf (tC2 cIn (eVar 6) (eLst (aConsO (eC (.int 0)) (aConsO (eUn opNeg (eC (.int 1))) (aNil))))) (sApp 5 (eTup (aConsO (eBin opMod (eOwn g_law_stir (aCons (eVar 4) (aCons (eBin opMul (eC (.int 2)) (eVar 7)) (aNil)))) (eVar 3)) (aConsO (eBin opMod (eOwn g_law_stir (aCons (eVar 4) (aCons (eBin opAdd (eBin opMul (eC (.int 2)) (eVar 7)) (eC (.int 1))) (aNil)))) (eVar 3)) (aNil))))) (sApp 5 (eTup (aConsO (eBin opMod (eVar 6) (eVar 3)) (aConsO (eBin opMod (eBin opDiv (eVar 6) (eVar 3)) (eVar 3)) (aNil)))))) (sAsgF 6 (eBin opDiv (eVar 6) (eBin opMul (eVar 3) (eVar 3))))
def f_law_digits : Env → Out := sSeq (sAsgF 3 (eBin opAdd (eC (.int 1)) (eBin opMod (eVar 0) (eVar 1)))) (sSeq (sAsgF 4 (eBin opDiv (eVar 0) (eVar 1))) (sSeq (sAsg 5 (eLst (aNil))) (sSeq (sAsgF 6 (eBin opDiv (eVar 4) (eBin opAdd (eVar 2) (eC (.int 1))))) (sSeq (sFor (iRg1 (aCons (eBin opMod (eVar 4) (eBin opAdd (eVar 2) (eC (.int 1)))) (aNil))) (gtN 7) f_law_digits_l1) (sFrz 5 (sRet (eTup (aConsO (eVar 3) (aConsO (eVar 5) (aNil))))))))))
def g_law_digits : List D → Res D := runF f_law_digits 8
def f_law_web_v3_l1 : Env → Out := sSeq (sAsgF 8 (eBin opMod (eOwn g_law_stir (aCons (eVar 7) (aCons (eC (.int 1)) (aNil)))) (eVar 4))) (sSeq (sAsgF 9 (eBin opMod (eOwn g_law_stir (aCons (eVar 7) (aCons (eC (.int 2)) (aNil)))) (eVar 4))) (sSeq (sIf (tAn (tC2 cLt (eBin opAdd (eVar 6) (eC (.int 1))) (eVar 4)) (tC2 cGt (eBin opMod (eOwn g_law_stir (aCons (eVar 7) (aCons (eC (.int 3)) (aNil)))) (eC (.int 8))) (eC (.int 0)))) (sSeq (sAsgF 8 (eBin opMod (eOwn g_law_stir (aCons (eVar 7) (aCons (eC (.int 1)) (aNil)))) (eBin opAdd (eVar 6) (eC (.int 1))))) (sAsgF 9 (eBin opAdd (eVar 6) (eC (.int 1))))) (sNil)) (sApp 5 (eBin opIx (eLst (aConsO (eTup (aConsO (eVar 8) (aConsO (eVar 9) (aNil)))) (aConsO (eTup (aConsO (eVar 9) (aConsO (eVar 8) (aNil)))) (aNil)))) (eBin opMod (eOwn g_law_stir (aCons (eVar 7) (aCons (eC (.int 4)) (aNil)))) (eC (.int 2)))))))
def f_law_web_v3 : Env → Out := sSeq (sAsgF 3 (eOwn g_law_at (aCons (eVar 0) (aCons (eC (.int 0)) (aNil))))) (sSeq (sIf (tC2 cEq (eBin opMod (eVar 3) (eC (.int 2))) (eC (.int 0))) (sRet (eOwn g_law_digits (aCons (eOwn g_law_at (aCons (eVar 0) (aCons (eC (.int 1)) (aNil)))) (aCons (eVar 1) (aCons (eVar 2) (aNil)))))) (sNil)) (sSeq (sAsgF 4 (eBin opAdd (eC (.int 1)) (eBin opMod (eBin opDiv (eVar 3) (eC (.int 2))) (eVar 1)))) (sSeq (sAsg 5 (eLst (aNil))) (sSeq (sFor (iEnm (aCons (eOwn g_law_numbers_v3 (aCons (eVar 0) (aCons (eC (.int 1)) (aCons (eVar 2) (aNil))))) (aNil))) (gtT 2 (gtCons (gtN 6) (gtCons (gtN 7) (gtNil)))) f_law_web_v3_l1) (sFrz 5 (sRet (eTup (aConsO (eVar 4) (aConsO (eVar 5) (aNil))))))))))
def g_law_web_v3 : List D → Res D := runF f_law_web_v3 10
def f_law_lengths_l1 : Env → Out := sSeq (sIf (tAn (tC2 cEq (eBin opMod (eVar 2) (eC (.int 2))) (eC (.int 0))) (tC2 cIn (eVar 3) (eLst (aConsO (eC (.int 0)) (aConsO (eUn opNeg (eC (.int 1))) (aNil)))))) (sApp 4 (eBin opSub (eBin opMod (eOwn g_law_stir (aCons (eVar 2) (aCons (eBin opAdd (eC (.int 40)) (eVar 5)) (aNil)))) (eC (.int 7))) (eC (.int 3)))) (sIf (tC2 cEq (eBin opMod (eVar 2) (eC (.int 2))) (eC (.int 0))) (sApp 4 (eBin opSub (eBin opMod (eVar 3) (eC (.int 7))) (eC (.int 3)))) (sIf (tC2 cEq (eBin opMod (eBin opDiv (eVar 2) (eC (.int 2))) (eC (.int 3))) (eC (.int 0))) (sSeq (sAsgF 6 (eBin opMul (eBin opAdd (eBin opAdd (eBin opMod (eVar 2) (eBin opPow (eC (.int 10)) (eC (.int 60)))) (eBin opMul (eC (.int 7919)) (eVar 5))) (eC (.int 1))) (eBin opPow (eBin opAdd (eC (.int 48271)) (eBin opMul (eC (.int 2)) (eVar 5))) (eC (.int 12))))) (sApp 4 (eBin opSub (eBin opMod (eVar 6) (eBin opPow (eC (.int 10)) (eC (.int 50)))) (eBin opMul (eC (.int 5)) (eBin opPow (eC (.int 10)) (eC (.int 49))))))) (sApp 4 (eBin opSub (eBin opMod (eOwn g_law_stir (aCons (eVar 2) (aCons (eBin opAdd (eC (.int 70)) (eVar 5)) (aNil)))) (eBin opIx (eLst (aConsO (eC (.int 3)) (aConsO (eC (.int 9)) (aNil)))) (eBin opMod (eBin opDiv (eVar 2) (eC (.int 6))) (eC (.int 2))))) (eC (.int 1))))))) (sAsgF 3 (eBin opDiv (eVar 3) (eC (.int 7))))
def f_law_lengths : Env → Out := sSeq (sAsgF 2 (eOwn g_law_at (aCons (eVar 0) (aCons (eC (.int 2)) (aNil))))) (sSeq (sAsgF 3 (eBin opDiv (eVar 2) (eC (.int 2)))) (sSeq (sAsg 4 (eLst (aNil))) (sSeq (sFor (iRg1 (aCons (eVar 1) (aNil))) (gtN 5) f_law_lengths_l1) (sRetV 4))))
def g_law_lengths : List D → Res D := runF f_law_lengths 7
end Lw
end
namespace Lw
open DL L2
def stA (c k : Int) : Int := (c % e60 + 977 * k + 1) * 48271 % 2147483647
def stB (c k : Int) : Int := stA c k * stA c k % 2147483629
def stF (c k : Int) : Int := (stB c k + 40692 * (k + 3)) * 1583458089 % 2147483629 / 8
theorem stF_nn (c k : Int) : 0 ≤ stF c k := by unfold stF; omega
theorem stir_ok (c k : Int) : g_law_stir [.int c, .int k] = .ok (.int (stF c k)) := by
  have h1 : 0 ≤ stA c k ∧ stA c k < 2147483647 := by unfold stA; omega
  have a1 : -18446744073709551616 < stA c k := by omega
  have a2 : stA c k < 18446744073709551616 := by omega
  have e1 : (c % e60 + 977 * k + 1) * 48271 % 2147483647 = stA c k := rfl
  have e2 : stA c k * stA c k % 2147483629 = stB c k := rfl
  have e3 : (stB c k + 40692 * (k + 3)) * 1583458089 % 2147483629 / 8 = stF c k := rfl
  simp [g_law_stir, runF, f_law_stir, e1, a1, a2, e2, e3]
theorem opPow_18 : opPow (.int 10) (.int 18) = some (.int 1000000000000000000) := by
  rw [opPow_eq, if_pos (by unfold CPow; decide)]; rfl
theorem nums_l1 (s : List Int) (start most : Int) (hs : s.length ≤ 1000) (h0 : 0 ≤ start) (hm : 0 < most) (hm2 : most ≤ 1000) (y4 y5 : D) :
    ∃ (l : List Int) (z4 z5 : D), (l.length : Int) ≤ most ∧ forL (gtN 4) f_law_numbers_v3_l1 (rng start (s.length - start).toNat) [.sc (s.map D.int), .int start, .int most, .ol [], y4, y5] = .nx [.sc (s.map D.int), .int start, .int most, .ol (l.map D.int), z4, z5] := by
  obtain ⟨g', e, l, z4, z5, h1, rfl⟩ := for_rngN (s := 4) (b := f_law_numbers_v3_l1) (lo := start) (n := (s.length - start).toNat)
    (fun i g => ∃ (l : List Int) (y4 y5 : D), (l.length : Int) ≤ most ∧ g = [.sc (s.map D.int), .int start, .int most, .ol (l.map D.int), y4, y5])
    (g := [.sc (s.map D.int), .int start, .int most, .ol [], y4, y5]) ⟨[], y4, y5, by simp; omega, rfl⟩ (fun i g hi ⟨l, y4, y5, hl, hg⟩ => by
      subst hg
      obtain ⟨c, ec, _⟩ := DL.atI_of (l := s) (i := start + (i : Int)) (by omega) (by omega)
      by_cases q : (l.length : Int) < most
      · have hlim : l.length < lim := by rw [lim_eq]; omega
        refine ⟨_, .inl ?_, l ++ [c % 1000000000000000000], .int (start + (i : Int)), .int (c % 1000000000000000000), by simp; omega, rfl⟩
        simp [f_law_numbers_v3_l1, ec, opPow_18, q, hlim]
      · have hat := Int.emod_lt_of_pos (start + (i : Int)) hm
        have hat0 : 0 ≤ (start + (i : Int)) % most := Int.emod_nonneg _ (by omega)
        obtain ⟨a, ea, _⟩ := DL.atI_of (l := l) (i := (start + (i : Int)) % most) hat0 (by omega)
        have hix : L2.ixN (l.map D.int).length ((start + (i : Int)) % most) = some ((start + (i : Int)) % most).toNat := ixN_nat hat0 (by simp; omega)
        refine ⟨_, .inl ?_, l.set ((start + (i : Int)) % most).toNat ((a * 10007 + c % 1000000000000000000) % 1000000000000000000), .int (start + (i : Int)), .int (c % 1000000000000000000), by simpa using hl, rfl⟩
        simp at hix
        simp [f_law_numbers_v3_l1, ec, opPow_18, q, hm, ea, hix])
  exact ⟨l, z4, z5, h1, e⟩
theorem nums_ok (s : List Int) (start most : Int) (hs : s.length ≤ 1000) (h0 : 0 ≤ start) (h00 : start ≤ 1000) (hm : 0 < most) (hm2 : most ≤ 1000) :
    ∃ l : List Int, (l.length : Int) ≤ most ∧ g_law_numbers_v3 [.sc (s.map D.int), .int start, .int most] = .ok (.ol (l.map D.int)) := by
  obtain ⟨l, z4, z5, h1, e⟩ := nums_l1 s start most hs h0 hm hm2 .un .un
  have b4 : rgOk start := rgOk_of (by omega) (by omega)
  have b5 : rgOk (s.length : Int) := rgOk_of (by omega) (by omega)
  exact ⟨l, h1, by simp [g_law_numbers_v3, runF, f_law_numbers_v3, b4, b5, e]⟩
theorem in_two (a b c : Int) : cIn (.int a) (.ls [.int b, .int c]) = some (decide (a ∈ [b, c])) := by
  have := cIn_ls (a := a) (ns := [b, c])
  simpa using this
theorem digits_l1 (x0 x1 x2 : D) (p whole : Int) (hp : 0 < p) (hp2 : p ≤ 1000) : ∀ (n : Nat) (lo : Int) (r : Int) (l : List (Int × Int)) (y7 : D), 0 ≤ lo → lo + n ≤ 1000 → l.length + n ≤ 1000 → EndsOk p l →
    ∃ (r' : Int) (l' : List (Int × Int)) (z7 : D), l'.length = l.length + n ∧ EndsOk p l' ∧ forL (gtN 7) f_law_digits_l1 (rng lo n) [x0, x1, x2, .int p, .int whole, .ol (l.map dP), .int r, y7] = .nx [x0, x1, x2, .int p, .int whole, .ol (l'.map dP), .int r', z7]
  | 0, lo, c, l, y8, _, _, _, hE => ⟨c, l, y8, by omega, hE, by simp [rng_zero, forL]⟩
  | n + 1, lo, c, l, y8, h0, h1, h2, hE => by
    have a4 : p < 1073741824 := by omega
    have a5 : -18446744073709551616 < p := by omega
    have a6 : p < 18446744073709551616 := by omega
    have a7 : 0 < p * p := Int.mul_pos hp hp
    have a8 : p * p < 1073741824 := by
      have : p * p ≤ 1000 * 1000 := Int.mul_le_mul hp2 hp2 (by omega) (by omega)
      omega
    have hlim : l.length < lim := by rw [lim_eq]; omega
    by_cases hB : c ∈ [0, -1]
    · have hB' : c = 0 ∨ c = -1 := by simpa using hB
      have o1 := Int.emod_nonneg (stF whole (2 * lo)) (by omega : p ≠ 0)
      have o2 := Int.emod_lt_of_pos (stF whole (2 * lo)) hp
      have p1 := Int.emod_nonneg (stF whole (2 * lo + 1)) (by omega : p ≠ 0)
      have p2 := Int.emod_lt_of_pos (stF whole (2 * lo + 1)) hp
      obtain ⟨c', l', z8, h3, h4, h5⟩ := digits_l1 x0 x1 x2 p whole hp hp2 n (lo + 1) (c / (p * p)) (l ++ [(stF whole (2 * lo) % p, stF whole (2 * lo + 1) % p)]) (.int lo) (by omega) (by omega) (by simp; omega) (hE.app (.one ⟨⟨o1, o2⟩, p1, p2⟩))
      refine ⟨c', l', z8, by simp at h3; omega, h4, ?_⟩
      rw [← h5]
      simp [rng_succ, forL, f_law_digits_l1, in_two, hB', hp, a4, a5, a6, a7, a8, stir_ok, hlim]
    · have hB' : ¬ (c = 0 ∨ c = -1) := by simpa using hB
      have o1 := Int.emod_nonneg c (by omega : p ≠ 0)
      have o2 := Int.emod_lt_of_pos c hp
      have p1 := Int.emod_nonneg (c / p) (by omega : p ≠ 0)
      have p2 := Int.emod_lt_of_pos (c / p) hp
      obtain ⟨c', l', z8, h3, h4, h5⟩ := digits_l1 x0 x1 x2 p whole hp hp2 n (lo + 1) (c / (p * p)) (l ++ [(c % p, c / p % p)]) (.int lo) (by omega) (by omega) (by simp; omega) (hE.app (.one ⟨⟨o1, o2⟩, p1, p2⟩))
      refine ⟨c', l', z8, by simp at h3; omega, h4, ?_⟩
      rw [← h5]
      simp [rng_succ, forL, f_law_digits_l1, in_two, hB', hp, a4, a5, a6, a7, a8, hlim]
theorem digits_ok (c most tm : Int) (h1 : 1 ≤ most) (h2 : most ≤ 1000) (h3 : 0 ≤ tm) (h4 : tm ≤ 500) :
    ∃ (p : Int) (l : List (Int × Int)), 1 ≤ p ∧ p ≤ most ∧ (l.length : Int) ≤ tm ∧ EndsOk p l ∧ g_law_digits [.int c, .int most, .int tm] = .ok (.tp [.int p, .ls (l.map dP)]) := by
  have m0 := Int.emod_nonneg c (by omega : most ≠ 0)
  have m1 := Int.emod_lt_of_pos c (by omega : 0 < most)
  have n0 := Int.emod_nonneg (c / most) (by omega : tm + 1 ≠ 0)
  have n1 := Int.emod_lt_of_pos (c / most) (by omega : 0 < tm + 1)
  obtain ⟨c', l, z8, l1, l2, l3⟩ := digits_l1 (.int c) (.int most) (.int tm) (1 + c % most) (c / most) (by omega) (by omega) (c / most % (tm + 1)).toNat 0 (c / most / (tm + 1)) [] .un (by omega) (by omega) (by simp; omega) (fun _ h => nomatch h)
  simp at l1 l3
  have a0 : 0 < most := by omega
  have a1 : most < 1073741824 := by omega
  have a2 : 0 < tm + 1 := by omega
  have a3 : tm + 1 < 1073741824 := by omega
  have hr : rgOk (c / most % (tm + 1)) := rgOk_of (by omega) (by omega)
  refine ⟨1 + c % most, l, by omega, by omega, by omega, l2, ?_⟩
  simp [g_law_digits, runF, f_law_digits, a0, a1, a2, a3, hr, l3, frzAt]
theorem web3_l1 (x0 x1 x2 x3 : D) (p : Int) (hp : 0 < p) (hp2 : p ≤ 1000) : ∀ (ns : List Int) (k : Nat) (l : List (Int × Int)) (y6 y7 y8 y9 : D), l.length + ns.length ≤ 1000 → EndsOk p l →
    ∃ (l' : List (Int × Int)) (z6 z7 z8 z9 : D), l'.length = l.length + ns.length ∧ EndsOk p l' ∧ forL (gtT 2 (gtCons (gtN 6) (gtCons (gtN 7) (gtNil)))) f_law_web_v3_l1 (enm k (ns.map D.int)) [x0, x1, x2, x3, .int p, .ol (l.map dP), y6, y7, y8, y9] = .nx [x0, x1, x2, x3, .int p, .ol (l'.map dP), z6, z7, z8, z9]
  | [], k, l, y6, y7, y8, y9, _, hE => ⟨l, y6, y7, y8, y9, by simp, hE, by simp [enm, forL]⟩
  | n :: ns, k, l, y6, y7, y8, y9, h2, hE => by
    have a4 : p < 1073741824 := by omega
    have hlim : l.length < lim := by rw [lim_eq]; simp at h2; omega
    have fin : ∀ (a b : Int), (0 ≤ a ∧ a < p) → (0 ≤ b ∧ b < p) →
        f_law_web_v3_l1 [x0, x1, x2, x3, .int p, .ol (l.map dP), .int k, .int n, y8, y9] = .nx [x0, x1, x2, x3, .int p, .ol ((l ++ [if stF n 4 % 2 = 0 then (a, b) else (b, a)]).map dP), .int k, .int n, .int a, .int b] →
        ∃ (l' : List (Int × Int)) (z6 z7 z8 z9 : D), l'.length = l.length + (n :: ns).length ∧ EndsOk p l' ∧ forL (gtT 2 (gtCons (gtN 6) (gtCons (gtN 7) (gtNil)))) f_law_web_v3_l1 (enm k ((n :: ns).map D.int)) [x0, x1, x2, x3, .int p, .ol (l.map dP), y6, y7, y8, y9] = .nx [x0, x1, x2, x3, .int p, .ol (l'.map dP), z6, z7, z8, z9] := fun a b ha hb e => by
      obtain ⟨l', z6, z7, z8, z9, h3, h4, h5⟩ := web3_l1 x0 x1 x2 x3 p hp hp2 ns (k + 1) (l ++ [if stF n 4 % 2 = 0 then (a, b) else (b, a)]) (.int k) (.int n) (.int a) (.int b) (by simp at h2 ⊢; omega) (hE.app (by
        by_cases q : stF n 4 % 2 = 0
        · rw [if_pos q]; exact .one ⟨ha, hb⟩
        · rw [if_neg q]; exact .one ⟨hb, ha⟩))
      refine ⟨l', z6, z7, z8, z9, by simp at h3 ⊢; omega, h4, ?_⟩
      rw [← h5]
      simp [forL, enm, e]
    have two : stF n 4 % 2 = 0 ∨ stF n 4 % 2 = 1 := by omega
    by_cases hB : ((k : Int) + 1 < p ∧ 0 < stF n 3 % 8)
    · have k1 : (0 : Int) < (k : Int) + 1 := by omega
      have o1 := Int.emod_nonneg (stF n 1) (by omega : (k : Int) + 1 ≠ 0)
      have o2 := Int.emod_lt_of_pos (stF n 1) k1
      refine fin (stF n 1 % ((k : Int) + 1)) ((k : Int) + 1) ⟨o1, by omega⟩ ⟨by omega, hB.1⟩ ?_
      rcases two with q | q <;> simp [f_law_web_v3_l1, stir_ok, hp, a4, hB.1, hB.2, k1, q, hlim]
    · have o1 := Int.emod_nonneg (stF n 1) (by omega : p ≠ 0)
      have o2 := Int.emod_lt_of_pos (stF n 1) hp
      have p1 := Int.emod_nonneg (stF n 2) (by omega : p ≠ 0)
      have p2 := Int.emod_lt_of_pos (stF n 2) hp
      refine fin (stF n 1 % p) (stF n 2 % p) ⟨o1, o2⟩ ⟨p1, p2⟩ ?_
      by_cases c1 : (k : Int) + 1 < p
      · have c2 : ¬ 0 < stF n 3 % 8 := fun z => hB ⟨c1, z⟩
        rcases two with q | q <;> simp [f_law_web_v3_l1, stir_ok, hp, a4, c1, c2, q, hlim]
      · rcases two with q | q <;> simp [f_law_web_v3_l1, stir_ok, hp, a4, c1, q, hlim]
theorem web3_ok (s : List Int) (most tm : Int) (hs : s.length ≤ 1000) (h1 : 1 ≤ most) (h2 : most ≤ 1000) (h3 : 1 ≤ tm) (h4 : tm ≤ 500) :
    ∃ (p : Int) (l : List (Int × Int)), 1 ≤ p ∧ p ≤ most ∧ (l.length : Int) ≤ tm ∧ EndsOk p l ∧ g_law_web_v3 [.sc (s.map D.int), .int most, .int tm] = .ok (.tp [.int p, .ls (l.map dP)]) := by
  obtain ⟨c, ec⟩ := at_ok s 0 (by omega)
  obtain ⟨c1, ec1⟩ := at_ok s 1 (by omega)
  by_cases q : c % 2 = 0
  · obtain ⟨p, l, l1, l2, l3, l4, e⟩ := digits_ok c1 most tm h1 h2 (by omega) h4
    exact ⟨p, l, l1, l2, l3, l4, by simp [g_law_web_v3, runF, f_law_web_v3, ec, q, ec1, e]⟩
  · obtain ⟨ns, n1, en⟩ := nums_ok s 1 tm hs (by omega) (by omega) (by omega) (by omega)
    have m0 := Int.emod_nonneg (c / 2) (by omega : most ≠ 0)
    have m1 := Int.emod_lt_of_pos (c / 2) (by omega : 0 < most)
    obtain ⟨l, z6, z7, z8, z9, l1, l2, l3⟩ := web3_l1 (.sc (s.map D.int)) (.int most) (.int tm) (.int c) (1 + c / 2 % most) (by omega) (by omega) ns 0 [] .un .un .un .un (by simp; omega) (fun _ h => nomatch h)
    have a0 : 0 < most := by omega
    refine ⟨1 + c / 2 % most, l, by omega, by omega, by simp at l1; omega, l2, ?_⟩
    simp at l3
    simp [g_law_web_v3, runF, f_law_web_v3, ec, q, en, a0, l3, frzAt]
theorem opPow_50 : opPow (.int 10) (.int 50) = some (.int (10 ^ 50)) := by
  rw [opPow_eq, if_pos (by unfold CPow; decide)]; rfl
theorem opPow_49 : opPow (.int 10) (.int 49) = some (.int (10 ^ 49)) := by
  rw [opPow_eq, if_pos (by unfold CPow; decide)]; rfl
theorem pow12_ok : ∀ k : Nat, k < 100 → CPow (48271 + 2 * (k : Int)) 12 := by unfold CPow; decide
theorem opPow_12 {k : Int} (h : 0 ≤ k) (h2 : k < 100) : opPow (.int (48271 + 2 * k)) (.int 12) = some (.int ((48271 + 2 * k) ^ 12)) := by
  have := pow12_ok k.toNat (by omega)
  rw [show ((k.toNat : Nat) : Int) = k by omega] at this
  rw [opPow_eq, if_pos this]; rfl
theorem pow12_lt : ∀ k : Nat, k < 100 → ((48271 + 2 * (k : Int)) ^ 12).natAbs < 2 ^ 500 := by decide
theorem lens_l1 (x0 x1 : D) (hd : Int) : ∀ (n : Nat) (lo : Int) (r : Int) (l : List Int) (y5 y6 : D), 0 ≤ lo → lo + n ≤ 100 → l.length + n ≤ 1000 →
    ∃ (l' : List Int) (r' : Int) (z5 z6 : D), l'.length = l.length + n ∧ forL (gtN 5) f_law_lengths_l1 (rng lo n) [x0, x1, .int hd, .int r, .ol (l.map D.int), y5, y6] = .nx [x0, x1, .int hd, .int r', .ol (l'.map D.int), z5, z6]
  | 0, lo, r, l, y5, y6, _, _, _ => ⟨l, r, y5, y6, by omega, by simp [rng_zero, forL]⟩
  | n + 1, lo, r, l, y5, y6, h0, h1, h2 => by
    have hlim : l.length < lim := by rw [lim_eq]; omega
    have fin : ∀ (a : Int) (y : D), f_law_lengths_l1 [x0, x1, .int hd, .int r, .ol (l.map D.int), .int lo, y6] = .nx [x0, x1, .int hd, .int (r / 7), .ol ((l ++ [a]).map D.int), .int lo, y] →
        ∃ (l' : List Int) (r' : Int) (z5 z6 : D), l'.length = l.length + (n + 1) ∧ forL (gtN 5) f_law_lengths_l1 (rng lo (n + 1)) [x0, x1, .int hd, .int r, .ol (l.map D.int), y5, y6] = .nx [x0, x1, .int hd, .int r', .ol (l'.map D.int), z5, z6] := fun a y e => by
      obtain ⟨l', r', z5, z6, h3, h4⟩ := lens_l1 x0 x1 hd n (lo + 1) (r / 7) (l ++ [a]) (.int lo) y (by omega) (by omega) (by simp; omega)
      refine ⟨l', r', z5, z6, by simp at h3; omega, ?_⟩
      rw [← h4]
      simp [rng_succ, forL, e]
    by_cases q : hd % 2 = 0
    · by_cases hB : r = 0 ∨ r = -1
      · refine fin (stF hd (40 + lo) % 7 - 3) y6 ?_
        simp [f_law_lengths_l1, q, in_two, hB, stir_ok, hlim]
      · refine fin (r % 7 - 3) y6 ?_
        simp [f_law_lengths_l1, q, in_two, hB, hlim]
    · by_cases q3 : hd / 2 % 3 = 0
      · have e1 := opPow_12 h0 (by omega : lo < 100)
        have c0 : 0 ≤ hd % e60 := Int.emod_nonneg _ (by have := e60_pos; omega)
        have c1 : hd % e60 < e60 := Int.emod_lt_of_pos _ e60_pos
        have hE := e60_lt
        have e2 : opMul (.int (hd % e60 + 7919 * lo + 1)) (.int ((48271 + 2 * lo) ^ 12)) = some (.int ((hd % e60 + 7919 * lo + 1) * (48271 + 2 * lo) ^ 12)) := by
          refine opMul_500 ?_ ?_
          · have : (hd % e60 + 7919 * lo + 1).natAbs < 2 ^ 251 := by
              have : (7919 * 1000000 + 1 : Int) < 2 ^ 250 := by decide
              have : (2 : Int) ^ 251 = 2 ^ 250 + 2 ^ 250 := by decide
              have : ((2 : Nat) ^ 251 : Nat) = ((2 : Int) ^ 251).natAbs := by decide
              omega
            exact Nat.lt_trans this (by decide)
          · have := pow12_lt lo.toNat (by omega)
            rwa [show ((lo.toNat : Nat) : Int) = lo by omega] at this
        have p50 : (0 : Int) < 10 ^ 50 := by decide
        refine fin ((hd % e60 + 7919 * lo + 1) * (48271 + 2 * lo) ^ 12 % 10 ^ 50 - 5 * 10 ^ 49) (.int ((hd % e60 + 7919 * lo + 1) * (48271 + 2 * lo) ^ 12)) ?_
        simp [f_law_lengths_l1, q, q3, e1, e2, opPow_50, opPow_49, p50, hlim]
      · have two : hd / 6 % 2 = 0 ∨ hd / 6 % 2 = 1 := by omega
        rcases two with t | t
        · refine fin (stF hd (70 + lo) % 3 - 1) y6 ?_
          simp [f_law_lengths_l1, q, q3, stir_ok, t, hlim]
        · refine fin (stF hd (70 + lo) % 9 - 1) y6 ?_
          simp [f_law_lengths_l1, q, q3, stir_ok, t, hlim]
theorem lengths_ok (s : List Int) (n : Nat) (hn : n ≤ 99) : ∃ l : List Int, l.length = n ∧ g_law_lengths [.sc (s.map D.int), .int n] = .ok (.ol (l.map D.int)) := by
  obtain ⟨c, ec⟩ := at_ok s 2 (by omega)
  obtain ⟨l, r, z5, z6, h1, h2⟩ := lens_l1 (.sc (s.map D.int)) (.int n) c n 0 (c / 2) [] .un .un (by omega) (by omega) (by simp; omega)
  have hr : rgOk (n : Int) := rgOk_of (by omega) (by omega)
  refine ⟨l, by simpa using h1, ?_⟩
  simp at h2
  simp [g_law_lengths, runF, f_law_lengths, ec, hr, h2]
theorem look_lens_ok {o : D} (p : D) (ts : List D) (l : List Int) (ho : LT o l) (h : l.length = ts.length) : g_look_at_lengths [.ob 14 [p, .ls ts], o] = .ok .non := by
  rcases ho with rfl | rfl <;> simp [g_look_at_lengths, runF, f_look_at_lengths, h]
theorem look_lens_no {o : D} (p : D) (ts : List D) (l : List Int) (ho : LT o l) (h : l.length ≠ ts.length) : g_look_at_lengths [.ob 14 [p, .ls ts], o] = .xc 9 := by
  have : ¬ (l.length : Int) = ts.length := by omega
  rcases ho with rfl | rfl <;> simp [g_look_at_lengths, runF, f_look_at_lengths, this]
end Lw
noncomputable section
namespace Lw
open DL
def f_by_length_c1 : Env → Res D := eTup (aConsO (eVar 3) (aConsO (eVar 2) (aNil)))
def f_by_length_c2 : Env → Res D := eBin opIx (eVar 1) (eC (.int 1))
def f_by_length : Env → Out := sRet (eLc (iSeq (eCall caSorted3 (aCons (eLc (iEnm3 (aCons (eVar 0) (aNil))) [2, 3] (gtT 2 (gtCons (gtN 2) (gtCons (gtN 3) (gtNil)))) (tYesG) f_by_length_c1) (aNil)))) [1] (gtN 1) (tYesG) f_by_length_c2)
def g_by_length : List D → Res D := runF f_by_length 4
def f_heads_joined_c1 : Env → Res D := eIf (tC2 cEq (eVar 4) (eVar 3)) (eVar 2) (eVar 4)
def f_heads_joined : Env → Out := sSeq (sAsgF 2 (eBin opIx (eVar 0) (eBin opIx (eVar 1) (eC (.int 0))))) (sSeq (sAsgF 3 (eBin opIx (eVar 0) (eBin opIx (eVar 1) (eC (.int 1))))) (sRet (eLc (iSeq (eVar 0)) [4] (gtN 4) (tYesG) f_heads_joined_c1)))
def g_heads_joined : List D → Res D := runF f_heads_joined 5
def f_law_trees_v3_c1 : Env → Res D := eIf (tC2 cEq (eVar 11) (eVar 9)) (eVar 8) (eVar 11)
def f_law_trees_v3_l2 : Env → Out := sSeq (sAsgF 8 (eBin opIx (eVar 6) (eBin opIx (eBin opIx (eVar 1) (eVar 7)) (eC (.int 0))))) (sSeq (sAsgF 9 (eBin opIx (eVar 6) (eBin opIx (eBin opIx (eVar 1) (eVar 7)) (eC (.int 1))))) (sIf (tC2 cNe (eVar 8) (eVar 9)) (sSeq (sAsgF 10 (eCall caTuple (aCons (eLc (iSeq (eVar 6)) [11] (gtN 11) (tYesG) f_law_trees_v3_c1) (aNil)))) (sApp 4 (eTup (aConsO (eBin opAdd (eVar 5) (eTup (aConsO (eVar 7) (aNil)))) (aConsO (eVar 10) (aNil)))))) (sNil)))
def f_law_trees_v3_l3 : Env → Out := sFor (iRg2 (aCons (eBin opAdd (eCall caMax3 (aCons (eBin opAdd (eTup (aConsO (eUn opNeg (eC (.int 1))) (aNil))) (eVar 5)) (aNil))) (eC (.int 1))) (aCons (eCall caLen (aCons (eVar 1) (aNil))) (aNil)))) (gtN 7) f_law_trees_v3_l2
def f_law_trees_v3_l4 : Env → Out := sSeq (sAsg 4 (eLst (aNil))) (sSeq (sFor (iSeq (eVar 2)) (gtT 2 (gtCons (gtN 5) (gtCons (gtN 6) (gtNil)))) f_law_trees_v3_l3) (sFrz 4 (sAsgF 2 (eVar 4))))
def f_law_trees_v3_c5 : Env → Res D := eVar 5
def f_law_trees_v3 : Env → Out := sSeq (sAsgF 2 (eLst (aConsO (eTup (aConsO (eTup (aNil)) (aConsO (eTR1 (eVar 0)) (aNil)))) (aNil)))) (sSeq (sFor (iRg1 (aCons (eBin opSub (eVar 0) (eC (.int 1))) (aNil))) (gtN 3) f_law_trees_v3_l4) (sRet (eLc (iSeq (eVar 2)) [5, 6] (gtT 2 (gtCons (gtN 5) (gtCons (gtN 6) (gtNil)))) (tYesG) f_law_trees_v3_c5)))
def g_law_trees_v3 : List D → Res D := runF f_law_trees_v3 12
end Lw
end
namespace Lw
open DL L2 TL
theorem enm_ints (L : List Int) : enm 0 (L.map D.int) = (iota L.length).map fun i => (.tp [.int i, .int (nth L i)] : D) := by
  have : ∀ (l pre : List Int), L = pre ++ l → enm pre.length (l.map D.int) = (List.range l.length).map fun j => (.tp [.int ((pre.length + j : Nat) : Int), .int (nth L ((pre.length + j : Nat) : Int))] : D) := by
    intro l
    induction l with
    | nil => intro pre _; simp [enm]
    | cons t l ih =>
      intro pre e
      have := ih (pre ++ [t]) (by rw [e]; simp)
      rw [List.map_cons, enm, List.length_cons, List.range_succ_eq_map, List.map_cons, List.map_map]
      simp only [List.length_append, List.length_cons, List.length_nil, Nat.zero_add] at this
      rw [this]
      have et : nth L ((pre.length : Nat) : Int) = t := by simp [nth, e]
      simp only [Nat.add_zero, et]
      congr 1
      refine List.map_congr_left fun j _ => ?_
      simp only [Function.comp, Nat.succ_eq_add_one]
      rw [show pre.length + 1 + j = pre.length + (j + 1) by omega]
  have h := this L [] rfl
  simp only [List.length_nil, Nat.zero_add] at h
  rw [h]
  unfold iota
  rw [List.map_map]
  rfl
def keyL (L : List Int) (t : Int) : List Int := [nth L t, t]
def ordOf (L : List Int) : List Int := (srtL ((iota L.length).map (keyL L))).map fun l => nth l 1
theorem keyL_lt {L : List Int} {t u : Int} : HT.lexLt (keyL L t) (keyL L u) = true ↔ KLt L t u := by
  unfold keyL KLt
  rw [HT.lexLt_cons, HT.lexLt_cons, HT.lexLt_nil_nil]
  by_cases e : nth L t = nth L u
  · rw [if_pos e]
    by_cases e2 : t = u
    · rw [if_pos e2]; simp; omega
    · rw [if_neg e2]; simp; omega
  · rw [if_neg e]; simp; omega
theorem nth_key (L : List Int) (t : Int) : nth (keyL L t) 1 = t := rfl
theorem ordOf_ord (L : List Int) : Ord L L.length (ordOf L) := by
  have pm : (ordOf L).Perm (iota L.length) := by
    unfold ordOf
    have h := (srtL_perm ((iota L.length).map (keyL L))).map fun l => nth l 1
    rw [List.map_map] at h
    have e : (iota L.length).map ((fun l => nth l 1) ∘ keyL L) = iota L.length := by
      conv => rhs; rw [← List.map_id (iota L.length)]
      exact List.map_congr_left fun t _ => nth_key L t
    rw [e] at h
    exact h
  refine ⟨pm, ?_⟩
  have nd : (ordOf L).Nodup := pm.nodup_iff.mpr (iota_nodup _)
  unfold ordOf at nd ⊢
  have nd' : (((srtL ((iota L.length).map (keyL L)))).map fun l => nth l 1).Pairwise (· ≠ ·) := nd
  rw [List.pairwise_map] at nd' ⊢
  refine List.Pairwise.imp_of_mem (fun {a b} ha hb h => ?_) (List.Pairwise.and nd' (srtL_rise _))
  obtain ⟨h1, h2⟩ := h
  have ka : ∃ t, a = keyL L t := by
    obtain ⟨t, _, rfl⟩ := List.mem_map.mp ((srtL_perm _).mem_iff.mp ha)
    exact ⟨t, rfl⟩
  have kb : ∃ t, b = keyL L t := by
    obtain ⟨t, _, rfl⟩ := List.mem_map.mp ((srtL_perm _).mem_iff.mp hb)
    exact ⟨t, rfl⟩
  obtain ⟨t, rfl⟩ := ka
  obtain ⟨u, rfl⟩ := kb
  rw [nth_key, nth_key] at h1 ⊢
  have h3 : ¬ KLt L u t := fun z => by rw [← keyL_lt, h2] at z; cases z
  unfold KLt at h3 ⊢
  omega
theorem by_length_ok {o : D} (L : List Int) (hL : L.length ≤ 1000) (ho : LT o L) : g_by_length [o] = .ok (.ol ((ordOf L).map D.int)) := by
  have b1 : L.length ≤ lim := by rw [lim_eq]; omega
  have lc : ∀ x0 x1 : D, lcL (gtT 2 (gtCons (gtN 2) (gtCons (gtN 3) (gtNil)))) tYesG f_by_length_c1 [x0, x1, .un, .un] (enm 0 (L.map D.int)) = .ok (((iota L.length).map (keyL L)).map dT) := fun x0 x1 => by
    rw [enm_ints, List.map_map]
    refine lcL_map _ fun t _ => ⟨[x0, x1, .int t, .int (nth L t)], rfl, by simp [f_by_length_c1, dT, keyL]⟩
  have cs := caSorted3_TL ((iota L.length).map (keyL L)) (.inr (by rw [List.all_eq_true]; intro l hl; obtain ⟨t, _, rfl⟩ := List.mem_map.mp hl; rfl))
  have b2 : (srtL ((iota L.length).map (keyL L))).length ≤ lim := by rw [srtL_len]; simpa using b1
  have b3 : (enm 0 (L.map D.int)).length ≤ lim := by rw [enm_len]; simpa using b1
  have lc2 : ∀ x0 x2 x3 : D, lcL (gtN 1) tYesG f_by_length_c2 [x0, .un, x2, x3] ((srtL ((iota L.length).map (keyL L))).map dT) = .ok ((ordOf L).map D.int) := fun x0 x2 x3 => by
    unfold ordOf
    rw [List.map_map]
    refine lcL_mapN _ fun l hl => ?_
    obtain ⟨t, _, rfl⟩ := List.mem_map.mp ((srtL_perm _).mem_iff.mp hl)
    simp [f_by_length_c2, dT, keyL, nth]
  rcases ho with rfl | rfl <;> simp [g_by_length, runF, f_by_length, lc, cs, lc2, b1, b2, enm_len, -List.map_map]
def hj (m : List Int) (t : Int × Int) : List Int := m.map fun x => if x = nth m t.2 then nth m t.1 else x
theorem hj_step (m : List Int) (t : Int × Int) : hj m t = stepL m t := by
  unfold hj stepL
  split
  · rename_i h
    conv => rhs; rw [← List.map_id m]
    refine List.map_congr_left fun x _ => ?_
    split
    · rename_i h2; rw [h2]; exact h
    · rfl
  · rfl
theorem hj_same {m : List Int} {t : Int × Int} (b0 : 0 ≤ t.2) (b1 : t.2 < m.length) : hj m t = m ↔ nth m t.1 = nth m t.2 := by
  constructor
  · intro h
    have := nth_map (m := m) (f := fun x => if x = nth m t.2 then nth m t.1 else x) b0 b1
    have e : nth (hj m t) t.2 = nth m t.1 := by
      unfold hj
      rw [this, if_pos rfl]
    rw [h] at e
    exact e.symm
  · intro h
    rw [hj_step]
    exact if_pos h
theorem heads_joined_ok (m : List Int) (hm : m.length ≤ 1000) (t : Int × Int) (a0 : 0 ≤ t.1) (a1 : t.1 < m.length) (b0 : 0 ≤ t.2) (b1 : t.2 < m.length) : g_heads_joined [.ls (m.map D.int), dP t] = .ok (.ol ((hj m t).map D.int)) := by
  have ea := nth_at (m := m) a0 a1
  have eb := nth_at (m := m) b0 b1
  have bl : m.length ≤ lim := by rw [lim_eq]; omega
  have lc : ∀ x0 x1 : D, lcL (gtN 4) tYesG f_heads_joined_c1 [x0, x1, .int (nth m t.1), .int (nth m t.2), .un] (m.map D.int) = .ok ((hj m t).map D.int) := fun x0 x1 => by
    unfold hj
    rw [← map_int]
    refine lcL_mapN m fun x _ => ?_
    by_cases c : x = nth m t.2 <;> simp [f_heads_joined_c1, c]
  simp [g_heads_joined, runF, f_heads_joined, dP, ea, eb, lc, bl]
theorem marksL_snoc (p : Nat) (ts : List (Int × Int)) (J : List Int) (t : Int) : marksL p ts (J ++ [t]) = hj (marksL p ts J) (tieAt ts t) := by
  rw [hj_step]
  simp [marksL, List.foldl_append]
end Lw
namespace Lw
open DL L2 TL
theorem nodup_leG2 {α : Type} [DecidableEq α] : ∀ {l m : List α}, l.Nodup → (∀ x ∈ l, x ∈ m) → l.length ≤ m.length
  | [], _, _, _ => Nat.zero_le _
  | a :: l, m, h, k => by
    obtain ⟨h1, h2⟩ := List.nodup_cons.mp h
    have ha := k a (List.mem_cons_self ..)
    have := nodup_leG2 (l := l) (m := m.erase a) h2 fun x hx => (List.mem_erase_of_ne (fun (e : x = a) => h1 (e ▸ hx))).mpr (k x (List.mem_cons_of_mem _ hx))
    rw [List.length_erase_of_mem ha] at this
    have := List.length_pos_of_mem ha
    simp only [List.length_cons]
    omega
/-! all trees, grown with the heads of the places -/
def extF (p : Nat) (ts : List (Int × Int)) (k : Nat) (s : List Int) : List (List Int) := ((upL (nxt k s) ts.length).filter fun t => !decide (nth (marksL p ts s) (tieAt ts t).1 = nth (marksL p ts s) (tieAt ts t).2)).map fun t => s ++ [t]
def allF (p : Nat) (ts : List (Int × Int)) : Nat → List (List Int)
  | 0 => [[]]
  | k + 1 => (allF p ts k).flatMap (extF p ts k)
section
variable {p : Nat} {ts : List (Int × Int)}
theorem testL (hE : EndsOk p ts) {J : List Int} (hJ : InT ts.length J) {t : Int} (ht : 0 ≤ t ∧ t < ts.length) : nth (marksL p ts J) (tieAt ts t).1 = nth (marksL p ts J) (tieAt ts t).2 ↔ Conn (tiesAt ts J) (tieAt ts t).1 (tieAt ts t).2 := by
  obtain ⟨_, e2⟩ := tie_at ht.1 ht.2
  obtain ⟨⟨a0, a1⟩, b0, b1⟩ := hE _ e2
  exact nthL p ts hE J hJ _ _ a0 a1 b0 b1
theorem allF_sub : ∀ (k : Nat) {l : List Int}, l ∈ allF p ts k → l ∈ allA ts.length k
  | 0, l, h => h
  | k + 1, l, h => by
    rw [allF, List.mem_flatMap] at h
    rw [allA, List.mem_flatMap]
    obtain ⟨s, hs, hl⟩ := h
    refine ⟨s, allF_sub k hs, ?_⟩
    unfold extF at hl
    unfold extA
    obtain ⟨t, ht, e⟩ := List.mem_map.mp hl
    exact List.mem_map.mpr ⟨t, (List.mem_filter.mp ht).1, e⟩
theorem allF_ind (hE : EndsOk p ts) : ∀ (k : Nat) {l : List Int}, l ∈ allF p ts k → Ind p ts l
  | 0, l, h => by
    simp [allF] at h; subst h; exact ind_nil p ts
  | k + 1, l, h => by
    rw [allF, List.mem_flatMap] at h
    obtain ⟨s, hs, hl⟩ := h
    have hI := allF_ind hE k hs
    unfold extF at hl
    obtain ⟨t, ht, rfl⟩ := List.mem_map.mp hl
    obtain ⟨h1, h2⟩ := List.mem_filter.mp ht
    have hin := good_in ((allA_mem _ _ _).mp (allF_sub (k + 1) (l := s ++ [t]) (by
      rw [allF, List.mem_flatMap]
      exact ⟨s, hs, hl⟩))).2
    have ht' := hin t (by simp)
    refine hI.snoc hE ht' fun c => ?_
    rw [← testL hE hI.inn ht'] at c
    simp [c] at h2
theorem allF_has (hE : EndsOk p ts) : ∀ (k : Nat) {l : List Int}, l ∈ allA ts.length k → Ind p ts l → l ∈ allF p ts k
  | 0, l, h, _ => h
  | k + 1, l, h, hI => by
    rw [allA, List.mem_flatMap] at h
    rw [allF, List.mem_flatMap]
    obtain ⟨s, hs, hl⟩ := h
    unfold extA at hl
    obtain ⟨t, ht, rfl⟩ := List.mem_map.mp hl
    have hnd := hI.nd
    rw [List.nodup_append] at hnd
    have hIs := hI.sub hE hnd.1 fun x hx => List.mem_append_left _ hx
    have ht' := hI.inn t (by simp)
    refine ⟨s, allF_has hE k hs hIs, ?_⟩
    unfold extF
    refine List.mem_map.mpr ⟨t, List.mem_filter.mpr ⟨ht, ?_⟩, rfl⟩
    have : ¬ Conn (tiesAt ts s) (tieAt ts t).1 (tieAt ts t).2 := fun c => by
      have e : cnt p (tiesAt ts s) = cnt p (tiesAt ts (s ++ [t])) := cnt_eq (tiesAt_ok hE hIs.inn) (tiesAt_ok hE hI.inn)
        (fun e he => by
          obtain ⟨u, hu, rfl⟩ := List.mem_map.mp he
          exact conn_at (List.mem_append_left _ hu))
        (fun e he => by
          obtain ⟨u, hu, rfl⟩ := List.mem_map.mp he
          rcases List.mem_append.mp hu with z | z
          · exact conn_at z
          · simp at z; subst z; exact c)
      have h1 := hIs.ct
      have h2 := hI.ct
      simp at h2
      omega
    rw [← testL hE hIs.inn ht'] at this
    simp [this]
theorem allF_lex : ∀ k : Nat, (allF p ts k).Pairwise fun a b => HT.lexLt a b = true
  | 0 => List.pairwise_singleton _ _
  | k + 1 => by
    rw [allF, List.pairwise_flatMap]
    refine ⟨fun s hs => ?_, ?_⟩
    · unfold extF
      rw [List.pairwise_map]
      exact ((upL_rise _ _).filter _).imp fun h => lex_one s h
    · have ih := allF_lex k
      refine List.Pairwise.imp_of_mem (fun {a b} ha hb h x hx y hy => ?_) ih
      unfold extF at hx hy
      obtain ⟨t, _, rfl⟩ := List.mem_map.mp hx
      obtain ⟨u, _, rfl⟩ := List.mem_map.mp hy
      have h1 := ((allA_mem _ k a).mp (allF_sub k ha)).1
      have h2 := ((allA_mem _ k b).mp (allF_sub k hb)).1
      exact lex_app (by omega) h _ _
theorem allF_trees (hp : 1 ≤ p) (hE : EndsOk p ts) : allF p ts (p - 1) = trees p ts := by
  have hr := allF_lex (p := p) (ts := ts) (p - 1)
  have hd : (allF p ts (p - 1)).Nodup := hr.imp fun {a b} h e => by
    subst e
    rw [lex_irr] at h; cases h
  have hm : ∀ l, l ∈ allF p ts (p - 1) ↔ l ∈ trees p ts := fun l => by
    rw [trees_mem hp]
    constructor
    · intro h
      obtain ⟨h1, h2⟩ := (allA_mem _ _ _).mp (allF_sub _ h)
      have := (allF_ind hE _ h).ct
      exact treeB_nat.mpr ⟨by omega, h2, by omega⟩
    · intro h
      obtain ⟨h1, h2, h3⟩ := treeB_nat.mp h
      exact allF_has hE _ ((allA_mem _ _ _).mpr ⟨by omega, h2⟩) (tree_ind h hp)
  have hp2 := (List.perm_ext_iff_of_nodup hd (trees_nodup p ts)).mpr hm
  have hrise : Rise (allF p ts (p - 1)) := hr.imp fun {a b} h => NtL.lex_asym _ _ h
  exact rise_one hp2 hrise (srtL_rise _)
theorem allF_len (k : Nat) : (allF p ts k).length ≤ (allA ts.length k).length :=
  have hd : (allF p ts k).Nodup := (allF_lex k).imp fun {a b} h e => by
    subst e
    rw [lex_irr] at h; cases h
  nodup_leG2 hd fun x hx => allF_sub k hx
end
/-- a part with the heads of all places over it -/
def dH (p : Nat) (ts : List (Int × Int)) (s : List Int) : D := .tp [.tp (s.map D.int), .tp ((marksL p ts s).map D.int)]
theorem fmax_spec : ∀ (s : List Int) (a : Int), a ≤ s.foldl max a ∧ (∀ x ∈ s, x ≤ s.foldl max a) ∧ (s.foldl max a = a ∨ s.foldl max a ∈ s)
  | [], a => ⟨Int.le_refl _, fun _ h => (nomatch h), .inl rfl⟩
  | b :: s, a => by
    obtain ⟨h1, h2, h3⟩ := fmax_spec s (max a b)
    simp only [List.foldl_cons]
    refine ⟨by omega, fun x hx => ?_, ?_⟩
    · rcases List.mem_cons.mp hx with rfl | hx
      · omega
      · exact h2 x hx
    · rcases h3 with h | h
      · by_cases c : a ≤ b
        · right; rw [h, show max a b = b by omega]; exact List.mem_cons_self ..
        · left; rw [h]; omega
      · exact .inr (List.mem_cons_of_mem _ h)
theorem last_max {s : List Int} {k : Nat} (hs : s.length = k) (hk : 0 < k) (hr : s.Pairwise (· < ·)) : ∀ x ∈ s, x ≤ nth s (k - 1 : Nat) := fun x hx => by
  obtain ⟨i, hi⟩ := List.getElem?_of_mem hx
  have hi2 := (List.getElem?_eq_some_iff.mp hi).1
  have hn : nth s (k - 1 : Nat) = s[k - 1]'(by omega) := by
    simp [nth, List.getD_eq_getElem?_getD, List.getElem?_eq_getElem (show k - 1 < s.length by omega)]
  have hx' : x = s[i] := by rw [List.getElem?_eq_getElem hi2] at hi; cases hi; rfl
  by_cases e : i = k - 1
  · subst e; omega
  · have := List.pairwise_iff_getElem.mp hr i (k - 1) hi2 (by omega) (by omega)
    omega
theorem max_nxt {n k : Nat} {s : List Int} (h : s ∈ allA n k) : s.foldl max (-1) + 1 = nxt k s := by
  obtain ⟨h1, h2⟩ := (allA_mem _ _ s).mp h
  obtain ⟨h3, h4⟩ := good_iff.mp h2
  unfold nxt
  by_cases hk : k = 0
  · rw [if_pos hk]
    rw [List.eq_nil_of_length_eq_zero (by omega : s.length = 0)]
    rfl
  · rw [if_neg hk]
    obtain ⟨f1, f2, f3⟩ := fmax_spec s (-1)
    have hm : nth s (k - 1 : Nat) ∈ s := nth_memN (by omega)
    have l := last_max h1 (by omega) h4
    have := f2 _ hm
    have := (h3 _ hm).1
    rcases f3 with e | e
    · omega
    · have := l _ e
      omega
theorem upL_len (lo : Int) (n : Nat) (h : 0 ≤ lo) : (upL lo n).length ≤ n := by unfold upL; simp only [List.length_map, List.length_range]; omega
theorem trees3_l2 (x0 x2 x3 : D) (p : Nat) (hp : 1 ≤ p) (hp2 : p ≤ 1000) (ts : List (Int × Int)) (hE : EndsOk p ts) (s : List Int) (hs : s.length ≤ 1000) : ∀ (l : List Int) (A : List (List Int)) (y7 y8 y9 y10 : D), InT ts.length l → A.length + l.length ≤ 900000 →
    ∃ z7 z8 z9 z10, forL (gtN 7) f_law_trees_v3_l2 (l.map D.int) [x0, .ls (ts.map dP), x2, x3, .ol (A.map (dH p ts)), .tp (s.map D.int), .tp ((marksL p ts s).map D.int), y7, y8, y9, y10, .un] = .nx [x0, .ls (ts.map dP), x2, x3, .ol ((A ++ (l.filter fun t => !decide (nth (marksL p ts s) (tieAt ts t).1 = nth (marksL p ts s) (tieAt ts t).2)).map fun t => s ++ [t]).map (dH p ts)), .tp (s.map D.int), .tp ((marksL p ts s).map D.int), z7, z8, z9, z10, .un]
  | [], A, y7, y8, y9, y10, _, _ => ⟨y7, y8, y9, y10, by simp [forL]⟩
  | t :: l, A, y7, y8, y9, y10, hl, hA => by
    obtain ⟨t0, t1⟩ := hl t (List.mem_cons_self ..)
    have hl' : InT ts.length l := fun x hx => hl x (List.mem_cons_of_mem _ hx)
    obtain ⟨e1, e2⟩ := tie_at t0 t1
    obtain ⟨⟨a0, a1⟩, b0, b1⟩ := hE _ e2
    have ml := marksL_len p ts s
    have ea := nth_at (m := marksL p ts s) a0 (by omega)
    have eb := nth_at (m := marksL p ts s) b0 (by omega)
    by_cases c : nth (marksL p ts s) (tieAt ts t).1 = nth (marksL p ts s) (tieAt ts t).2
    · obtain ⟨z7, z8, z9, z10, ih⟩ := trees3_l2 x0 x2 x3 p hp hp2 ts hE s hs l A (.int t) (.int (nth (marksL p ts s) (tieAt ts t).1)) (.int (nth (marksL p ts s) (tieAt ts t).2)) y10 hl' (by simp at hA ⊢; omega)
      refine ⟨z7, z8, z9, z10, ?_⟩
      rw [List.filter_cons_of_neg (by simpa using c), ← ih]
      simp [forL, f_law_trees_v3_l2, e1, dP, ea, eb, c]
    · obtain ⟨z7, z8, z9, z10, ih⟩ := trees3_l2 x0 x2 x3 p hp hp2 ts hE s hs l (A ++ [s ++ [t]]) (.int t) (.int (nth (marksL p ts s) (tieAt ts t).1)) (.int (nth (marksL p ts s) (tieAt ts t).2)) (.tp ((marksL p ts (s ++ [t])).map D.int)) hl' (by simp at hA ⊢; omega)
      refine ⟨z7, z8, z9, z10, ?_⟩
      have eL : ∀ F : List Int, A ++ (t :: F).map (fun t => s ++ [t]) = A ++ [s ++ [t]] ++ F.map fun t => s ++ [t] := fun F => by simp
      rw [List.filter_cons_of_pos (by simpa using c), eL, ← ih]
      have lc : ∀ x10 : D, lcL (gtN 11) tYesG f_law_trees_v3_c1 [x0, .ls (ts.map dP), x2, x3, .ol (A.map (dH p ts)), .tp (s.map D.int), .tp ((marksL p ts s).map D.int), .int t, .int (nth (marksL p ts s) (tieAt ts t).1), .int (nth (marksL p ts s) (tieAt ts t).2), x10, .un] ((marksL p ts s).map D.int) = .ok ((marksL p ts (s ++ [t])).map D.int) := fun x10 => by
        rw [marksL_snoc]
        unfold hj
        rw [← map_int]
        refine lcL_mapN _ fun x _ => ?_
        by_cases c : x = nth (marksL p ts s) (tieAt ts t).2 <;> simp [f_law_trees_v3_c1, c]
      have bl : (marksL p ts s).length ≤ lim := by rw [lim_eq]; omega
      have bl2 : (marksL p ts (s ++ [t])).length ≤ lim := by rw [marksL_len, lim_eq]; omega
      have bs : s.length + 1 ≤ lim := by rw [lim_eq]; omega
      have bA : A.length < lim := by rw [lim_eq]; simp at hA; omega
      simp [forL, f_law_trees_v3_l2, e1, dP, ea, eb, c, lc, bl, bl2, bs, bA, dH]
theorem trees3_l3 (x0 x2 x3 : D) (p : Nat) (hp : 1 ≤ p) (hp2 : p ≤ 1000) (ts : List (Int × Int)) (hE : EndsOk p ts) (ht : ts.length ≤ 100) (k : Nat) (hk : k ≤ 900) : ∀ (l A : List (List Int)) (y5 y6 y7 y8 y9 y10 : D), (∀ s ∈ l, s ∈ allF p ts k) → A.length + ts.length * l.length ≤ 900000 →
    ∃ z5 z6 z7 z8 z9 z10, forL (gtT 2 (gtCons (gtN 5) (gtCons (gtN 6) (gtNil)))) f_law_trees_v3_l3 (l.map (dH p ts)) [x0, .ls (ts.map dP), x2, x3, .ol (A.map (dH p ts)), y5, y6, y7, y8, y9, y10, .un] = .nx [x0, .ls (ts.map dP), x2, x3, .ol ((A ++ l.flatMap (extF p ts k)).map (dH p ts)), z5, z6, z7, z8, z9, z10, .un]
  | [], A, y5, y6, y7, y8, y9, y10, _, _ => ⟨y5, y6, y7, y8, y9, y10, by simp [forL]⟩
  | s :: l, A, y5, y6, y7, y8, y9, y10, hl, hA => by
    have hsA := allF_sub k (hl s (List.mem_cons_self ..))
    obtain ⟨h1, h2⟩ := (allA_mem _ _ s).mp hsA
    have mx := max_nxt hsA
    have nx0 : 0 ≤ nxt k s ∧ nxt k s ≤ 1000 := by
      obtain ⟨f1, f2, f3⟩ := fmax_spec s (-1)
      have hin := good_in h2
      rcases f3 with e | e
      · omega
      · have := hin _ e; omega
    have ul := upL_len (nxt k s) ts.length nx0.1
    have el : (extF p ts k s).length ≤ ts.length := by
      unfold extF
      rw [List.length_map]
      exact Nat.le_trans (List.length_filter_le ..) ul
    rw [List.length_cons, Nat.mul_succ] at hA
    obtain ⟨w7, w8, w9, w10, e⟩ := trees3_l2 x0 x2 x3 p hp hp2 ts hE s (by omega) (upL (nxt k s) ts.length) A y7 y8 y9 y10 (fun x hx => by have := upL_mem.mp hx; omega) (by omega)
    obtain ⟨z5, z6, z7, z8, z9, z10, ih⟩ := trees3_l3 x0 x2 x3 p hp hp2 ts hE ht k hk l (A ++ extF p ts k s) (.tp (s.map D.int)) (.tp ((marksL p ts s).map D.int)) w7 w8 w9 w10 (fun q hq => hl q (List.mem_cons_of_mem _ hq)) (by simp; omega)
    refine ⟨z5, z6, z7, z8, z9, z10, ?_⟩
    rw [List.flatMap_cons, ← List.append_assoc, ← ih]
    have ee : ((upL (nxt k s) ts.length).filter fun t => !decide (nth (marksL p ts s) (tieAt ts t).1 = nth (marksL p ts s) (tieAt ts t).2)).map (fun t => s ++ [t]) = extF p ts k s := rfl
    rw [ee] at e
    have r1 : rgOk (nxt k s) := rgOk_of (by omega) (by omega)
    have r2 : rgOk (ts.length : Int) := rgOk_of (by omega) (by omega)
    have er : rng (nxt k s) ((ts.length : Int) - nxt k s).toNat = (upL (nxt k s) ts.length).map D.int := by rw [rng_map]; rfl
    have bs : 1 + s.length ≤ lim := by rw [lim_eq]; omega
    have mx2 : (D.int (-1) :: s.map D.int) = D.int (-1) :: s.map D.int := rfl
    simp only [List.map_append] at e
    simp [forL, f_law_trees_v3_l3, dH, mx, r1, r2, er, bs, e]
theorem trees3_l4 (x0 : D) (p : Nat) (hp : 1 ≤ p) (hp2 : p ≤ 6) (ts : List (Int × Int)) (hE : EndsOk p ts) (ht : ts.length ≤ 12) : ∀ (n k : Nat) (y3 y4 y5 y6 y7 y8 y9 y10 : D), k + n ≤ 5 →
    ∃ z3 z4 z5 z6 z7 z8 z9 z10, forL (gtN 3) f_law_trees_v3_l4 (rng k n) [x0, .ls (ts.map dP), .ls ((allF p ts k).map (dH p ts)), y3, y4, y5, y6, y7, y8, y9, y10, .un] = .nx [x0, .ls (ts.map dP), .ls ((allF p ts (k + n)).map (dH p ts)), z3, z4, z5, z6, z7, z8, z9, z10, .un]
  | 0, k, y3, y4, y5, y6, y7, y8, y9, y10, _ => ⟨y3, y4, y5, y6, y7, y8, y9, y10, by simp [rng_zero, forL]⟩
  | n + 1, k, y3, y4, y5, y6, y7, y8, y9, y10, h => by
    have big : (allF p ts k).length ≤ 12 ^ 4 := Nat.le_trans (allF_len k) (Nat.le_trans (allA_len ts.length k) (Nat.le_trans (Nat.pow_le_pow_left ht k) (Nat.pow_le_pow_right (by omega) (by omega))))
    have e4 : (12 : Nat) ^ 4 = 20736 := by decide
    have hm : ts.length * (allF p ts k).length ≤ 12 * 20736 := Nat.mul_le_mul ht (by omega)
    obtain ⟨v5, v6, v7, v8, v9, v10, e⟩ := trees3_l3 x0 (.ls ((allF p ts k).map (dH p ts))) (.int k) p hp (by omega) ts hE (by omega) k (by omega) (allF p ts k) [] y5 y6 y7 y8 y9 y10 (fun _ h => h) (by simp; omega)
    obtain ⟨z3, z4, z5, z6, z7, z8, z9, z10, ih⟩ := trees3_l4 x0 p hp hp2 ts hE ht n (k + 1) (.int k) (.ls ((allF p ts (k + 1)).map (dH p ts))) v5 v6 v7 v8 v9 v10 (by omega)
    refine ⟨z3, z4, z5, z6, z7, z8, z9, z10, ?_⟩
    rw [show k + (n + 1) = k + 1 + n by omega, ← ih]
    have ea : (allF p ts k).flatMap (extF p ts k) = allF p ts (k + 1) := rfl
    simp only [List.map_nil, List.nil_append, ea] at e
    have r : rng (k : Int) (n + 1) = .int k :: rng ((k : Int) + 1) n := rng_succ ..
    have dull : ∀ l : List (List Int), nods (l.map (dH p ts)) = true ∧ frzs (l.map (dH p ts)) = l.map (dH p ts) := fun l => by
      induction l with
      | nil => exact ⟨rfl, rfl⟩
      | cons a l ih => simp [dH, ih.1, ih.2]
    obtain ⟨d1, d2⟩ := dull (allF p ts (k + 1))
    simp [r, forL, f_law_trees_v3_l4, e, frzAt, d1, d2]
theorem trees3_ok (p : Nat) (hp : 1 ≤ p) (hp2 : p ≤ 6) (ts : List (Int × Int)) (hE : EndsOk p ts) (ht : ts.length ≤ 12) : g_law_trees_v3 [.int p, .ls (ts.map dP)] = .ok (.ol ((trees p ts).map dT)) := by
  obtain ⟨z3, z4, z5, z6, z7, z8, z9, z10, e⟩ := trees3_l4 (.int p) p hp hp2 ts hE ht (p - 1) 0 .un .un .un .un .un .un .un .un (by omega)
  have hr : rgOk ((p : Int) - 1) := rgOk_of (by omega) (by omega)
  have hr2 : rgOk (p : Int) := rgOk_of (by omega) (by omega)
  have en : ((p : Int) - 1).toNat = p - 1 := by omega
  have hb : (allF p ts (p - 1)).length ≤ 12 ^ 5 := Nat.le_trans (allF_len _) (Nat.le_trans (allA_len ts.length (p - 1)) (Nat.le_trans (Nat.pow_le_pow_left ht _) (Nat.pow_le_pow_right (by omega) (by omega))))
  have e5 : (12 : Nat) ^ 5 = 248832 := by decide
  have hl : (allF p ts (p - 1)).length ≤ lim := by rw [lim_eq]; omega
  have h3 : (p : Int) ≤ 1000000 := by omega
  have lc : ∀ x0 x1 x2 x3 x4 x7 x8 x9 x10 x11 : D, lcL (gtT 2 (gtCons (gtN 5) (gtCons (gtN 6) (gtNil)))) tYesG f_law_trees_v3_c5 [x0, x1, x2, x3, x4, .un, .un, x7, x8, x9, x10, x11] ((allF p ts (p - 1)).map (dH p ts)) = .ok ((trees p ts).map dT) := fun x0 x1 x2 x3 x4 x7 x8 x9 x10 x11 => by
    rw [← allF_trees hp hE]
    refine lcL_map _ fun s _ => ⟨[x0, x1, x2, x3, x4, .tp (s.map D.int), .tp ((marksL p ts s).map D.int), x7, x8, x9, x10, x11], rfl, by simp [f_law_trees_v3_c5, dT]⟩
  simp only [Nat.zero_add, allF] at e
  have m0 : marksL p ts [] = iota p := rfl
  simp only [List.map_cons, List.map_nil, dH, m0] at e
  have e' : forL (gtN 3) f_law_trees_v3_l4 (rng 0 (p - 1)) [.int p, .ls (ts.map dP), .ls [.tp [.tp [], .tp ((iota p).map D.int)]], .un, .un, .un, .un, .un, .un, .un, .un, .un] = .nx [.int p, .ls (ts.map dP), .ls ((allF p ts (p - 1)).map (dH p ts)), z3, z4, z5, z6, z7, z8, z9, z10, .un] := e
  rw [rng_iota] at e'
  simp [g_law_trees_v3, runF, f_law_trees_v3, hr, hr2, h3, rng_iota, en, e', hl, lc]
end Lw
namespace Lw
open DL L2 TL Classical
/-- a tie of ties without a ring hangs nothing together that the others do -/
theorem Ind.cuts {p : Nat} {ts : List (Int × Int)} (hE : EndsOk p ts) {J : List Int} (h : Ind p ts J) {f : Int} (hf : f ∈ J) : ¬ Conn (tiesAt ts (wo J f)) (tieAt ts f).1 (tieAt ts f).2 := by
  intro c
  have hW := h.sub hE (wo_nodup h.nd f) (fun x hx => (wo_mem.mp hx).1)
  have e : cnt p (tiesAt ts (wo J f)) = cnt p (tiesAt ts J) := cnt_eq (tiesAt_ok hE hW.inn) (tiesAt_ok hE h.inn)
    (fun e he => by
      obtain ⟨t, ht, rfl⟩ := List.mem_map.mp he
      exact conn_at (wo_mem.mp ht).1)
    (fun e he => by
      obtain ⟨t, ht, rfl⟩ := List.mem_map.mp he
      by_cases q : t = f
      · subst q; exact c
      · exact conn_at (wo_mem.mpr ⟨ht, q⟩))
  have := h.ct
  have := hW.ct
  have := wo_length h.nd hf
  omega
theorem conn_snoc' {ts : List (Int × Int)} {J : List Int} {t : Int} {i j : Int} : Conn (tiesAt ts (J ++ [t])) i j ↔ Conn (tiesAt ts J) i j ∨ (Conn (tiesAt ts J) i (tieAt ts t).1 ∧ Conn (tiesAt ts J) (tieAt ts t).2 j) ∨ (Conn (tiesAt ts J) i (tieAt ts t).2 ∧ Conn (tiesAt ts J) (tieAt ts t).1 j) := by
  rw [tiesAt_snoc]; exact conn_snoc
/-- what some of such ties hang together, and all without f, that the some without f do -/
theorem Ind.meet {p : Nat} {ts : List (Int × Int)} (hE : EndsOk p ts) {J : List Int} (h : Ind p ts J) {f : Int} (hf : f ∈ J) {K : List Int} (hK : ∀ x ∈ K, x ∈ J) {a b : Int} (c1 : Conn (tiesAt ts K) a b) (c2 : Conn (tiesAt ts (wo J f)) a b) : Conn (tiesAt ts (wo K f)) a b := by
  have c3 : Conn (tiesAt ts (wo K f ++ [f])) a b := conn_sub (fun x hx => by
    by_cases q : x = f
    · subst q; simp
    · exact List.mem_append_left _ (wo_mem.mpr ⟨hx, q⟩)) c1
  have up : ∀ {x y}, Conn (tiesAt ts (wo K f)) x y → Conn (tiesAt ts (wo J f)) x y := fun c => conn_sub (fun x hx => wo_mem.mpr ⟨hK x (wo_mem.mp hx).1, (wo_mem.mp hx).2⟩) c
  rcases conn_snoc'.mp c3 with c | ⟨d1, d2⟩ | ⟨d1, d2⟩
  · exact c
  · exact absurd ((up d1).symm.trans (c2.trans (up d2).symm)) (h.cuts hE hf)
  · exact absurd ((up d2).trans (c2.symm.trans (up d1))) (h.cuts hE hf)
theorem Ind.meets {p : Nat} {ts : List (Int × Int)} (hE : EndsOk p ts) {J : List Int} (h : Ind p ts J) {a b : Int} : ∀ (F : List Int), (∀ f ∈ F, f ∈ J ∧ Conn (tiesAt ts (wo J f)) a b) → ∀ K : List Int, (∀ x ∈ K, x ∈ J) → Conn (tiesAt ts K) a b → Conn (tiesAt ts (K.filter fun x => !decide (x ∈ F))) a b
  | [], _, K, _, c => by rw [List.filter_eq_self.mpr (by simp)]; exact c
  | f :: F, hF, K, hK, c => by
    have c1 := h.meet hE (hF f (List.mem_cons_self ..)).1 hK c (hF f (List.mem_cons_self ..)).2
    have := Ind.meets hE h F (fun g hg => hF g (List.mem_cons_of_mem _ hg)) (wo K f) (fun x hx => hK x (wo_mem.mp hx).1) c1
    refine conn_sub (fun x hx => ?_) this
    rw [List.mem_filter, wo_mem] at hx
    rw [List.mem_filter]
    refine ⟨hx.1.1, ?_⟩
    have h2 := hx.2
    simp at h2 ⊢
    exact ⟨hx.1.2, h2⟩
/-- a tie of the one has a tie of the other such that both may be exchanged -/
theorem swap_both {p : Nat} (hp : 1 ≤ p) {ts : List (Int × Int)} (hE : EndsOk p ts) {A U : List Int} (hA : treeB p ts A = true) (hU : treeB p ts U = true) {e : Int} (he : e ∈ A) (heU : e ∉ U) :
    ∃ f ∈ U, f ∉ A ∧ treeB p ts (swap A e f) = true ∧ treeB p ts (swap U f e) = true := by
  have hI := tree_ind hA hp
  have hJ := tree_ind hU hp
  obtain ⟨u1, u2, u3⟩ := treeB_nat.mp hU
  have er := hI.inn e he
  rcases Classical.em (∃ f ∈ U, ¬ Conn (tiesAt ts (wo A e)) (tieAt ts f).1 (tieAt ts f).2 ∧ ¬ Conn (tiesAt ts (wo U f)) (tieAt ts e).1 (tieAt ts e).2) with ⟨f, hf, c1, c2⟩ | no
  · have hfA : f ∉ A := fun z => c1 (conn_at (wo_mem.mpr ⟨z, fun q => heU (q ▸ hf)⟩))
    exact ⟨f, hf, hfA, (swap_tree hp hE hA he hfA (hJ.inn f hf)).mpr c1, (swap_tree hp hE hU hf heU er).mpr c2⟩
  · exfalso
    have hall : Conn (tiesAt ts U) (tieAt ts e).1 (tieAt ts e).2 := by
      obtain ⟨_, e2⟩ := tie_at er.1 er.2
      obtain ⟨a, b⟩ := hE _ e2
      exact (cnt_one hp (tiesAt_ok hE (good_in u2))).mp u3 _ _ a.1 a.2 b.1 b.2
    have c := hJ.meets hE (a := (tieAt ts e).1) (b := (tieAt ts e).2) (U.filter fun f => decide (¬ Conn (tiesAt ts (wo A e)) (tieAt ts f).1 (tieAt ts f).2)) (fun f hf => by
      obtain ⟨k1, k2⟩ := List.mem_filter.mp hf
      refine ⟨k1, ?_⟩
      rcases Classical.em (Conn (tiesAt ts (wo U f)) (tieAt ts e).1 (tieAt ts e).2) with z | z
      · exact z
      · exact absurd ⟨f, k1, by simpa using k2, z⟩ no) U (fun _ h => h) hall
    refine hI.cuts hE he (Conn.le (fun q hq => ?_) c)
    obtain ⟨t, ht, rfl⟩ := List.mem_map.mp hq
    obtain ⟨k1, k2⟩ := List.mem_filter.mp ht
    rcases Classical.em (Conn (tiesAt ts (wo A e)) (tieAt ts t).1 (tieAt ts t).2) with z | z
    · exact z
    · have : t ∈ U.filter fun f => decide (¬ Conn (tiesAt ts (wo A e)) (tieAt ts f).1 (tieAt ts f).2) := List.mem_filter.mpr ⟨k1, by simpa using z⟩
      simp only [this, decide_true, Bool.not_true] at k2
      exact absurd k2 (by simp)
end Lw
namespace Lw
open DL L2 TL
theorem exAll_mem {p : Nat} (hp : 1 ≤ p) {ts : List (Int × Int)} (hE : EndsOk p ts) {T : List Int} (hT : treeB p ts T = true) {o i : Int} : (o, i) ∈ exAll p ts T ↔ exB p ts T o i = true := by
  simp only [exAll, List.mem_flatMap, exOf, List.mem_map, List.mem_filter]
  constructor
  · rintro ⟨o', ho, i', ⟨h1, h2⟩, e⟩
    cases e
    exact (cut_ex hp hE hT ho i).mp ⟨h1, by simpa using h2⟩
  · intro h
    have ho := (exB_iff.mp h).1
    obtain ⟨h1, h2⟩ := (cut_ex hp hE hT ho i).mpr h
    exact ⟨o, ho, i, ⟨h1, by simpa using h2⟩, rfl⟩
theorem exAll_len (p : Nat) (ts : List (Int × Int)) (T : List Int) : (exAll p ts T).length ≤ T.length * ts.length := by
  have : ∀ l : List Int, (l.map fun o => (exOf p ts T o).length).sum ≤ l.length * ts.length := fun l => by
    induction l with
    | nil => simp
    | cons o l ih =>
      have := exOf_len p ts T o
      simp only [List.map_cons, List.sum_cons, List.length_cons, Nat.succ_mul]
      omega
  unfold exAll
  rw [List.length_flatMap]
  exact this T
def pL (x : Int × Int) : List Int := [x.1, x.2]
theorem pL_inj {x y : Int × Int} (h : pL x = pL y) : x = y := by
  unfold pL at h
  injection h with h1 h2
  injection h2 with h2
  exact Prod.ext h1 h2
theorem dP_pL (l : List (Int × Int)) : l.map dP = (l.map pL).map dT := by
  rw [List.map_map]
  exact List.map_congr_left fun x _ => by simp [dP, dT, pL]
theorem pL_lt {a b c d : Int} (h : a < c ∨ (a = c ∧ b < d)) : HT.lexLt (pL (a, b)) (pL (c, d)) = true := by
  unfold pL
  rw [HT.lexLt_cons, HT.lexLt_cons]
  by_cases e : a = c
  · rw [if_pos e, if_neg (by omega)]; simp; omega
  · rw [if_neg e]; simp; omega
/-- the exchanges stand in their order -/
theorem exAll_lex {p : Nat} {ts : List (Int × Int)} {T : List Int} (hT : T.Pairwise (· < ·)) : (exAll p ts T).Pairwise fun a b => HT.lexLt (pL a) (pL b) = true := by
  unfold exAll
  rw [List.pairwise_flatMap]
  refine ⟨fun o _ => ?_, hT.imp fun {a b} h x hx y hy => ?_⟩
  · unfold exOf
    rw [List.pairwise_map]
    unfold cutL
    exact (((iota_rise _).filter _).filter _).imp fun h => pL_lt (.inr ⟨rfl, h⟩)
  · unfold exOf at hx hy
    obtain ⟨i, _, rfl⟩ := List.mem_map.mp hx
    obtain ⟨j, _, rfl⟩ := List.mem_map.mp hy
    exact pL_lt (.inl h)
/-! gains -/
def shorter (L : List Int) (x : Int × Int) : Bool := decide (nth L x.2 < nth L x.1)
def gains (p : Nat) (ts : List (Int × Int)) (L T : List Int) : List (Int × Int) := (exAll p ts T).filter (shorter L)
def dueOf (p : Nat) (ts : List (Int × Int)) (L T : List Int) (i : Int) : List (Int × Int) := if i ∈ T then [] else ((T.filter fun o => !decide (nth (marksL p ts (wo T o)) (tieAt ts i).1 = nth (marksL p ts (wo T o)) (tieAt ts i).2)).map fun o => (o, i)).filter (shorter L)
def dueAll (p : Nat) (ts : List (Int × Int)) (L T : List Int) : List (Int × Int) := (iota ts.length).flatMap (dueOf p ts L T)
section
variable {p : Nat} (hp : 1 ≤ p) {ts : List (Int × Int)} (hE : EndsOk p ts) {T : List Int} (hT : treeB p ts T = true) (L : List Int)
include hp hE hT
theorem due_mem (x : Int × Int) : x ∈ dueAll p ts L T ↔ x ∈ gains p ts L T := by
  obtain ⟨o, i⟩ := x
  have hI := tree_ind hT hp
  unfold dueAll gains
  rw [List.mem_flatMap, List.mem_filter, exAll_mem hp hE hT, exB_iff]
  constructor
  · rintro ⟨j, hj, h⟩
    unfold dueOf at h
    by_cases c : j ∈ T
    · rw [if_pos c] at h; exact nomatch h
    · rw [if_neg c] at h
      obtain ⟨h1, h2⟩ := List.mem_filter.mp h
      obtain ⟨o', h3, e⟩ := List.mem_map.mp h1
      cases e
      obtain ⟨h4, h5⟩ := List.mem_filter.mp h3
      have hj' := iota_mem.mp hj
      refine ⟨⟨h4, c, hj', (swap_tree hp hE hT h4 c hj').mpr ?_⟩, h2⟩
      rw [← testL hE (wo_in hI.inn o) hj']
      simpa using h5
  · rintro ⟨⟨h1, h2, h3, h4⟩, h5⟩
    refine ⟨i, iota_mem.mpr h3, ?_⟩
    unfold dueOf
    rw [if_neg h2]
    refine List.mem_filter.mpr ⟨List.mem_map.mpr ⟨o, List.mem_filter.mpr ⟨h1, ?_⟩, rfl⟩, h5⟩
    have := (swap_tree hp hE hT h1 h2 h3).mp h4
    rw [← testL hE (wo_in hI.inn o) h3] at this
    simpa using this
theorem due_sorted : srtL ((dueAll p ts L T).map pL) = (gains p ts L T).map pL := by
  have hr := (good_iff.mp (treeB_nat.mp hT).2.1).2
  have hlex : (gains p ts L T).Pairwise fun a b => HT.lexLt (pL a) (pL b) = true := (exAll_lex hr).filter _
  have hn : (gains p ts L T).Nodup := hlex.imp fun {a b} h e => by
    subst e; rw [lex_irr] at h; cases h
  have hI := tree_ind hT hp
  have hd : (dueAll p ts L T).Nodup := by
    unfold dueAll
    unfold List.Nodup
    rw [List.pairwise_flatMap]
    refine ⟨fun i _ => ?_, (iota_rise _).imp fun {a b} h x hx y hy e => ?_⟩
    · unfold dueOf
      split
      · exact .nil
      · refine List.Pairwise.filter _ ?_
        rw [List.pairwise_map]
        exact (hI.nd.filter _).imp fun {a b} h e => by cases e; exact h rfl
    · have key : ∀ {i : Int} {x : Int × Int}, x ∈ dueOf p ts L T i → x.2 = i := fun {i x} hx => by
        unfold dueOf at hx
        split at hx
        · exact nomatch hx
        · obtain ⟨h1, _⟩ := List.mem_filter.mp hx
          obtain ⟨o, _, rfl⟩ := List.mem_map.mp h1
          rfl
      have h1 := key hx
      have h2 := key hy
      rw [e] at h1
      omega
  have pm := (List.perm_ext_iff_of_nodup hn hd).mpr fun x => (due_mem hp hE hT L x).symm
  refine (srtL_uniq (pm.map pL) ?_).symm
  exact List.pairwise_map.mpr (hlex.imp fun h => NtL.lex_asym _ _ h)
omit hE in
theorem lsum_swap {o i : Int} (ho : o ∈ T) : lsum L (swap T o i) = lsum L T - nth L o + nth L i := by
  have hI := tree_ind hT hp
  have pm : (o :: wo T o).Perm T := by
    refine (List.perm_ext_iff_of_nodup (List.nodup_cons.mpr ⟨fun z => (wo_mem.mp z).2 rfl, wo_nodup hI.nd o⟩) hI.nd).mpr fun x => ?_
    rw [List.mem_cons, wo_mem]
    constructor
    · rintro (rfl | h)
      · exact ho
      · exact h.1
    · intro h
      by_cases e : x = o
      · exact .inl e
      · exact .inr ⟨h, e⟩
  unfold swap
  rw [lsum_perm (srt_perm _), ← lsum_perm pm, lsum_cons]
  unfold lsum
  rw [List.map_append, List.sum_append]
  simp
  omega
/-- without a gain: none is shorter -/
theorem no_gain (h : gains p ts L T = []) : ∀ (n : Nat) {U : List Int}, treeB p ts U = true → (alone U T).length ≤ n → lsum L T ≤ lsum L U
  | 0, U, hU, hn => by
    have e : U = T := by
      refine rise_uniq (good_iff.mp (treeB_nat.mp hU).2.1).2 (good_iff.mp (treeB_nat.mp hT).2.1).2 fun k => ?_
      have sub : ∀ x ∈ U, x ∈ T := fun x hx => by
        rcases Classical.em (x ∈ T) with z | z
        · exact z
        · have : x ∈ alone U T := List.mem_filter.mpr ⟨hx, by simpa using z⟩
          have := List.length_pos_of_mem this
          omega
      refine ⟨sub k, fun hk => ?_⟩
      rcases Classical.em (k ∈ U) with z | z
      · exact z
      · have := nodup_le (l := k :: U) (m := T) (List.nodup_cons.mpr ⟨z, (tree_ind hU hp).nd⟩) fun y hy => by
          rcases List.mem_cons.mp hy with rfl | hy
          · exact hk
          · exact sub y hy
        have h1 := tree_len hp hU
        have h2 := tree_len hp hT
        simp at this
        omega
    rw [e]; exact Int.le_refl _
  | n + 1, U, hU, hn => by
    match hA : alone U T with
    | [] => exact no_gain h n hU (by rw [hA]; simp)
    | f :: r =>
      have hf : f ∈ alone U T := by rw [hA]; exact List.mem_cons_self ..
      obtain ⟨f1, f2⟩ := List.mem_filter.mp hf
      have f2 : f ∉ T := by simpa using f2
      obtain ⟨g, g1, g2, g3, g4⟩ := swap_both hp hE hU hT f1 f2
      have hex : exB p ts T g f = true := exB_iff.mpr ⟨g1, f2, (tree_ind hU hp).inn f f1, g4⟩
      have ng : ¬ nth L f < nth L g := fun z => by
        have : (g, f) ∈ gains p ts L T := List.mem_filter.mpr ⟨(exAll_mem hp hE hT).mpr hex, by simpa [shorter] using z⟩
        rw [h] at this
        exact nomatch this
      have e1 : lsum L (swap U f g) = lsum L U - nth L f + nth L g := lsum_swap hp hU L f1
      have := no_gain h n g3 (by
        have hnd : (alone (swap U f g) T).Nodup := (tree_ind g3 hp).nd.filter _
        have hfn : f ∉ alone (swap U f g) T := fun z => by
          have := swap_mem.mp (List.mem_filter.mp z).1
          rcases this with ⟨_, z⟩ | z
          · exact z rfl
          · rw [z] at f2; exact f2 g1
        have := nodup_le (l := f :: alone (swap U f g) T) (m := alone U T) (List.nodup_cons.mpr ⟨hfn, hnd⟩) fun y hy => by
          rcases List.mem_cons.mp hy with rfl | hy
          · exact hf
          · obtain ⟨h1, h2⟩ := List.mem_filter.mp hy
            rcases swap_mem.mp h1 with ⟨z, _⟩ | z
            · exact List.mem_filter.mpr ⟨z, h2⟩
            · subst z; simp [g1] at h2
        simp at this
        omega)
      omega
theorem gain_iff : gains p ts L T = [] ↔ ∀ U, treeB p ts U = true → lsum L T ≤ lsum L U := by
  constructor
  · exact fun h U hU => no_gain hp hE hT L h _ hU (Nat.le_refl _)
  · intro h
    match hg : gains p ts L T with
    | [] => rfl
    | (o, i) :: r =>
      exfalso
      have hm : (o, i) ∈ gains p ts L T := by rw [hg]; exact List.mem_cons_self ..
      obtain ⟨h1, h2⟩ := List.mem_filter.mp hm
      have hx := exB_iff.mp ((exAll_mem hp hE hT).mp h1)
      have := h _ hx.2.2.2
      rw [lsum_swap hp hT L hx.1] at this
      have h2 : nth L i < nth L o := by simpa [shorter] using h2
      omega
end
end Lw
noncomputable section
namespace Lw
open DL
def f_law_behind_good_c1 : Env → Res D := eVar 5
def f_law_behind_good_c1t : Env → Res Bool := tC2 cNIn (eVar 5) (eVar 1)
def f_law_behind_good : Env → Out := sSeq (sAsgF 4 (eOwn g_exchanged (aCons (eVar 0) (aCons (eVar 1) (aCons (eVar 2) (aCons (eVar 3) (aNil))))))) (sSeq (sIf (tOr_ (tNo (tTr (eOwn g_is_tree (aCons (eVar 0) (aCons (eVar 4) (aNil)))))) (tC2 cNe (eCall caLen (aCons (eLc (iSeq (eVar 4)) [5] (gtN 5) (f_law_behind_good_c1t) f_law_behind_good_c1) (aNil))) (eC (.int 1)))) (sRet (eC (.bl false))) (sNil)) (sRet (eB (tAn (tC2 cEq (eOwn g_ring_of (aCons (eVar 0) (aCons (eVar 4) (aCons (eVar 2) (aNil))))) (eOwn g_ring_of (aCons (eVar 0) (aCons (eVar 1) (aCons (eVar 3) (aNil)))))) (tC2 cEq (eOwn g_cut_of (aCons (eVar 0) (aCons (eVar 4) (aCons (eVar 3) (aNil))))) (eOwn g_cut_of (aCons (eVar 0) (aCons (eVar 1) (aCons (eVar 2) (aNil))))))))))
def g_law_behind_good : List D → Res D := runF f_law_behind_good 6
def f_law_k14_c1 : Env → Res D := eVar 11
def f_law_k14_c1t : Env → Res Bool := tC2 cNIn (eVar 11) (eVar 4)
def f_law_k14_l3 : Env → Out := sDSet 7 (eVar 8) (eOwn g_cut_of (aCons (eVar 3) (aCons (eVar 4) (aCons (eVar 8) (aNil)))))
def f_law_k14_c4 : Env → Res D := eVar 11
def f_law_k14_c4t : Env → Res Bool := tC2 cIn (eVar 11) (eBin opDG (eVar 7) (eVar 8))
def f_law_k14_l6 : Env → Out := sSeq (sIf (tOr_ (tC2 cNe (eB (tC2 cIn (eVar 8) (eVar 10))) (eB (tC2 cIn (eVar 9) (eBin opDG (eVar 7) (eVar 8))))) (tC2 cNe (eB (tC2 cIn (eVar 8) (eVar 10))) (eB (tC2 cIn2 (eTup (aConsO (eVar 8) (aConsO (eVar 9) (aNil)))) (eVar 6))))) (sRet (eC (.bl false))) (sNil)) (sSeq (sIf (tC2 cEq (eCall caLen (aCons (eLc (iSeq (eVar 10)) [11] (gtN 11) (f_law_k14_c4t) f_law_k14_c4) (aNil))) (eC (.int 1))) (sRet (eC (.bl false))) (sNil)) (sIf (tAn (tC2 cIn (eVar 8) (eVar 10)) (tNo (tTr (eOwn g_law_behind_good (aCons (eVar 3) (aCons (eVar 4) (aCons (eVar 8) (aCons (eVar 9) (aNil))))))))) (sRet (eC (.bl false))) (sNil)))
def f_law_k14_l7 : Env → Out := sSeq (sAsgF 10 (eOwn g_ring_of (aCons (eVar 3) (aCons (eVar 4) (aCons (eVar 9) (aNil)))))) (sFor (iSeq (eVar 4)) (gtN 8) f_law_k14_l6)
def f_law_k14_c8 : Env → Res D := eBin opSub (eCall caLen (aCons (eBin opDG (eVar 7) (eVar 8)) (aNil))) (eC (.int 1))
def f_law_k14 : Env → Out := sSeq (sAsgT (gtT 2 (gtCons (gtN 1) (gtCons (gtN 2) (gtNil)))) (eOwn g_law_web (aCons (eVar 0) (aCons (eC (.int 8)) (aCons (eC (.int 16)) (aNil)))))) (sSeq (sAsgF 3 (eMkF 14 g_Web_init (aCons (eVar 1) (aCons (eVar 2) (aNil))))) (sSeq (sAsgF 4 (eOwn g_law_tree_by (aCons (eVar 1) (aCons (eVar 2) (aCons (eBin opMod (eCall caSum (aCons (eVar 0) (aNil))) (eBin opPow (eC (.int 10)) (eC (.int 60)))) (aNil)))))) (sSeq (sIf (tC2 cIsN (eVar 4) (eC .non)) (sRet (eC (.bl true))) (sNil)) (sSeq (sAsgF 5 (eLc (iRg1 (aCons (eCall caLen (aCons (eVar 2) (aNil))) (aNil))) [11] (gtN 11) (f_law_k14_c1t) f_law_k14_c1)) (sSeq (sAsgF 6 (eOwn g_exchanges_of (aCons (eVar 3) (aCons (eVar 4) (aNil))))) (sSeq (sAsg 7 (eDic)) (sSeq (sFor (iSeq (eVar 4)) (gtN 8) f_law_k14_l3) (sSeq (sFor (iSeq (eVar 5)) (gtN 9) f_law_k14_l7) (sRet (eB (tC2 cEq (eCall caLen (aCons (eVar 6) (aNil))) (eCall caSum (aCons (eLc (iSeq (eVar 4)) [8] (gtN 8) (tYesG) f_law_k14_c8) (aNil))))))))))))))
def g_law_k14 : List D → Res D := runF f_law_k14 12
end Lw
end
namespace Lw
open DL L2 TL
theorem cIn2_P14 (a b : Int) (L : List (Int × Int)) : cIn2 (.tp [.int a, .int b]) (.ls (L.map dP)) = some (decide ((a, b) ∈ L)) := by
  have h := cIn2_TL (pL (a, b)) (L.map pL)
  rw [← dP_pL] at h
  have e : decide (pL (a, b) ∈ L.map pL) = decide ((a, b) ∈ L) := by
    rw [decide_eq_decide, List.mem_map]
    constructor
    · rintro ⟨x, hx, e⟩; rw [← pL_inj e]; exact hx
    · exact fun h => ⟨_, h, rfl⟩
  rw [e] at h
  exact h
section
variable {p : Nat} {ts : List (Int × Int)} {T : List Int}
theorem ring_mem (hp : 1 ≤ p) (hE : EndsOk p ts) (hT : treeB p ts T = true) {i : Int} (hi : i ∉ T) (hr : 0 ≤ i ∧ i < ts.length) (x : Int) : x ∈ ringL p ts T i ↔ x = i ∨ exB p ts T x i = true := by
  unfold ringL
  rw [srt_mem, List.mem_cons, List.mem_filter]
  have hI := tree_ind hT hp
  obtain ⟨_, e2⟩ := tie_at hr.1 hr.2
  obtain ⟨⟨a0, a1⟩, b0, b1⟩ := hE _ e2
  have key : ∀ x, x ∈ T → (onR (p : Int).toNat ts T i x = true ↔ treeB p ts (swap T x i) = true) := fun x hx => by
    rw [swap_tree hp hE hT hx hi hr]
    unfold onR
    have := nthM p ts hE (wo T x) (wo_in hI.inn x) _ _ a0 a1 b0 b1
    rw [show (p : Int).toNat = p from rfl]
    simp only [Bool.not_eq_true', decide_eq_false_iff_not, this]
  constructor
  · rintro (h | ⟨h1, h2⟩)
    · exact .inl h
    · exact .inr (exB_iff.mpr ⟨h1, hi, hr, (key x h1).mp h2⟩)
  · rintro (h | h)
    · exact .inl h
    · obtain ⟨h1, _, _, h4⟩ := exB_iff.mp h
      exact .inr ⟨h1, (key x h1).mpr h4⟩
theorem ring_rise (hp : 1 ≤ p) (hT : treeB p ts T = true) {i : Int} (hi : i ∉ T) : (ringL p ts T i).Pairwise (· < ·) := by
  have hI := tree_ind hT hp
  exact srt_lt (List.nodup_cons.mpr ⟨fun h => hi (List.mem_filter.mp h).1, hI.nd.filter _⟩)
theorem cut_mem14 (hp : 1 ≤ p) (hE : EndsOk p ts) (hT : treeB p ts T = true) {o : Int} (ho : o ∈ T) {i : Int} (hi : i ∉ T) : i ∈ cutL p ts T o ↔ exB p ts T o i = true := by
  have := cut_ex hp hE hT ho i
  rw [← this]
  exact ⟨fun h => ⟨h, fun e => hi (e ▸ ho)⟩, fun h => h.1⟩
theorem cut_tree14 (hp : 1 ≤ p) (hE : EndsOk p ts) (hT : treeB p ts T = true) {o : Int} (ho : o ∈ T) {x : Int} (hx : x ∈ T) (h : x ∈ cutL p ts T o) : x = o := by
  apply Classical.byContradiction
  intro n
  have := (cut_ex hp hE hT ho x).mp ⟨h, n⟩
  exact (exB_iff.mp this).2.1 hx
theorem cut_self (hp : 1 ≤ p) (hE : EndsOk p ts) (hT : treeB p ts T = true) {o : Int} (ho : o ∈ T) : o ∈ cutL p ts T o := by
  have hI := tree_ind hT hp
  have hr := hI.inn o ho
  obtain ⟨_, e2⟩ := tie_at hr.1 hr.2
  obtain ⟨⟨a0, a1⟩, b0, b1⟩ := hE _ e2
  unfold cutL inC
  refine List.mem_filter.mpr ⟨iota_mem.mpr hr, ?_⟩
  have := nthM p ts hE (wo T o) (wo_in hI.inn o) _ _ a0 a1 b0 b1
  rw [show (p : Int).toNat = p from rfl]
  simp only [Bool.not_eq_true', decide_eq_false_iff_not, this]
  exact hI.cuts hE ho
/-- a ring and a cut have none in common, or more than one -/
theorem common14 (hp : 1 ≤ p) (hE : EndsOk p ts) (hT : treeB p ts T = true) {o : Int} (ho : o ∈ T) {i : Int} (hi : i ∉ T) (hr : 0 ≤ i ∧ i < ts.length) : ((ringL p ts T i).filter fun x => decide (x ∈ cutL p ts T o)).length ≠ 1 := by
  intro h1
  obtain ⟨a, ha⟩ := List.length_eq_one_iff.mp h1
  have mem : ∀ x, x ∈ ringL p ts T i → x ∈ cutL p ts T o → x = a := fun x hx hy => by
    have : x ∈ (ringL p ts T i).filter fun x => decide (x ∈ cutL p ts T o) := List.mem_filter.mpr ⟨hx, by simpa using hy⟩
    rw [ha] at this
    exact List.mem_singleton.mp this
  have hma : a ∈ (ringL p ts T i).filter fun x => decide (x ∈ cutL p ts T o) := by rw [ha]; exact List.mem_singleton.mpr rfl
  obtain ⟨m1, m2⟩ := List.mem_filter.mp hma
  have m2 : a ∈ cutL p ts T o := by simpa using m2
  cases c : exB p ts T o i with
  | true =>
    have e1 := mem o ((ring_mem hp hE hT hi hr o).mpr (.inr c)) (cut_self hp hE hT ho)
    have e2 := mem i ((ring_mem hp hE hT hi hr i).mpr (.inl rfl)) ((cut_mem14 hp hE hT ho hi).mpr c)
    exact hi (by rw [e2, ← e1]; exact ho)
  | false =>
    rcases (ring_mem hp hE hT hi hr a).mp m1 with e | e
    · subst e
      rw [(cut_mem14 hp hE hT ho hi).mp m2] at c
      cases c
    · have hat := (exB_iff.mp e).1
      have := cut_tree14 hp hE hT ho hat m2
      subst this
      rw [e] at c; cases c
theorem swap_rise (T : List Int) (hT : T.Nodup) {o i : Int} (hi : i ∉ T) : (swap T o i).Pairwise (· < ·) :=
  srt_lt (List.nodup_append.mpr ⟨wo_nodup hT o, by simp, fun a ha b hb e => by rw [List.mem_singleton.mp hb] at e; exact hi (e ▸ (wo_mem.mp ha).1)⟩)
theorem wo_swap (hp : 1 ≤ p) (hT : treeB p ts T = true) {o i : Int} (ho : o ∈ T) (hi : i ∉ T) : wo (swap T o i) i = wo T o := by
  have hI := tree_ind hT hp
  have hr := (good_iff.mp (treeB_nat.mp hT).2.1).2
  refine rise_uniq ((swap_rise T hI.nd hi).filter _) (hr.filter _) fun k => ?_
  show k ∈ wo (swap T o i) i ↔ k ∈ wo T o
  rw [wo_mem, swap_mem, wo_mem]
  constructor
  · rintro ⟨h | h, n⟩
    · exact h
    · exact absurd h n
  · exact fun h => ⟨.inl h, fun e => hi (e ▸ h.1)⟩
theorem swap_in (hp : 1 ≤ p) (hT : treeB p ts T = true) {o i : Int} (ho : o ∈ T) (hi : i ∉ T) : i ∈ swap T o i ∧ o ∉ swap T o i := by
  refine ⟨swap_mem.mpr (.inr rfl), fun h => ?_⟩
  rcases swap_mem.mp h with h | h
  · exact h.2 rfl
  · exact hi (h ▸ ho)
theorem cut_swap (hp : 1 ≤ p) (hT : treeB p ts T = true) {o i : Int} (ho : o ∈ T) (hi : i ∉ T) : cutL p ts (swap T o i) i = cutL p ts T o := by
  unfold cutL
  refine List.filter_congr fun x _ => ?_
  unfold inC
  rw [wo_swap hp hT ho hi]
theorem swap_back (hp : 1 ≤ p) (hT : treeB p ts T = true) {o i : Int} (ho : o ∈ T) (hi : i ∉ T) : swap (swap T o i) i o = T := by
  have hI := tree_ind hT hp
  have hr := (good_iff.mp (treeB_nat.mp hT).2.1).2
  obtain ⟨h1, h2⟩ := swap_in hp hT ho hi
  have nd : (swap T o i).Nodup := rise_nodup (swap_rise T hI.nd hi)
  refine rise_uniq (swap_rise _ nd h2) hr fun k => ?_
  rw [swap_mem, swap_mem]
  constructor
  · rintro (⟨h | h, n⟩ | h)
    · exact h.1
    · exact absurd h n
    · rw [h]; exact ho
  · intro h
    by_cases e : k = o
    · exact .inr e
    · exact .inl ⟨.inl ⟨h, e⟩, fun z => hi (z ▸ h)⟩
theorem ring_swap (hp : 1 ≤ p) (hE : EndsOk p ts) (hT : treeB p ts T = true) {o i : Int} (hx : exB p ts T o i = true) : ringL p ts (swap T o i) o = ringL p ts T i := by
  obtain ⟨ho, hi, hr, hS⟩ := exB_iff.mp hx
  have hI := tree_ind hT hp
  obtain ⟨h1, h2⟩ := swap_in hp hT ho hi
  have hro := hI.inn o ho
  have nd : (swap T o i).Nodup := rise_nodup (swap_rise T hI.nd hi)
  refine rise_uniq (ring_rise hp hS h2) (ring_rise hp hT hi) fun k => ?_
  rw [ring_mem hp hE hS h2 hro, ring_mem hp hE hT hi hr]
  by_cases ko : k = o
  · subst ko; exact ⟨fun _ => .inr hx, fun _ => .inl rfl⟩
  · by_cases ki : k = i
    · subst ki
      refine ⟨fun _ => .inl rfl, fun _ => .inr (exB_iff.mpr ⟨h1, h2, hro, ?_⟩)⟩
      rw [swap_back hp hT ho hi]; exact hT
    · have e : k ∈ T → swap (swap T o i) k o = swap T k i := fun hk => by
        have hk2 : k ∈ swap T o i := swap_mem.mpr (.inl ⟨hk, ko⟩)
        refine rise_uniq (swap_rise _ nd h2) (swap_rise T hI.nd hi) fun x => ?_
        rw [swap_mem, swap_mem, swap_mem]
        constructor
        · rintro (⟨⟨q1, q2⟩ | q, n⟩ | q)
          · exact .inl ⟨q1, n⟩
          · exact .inr q
          · rw [q]; exact .inl ⟨ho, fun z => ko z.symm⟩
        · rintro (⟨q1, q2⟩ | q)
          · by_cases xo : x = o
            · exact .inr xo
            · exact .inl ⟨.inl ⟨q1, xo⟩, q2⟩
          · exact .inl ⟨.inr q, fun z => ki (z.symm.trans q)⟩
      constructor
      · rintro (h | h)
        · exact absurd h ko
        · obtain ⟨q1, _, _, q4⟩ := exB_iff.mp h
          have hk : k ∈ T := by
            rcases swap_mem.mp q1 with q | q
            · exact q.1
            · exact absurd q ki
          rw [e hk] at q4
          exact .inr (exB_iff.mpr ⟨hk, hi, hr, q4⟩)
      · rintro (h | h)
        · exact absurd h ki
        · obtain ⟨hk, _, _, q4⟩ := exB_iff.mp h
          refine .inr (exB_iff.mpr ⟨swap_mem.mpr (.inl ⟨hk, ko⟩), h2, hro, ?_⟩)
          rw [e hk]; exact q4
theorem alone_swap (hp : 1 ≤ p) (hT : treeB p ts T = true) {o i : Int} (ho : o ∈ T) (hi : i ∉ T) : (swap T o i).filter (fun x => !decide (x ∈ T)) = [i] := by
  have hI := tree_ind hT hp
  refine rise_uniq ((swap_rise T hI.nd hi).filter _) (List.pairwise_singleton ..) fun k => ?_
  rw [List.mem_filter, swap_mem, List.mem_singleton]
  simp only [Bool.not_eq_true', decide_eq_false_iff_not]
  constructor
  · rintro ⟨h | h, n⟩
    · exact absurd h.1 n
    · exact h
  · rintro rfl; exact ⟨.inr rfl, hi⟩
theorem good14_ok (hp : 1 ≤ p) (hp2 : p ≤ 100) (hE : EndsOk p ts) (ht : ts.length ≤ 100) (hT : treeB p ts T = true) {o i : Int} (hx : exB p ts T o i = true) :
    g_law_behind_good [.ob 14 [.int p, .ls (ts.map dP)], .tp (T.map D.int), .int o, .int i] = .ok (.bl true) := by
  obtain ⟨ho, hi, hr, hS⟩ := exB_iff.mp hx
  obtain ⟨h1, h2⟩ := swap_in hp hT ho hi
  have hI := tree_ind hT hp
  have hro := hI.inn o ho
  have ex := exchanged_ok p hp (by omega) ts hE T hT (.inr rfl) o i
  rw [if_pos hx] at ex
  have it := is_tree_tp p ts hE (by omega) (by omega) (swap T o i)
  rw [hS] at it
  have r1 := ring_ok p ts hE (by omega) (by omega) (swap T o i) (.inr rfl) hS o
  rw [if_pos ⟨hro, h2⟩, ring_swap hp hE hT hx] at r1
  have r2 := ring_ok p ts hE (by omega) (by omega) T (.inr rfl) hT i
  rw [if_pos ⟨hr, hi⟩] at r2
  have c1 := cut_ok p ts hE (by omega) (by omega) (by omega) (swap T o i) (.inr rfl) hS i
  rw [if_pos h1, cut_swap hp hT ho hi] at c1
  have c2 := cut_ok p ts hE (by omega) (by omega) (by omega) T (.inr rfl) hT o
  rw [if_pos ho] at c2
  have lc : ∀ x2 x3 : D, lcL (gtN 5) f_law_behind_good_c1t f_law_behind_good_c1 [.ob 14 [.int p, .ls (ts.map dP)], .tp (T.map D.int), x2, x3, .tp ((swap T o i).map D.int), .un] ((swap T o i).map D.int) = .ok ([i].map D.int) := fun x2 x3 => by
    rw [← alone_swap hp hT ho hi]
    refine lcL_filterN _ fun x _ => ?_
    exact ⟨by simp [f_law_behind_good_c1t], fun _ => by simp [f_law_behind_good_c1]⟩
  have bl : (swap T o i).length ≤ lim := by have := tree_len hp hS; rw [lim_eq]; omega
  have l1 : 1 ≤ lim := by rw [lim_eq]; omega
  simp [g_law_behind_good, runF, f_law_behind_good, ex, it, r1, r2, c1, c2, lc, bl, l1]
end
/-- the dict of the cuts -/
def cutsA (p : Nat) (ts : List (Int × Int)) (T l : List Int) : List (Int × D) := l.map fun o => (o, .tp ((cutL p ts T o).map D.int))
theorem cutsA_val (p : Nat) (ts : List (Int × Int)) (T : List Int) : ∀ {l : List Int} {o : Int}, o ∈ l → valG (cutsA p ts T l) o = some (.tp ((cutL p ts T o).map D.int))
  | a :: l, o, h => by
    unfold valG cutsA
    by_cases e : a = o
    · subst e; rw [List.map_cons, List.find?_cons_of_pos (by simp)]; rfl
    · rw [List.map_cons, List.find?_cons_of_neg (by simp [e])]
      have := cutsA_val p ts T (l := l) (o := o) (by rcases List.mem_cons.mp h with h | h; exact absurd h.symm e; exact h)
      exact this
theorem cutsA_put (p : Nat) (ts : List (Int × Int)) (T l : List Int) {o : Int} (h : o ∉ l) : putG (cutsA p ts T l) o (.tp ((cutL p ts T o).map D.int)) = cutsA p ts T (l ++ [o]) := by
  unfold putG
  rw [if_neg]
  · simp [cutsA]
  · simp only [cutsA, List.any_map, List.any_eq_true, Function.comp_apply, decide_eq_true_eq]
    rintro ⟨x, hx, e⟩
    exact h (e ▸ hx)
theorem cutsA_all (p : Nat) (ts : List (Int × Int)) (T l : List Int) : ((ddV (cutsA p ts T l)).all fun d => !own1 d) = true := by simp [ddV, cutsA]
theorem cutsA_len (p : Nat) (ts : List (Int × Int)) (T l : List Int) : (ddK (cutsA p ts T l)).length = l.length := by simp [ddK, cutsA]
theorem cutsA_brws (p : Nat) (ts : List (Int × Int)) (T l : List Int) : brws (ddV (cutsA p ts T l)) = ddV (cutsA p ts T l) := by
  unfold ddV cutsA
  rw [List.map_map]
  induction l with
  | nil => rfl
  | cons a l ih => simp only [List.map_cons, brws_cons, ih]; rfl
section
variable {p : Nat} {ts : List (Int × Int)} {T : List Int}
theorem k14_l3 (x0 x1 x2 x5 x6 x9 x10 x11 : D) (hp : 1 ≤ p) (hp2 : p ≤ 100) (hE : EndsOk p ts) (ht : ts.length ≤ 100) (hT : treeB p ts T = true) : ∀ (l pre : List Int) (y8 : D), pre ++ l = T →
    ∃ z8, forL (gtN 8) f_law_k14_l3 (l.map D.int) [x0, x1, x2, .ob 14 [.int p, .ls (ts.map dP)], .tp (T.map D.int), x5, x6, .od (ddK (cutsA p ts T pre)) (ddV (cutsA p ts T pre)), y8, x9, x10, x11] = .nx [x0, x1, x2, .ob 14 [.int p, .ls (ts.map dP)], .tp (T.map D.int), x5, x6, .od (ddK (cutsA p ts T T)) (ddV (cutsA p ts T T)), z8, x9, x10, x11]
  | [], pre, y8, e => ⟨y8, by rw [List.append_nil] at e; subst e; simp [forL]⟩
  | o :: l, pre, y8, e => by
    have ho : o ∈ T := by rw [← e]; simp
    have hn : o ∉ pre := by
      have nd := (tree_ind hT hp).nd
      rw [← e] at nd
      exact fun h => (List.nodup_append.mp nd).2.2 o h o (List.mem_cons_self ..) rfl
    have c2 := cut_ok p ts hE (by omega) (by omega) (by omega) T (.inr rfl) hT o
    rw [if_pos ho] at c2
    have hTl := tree_len hp hT
    have hpl : pre.length < lim := by rw [← e] at hTl; simp at hTl; rw [lim_eq]; omega
    obtain ⟨z8, ih⟩ := k14_l3 x0 x1 x2 x5 x6 x9 x10 x11 hp hp2 hE ht hT l (pre ++ [o]) (.int o) (by rw [← e]; simp)
    refine ⟨z8, ?_⟩
    rw [← ih, ← cutsA_put p ts T pre hn]
    have a1 := cutsA_all p ts T pre
    have a2 := cutsA_len p ts T pre
    have pk := putD_k (cutsA p ts T pre) o (.tp ((cutL p ts T o).map D.int))
    have pd := putD_d (cutsA p ts T pre) o (.tp ((cutL p ts T o).map D.int))
    rw [← pk, ← pd]
    simp only [List.map_cons]
    rw [forL_cons]
    simp [f_law_k14_l3, c2, hpl, a2, a1]
theorem k14_l6 (x0 x1 x2 x5 : D) (hp : 1 ≤ p) (hp2 : p ≤ 100) (hE : EndsOk p ts) (ht : ts.length ≤ 100) (hT : treeB p ts T = true) {i : Int} (hi : i ∉ T) (hr : 0 ≤ i ∧ i < ts.length) : ∀ (l : List Int) (y8 : D), (∀ o ∈ l, o ∈ T) →
    ∃ z8, forL (gtN 8) f_law_k14_l6 (l.map D.int) [x0, x1, x2, .ob 14 [.int p, .ls (ts.map dP)], .tp (T.map D.int), x5, .ls ((exAll p ts T).map dP), .od (ddK (cutsA p ts T T)) (ddV (cutsA p ts T T)), y8, .int i, .tp ((ringL p ts T i).map D.int), .un] = .nx [x0, x1, x2, .ob 14 [.int p, .ls (ts.map dP)], .tp (T.map D.int), x5, .ls ((exAll p ts T).map dP), .od (ddK (cutsA p ts T T)) (ddV (cutsA p ts T T)), z8, .int i, .tp ((ringL p ts T i).map D.int), .un]
  | [], y8, _ => ⟨y8, by simp [forL]⟩
  | o :: l, y8, h => by
    have ho := h o (List.mem_cons_self ..)
    obtain ⟨z8, ih⟩ := k14_l6 x0 x1 x2 x5 hp hp2 hE ht hT hi hr l (.int o) (fun x hx => h x (List.mem_cons_of_mem _ hx))
    refine ⟨z8, ?_⟩
    rw [← ih]
    have bw := cutsA_brws p ts T T
    have dg : opDG (.bd (ddK (cutsA p ts T T)) (ddV (cutsA p ts T T))) (.int o) = some (.tp ((cutL p ts T o).map D.int)) := by rw [opDG_dd, cutsA_val p ts T ho]
    have A : decide (o ∈ ringL p ts T i) = exB p ts T o i := by
      rw [Bool.eq_iff_iff, decide_eq_true_eq, ring_mem hp hE hT hi hr]
      exact ⟨fun q => q.elim (fun q => absurd (q ▸ ho) hi) id, .inr⟩
    have B : decide (i ∈ cutL p ts T o) = exB p ts T o i := by
      rw [Bool.eq_iff_iff, decide_eq_true_eq, cut_mem14 hp hE hT ho hi]
    have C := cIn2_P14 o i (exAll p ts T)
    have C2 : decide ((o, i) ∈ exAll p ts T) = exB p ts T o i := by
      rw [Bool.eq_iff_iff, decide_eq_true_eq, exAll_mem hp hE hT]
    rw [C2] at C
    have cA : cIn (.int o) (.tp ((ringL p ts T i).map D.int)) = some (exB p ts T o i) := by rw [← A]; simp
    have cB : cIn (.int i) (.tp ((cutL p ts T o).map D.int)) = some (exB p ts T o i) := by rw [← B]; simp
    have cm := common14 hp hE hT ho hi hr
    have lc : ∀ x8 : D, x8 = .int o → lcL (gtN 11) f_law_k14_c4t f_law_k14_c4 [x0, x1, x2, .ob 14 [.int p, .ls (ts.map dP)], .tp (T.map D.int), x5, .ls ((exAll p ts T).map dP), .od (ddK (cutsA p ts T T)) (ddV (cutsA p ts T T)), x8, .int i, .tp ((ringL p ts T i).map D.int), .un] ((ringL p ts T i).map D.int) = .ok (((ringL p ts T i).filter fun x => decide (x ∈ cutL p ts T o)).map D.int) := fun x8 e => by
      subst e
      refine lcL_filterN _ fun x _ => ?_
      exact ⟨by simp [f_law_k14_c4t, bw, dg], fun _ => by simp [f_law_k14_c4]⟩
    have lc := lc _ rfl
    have cm2 : ¬ (((ringL p ts T i).filter fun x => decide (x ∈ cutL p ts T o)).length : Int) = 1 := by omega
    have bl : (ringL p ts T i).length ≤ lim := by
      have := tree_len hp hT
      have : (ringL p ts T i).length ≤ T.length + 1 := by
        unfold ringL
        rw [srt_len, List.length_cons]
        have := List.length_filter_le (onR (p : Int).toNat ts T i) T
        omega
      rw [lim_eq]; omega
    generalize hL : ((ringL p ts T i).filter fun x => decide (x ∈ cutL p ts T o)) = Lf at lc cm2
    have l2 : 2 ≤ lim := by rw [lim_eq]; omega
    cases c : exB p ts T o i with
    | true =>
      rw [c] at C cA cB
      have gd := good14_ok hp hp2 hE ht hT c
      simp [forL, f_law_k14_l6, bw, dg, cA, cB, C, lc, cm2, bl, gd, l2]
    | false =>
      rw [c] at C cA cB
      simp [forL, f_law_k14_l6, bw, dg, cA, cB, C, lc, cm2, bl, l2]
theorem k14_l7 (x0 x1 x2 x5 : D) (hp : 1 ≤ p) (hp2 : p ≤ 100) (hE : EndsOk p ts) (ht : ts.length ≤ 100) (hT : treeB p ts T = true) : ∀ (l : List Int) (y8 y9 y10 : D), (∀ i ∈ l, i ∉ T ∧ 0 ≤ i ∧ i < ts.length) →
    ∃ z8 z9 z10, forL (gtN 9) f_law_k14_l7 (l.map D.int) [x0, x1, x2, .ob 14 [.int p, .ls (ts.map dP)], .tp (T.map D.int), x5, .ls ((exAll p ts T).map dP), .od (ddK (cutsA p ts T T)) (ddV (cutsA p ts T T)), y8, y9, y10, .un] = .nx [x0, x1, x2, .ob 14 [.int p, .ls (ts.map dP)], .tp (T.map D.int), x5, .ls ((exAll p ts T).map dP), .od (ddK (cutsA p ts T T)) (ddV (cutsA p ts T T)), z8, z9, z10, .un]
  | [], y8, y9, y10, _ => ⟨y8, y9, y10, by simp [forL]⟩
  | i :: l, y8, y9, y10, h => by
    obtain ⟨hi, hr⟩ := h i (List.mem_cons_self ..)
    obtain ⟨w8, e⟩ := k14_l6 x0 x1 x2 x5 hp hp2 hE ht hT hi hr T y8 (fun _ h => h)
    obtain ⟨z8, z9, z10, ih⟩ := k14_l7 x0 x1 x2 x5 hp hp2 hE ht hT l w8 (.int i) (.tp ((ringL p ts T i).map D.int)) (fun x hx => h x (List.mem_cons_of_mem _ hx))
    refine ⟨z8, z9, z10, ?_⟩
    rw [← ih]
    have r2 := ring_ok p ts hE (by omega) (by omega) T (.inr rfl) hT i
    rw [if_pos ⟨hr, hi⟩] at r2
    simp [forL, f_law_k14_l7, r2, e]
theorem ex_sum (hp : 1 ≤ p) (hE : EndsOk p ts) (hT : treeB p ts T = true) : ((exAll p ts T).length : Int) = (T.map fun o => ((cutL p ts T o).length : Int) - 1).sum := by
  have one : ∀ o ∈ T, ((exOf p ts T o).length : Int) = ((cutL p ts T o).length : Int) - 1 := fun o ho => by
    unfold exOf
    rw [List.length_map]
    have nd : (cutL p ts T o).Nodup := (iota_nodup _).filter _
    have := wo_length nd (cut_self hp hE hT ho)
    unfold wo at this
    omega
  have gen : ∀ l : List Int, (∀ o ∈ l, o ∈ T) → ((l.flatMap (exOf p ts T)).length : Int) = (l.map fun o => ((cutL p ts T o).length : Int) - 1).sum := by
    intro l
    induction l with
    | nil => intro _; rfl
    | cons a l ih =>
      intro h
      have h1 := one a (h a (List.mem_cons_self ..))
      have h2 := ih fun o ho => h o (List.mem_cons_of_mem _ ho)
      rw [List.flatMap_cons, List.length_append, List.map_cons, List.sum_cons, ← h2, ← h1]
      omega
  exact gen T fun _ h => h
end
theorem true_law_k14 (ns : List Int) (h : ns.length ≤ 63) : g_law_k14 [.sc (ns.map D.int)] = .ok (.bl true) := by
  obtain ⟨p', ts, p1, p2, t1, t2, ew⟩ := web_ok ns h 8 16 (by omega) (by omega) (by omega) (by omega)
  have ei := web_init_ok p' ts p1 (by omega) (by omega) t2
  obtain ⟨p, rfl⟩ : ∃ p : Nat, p' = p := ⟨p'.toNat, by omega⟩
  have hp : 1 ≤ p := by omega
  rcases tree_by_ok p ts t2 p1 (by omega) (by omega) (ns.sum % e60) with e | ⟨T, hT, e⟩
  · simp [g_law_k14, runF, f_law_k14, ew, ei, e]
  · have ex := exchanges_ok p hp (by omega) ts t2 (by omega) T hT (.inr rfl)
    have hTl := tree_len hp hT
    have hr : rgOk (ts.length : Int) := rgOk_of (by omega) (by omega)
    have lc1 : ∀ x5 x6 x7 x8 x9 x10 : D, lcL (gtN 11) f_law_k14_c1t f_law_k14_c1 [.sc (ns.map D.int), .int p, .ls (ts.map dP), .ob 14 [.int p, .ls (ts.map dP)], .tp (T.map D.int), x5, x6, x7, x8, x9, x10, .un] ((iota ts.length).map D.int) = .ok ((othL ts.length T).map D.int) := fun x5 x6 x7 x8 x9 x10 => by
      refine lcL_filterN _ fun x _ => ?_
      exact ⟨by simp [f_law_k14_c1t], fun _ => by simp [f_law_k14_c1]⟩
    have b1 : ts.length ≤ lim := by rw [lim_eq]; omega
    have b2 : T.length ≤ lim := by rw [lim_eq]; omega
    obtain ⟨z8, e3⟩ := k14_l3 (.sc (ns.map D.int)) (.int p) (.ls (ts.map dP)) (.ls ((othL ts.length T).map D.int)) (.ls ((exAll p ts T).map dP)) .un .un .un hp (by omega) t2 (by omega) hT T [] .un rfl
    obtain ⟨w8, w9, w10, e7⟩ := k14_l7 (.sc (ns.map D.int)) (.int p) (.ls (ts.map dP)) (.ls ((othL ts.length T).map D.int)) hp (by omega) t2 (by omega) hT (othL ts.length T) z8 .un .un (fun i hi => by
      obtain ⟨q1, q2⟩ := oth_mem.mp hi
      exact ⟨q2, q1⟩)
    have bw := cutsA_brws p ts T T
    have lc8 : ∀ x8 x9 x10 : D, lcL (gtN 8) tYesG f_law_k14_c8 [.sc (ns.map D.int), .int p, .ls (ts.map dP), .ob 14 [.int p, .ls (ts.map dP)], .tp (T.map D.int), .ls ((othL ts.length T).map D.int), .ls ((exAll p ts T).map dP), .od (ddK (cutsA p ts T T)) (ddV (cutsA p ts T T)), x8, x9, x10, .un] (T.map D.int) = .ok ((T.map fun o => ((cutL p ts T o).length : Int) - 1).map D.int) := fun x8 x9 x10 => by
      rw [List.map_map]
      refine lcL_mapN _ fun o ho => ?_
      have dg : opDG (.bd (ddK (cutsA p ts T T)) (ddV (cutsA p ts T T))) (.int o) = some (.tp ((cutL p ts T o).map D.int)) := by rw [opDG_dd, cutsA_val p ts T ho]
      simp [f_law_k14_c8, bw, dg]
    have es := ex_sum hp t2 hT
    have cs : caSum [.ls ((T.map fun o => ((cutL p ts T o).length : Int) - 1).map D.int)] = some (.int (exAll p ts T).length) := by rw [es]; exact caSum_ls
    rw [show ddK (cutsA p ts T []) = [] from rfl, show ddV (cutsA p ts T []) = [] from rfl] at e3
    have b3 : (T.map fun o => ((cutL p ts T o).length : Int) - 1).length ≤ lim := by rw [List.length_map]; exact b2
    simp [g_law_k14, runF, f_law_k14, ew, ei, e, ex, hr, rng_iota, lc1, b1, b2, e3, e7, lc8, cs, -List.map_map]
end Lw
namespace Lw
open PySem L2 DL
def top (i : Nat) : Stmt := PySem.Challenge.pw_spanrow_k14_whole_rings_and_cuts.main.body.getD i (.Pass ⟨0, 0, 0, 0⟩)
abbrev s_Web_init : Stmt := inClass (top 8) 0
abbrev s_marks_over : Stmt := top 9
abbrev s_is_tree : Stmt := top 11
abbrev s_look_at_tree : Stmt := top 12
abbrev s_without_tie : Stmt := top 13
abbrev s_ring_of : Stmt := top 14
abbrev s_cut_of : Stmt := top 15
abbrev s_exchanges_of : Stmt := top 16
abbrev s_exchanged : Stmt := top 17
abbrev s_law_cell : Stmt := top 19
abbrev s_law_mixed : Stmt := top 20
abbrev s_law_draws : Stmt := top 21
abbrev s_law_ties : Stmt := top 22
abbrev s_law_web : Stmt := top 23
abbrev s_law_marks : Stmt := top 24
abbrev s_law_tree_by : Stmt := top 25
abbrev s_law_behind_good : Stmt := top 26
abbrev s_law_k14 : Stmt := top 27
abbrev N_Web_init : List Str := ["self", "places", "ties", "one", "other"]
abbrev N_marks_over : List Str := ["web", "ties", "marks", "tie", "one", "other", "low", "high", "mark"]
abbrev N_is_tree : List Str := ["web", "ties", "ahead", "tie"]
abbrev N_look_at_tree : List Str := ["web", "tree"]
abbrev N_without_tie : List Str := ["ties", "tie", "other"]
abbrev N_ring_of : List Str := ["web", "tree", "tie", "one", "other", "told", "inner", "marks"]
abbrev N_cut_of : List Str := ["web", "tree", "tie", "marks", "k", "ends"]
abbrev N_exchanges_of : List Str := ["web", "tree", "told", "out", "into"]
abbrev N_exchanged : List Str := ["web", "tree", "out", "into", "told"]
abbrev N_law_cell : List Str := ["script", "k"]
abbrev N_law_mixed : List Str := ["cell", "k", "first", "second"]
abbrev N_law_draws : List Str := ["script", "start", "count", "way", "total", "folded", "k", "at", "told", "cell"]
abbrev N_law_ties : List Str := ["draws", "places", "hang", "ties", "k", "one", "other", "ends", "turn"]
abbrev N_law_web : List Str := ["script", "most", "count", "head", "places", "many", "draws"]
abbrev N_law_marks : List Str := ["places", "ties", "some", "marks", "tie", "one", "other", "gone", "kept", "place"]
abbrev N_law_tree_by : List Str := ["places", "ties", "cell", "left", "some", "marks", "k", "tie", "one", "other"]
abbrev N_law_behind_good : List Str := ["web", "tree", "out", "into", "made", "tie"]
abbrev N_law_k14 : List Str := ["script", "places", "ties", "web", "tree", "others", "listed", "cuts", "out", "into", "ring", "tie"]
theorem sc_Web_init : FnScope ["self", "places", "ties", "one", "other"] ["self", "places", "ties"] (defScope s_Web_init) := ⟨rfl, rfl, rfl, by decide +kernel, rfl, by decide +kernel, by decide +kernel⟩
theorem sc_marks_over : FnScope ["web", "ties", "marks", "tie", "one", "other", "low", "high", "mark"] ["web", "ties"] (defScope s_marks_over) := ⟨rfl, rfl, rfl, by decide +kernel, rfl, by decide +kernel, by decide +kernel⟩
theorem sc_is_tree : FnScope ["web", "ties", "ahead", "tie"] ["web", "ties"] (defScope s_is_tree) := ⟨rfl, rfl, rfl, by decide +kernel, rfl, by decide +kernel, by decide +kernel⟩
theorem sc_look_at_tree : FnScope ["web", "tree"] ["web", "tree"] (defScope s_look_at_tree) := ⟨rfl, rfl, rfl, by decide +kernel, rfl, by decide +kernel, by decide +kernel⟩
theorem sc_without_tie : FnScope ["ties", "tie", "other"] ["ties", "tie"] (defScope s_without_tie) := ⟨rfl, rfl, rfl, by decide +kernel, rfl, by decide +kernel, by decide +kernel⟩
theorem sc_ring_of : FnScope ["web", "tree", "tie", "one", "other", "told", "inner", "marks"] ["web", "tree", "tie"] (defScope s_ring_of) := ⟨rfl, rfl, rfl, by decide +kernel, rfl, by decide +kernel, by decide +kernel⟩
theorem sc_cut_of : FnScope ["web", "tree", "tie", "marks", "k", "ends"] ["web", "tree", "tie"] (defScope s_cut_of) := ⟨rfl, rfl, rfl, by decide +kernel, rfl, by decide +kernel, by decide +kernel⟩
theorem sc_exchanges_of : FnScope ["web", "tree", "told", "out", "into"] ["web", "tree"] (defScope s_exchanges_of) := ⟨rfl, rfl, rfl, by decide +kernel, rfl, by decide +kernel, by decide +kernel⟩
theorem sc_exchanged : FnScope ["web", "tree", "out", "into", "told"] ["web", "tree", "out", "into"] (defScope s_exchanged) := ⟨rfl, rfl, rfl, by decide +kernel, rfl, by decide +kernel, by decide +kernel⟩
theorem sc_law_cell : FnScope ["script", "k"] ["script", "k"] (defScope s_law_cell) := ⟨rfl, rfl, rfl, by decide +kernel, rfl, by decide +kernel, by decide +kernel⟩
theorem sc_law_mixed : FnScope ["cell", "k", "first", "second"] ["cell", "k"] (defScope s_law_mixed) := ⟨rfl, rfl, rfl, by decide +kernel, rfl, by decide +kernel, by decide +kernel⟩
theorem sc_law_draws : FnScope ["script", "start", "count", "way", "total", "folded", "k", "at", "told", "cell"] ["script", "start", "count", "way"] (defScope s_law_draws) := ⟨rfl, rfl, rfl, by decide +kernel, rfl, by decide +kernel, by decide +kernel⟩
theorem sc_law_ties : FnScope ["draws", "places", "hang", "ties", "k", "one", "other", "ends", "turn"] ["draws", "places", "hang"] (defScope s_law_ties) := ⟨rfl, rfl, rfl, by decide +kernel, rfl, by decide +kernel, by decide +kernel⟩
theorem sc_law_web : FnScope ["script", "most", "count", "head", "places", "many", "draws"] ["script", "most", "count"] (defScope s_law_web) := ⟨rfl, rfl, rfl, by decide +kernel, rfl, by decide +kernel, by decide +kernel⟩
theorem sc_law_marks : FnScope ["places", "ties", "some", "marks", "tie", "one", "other", "gone", "kept", "place"] ["places", "ties", "some"] (defScope s_law_marks) := ⟨rfl, rfl, rfl, by decide +kernel, rfl, by decide +kernel, by decide +kernel⟩
theorem sc_law_tree_by : FnScope ["places", "ties", "cell", "left", "some", "marks", "k", "tie", "one", "other"] ["places", "ties", "cell"] (defScope s_law_tree_by) := ⟨rfl, rfl, rfl, by decide +kernel, rfl, by decide +kernel, by decide +kernel⟩
theorem sc_law_behind_good : FnScope ["web", "tree", "out", "into", "made", "tie"] ["web", "tree", "out", "into"] (defScope s_law_behind_good) := ⟨rfl, rfl, rfl, by decide +kernel, rfl, by decide +kernel, by decide +kernel⟩
theorem sc_law_k14 : FnScope ["script", "places", "ties", "web", "tree", "others", "listed", "cuts", "out", "into", "ring", "tie"] ["script"] (defScope s_law_k14) := ⟨rfl, rfl, rfl, by decide +kernel, rfl, by decide +kernel, by decide +kernel⟩
structure Tx (K : PySem.W.Frag) (mg : Str → Option Value) : Type where
  C_WebError : Addr
  C_BadWeb : Addr
  C_NoTree : Addr
  C_NoTie : Addr
  C_Web : Addr
  a_Web_init : Addr
  d_Web_init : FuncData
  a_marks_over : Addr
  d_marks_over : FuncData
  a_is_tree : Addr
  d_is_tree : FuncData
  a_look_at_tree : Addr
  d_look_at_tree : FuncData
  a_without_tie : Addr
  d_without_tie : FuncData
  a_ring_of : Addr
  d_ring_of : FuncData
  a_cut_of : Addr
  d_cut_of : FuncData
  a_exchanges_of : Addr
  d_exchanges_of : FuncData
  a_exchanged : Addr
  d_exchanged : FuncData
  a_law_cell : Addr
  d_law_cell : FuncData
  a_law_mixed : Addr
  d_law_mixed : FuncData
  a_law_draws : Addr
  d_law_draws : FuncData
  a_law_ties : Addr
  d_law_ties : FuncData
  a_law_web : Addr
  d_law_web : FuncData
  a_law_marks : Addr
  d_law_marks : FuncData
  a_law_tree_by : Addr
  d_law_tree_by : FuncData
  a_law_behind_good : Addr
  d_law_behind_good : FuncData
  a_law_k14 : Addr
  d_law_k14 : FuncData
  t_MOST_PLACES : Tok
  t_MOST_TIES : Tok
  m_WebError : mg "WebError" = some (.ref C_WebError)
  x_WebError : PySem.W.excIn K C_WebError [.type "ValueError", .type "Exception", .type "BaseException", .type "object"] "ValueError.__new__" = true
  kx_WebError : PySem.W.keepIn K (.ref C_WebError) = true
  bx_WebError : PySem.W.subIn K (.ref C_WebError) (.type "BaseException") = some true
  tx_WebError : PySem.W.typeIn K (.ref C_WebError) = some (.type "type")
  m_BadWeb : mg "BadWeb" = some (.ref C_BadWeb)
  x_BadWeb : PySem.W.excIn K C_BadWeb [.type "ValueError", .type "Exception", .type "BaseException", .type "object"] "ValueError.__new__" = true
  kx_BadWeb : PySem.W.keepIn K (.ref C_BadWeb) = true
  bx_BadWeb : PySem.W.subIn K (.ref C_BadWeb) (.type "BaseException") = some true
  tx_BadWeb : PySem.W.typeIn K (.ref C_BadWeb) = some (.type "type")
  m_NoTree : mg "NoTree" = some (.ref C_NoTree)
  x_NoTree : PySem.W.excIn K C_NoTree [.type "ValueError", .type "Exception", .type "BaseException", .type "object"] "ValueError.__new__" = true
  kx_NoTree : PySem.W.keepIn K (.ref C_NoTree) = true
  bx_NoTree : PySem.W.subIn K (.ref C_NoTree) (.type "BaseException") = some true
  tx_NoTree : PySem.W.typeIn K (.ref C_NoTree) = some (.type "type")
  m_NoTie : mg "NoTie" = some (.ref C_NoTie)
  x_NoTie : PySem.W.excIn K C_NoTie [.type "ValueError", .type "Exception", .type "BaseException", .type "object"] "ValueError.__new__" = true
  kx_NoTie : PySem.W.keepIn K (.ref C_NoTie) = true
  bx_NoTie : PySem.W.subIn K (.ref C_NoTie) (.type "BaseException") = some true
  tx_NoTie : PySem.W.typeIn K (.ref C_NoTie) = some (.type "type")
  m_Web : mg "Web" = some (.ref C_Web)
  cl_Web : L2.Cls K C_Web
  na_Web_places : NoAttr K C_Web "places"
  na_Web_ties : NoAttr K C_Web "ties"
  mk_Web : Mk K C_Web a_Web_init
  F_Web_init : Fun K "__init__" "Web.__init__" s_Web_init a_Web_init d_Web_init
  b_Web_init : Binds K d_Web_init ["self", "places", "ties"] []
  k_Web_init : PySem.W.keepIn K (.ref a_Web_init) = true
  F_marks_over : Fun K "marks_over" "marks_over" s_marks_over a_marks_over d_marks_over
  b_marks_over : Binds K d_marks_over ["web", "ties"] []
  m_marks_over : mg "marks_over" = some (.ref a_marks_over)
  k_marks_over : PySem.W.keepIn K (.ref a_marks_over) = true
  F_is_tree : Fun K "is_tree" "is_tree" s_is_tree a_is_tree d_is_tree
  b_is_tree : Binds K d_is_tree ["web", "ties"] []
  m_is_tree : mg "is_tree" = some (.ref a_is_tree)
  k_is_tree : PySem.W.keepIn K (.ref a_is_tree) = true
  F_look_at_tree : Fun K "look_at_tree" "look_at_tree" s_look_at_tree a_look_at_tree d_look_at_tree
  b_look_at_tree : Binds K d_look_at_tree ["web", "tree"] []
  m_look_at_tree : mg "look_at_tree" = some (.ref a_look_at_tree)
  k_look_at_tree : PySem.W.keepIn K (.ref a_look_at_tree) = true
  F_without_tie : Fun K "without_tie" "without_tie" s_without_tie a_without_tie d_without_tie
  b_without_tie : Binds K d_without_tie ["ties", "tie"] []
  m_without_tie : mg "without_tie" = some (.ref a_without_tie)
  k_without_tie : PySem.W.keepIn K (.ref a_without_tie) = true
  F_ring_of : Fun K "ring_of" "ring_of" s_ring_of a_ring_of d_ring_of
  b_ring_of : Binds K d_ring_of ["web", "tree", "tie"] []
  m_ring_of : mg "ring_of" = some (.ref a_ring_of)
  k_ring_of : PySem.W.keepIn K (.ref a_ring_of) = true
  F_cut_of : Fun K "cut_of" "cut_of" s_cut_of a_cut_of d_cut_of
  b_cut_of : Binds K d_cut_of ["web", "tree", "tie"] []
  m_cut_of : mg "cut_of" = some (.ref a_cut_of)
  k_cut_of : PySem.W.keepIn K (.ref a_cut_of) = true
  F_exchanges_of : Fun K "exchanges_of" "exchanges_of" s_exchanges_of a_exchanges_of d_exchanges_of
  b_exchanges_of : Binds K d_exchanges_of ["web", "tree"] []
  m_exchanges_of : mg "exchanges_of" = some (.ref a_exchanges_of)
  k_exchanges_of : PySem.W.keepIn K (.ref a_exchanges_of) = true
  F_exchanged : Fun K "exchanged" "exchanged" s_exchanged a_exchanged d_exchanged
  b_exchanged : Binds K d_exchanged ["web", "tree", "out", "into"] []
  m_exchanged : mg "exchanged" = some (.ref a_exchanged)
  k_exchanged : PySem.W.keepIn K (.ref a_exchanged) = true
  F_law_cell : Fun K "_law_cell" "_law_cell" s_law_cell a_law_cell d_law_cell
  b_law_cell : Binds K d_law_cell ["script", "k"] []
  m_law_cell : mg "_law_cell" = some (.ref a_law_cell)
  k_law_cell : PySem.W.keepIn K (.ref a_law_cell) = true
  F_law_mixed : Fun K "_law_mixed" "_law_mixed" s_law_mixed a_law_mixed d_law_mixed
  b_law_mixed : Binds K d_law_mixed ["cell", "k"] []
  m_law_mixed : mg "_law_mixed" = some (.ref a_law_mixed)
  k_law_mixed : PySem.W.keepIn K (.ref a_law_mixed) = true
  F_law_draws : Fun K "_law_draws" "_law_draws" s_law_draws a_law_draws d_law_draws
  b_law_draws : Binds K d_law_draws ["script", "start", "count", "way"] []
  m_law_draws : mg "_law_draws" = some (.ref a_law_draws)
  k_law_draws : PySem.W.keepIn K (.ref a_law_draws) = true
  F_law_ties : Fun K "_law_ties" "_law_ties" s_law_ties a_law_ties d_law_ties
  b_law_ties : Binds K d_law_ties ["draws", "places", "hang"] []
  m_law_ties : mg "_law_ties" = some (.ref a_law_ties)
  k_law_ties : PySem.W.keepIn K (.ref a_law_ties) = true
  F_law_web : Fun K "_law_web" "_law_web" s_law_web a_law_web d_law_web
  b_law_web : Binds K d_law_web ["script", "most", "count"] []
  m_law_web : mg "_law_web" = some (.ref a_law_web)
  k_law_web : PySem.W.keepIn K (.ref a_law_web) = true
  F_law_marks : Fun K "_law_marks" "_law_marks" s_law_marks a_law_marks d_law_marks
  b_law_marks : Binds K d_law_marks ["places", "ties", "some"] []
  m_law_marks : mg "_law_marks" = some (.ref a_law_marks)
  k_law_marks : PySem.W.keepIn K (.ref a_law_marks) = true
  F_law_tree_by : Fun K "_law_tree_by" "_law_tree_by" s_law_tree_by a_law_tree_by d_law_tree_by
  b_law_tree_by : Binds K d_law_tree_by ["places", "ties", "cell"] []
  m_law_tree_by : mg "_law_tree_by" = some (.ref a_law_tree_by)
  k_law_tree_by : PySem.W.keepIn K (.ref a_law_tree_by) = true
  F_law_behind_good : Fun K "_law_behind_good" "_law_behind_good" s_law_behind_good a_law_behind_good d_law_behind_good
  b_law_behind_good : Binds K d_law_behind_good ["web", "tree", "out", "into"] []
  m_law_behind_good : mg "_law_behind_good" = some (.ref a_law_behind_good)
  k_law_behind_good : PySem.W.keepIn K (.ref a_law_behind_good) = true
  F_law_k14 : Fun K "law" "law" s_law_k14 a_law_k14 d_law_k14
  b_law_k14 : Binds K d_law_k14 ["script"] []
  m_law_k14 : mg "law" = some (.ref a_law_k14)
  k_law_k14 : PySem.W.keepIn K (.ref a_law_k14) = true
  v_MOST_PLACES : mg "MOST_PLACES" = some (.int 14 t_MOST_PLACES)
  v_MOST_TIES : mg "MOST_TIES" = some (.int 30 t_MOST_TIES)
  z_enumerate : mg "enumerate" = none
  z_len : mg "len" = none
  z_list : mg "list" = none
  z_max : mg "max" = none
  z_min : mg "min" = none
  z_range : mg "range" = none
  z_set : mg "set" = none
  z_sorted : mg "sorted" = none
  z_sum : mg "sum" = none
  z_tuple : mg "tuple" = none
section
variable {P : Program} {w : World} {K : PySem.W.Frag} {mg : Str → Option Value} {base : Heap}
def Tx.cls (T : Tx K mg) : DL.Cls := fun c => ([some (T.C_WebError, []), some (T.C_BadWeb, []), none, none, some (T.C_NoTree, []), some (T.C_NoTie, []), none, none, none, none, none, none, none, none, some (T.C_Web, ["places", "ties"]), none, none] : List (Option (Addr × List Str))).getD c none
theorem Tx.e_WebError (T : Tx K mg) : ExOk K mg T.cls 0 "WebError" T.C_WebError := ⟨rfl, T.m_WebError, T.x_WebError, T.kx_WebError, T.bx_WebError, T.tx_WebError⟩
theorem Tx.e_BadWeb (T : Tx K mg) : ExOk K mg T.cls 1 "BadWeb" T.C_BadWeb := ⟨rfl, T.m_BadWeb, T.x_BadWeb, T.kx_BadWeb, T.bx_BadWeb, T.tx_BadWeb⟩
theorem Tx.e_NoTree (T : Tx K mg) : ExOk K mg T.cls 4 "NoTree" T.C_NoTree := ⟨rfl, T.m_NoTree, T.x_NoTree, T.kx_NoTree, T.bx_NoTree, T.tx_NoTree⟩
theorem Tx.e_NoTie (T : Tx K mg) : ExOk K mg T.cls 5 "NoTie" T.C_NoTie := ⟨rfl, T.m_NoTie, T.x_NoTie, T.kx_NoTie, T.bx_NoTie, T.tx_NoTie⟩
theorem Tx.o_Web (T : Tx K mg) : ClsOk K T.cls 14 T.C_Web ["places", "ties"] := ⟨rfl, by decide +kernel, T.cl_Web, fun f h => (by simp at h; rcases h with rfl | rfl <;> first | exact T.na_Web_places | exact T.na_Web_ties)⟩
set_option maxHeartbeats 4000000 in
theorem ok_Web_init (T : Tx K mg) : FnOk P w K mg base (L2.CX P w) 1 T.a_Web_init T.d_Web_init ["self", "places", "ties"] (spI K T.cls 14 2 g_Web_init) :=
  fnI_ok T.F_Web_init sc_Web_init rfl (fun cdv A outer s H E c => jss_cons (js_if (jt_w (jw_or (jt_not (jt_chain op_le op_le ok_le ok_le (je_int) (je_var 1) (je_gint T.v_MOST_PLACES))) (jw_or1 (jt_cmp op_gt ok_gt (je_callB call_len ok_len T.z_len (by decide +kernel) (ja_cons (je_var 2) (ja_nil))) (je_gint T.v_MOST_TIES) (nomark _))))) (jss_one (js_raise c T.e_BadWeb)) (jss_nil)) (jss_cons (js_for c (ji_seq (je_var 2)) (jg_tup c.calm (jgs_cons (jg_name (i := 3) c.nd rfl (by first | exact Or.inl rfl | exact Or.inr rfl)) (jgs_cons (jg_name (i := 4) c.nd rfl (by first | exact Or.inl rfl | exact Or.inr rfl)) (jgs_nil)))) (jss_one (js_if (jt_w (jw_or (jt_not (jt_chain op_le op_lt ok_le ok_lt (je_int) (je_var 3) (je_var 1))) (jw_or1 (jt_not (jt_chain op_le op_lt ok_le ok_lt (je_int) (je_var 4) (je_var 1)))))) (jss_one (js_raise c T.e_BadWeb)) (jss_nil)))) (jss_cons (js_fld (i := 0) T.o_Web (j := 0) rfl (by decide) rfl (by first | exact Or.inl rfl | exact Or.inr (Or.inl rfl) | exact Or.inr (Or.inr rfl)) (je_var 1)) (jss_one (js_fld (i := 0) T.o_Web (j := 1) rfl (by decide) rfl (by first | exact Or.inl rfl | exact Or.inr (Or.inl rfl) | exact Or.inr (Or.inr rfl)) (je_callTy call_list_of ok_list T.z_list (by decide +kernel) (ja_cons (je_var 2) (ja_nil)))))))) (mirI_ok)
set_option maxHeartbeats 4000000 in
theorem ok_marks_over (T : Tx K mg) : FnOk P w K mg base (L2.CX P w) 1 T.a_marks_over T.d_marks_over ["web", "ties"] (spD K T.cls 2 g_marks_over) :=
  fnD_ok T.F_marks_over sc_marks_over rfl (fun cdv A outer s H E c => jss_cons (js_setF (i := 2) c rfl (by first | exact Or.inl rfl | exact Or.inr rfl) (je_lr1 c T.z_list T.z_range (je_fld T.o_Web (i := 0) rfl (je_var 0)))) (jss_cons (js_for c (ji_seq (je_var 1)) (jg_name (i := 3) c.nd rfl (by first | exact Or.inl rfl | exact Or.inr rfl)) (jss_cons (js_asgT (je_ix (je_fld T.o_Web (i := 1) rfl (je_var 0)) (je_var 3)) (jg_tup c.calm (jgs_cons (jg_name (i := 4) c.nd rfl (by first | exact Or.inl rfl | exact Or.inr rfl)) (jgs_cons (jg_name (i := 5) c.nd rfl (by first | exact Or.inl rfl | exact Or.inr rfl)) (jgs_nil))))) (jss_cons (js_setF (i := 6) c rfl (by first | exact Or.inl rfl | exact Or.inr rfl) (je_callB (call_min2 c.calm) ok_min2 T.z_min (by decide +kernel) (ja_cons (je_ix (je_var 2) (je_var 4)) (ja_cons (je_ix (je_var 2) (je_var 5)) (ja_nil))))) (jss_cons (js_setF (i := 7) c rfl (by first | exact Or.inl rfl | exact Or.inr rfl) (je_callB (call_max2 c.calm) ok_max2 T.z_max (by decide +kernel) (ja_cons (je_ix (je_var 2) (je_var 4)) (ja_cons (je_ix (je_var 2) (je_var 5)) (ja_nil))))) (jss_one (js_setLcF (i := 2) [("mark", 8)] c rfl rfl (sw_true rfl rfl rfl (by decide +kernel)) (ji_seq (je_var 2)) (blkOk_by (N := N_marks_over) (sc := defScope s_marks_over) (by decide +kernel)) (fun _ _ _ _ _ => jg_name (i := 8) c.nd rfl (by first | exact Or.inl rfl | exact Or.inr rfl)) (fun _ _ _ _ _ c => jts_nil) (fun _ _ _ _ _ c => je_if (jt_cmp (op_eq4 c.eq) ok_eq (je_var 8) (je_var 7) (nomark _)) (je_var 6) (je_var 8)) (by decide))))))) (jss_one (js_retV 2)))) (fun _ _ => .inr rfl)
set_option maxHeartbeats 4000000 in
theorem ok_is_tree (T : Tx K mg) (G_marks_over : FnOk P w K mg base (L2.CX P w) 1 T.a_marks_over T.d_marks_over ["web", "ties"] (spD K T.cls 2 g_marks_over)) : FnOk P w K mg base (L2.CX P w) 2 T.a_is_tree T.d_is_tree ["web", "ties"] (spD K T.cls 2 g_is_tree) :=
  fnD_ok T.F_is_tree sc_is_tree rfl (fun cdv A outer s H E c => jss_cons (js_if (jt_cmp (op_ne4 c.eq) ok_ne (je_callB call_len ok_len T.z_len (by decide +kernel) (ja_cons (je_var 1) (ja_nil))) (je_bin op_sub ok_sub (je_fld T.o_Web (i := 0) rfl (je_var 0)) (je_int)) (nomark _)) (jss_one (js_ret (je_bl))) (jss_nil)) (jss_cons (js_setF (i := 2) c rfl (by first | exact Or.inl rfl | exact Or.inr rfl) (je_un un_neg ok_neg (je_int))) (jss_cons (js_for c (ji_seq (je_var 1)) (jg_name (i := 3) c.nd rfl (by first | exact Or.inl rfl | exact Or.inr rfl)) (jss_cons (js_if (jt_w (jw_or (jt_cmp op_le ok_le (je_var 3) (je_var 2) (nomark _)) (jw_or1 (jt_cmp op_ge ok_ge (je_var 3) (je_callB call_len ok_len T.z_len (by decide +kernel) (ja_cons (je_fld T.o_Web (i := 1) rfl (je_var 0)) (ja_nil))) (nomark _))))) (jss_one (js_ret (je_bl))) (jss_nil)) (jss_one (js_setF (i := 2) c rfl (by first | exact Or.inl rfl | exact Or.inr rfl) (je_var 3))))) (jss_one (js_ret (je_cmp (op_eq4 c.eq) ok_eq (je_lenset c T.z_len T.z_set (je_own (c.mono (by decide)) G_marks_over T.m_marks_over T.k_marks_over T.b_marks_over (ja_cons (je_var 0) (ja_cons (je_var 1) (ja_nil))) (alS (alS (al0))))) (je_int) (nomark _))))))) (fun _ _ => .inr rfl)
set_option maxHeartbeats 4000000 in
theorem ok_look_at_tree (T : Tx K mg) (G_is_tree : FnOk P w K mg base (L2.CX P w) 2 T.a_is_tree T.d_is_tree ["web", "ties"] (spD K T.cls 2 g_is_tree)) : FnOk P w K mg base (L2.CX P w) 3 T.a_look_at_tree T.d_look_at_tree ["web", "tree"] (spD K T.cls 2 g_look_at_tree) :=
  fnD_ok T.F_look_at_tree sc_look_at_tree rfl (fun cdv A outer s H E c => jss_one (js_if (jt_not (jt_truth (je_own (c.mono (by decide)) G_is_tree T.m_is_tree T.k_is_tree T.b_is_tree (ja_cons (je_var 0) (ja_cons (je_var 1) (ja_nil))) (alS (alS (al0)))))) (jss_one (js_raise c T.e_NoTree)) (jss_nil))) (fun _ _ => .inr rfl)
set_option maxHeartbeats 4000000 in
theorem ok_without_tie (T : Tx K mg) : FnOk P w K mg base (L2.CX P w) 1 T.a_without_tie T.d_without_tie ["ties", "tie"] (spD K T.cls 2 g_without_tie) :=
  fnD_ok T.F_without_tie sc_without_tie rfl (fun cdv A outer s H E c => jss_one (js_ret (je_callTy call_tuple_of ok_tuple T.z_tuple (by decide +kernel) (ja_cons (je_lc [("other", 2)] c (ji_seq (je_var 0)) (blkOk_by (N := N_without_tie) (sc := defScope s_without_tie) (by decide +kernel)) (fun _ _ _ _ _ => jg_name (i := 2) c.nd rfl (by first | exact Or.inl rfl | exact Or.inr rfl)) (fun _ _ _ _ _ c => jts_one (jt_cmp (op_ne4 c.eq) ok_ne (je_var 2) (je_var 1) (nomark _))) (fun _ _ _ _ _ c => je_var 2) (by decide)) (ja_nil))))) (fun _ _ => .inr rfl)
set_option maxHeartbeats 4000000 in
theorem ok_ring_of (T : Tx K mg) (G_look_at_tree : FnOk P w K mg base (L2.CX P w) 3 T.a_look_at_tree T.d_look_at_tree ["web", "tree"] (spD K T.cls 2 g_look_at_tree)) (G_marks_over : FnOk P w K mg base (L2.CX P w) 1 T.a_marks_over T.d_marks_over ["web", "ties"] (spD K T.cls 2 g_marks_over)) (G_without_tie : FnOk P w K mg base (L2.CX P w) 1 T.a_without_tie T.d_without_tie ["ties", "tie"] (spD K T.cls 2 g_without_tie)) : FnOk P w K mg base (L2.CX P w) 4 T.a_ring_of T.d_ring_of ["web", "tree", "tie"] (spD K T.cls 3 g_ring_of) :=
  fnD_ok T.F_ring_of sc_ring_of rfl (fun cdv A outer s H E c => jss_cons (js_exp (je_own (c.mono (by decide)) G_look_at_tree T.m_look_at_tree T.k_look_at_tree T.b_look_at_tree (ja_cons (je_var 0) (ja_cons (je_var 1) (ja_nil))) (alS (alS (al0))))) (jss_cons (js_if (jt_w (jw_or (jt_not (jt_chain op_le op_lt ok_le ok_lt (je_int) (je_var 2) (je_callB call_len ok_len T.z_len (by decide +kernel) (ja_cons (je_fld T.o_Web (i := 1) rfl (je_var 0)) (ja_nil))))) (jw_or1 (jt_cmp op_in_seq ok_in (je_var 2) (je_var 1) (by rfl))))) (jss_one (js_raise c T.e_NoTie)) (jss_nil)) (jss_cons (js_asgT (je_ix (je_fld T.o_Web (i := 1) rfl (je_var 0)) (je_var 2)) (jg_tup c.calm (jgs_cons (jg_name (i := 3) c.nd rfl (by first | exact Or.inl rfl | exact Or.inr rfl)) (jgs_cons (jg_name (i := 4) c.nd rfl (by first | exact Or.inl rfl | exact Or.inr rfl)) (jgs_nil))))) (jss_cons (js_set (i := 5) c rfl (by first | exact Or.inl rfl | exact Or.inr rfl) (je_lst (jao_cons (je_var 2) (jao_nil)))) (jss_cons (js_for c (ji_seq (je_var 1)) (jg_name (i := 6) c.nd rfl (by first | exact Or.inl rfl | exact Or.inr rfl)) (jss_cons (js_setF (i := 7) c rfl (by first | exact Or.inl rfl | exact Or.inr rfl) (je_own (c.mono (by decide)) G_marks_over T.m_marks_over T.k_marks_over T.b_marks_over (ja_cons (je_var 0) (ja_cons (je_own (c.mono (by decide)) G_without_tie T.m_without_tie T.k_without_tie T.b_without_tie (ja_cons (je_var 1) (ja_cons (je_var 6) (ja_nil))) (alS (alS (al0)))) (ja_nil))) (alS (alS (al0))))) (jss_one (js_if (jt_cmp (op_ne4 c.eq) ok_ne (je_ix (je_var 7) (je_var 3)) (je_ix (je_var 7) (je_var 4)) (nomark _)) (jss_one (js_app (i := 5) rfl (by first | exact Or.inl rfl | exact Or.inr (Or.inl rfl) | exact Or.inr (Or.inr rfl)) (je_var 6))) (jss_nil))))) (jss_one (js_ret (je_callTy call_tuple_of ok_tuple T.z_tuple (by decide +kernel) (ja_cons (je_callB cr_sorted3 ok_sorted3 T.z_sorted (by decide +kernel) (ja_cons (je_var 5) (ja_nil))) (ja_nil)))))))))) (fun _ _ => .inr rfl)
set_option maxHeartbeats 4000000 in
theorem ok_cut_of (T : Tx K mg) (G_look_at_tree : FnOk P w K mg base (L2.CX P w) 3 T.a_look_at_tree T.d_look_at_tree ["web", "tree"] (spD K T.cls 2 g_look_at_tree)) (G_marks_over : FnOk P w K mg base (L2.CX P w) 1 T.a_marks_over T.d_marks_over ["web", "ties"] (spD K T.cls 2 g_marks_over)) (G_without_tie : FnOk P w K mg base (L2.CX P w) 1 T.a_without_tie T.d_without_tie ["ties", "tie"] (spD K T.cls 2 g_without_tie)) : FnOk P w K mg base (L2.CX P w) 4 T.a_cut_of T.d_cut_of ["web", "tree", "tie"] (spD K T.cls 3 g_cut_of) :=
  fnD_ok T.F_cut_of sc_cut_of rfl (fun cdv A outer s H E c => jss_cons (js_exp (je_own (c.mono (by decide)) G_look_at_tree T.m_look_at_tree T.k_look_at_tree T.b_look_at_tree (ja_cons (je_var 0) (ja_cons (je_var 1) (ja_nil))) (alS (alS (al0))))) (jss_cons (js_if (jt_cmp op_notIn_seq ok_nin (je_var 2) (je_var 1) (by rfl)) (jss_one (js_raise c T.e_NoTie)) (jss_nil)) (jss_cons (js_setF (i := 3) c rfl (by first | exact Or.inl rfl | exact Or.inr rfl) (je_own (c.mono (by decide)) G_marks_over T.m_marks_over T.k_marks_over T.b_marks_over (ja_cons (je_var 0) (ja_cons (je_own (c.mono (by decide)) G_without_tie T.m_without_tie T.k_without_tie T.b_without_tie (ja_cons (je_var 1) (ja_cons (je_var 2) (ja_nil))) (alS (alS (al0)))) (ja_nil))) (alS (alS (al0))))) (jss_one (js_ret (je_callTy call_tuple_of ok_tuple T.z_tuple (by decide +kernel) (ja_cons (je_lc [("k", 4), ("ends", 5)] c (ji_enm T.z_enumerate (ja_cons (je_fld T.o_Web (i := 1) rfl (je_var 0)) (ja_nil))) (blkOk_by (N := N_cut_of) (sc := defScope s_cut_of) (by decide +kernel)) (fun _ _ _ _ _ => jg_tup c.calm (jgs_cons (jg_name (i := 4) c.nd rfl (by first | exact Or.inl rfl | exact Or.inr rfl)) (jgs_cons (jg_name (i := 5) c.nd rfl (by first | exact Or.inl rfl | exact Or.inr rfl)) (jgs_nil)))) (fun _ _ _ _ _ c => jts_one (jt_cmp (op_ne4 c.eq) ok_ne (je_ix (je_var 3) (je_ix (je_var 5) (je_int))) (je_ix (je_var 3) (je_ix (je_var 5) (je_int))) (nomark _))) (fun _ _ _ _ _ c => je_var 4) (by decide)) (ja_nil)))))))) (fun _ _ => .inr rfl)
set_option maxHeartbeats 4000000 in
theorem ok_exchanges_of (T : Tx K mg) (G_look_at_tree : FnOk P w K mg base (L2.CX P w) 3 T.a_look_at_tree T.d_look_at_tree ["web", "tree"] (spD K T.cls 2 g_look_at_tree)) (G_cut_of : FnOk P w K mg base (L2.CX P w) 4 T.a_cut_of T.d_cut_of ["web", "tree", "tie"] (spD K T.cls 3 g_cut_of)) : FnOk P w K mg base (L2.CX P w) 5 T.a_exchanges_of T.d_exchanges_of ["web", "tree"] (spD K T.cls 2 g_exchanges_of) :=
  fnD_ok T.F_exchanges_of sc_exchanges_of rfl (fun cdv A outer s H E c => jss_cons (js_exp (je_own (c.mono (by decide)) G_look_at_tree T.m_look_at_tree T.k_look_at_tree T.b_look_at_tree (ja_cons (je_var 0) (ja_cons (je_var 1) (ja_nil))) (alS (alS (al0))))) (jss_cons (js_set (i := 2) c rfl (by first | exact Or.inl rfl | exact Or.inr rfl) (je_lst (jao_nil))) (jss_cons (js_for c (ji_seq (je_var 1)) (jg_name (i := 3) c.nd rfl (by first | exact Or.inl rfl | exact Or.inr rfl)) (jss_one (js_ext (i := 2) rfl (by first | exact Or.inl rfl | exact Or.inr (Or.inl rfl) | exact Or.inr (Or.inr rfl)) (je_lc [("into", 4)] c (ji_seq (je_own (c.mono (by decide)) G_cut_of T.m_cut_of T.k_cut_of T.b_cut_of (ja_cons (je_var 0) (ja_cons (je_var 1) (ja_cons (je_var 3) (ja_nil)))) (alS (alS (alS (al0)))))) (blkOk_by (N := N_exchanges_of) (sc := defScope s_exchanges_of) (by decide +kernel)) (fun _ _ _ _ _ => jg_name (i := 4) c.nd rfl (by first | exact Or.inl rfl | exact Or.inr rfl)) (fun _ _ _ _ _ c => jts_one (jt_cmp (op_ne4 c.eq) ok_ne (je_var 4) (je_var 3) (nomark _))) (fun _ _ _ _ _ c => je_tup (jao_cons (je_var 3) (jao_cons (je_var 4) (jao_nil)))) (by decide))))) (jss_one (js_retV 2))))) (fun _ _ => .inr rfl)
set_option maxHeartbeats 4000000 in
theorem ok_exchanged (T : Tx K mg) (G_look_at_tree : FnOk P w K mg base (L2.CX P w) 3 T.a_look_at_tree T.d_look_at_tree ["web", "tree"] (spD K T.cls 2 g_look_at_tree)) (G_without_tie : FnOk P w K mg base (L2.CX P w) 1 T.a_without_tie T.d_without_tie ["ties", "tie"] (spD K T.cls 2 g_without_tie)) (G_is_tree : FnOk P w K mg base (L2.CX P w) 2 T.a_is_tree T.d_is_tree ["web", "ties"] (spD K T.cls 2 g_is_tree)) : FnOk P w K mg base (L2.CX P w) 4 T.a_exchanged T.d_exchanged ["web", "tree", "out", "into"] (spD K T.cls 4 g_exchanged) :=
  fnD_ok T.F_exchanged sc_exchanged rfl (fun cdv A outer s H E c => jss_cons (js_exp (je_own (c.mono (by decide)) G_look_at_tree T.m_look_at_tree T.k_look_at_tree T.b_look_at_tree (ja_cons (je_var 0) (ja_cons (je_var 1) (ja_nil))) (alS (alS (al0))))) (jss_cons (js_if (jt_w (jw_or (jt_cmp op_notIn_seq ok_nin (je_var 2) (je_var 1) (by rfl)) (jw_or (jt_cmp op_in_seq ok_in (je_var 3) (je_var 1) (by rfl)) (jw_or1 (jt_not (jt_chain op_le op_lt ok_le ok_lt (je_int) (je_var 3) (je_callB call_len ok_len T.z_len (by decide +kernel) (ja_cons (je_fld T.o_Web (i := 1) rfl (je_var 0)) (ja_nil))))))))) (jss_one (js_raise c T.e_NoTie)) (jss_nil)) (jss_cons (js_setF (i := 4) c rfl (by first | exact Or.inl rfl | exact Or.inr rfl) (je_callTy call_tuple_of ok_tuple T.z_tuple (by decide +kernel) (ja_cons (je_callB cr_sorted3 ok_sorted3 T.z_sorted (by decide +kernel) (ja_cons (je_bin op_add4 ok_add (je_own (c.mono (by decide)) G_without_tie T.m_without_tie T.k_without_tie T.b_without_tie (ja_cons (je_var 1) (ja_cons (je_var 2) (ja_nil))) (alS (alS (al0)))) (je_tup (jao_cons (je_var 3) (jao_nil)))) (ja_nil))) (ja_nil)))) (jss_cons (js_if (jt_not (jt_truth (je_own (c.mono (by decide)) G_is_tree T.m_is_tree T.k_is_tree T.b_is_tree (ja_cons (je_var 0) (ja_cons (je_var 4) (ja_nil))) (alS (alS (al0)))))) (jss_one (js_raise c T.e_NoTie)) (jss_nil)) (jss_one (js_retV 4)))))) (fun _ _ => .inr rfl)
set_option maxHeartbeats 4000000 in
theorem ok_law_cell (T : Tx K mg) : FnOk P w K mg base (L2.CX P w) 1 T.a_law_cell T.d_law_cell ["script", "k"] (spD K T.cls 2 g_law_cell) :=
  fnD_ok T.F_law_cell sc_law_cell rfl (fun cdv A outer s H E c => jss_cons (js_if (jt_cmp op_lt ok_lt (je_var 1) (je_callB call_len ok_len T.z_len (by decide +kernel) (ja_cons (je_var 0) (ja_nil))) (nomark _)) (jss_one (js_ret (je_bin op_modX ok_mod (je_ix (je_var 0) (je_var 1)) (je_bin op_pow ok_pow (je_int) (je_int))))) (jss_nil)) (jss_one (js_ret (je_int)))) (fun _ _ => .inr rfl)
set_option maxHeartbeats 4000000 in
theorem ok_law_mixed (T : Tx K mg) : FnOk P w K mg base (L2.CX P w) 1 T.a_law_mixed T.d_law_mixed ["cell", "k"] (spD K T.cls 2 g_law_mixed) :=
  fnD_ok T.F_law_mixed sc_law_mixed rfl (fun cdv A outer s H E c => jss_cons (js_setF (i := 2) c rfl (by first | exact Or.inl rfl | exact Or.inr rfl) (je_bin op_modX ok_mod (je_bin op_mul4 ok_mul (je_bin op_add4 ok_add (je_bin op_add4 ok_add (je_var 0) (je_bin op_mul4 ok_mul (je_int) (je_var 1))) (je_int)) (je_int)) (je_int))) (jss_cons (js_setF (i := 3) c rfl (by first | exact Or.inl rfl | exact Or.inr rfl) (je_bin op_modX ok_mod (je_bin op_add4 ok_add (je_bin op_add4 ok_add (je_bin op_mul4 ok_mul (je_var 2) (je_var 2)) (je_bin op_mul4 ok_mul (je_int) (je_var 1))) (je_int)) (je_int))) (jss_one (js_ret (je_bin op_divX ok_div (je_bin op_modX ok_mod (je_bin op_mul4 ok_mul (je_var 3) (je_var 3)) (je_int)) (je_int)))))) (fun _ _ => .inr rfl)
set_option maxHeartbeats 4000000 in
theorem ok_law_draws (T : Tx K mg) (G_law_mixed : FnOk P w K mg base (L2.CX P w) 1 T.a_law_mixed T.d_law_mixed ["cell", "k"] (spD K T.cls 2 g_law_mixed)) : FnOk P w K mg base (L2.CX P w) 2 T.a_law_draws T.d_law_draws ["script", "start", "count", "way"] (spD K T.cls 4 g_law_draws) :=
  fnD_ok T.F_law_draws sc_law_draws rfl (fun cdv A outer s H E c => jss_cons (js_setF (i := 4) c rfl (by first | exact Or.inl rfl | exact Or.inr rfl) (je_bin op_modX ok_mod (je_callB (cr_sum c.calm) ok_sum T.z_sum (by decide +kernel) (ja_cons (je_lc [("cell", 9)] c (ji_seq (je_sl (je_var 0) (jp_some (je_var 1)) (jp_none))) (blkOk_by (N := N_law_draws) (sc := defScope s_law_draws) (by decide +kernel)) (fun _ _ _ _ _ => jg_name (i := 9) c.nd rfl (by first | exact Or.inl rfl | exact Or.inr rfl)) (fun _ _ _ _ _ c => jts_nil) (fun _ _ _ _ _ c => je_bin op_modX ok_mod (je_var 9) (je_bin op_pow ok_pow (je_int) (je_int))) (by decide)) (ja_nil))) (je_bin op_pow ok_pow (je_int) (je_int)))) (jss_cons (js_setLc (i := 5) [("k", 6)] c rfl rfl (sw_true rfl rfl rfl (by decide +kernel)) (ji_rg1 T.z_range (ja_cons (je_var 2) (ja_nil))) (blkOk_by (N := N_law_draws) (sc := defScope s_law_draws) (by decide +kernel)) (fun _ _ _ _ _ => jg_name (i := 6) c.nd rfl (by first | exact Or.inl rfl | exact Or.inr rfl)) (fun _ _ _ _ _ c => jts_nil) (fun _ _ _ _ _ c => je_bin op_add4 ok_add (je_bin op_mul4 ok_mul (je_int) (je_var 6)) (je_int)) (by decide)) (jss_cons (js_for c (ji_rg2 T.z_range (ja_cons (je_var 1) (ja_cons (je_callB call_len ok_len T.z_len (by decide +kernel) (ja_cons (je_var 0) (ja_nil))) (ja_nil)))) (jg_name (i := 6) c.nd rfl (by first | exact Or.inl rfl | exact Or.inr rfl)) (jss_cons (js_setF (i := 7) c rfl (by first | exact Or.inl rfl | exact Or.inr rfl) (je_bin op_modX ok_mod (je_var 6) (je_callB (call_max2 c.calm) ok_max2 T.z_max (by decide +kernel) (ja_cons (je_int) (ja_cons (je_var 2) (ja_nil)))))) (jss_one (js_if (jt_cmp op_gt ok_gt (je_var 2) (je_int) (nomark _)) (jss_one (js_setIx (i := 5) rfl (by first | exact Or.inl rfl | exact Or.inr (Or.inl rfl) | exact Or.inr (Or.inr rfl)) (je_bin op_modX ok_mod (je_bin op_add4 ok_add (je_bin op_mul4 ok_mul (je_ix (je_var 5) (je_var 7)) (je_int)) (je_ix (je_var 0) (je_var 6))) (je_bin op_pow ok_pow (je_int) (je_int))) (je_var 7))) (jss_nil))))) (jss_cons (js_set (i := 8) c rfl (by first | exact Or.inl rfl | exact Or.inr rfl) (je_lst (jao_nil))) (jss_cons (js_for c (ji_rg1 T.z_range (ja_cons (je_var 2) (ja_nil))) (jg_name (i := 6) c.nd rfl (by first | exact Or.inl rfl | exact Or.inr rfl)) (jss_one (js_if (jt_w (jw_and (jt_cmp (op_eq4 c.eq) ok_eq (je_var 3) (je_int) (nomark _)) (jw_and1 (jt_cmp op_gt ok_gt (je_var 4) (je_int) (nomark _))))) (jss_cons (js_app (i := 8) rfl (by first | exact Or.inl rfl | exact Or.inr (Or.inl rfl) | exact Or.inr (Or.inr rfl)) (je_bin op_modX ok_mod (je_var 4) (je_int))) (jss_one (js_setF (i := 4) c rfl (by first | exact Or.inl rfl | exact Or.inr rfl) (je_bin op_divX ok_div (je_var 4) (je_int))))) (jss_one (js_app (i := 8) rfl (by first | exact Or.inl rfl | exact Or.inr (Or.inl rfl) | exact Or.inr (Or.inr rfl)) (je_own (c.mono (by decide)) G_law_mixed T.m_law_mixed T.k_law_mixed T.b_law_mixed (ja_cons (je_ix (je_var 5) (je_var 6)) (ja_cons (je_var 6) (ja_nil))) (alS (alS (al0))))))))) (jss_one (js_retV 8))))))) (fun _ _ => .inr rfl)
set_option maxHeartbeats 4000000 in
theorem ok_law_ties (T : Tx K mg) : FnOk P w K mg base (L2.CX P w) 1 T.a_law_ties T.d_law_ties ["draws", "places", "hang"] (spD K T.cls 3 g_law_ties) :=
  fnD_ok T.F_law_ties sc_law_ties rfl (fun cdv A outer s H E c => jss_cons (js_set (i := 3) c rfl (by first | exact Or.inl rfl | exact Or.inr rfl) (je_lst (jao_nil))) (jss_cons (js_for c (ji_rg1 T.z_range (ja_cons (je_callB call_len ok_len T.z_len (by decide +kernel) (ja_cons (je_var 0) (ja_nil))) (ja_nil))) (jg_name (i := 4) c.nd rfl (by first | exact Or.inl rfl | exact Or.inr rfl)) (jss_cons (js_setF (i := 5) c rfl (by first | exact Or.inl rfl | exact Or.inr rfl) (je_bin op_modX ok_mod (je_ix (je_var 0) (je_var 4)) (je_var 1))) (jss_cons (js_setF (i := 6) c rfl (by first | exact Or.inl rfl | exact Or.inr rfl) (je_bin op_modX ok_mod (je_bin op_divX ok_div (je_ix (je_var 0) (je_var 4)) (je_var 1)) (je_var 1))) (jss_cons (js_if (jt_w (jw_and (jt_truth (je_var 2)) (jw_and1 (jt_cmp op_lt ok_lt (je_var 4) (je_bin op_sub ok_sub (je_var 1) (je_int)) (nomark _))))) (jss_cons (js_setF (i := 7) c rfl (by first | exact Or.inl rfl | exact Or.inr rfl) (je_tup (jao_cons (je_bin op_modX ok_mod (je_ix (je_var 0) (je_var 4)) (je_bin op_add4 ok_add (je_var 4) (je_int))) (jao_cons (je_bin op_add4 ok_add (je_var 4) (je_int)) (jao_nil))))) (jss_cons (js_setF (i := 5) c rfl (by first | exact Or.inl rfl | exact Or.inr rfl) (je_ix (je_var 7) (je_bin op_modX ok_mod (je_bin op_divX ok_div (je_ix (je_var 0) (je_var 4)) (je_int)) (je_int)))) (jss_one (js_setF (i := 6) c rfl (by first | exact Or.inl rfl | exact Or.inr rfl) (je_ix (je_var 7) (je_bin op_sub ok_sub (je_int) (je_bin op_modX ok_mod (je_bin op_divX ok_div (je_ix (je_var 0) (je_var 4)) (je_int)) (je_int)))))))) (jss_nil)) (jss_one (js_app (i := 3) rfl (by first | exact Or.inl rfl | exact Or.inr (Or.inl rfl) | exact Or.inr (Or.inr rfl)) (je_tup (jao_cons (je_var 5) (jao_cons (je_var 6) (jao_nil)))))))))) (jss_cons (js_setF (i := 8) c rfl (by first | exact Or.inl rfl | exact Or.inr rfl) (je_bin op_modX ok_mod (je_callB (cr_sum c.calm) ok_sum T.z_sum (by decide +kernel) (ja_cons (je_var 0) (ja_nil))) (je_callB (call_max2 c.calm) ok_max2 T.z_max (by decide +kernel) (ja_cons (je_int) (ja_cons (je_callB call_len ok_len T.z_len (by decide +kernel) (ja_cons (je_var 3) (ja_nil))) (ja_nil)))))) (jss_one (js_ret (je_bin op_add4 ok_add (je_sl (je_var 3) (jp_some (je_var 8)) (jp_none)) (je_sl (je_var 3) (jp_none) (jp_some (je_var 8))))))))) (fun _ _ => .inr rfl)
set_option maxHeartbeats 4000000 in
theorem ok_law_web (T : Tx K mg) (G_law_cell : FnOk P w K mg base (L2.CX P w) 1 T.a_law_cell T.d_law_cell ["script", "k"] (spD K T.cls 2 g_law_cell)) (G_law_draws : FnOk P w K mg base (L2.CX P w) 2 T.a_law_draws T.d_law_draws ["script", "start", "count", "way"] (spD K T.cls 4 g_law_draws)) (G_law_ties : FnOk P w K mg base (L2.CX P w) 1 T.a_law_ties T.d_law_ties ["draws", "places", "hang"] (spD K T.cls 3 g_law_ties)) : FnOk P w K mg base (L2.CX P w) 3 T.a_law_web T.d_law_web ["script", "most", "count"] (spD K T.cls 3 g_law_web) :=
  fnD_ok T.F_law_web sc_law_web rfl (fun cdv A outer s H E c => jss_cons (js_setF (i := 3) c rfl (by first | exact Or.inl rfl | exact Or.inr rfl) (je_own (c.mono (by decide)) G_law_cell T.m_law_cell T.k_law_cell T.b_law_cell (ja_cons (je_var 0) (ja_cons (je_int) (ja_nil))) (alS (alS (al0))))) (jss_cons (js_setF (i := 4) c rfl (by first | exact Or.inl rfl | exact Or.inr rfl) (je_bin op_add4 ok_add (je_int) (je_bin op_modX ok_mod (je_var 3) (je_var 1)))) (jss_cons (js_setF (i := 5) c rfl (by first | exact Or.inl rfl | exact Or.inr rfl) (je_callB (call_min2 c.calm) ok_min2 T.z_min (by decide +kernel) (ja_cons (je_var 2) (ja_cons (je_bin op_add4 ok_add (je_bin op_modX ok_mod (je_bin op_divX ok_div (je_var 3) (je_var 1)) (je_bin op_add4 ok_add (je_var 2) (je_int))) (je_bin op_mul4 ok_mul (je_bin op_modX ok_mod (je_bin op_divX ok_div (je_var 3) (je_int)) (je_int)) (je_var 4))) (ja_nil))))) (jss_cons (js_setF (i := 6) c rfl (by first | exact Or.inl rfl | exact Or.inr rfl) (je_own (c.mono (by decide)) G_law_draws T.m_law_draws T.k_law_draws T.b_law_draws (ja_cons (je_var 0) (ja_cons (je_int) (ja_cons (je_var 5) (ja_cons (je_bin op_modX ok_mod (je_bin op_divX ok_div (je_var 3) (je_int)) (je_int)) (ja_nil))))) (alS (alS (alS (alS (al0))))))) (jss_one (js_ret (je_tup (jao_cons (je_var 4) (jao_cons (je_own (c.mono (by decide)) G_law_ties T.m_law_ties T.k_law_ties T.b_law_ties (ja_cons (je_var 6) (ja_cons (je_var 4) (ja_cons (je_cmp op_gt ok_gt (je_bin op_modX ok_mod (je_bin op_divX ok_div (je_var 3) (je_int)) (je_int)) (je_int) (nomark _)) (ja_nil)))) (alS (alS (alS (al0))))) (jao_nil)))))))))) (fun _ _ => .inr rfl)
set_option maxHeartbeats 4000000 in
theorem ok_law_marks (T : Tx K mg) : FnOk P w K mg base (L2.CX P w) 1 T.a_law_marks T.d_law_marks ["places", "ties", "some"] (spD K T.cls 3 g_law_marks) :=
  fnD_ok T.F_law_marks sc_law_marks rfl (fun cdv A outer s H E c => jss_cons (js_set (i := 3) c rfl (by first | exact Or.inl rfl | exact Or.inr rfl) (je_lr1 c T.z_list T.z_range (je_var 0))) (jss_cons (js_for c (ji_seq (je_var 2)) (jg_name (i := 4) c.nd rfl (by first | exact Or.inl rfl | exact Or.inr rfl)) (jss_cons (js_asgT (je_ix (je_var 1) (je_var 4)) (jg_tup c.calm (jgs_cons (jg_name (i := 5) c.nd rfl (by first | exact Or.inl rfl | exact Or.inr rfl)) (jgs_cons (jg_name (i := 6) c.nd rfl (by first | exact Or.inl rfl | exact Or.inr rfl)) (jgs_nil))))) (jss_one (js_if (jt_cmp (op_ne4 c.eq) ok_ne (je_ix (je_var 3) (je_var 5)) (je_ix (je_var 3) (je_var 6)) (nomark _)) (jss_cons (js_setF (i := 7) c rfl (by first | exact Or.inl rfl | exact Or.inr rfl) (je_ix (je_var 3) (je_var 6))) (jss_cons (js_setF (i := 8) c rfl (by first | exact Or.inl rfl | exact Or.inr rfl) (je_ix (je_var 3) (je_var 5))) (jss_one (js_for c (ji_rg1 T.z_range (ja_cons (je_var 0) (ja_nil))) (jg_name (i := 9) c.nd rfl (by first | exact Or.inl rfl | exact Or.inr rfl)) (jss_one (js_if (jt_cmp (op_eq4 c.eq) ok_eq (je_ix (je_var 3) (je_var 9)) (je_var 7) (nomark _)) (jss_one (js_setIx (i := 3) rfl (by first | exact Or.inl rfl | exact Or.inr (Or.inl rfl) | exact Or.inr (Or.inr rfl)) (je_var 8) (je_var 9))) (jss_nil))))))) (jss_nil))))) (jss_one (js_retV 3)))) (fun _ _ => .inr rfl)
set_option maxHeartbeats 4000000 in
theorem ok_law_tree_by (T : Tx K mg) (G_law_mixed : FnOk P w K mg base (L2.CX P w) 1 T.a_law_mixed T.d_law_mixed ["cell", "k"] (spD K T.cls 2 g_law_mixed)) (G_law_marks : FnOk P w K mg base (L2.CX P w) 1 T.a_law_marks T.d_law_marks ["places", "ties", "some"] (spD K T.cls 3 g_law_marks)) : FnOk P w K mg base (L2.CX P w) 2 T.a_law_tree_by T.d_law_tree_by ["places", "ties", "cell"] (spD K T.cls 3 g_law_tree_by) :=
  fnD_ok T.F_law_tree_by sc_law_tree_by rfl (fun cdv A outer s H E c => jss_cons (js_set (i := 3) c rfl (by first | exact Or.inl rfl | exact Or.inr rfl) (je_lr1 c T.z_list T.z_range (je_callB call_len ok_len T.z_len (by decide +kernel) (ja_cons (je_var 1) (ja_nil))))) (jss_cons (js_set (i := 4) c rfl (by first | exact Or.inl rfl | exact Or.inr rfl) (je_lst (jao_nil))) (jss_cons (js_setF (i := 5) c rfl (by first | exact Or.inl rfl | exact Or.inr rfl) (je_lr1 c T.z_list T.z_range (je_var 0))) (jss_cons (js_for c (ji_rg1 T.z_range (ja_cons (je_callB call_len ok_len T.z_len (by decide +kernel) (ja_cons (je_var 1) (ja_nil))) (ja_nil))) (jg_name (i := 6) c.nd rfl (by first | exact Or.inl rfl | exact Or.inr rfl)) (jss_cons (js_pop (j := 7) (i := 3) c rfl (by first | exact Or.inl rfl | exact Or.inr rfl) rfl (by first | exact Or.inl rfl | exact Or.inr (Or.inl rfl) | exact Or.inr (Or.inr rfl)) (je_bin op_modX ok_mod (je_own (c.mono (by decide)) G_law_mixed T.m_law_mixed T.k_law_mixed T.b_law_mixed (ja_cons (je_var 2) (ja_cons (je_bin op_add4 ok_add (je_int) (je_var 6)) (ja_nil))) (alS (alS (al0)))) (je_callB call_len ok_len T.z_len (by decide +kernel) (ja_cons (je_var 3) (ja_nil))))) (jss_cons (js_asgT (je_ix (je_var 1) (je_var 7)) (jg_tup c.calm (jgs_cons (jg_name (i := 8) c.nd rfl (by first | exact Or.inl rfl | exact Or.inr rfl)) (jgs_cons (jg_name (i := 9) c.nd rfl (by first | exact Or.inl rfl | exact Or.inr rfl)) (jgs_nil))))) (jss_one (js_if (jt_cmp (op_ne4 c.eq) ok_ne (je_ix (je_var 5) (je_var 8)) (je_ix (je_var 5) (je_var 9)) (nomark _)) (jss_cons (js_app (i := 4) rfl (by first | exact Or.inl rfl | exact Or.inr (Or.inl rfl) | exact Or.inr (Or.inr rfl)) (je_var 7)) (jss_one (js_setF (i := 5) c rfl (by first | exact Or.inl rfl | exact Or.inr rfl) (je_own (c.mono (by decide)) G_law_marks T.m_law_marks T.k_law_marks T.b_law_marks (ja_cons (je_var 0) (ja_cons (je_var 1) (ja_cons (je_var 4) (ja_nil)))) (alS (alS (alS (al0)))))))) (jss_nil)))))) (jss_cons (js_if (jt_cmp op_gt ok_gt (je_lenset c T.z_len T.z_set (je_var 5)) (je_int) (nomark _)) (jss_one (js_ret (je_non))) (jss_nil)) (jss_one (js_ret (je_callTy call_tuple_of ok_tuple T.z_tuple (by decide +kernel) (ja_cons (je_callB cr_sorted3 ok_sorted3 T.z_sorted (by decide +kernel) (ja_cons (je_var 4) (ja_nil))) (ja_nil)))))))))) (fun _ _ => .inr rfl)
set_option maxHeartbeats 4000000 in
theorem ok_law_behind_good (T : Tx K mg) (G_exchanged : FnOk P w K mg base (L2.CX P w) 4 T.a_exchanged T.d_exchanged ["web", "tree", "out", "into"] (spD K T.cls 4 g_exchanged)) (G_is_tree : FnOk P w K mg base (L2.CX P w) 2 T.a_is_tree T.d_is_tree ["web", "ties"] (spD K T.cls 2 g_is_tree)) (G_ring_of : FnOk P w K mg base (L2.CX P w) 4 T.a_ring_of T.d_ring_of ["web", "tree", "tie"] (spD K T.cls 3 g_ring_of)) (G_cut_of : FnOk P w K mg base (L2.CX P w) 4 T.a_cut_of T.d_cut_of ["web", "tree", "tie"] (spD K T.cls 3 g_cut_of)) : FnOk P w K mg base (L2.CX P w) 5 T.a_law_behind_good T.d_law_behind_good ["web", "tree", "out", "into"] (spD K T.cls 4 g_law_behind_good) :=
  fnD_ok T.F_law_behind_good sc_law_behind_good rfl (fun cdv A outer s H E c => jss_cons (js_setF (i := 4) c rfl (by first | exact Or.inl rfl | exact Or.inr rfl) (je_own (c.mono (by decide)) G_exchanged T.m_exchanged T.k_exchanged T.b_exchanged (ja_cons (je_var 0) (ja_cons (je_var 1) (ja_cons (je_var 2) (ja_cons (je_var 3) (ja_nil))))) (alS (alS (alS (alS (al0))))))) (jss_cons (js_if (jt_w (jw_or (jt_not (jt_truth (je_own (c.mono (by decide)) G_is_tree T.m_is_tree T.k_is_tree T.b_is_tree (ja_cons (je_var 0) (ja_cons (je_var 4) (ja_nil))) (alS (alS (al0)))))) (jw_or1 (jt_cmp (op_ne4 c.eq) ok_ne (je_callB call_len ok_len T.z_len (by decide +kernel) (ja_cons (je_lc [("tie", 5)] c (ji_seq (je_var 4)) (blkOk_by (N := N_law_behind_good) (sc := defScope s_law_behind_good) (by decide +kernel)) (fun _ _ _ _ _ => jg_name (i := 5) c.nd rfl (by first | exact Or.inl rfl | exact Or.inr rfl)) (fun _ _ _ _ _ c => jts_one (jt_cmp op_notIn_seq ok_nin (je_var 5) (je_var 1) (by rfl))) (fun _ _ _ _ _ c => je_var 5) (by decide)) (ja_nil))) (je_int) (nomark _))))) (jss_one (js_ret (je_bl))) (jss_nil)) (jss_one (js_ret (je_and (je_cmp (op_eq4 c.eq) ok_eq (je_own (c.mono (by decide)) G_ring_of T.m_ring_of T.k_ring_of T.b_ring_of (ja_cons (je_var 0) (ja_cons (je_var 4) (ja_cons (je_var 2) (ja_nil)))) (alS (alS (alS (al0))))) (je_own (c.mono (by decide)) G_ring_of T.m_ring_of T.k_ring_of T.b_ring_of (ja_cons (je_var 0) (ja_cons (je_var 1) (ja_cons (je_var 3) (ja_nil)))) (alS (alS (alS (al0))))) (nomark _)) (je_one (je_cmp (op_eq4 c.eq) ok_eq (je_own (c.mono (by decide)) G_cut_of T.m_cut_of T.k_cut_of T.b_cut_of (ja_cons (je_var 0) (ja_cons (je_var 4) (ja_cons (je_var 3) (ja_nil)))) (alS (alS (alS (al0))))) (je_own (c.mono (by decide)) G_cut_of T.m_cut_of T.k_cut_of T.b_cut_of (ja_cons (je_var 0) (ja_cons (je_var 1) (ja_cons (je_var 2) (ja_nil)))) (alS (alS (alS (al0))))) (nomark _)))))))) (fun _ _ => .inr rfl)
set_option maxHeartbeats 4000000 in
theorem ok_law_k14 (T : Tx K mg) (G_law_web : FnOk P w K mg base (L2.CX P w) 3 T.a_law_web T.d_law_web ["script", "most", "count"] (spD K T.cls 3 g_law_web)) (G_Web_init : FnOk P w K mg base (L2.CX P w) 1 T.a_Web_init T.d_Web_init ["self", "places", "ties"] (spI K T.cls 14 2 g_Web_init)) (G_law_tree_by : FnOk P w K mg base (L2.CX P w) 2 T.a_law_tree_by T.d_law_tree_by ["places", "ties", "cell"] (spD K T.cls 3 g_law_tree_by)) (G_exchanges_of : FnOk P w K mg base (L2.CX P w) 5 T.a_exchanges_of T.d_exchanges_of ["web", "tree"] (spD K T.cls 2 g_exchanges_of)) (G_cut_of : FnOk P w K mg base (L2.CX P w) 4 T.a_cut_of T.d_cut_of ["web", "tree", "tie"] (spD K T.cls 3 g_cut_of)) (G_ring_of : FnOk P w K mg base (L2.CX P w) 4 T.a_ring_of T.d_ring_of ["web", "tree", "tie"] (spD K T.cls 3 g_ring_of)) (G_law_behind_good : FnOk P w K mg base (L2.CX P w) 5 T.a_law_behind_good T.d_law_behind_good ["web", "tree", "out", "into"] (spD K T.cls 4 g_law_behind_good)) : FnOk P w K mg base (L2.CX P w) 6 T.a_law_k14 T.d_law_k14 ["script"] (spD K T.cls 1 g_law_k14) :=
  fnD_ok T.F_law_k14 sc_law_k14 rfl (fun cdv A outer s H E c => jss_cons (js_asgT (je_own (c.mono (by decide)) G_law_web T.m_law_web T.k_law_web T.b_law_web (ja_cons (je_var 0) (ja_cons (je_int) (ja_cons (je_int) (ja_nil)))) (alS (alS (alS (al0))))) (jg_tup c.calm (jgs_cons (jg_name (i := 1) c.nd rfl (by first | exact Or.inl rfl | exact Or.inr rfl)) (jgs_cons (jg_name (i := 2) c.nd rfl (by first | exact Or.inl rfl | exact Or.inr rfl)) (jgs_nil))))) (jss_cons (js_setF (i := 3) c rfl (by first | exact Or.inl rfl | exact Or.inr rfl) (je_make (c.mono (by decide)) T.o_Web.e T.mk_Web G_Web_init T.m_Web T.b_Web_init (ja_cons (je_var 1) (ja_cons (je_var 2) (ja_nil))) (alS (alS (al0))))) (jss_cons (js_setF (i := 4) c rfl (by first | exact Or.inl rfl | exact Or.inr rfl) (je_own (c.mono (by decide)) G_law_tree_by T.m_law_tree_by T.k_law_tree_by T.b_law_tree_by (ja_cons (je_var 1) (ja_cons (je_var 2) (ja_cons (je_bin op_modX ok_mod (je_callB (cr_sum c.calm) ok_sum T.z_sum (by decide +kernel) (ja_cons (je_var 0) (ja_nil))) (je_bin op_pow ok_pow (je_int) (je_int))) (ja_nil)))) (alS (alS (alS (al0)))))) (jss_cons (js_if (jt_cmp op_isN ok_isN (je_var 4) (je_non) (nomark _)) (jss_one (js_ret (je_bl))) (jss_nil)) (jss_cons (js_setLcF (i := 5) [("tie", 11)] c rfl rfl (sw_true rfl rfl rfl (by decide +kernel)) (ji_rg1 T.z_range (ja_cons (je_callB call_len ok_len T.z_len (by decide +kernel) (ja_cons (je_var 2) (ja_nil))) (ja_nil))) (blkOk_by (N := N_law_k14) (sc := defScope s_law_k14) (by decide +kernel)) (fun _ _ _ _ _ => jg_name (i := 11) c.nd rfl (by first | exact Or.inl rfl | exact Or.inr rfl)) (fun _ _ _ _ _ c => jts_one (jt_cmp op_notIn_seq ok_nin (je_var 11) (je_var 4) (by rfl))) (fun _ _ _ _ _ c => je_var 11) (by decide)) (jss_cons (js_setF (i := 6) c rfl (by first | exact Or.inl rfl | exact Or.inr rfl) (je_own (c.mono (by decide)) G_exchanges_of T.m_exchanges_of T.k_exchanges_of T.b_exchanges_of (ja_cons (je_var 3) (ja_cons (je_var 4) (ja_nil))) (alS (alS (al0))))) (jss_cons (js_set (i := 7) c rfl (by first | exact Or.inl rfl | exact Or.inr rfl) (je_dic)) (jss_cons (js_for c (ji_seq (je_var 4)) (jg_name (i := 8) c.nd rfl (by first | exact Or.inl rfl | exact Or.inr rfl)) (jss_one (js_dset (i := 7) c rfl (by first | exact Or.inl rfl | exact Or.inr (Or.inl rfl) | exact Or.inr (Or.inr rfl)) (je_own (c.mono (by decide)) G_cut_of T.m_cut_of T.k_cut_of T.b_cut_of (ja_cons (je_var 3) (ja_cons (je_var 4) (ja_cons (je_var 8) (ja_nil)))) (alS (alS (alS (al0))))) (je_var 8)))) (jss_cons (js_for c (ji_seq (je_var 5)) (jg_name (i := 9) c.nd rfl (by first | exact Or.inl rfl | exact Or.inr rfl)) (jss_cons (js_setF (i := 10) c rfl (by first | exact Or.inl rfl | exact Or.inr rfl) (je_own (c.mono (by decide)) G_ring_of T.m_ring_of T.k_ring_of T.b_ring_of (ja_cons (je_var 3) (ja_cons (je_var 4) (ja_cons (je_var 9) (ja_nil)))) (alS (alS (alS (al0)))))) (jss_one (js_for c (ji_seq (je_var 4)) (jg_name (i := 8) c.nd rfl (by first | exact Or.inl rfl | exact Or.inr rfl)) (jss_cons (js_if (jt_w (jw_or (jt_cmp (op_ne4 c.eq) ok_ne (je_cmp op_in_seq ok_in (je_var 8) (je_var 10) (by rfl)) (je_cmp op_in_seq ok_in (je_var 9) (je_dget c (je_var 7) (je_var 8)) (by rfl)) (nomark _)) (jw_or1 (jt_cmp (op_ne4 c.eq) ok_ne (je_cmp op_in_seq ok_in (je_var 8) (je_var 10) (by rfl)) (je_cmp (op_in5 c.eq65) ok_in2 (je_tup (jao_cons (je_var 8) (jao_cons (je_var 9) (jao_nil)))) (je_var 6) (by rfl)) (nomark _))))) (jss_one (js_ret (je_bl))) (jss_nil)) (jss_cons (js_if (jt_cmp (op_eq4 c.eq) ok_eq (je_callB call_len ok_len T.z_len (by decide +kernel) (ja_cons (je_lc [("tie", 11)] c (ji_seq (je_var 10)) (blkOk_by (N := N_law_k14) (sc := defScope s_law_k14) (by decide +kernel)) (fun _ _ _ _ _ => jg_name (i := 11) c.nd rfl (by first | exact Or.inl rfl | exact Or.inr rfl)) (fun _ _ _ _ _ c => jts_one (jt_cmp op_in_seq ok_in (je_var 11) (je_dget c (je_var 7) (je_var 8)) (by rfl))) (fun _ _ _ _ _ c => je_var 11) (by decide)) (ja_nil))) (je_int) (nomark _)) (jss_one (js_ret (je_bl))) (jss_nil)) (jss_one (js_if (jt_w (jw_and (jt_cmp op_in_seq ok_in (je_var 8) (je_var 10) (by rfl)) (jw_and1 (jt_not (jt_truth (je_own (c.mono (by decide)) G_law_behind_good T.m_law_behind_good T.k_law_behind_good T.b_law_behind_good (ja_cons (je_var 3) (ja_cons (je_var 4) (ja_cons (je_var 8) (ja_cons (je_var 9) (ja_nil))))) (alS (alS (alS (alS (al0))))))))))) (jss_one (js_ret (je_bl))) (jss_nil))))))))) (jss_one (js_ret (je_cmp (op_eq4 c.eq) ok_eq (je_callB call_len ok_len T.z_len (by decide +kernel) (ja_cons (je_var 6) (ja_nil))) (je_callB (cr_sum c.calm) ok_sum T.z_sum (by decide +kernel) (ja_cons (je_lc [("out", 8)] c (ji_seq (je_var 4)) (blkOk_by (N := N_law_k14) (sc := defScope s_law_k14) (by decide +kernel)) (fun _ _ _ _ _ => jg_name (i := 8) c.nd rfl (by first | exact Or.inl rfl | exact Or.inr rfl)) (fun _ _ _ _ _ c => jts_nil) (fun _ _ _ _ _ c => je_bin op_sub ok_sub (je_callB call_len ok_len T.z_len (by decide +kernel) (ja_cons (je_dget c (je_var 7) (je_var 8)) (ja_nil))) (je_int)) (by decide)) (ja_nil))) (nomark _))))))))))))) (fun _ _ => .inr rfl)
theorem all_mk {K : PySem.W.Frag} {h : Heap} {mg : Str → Option Value} (X : K.In h) (G : h.Ns mainGlobals mg) {C_WebError C_BadWeb C_NoTree C_NoTie C_Web a_Web_init a_marks_over a_is_tree a_look_at_tree a_without_tie a_ring_of a_cut_of a_exchanges_of a_exchanged a_law_cell a_law_mixed a_law_draws a_law_ties a_law_web a_law_marks a_law_tree_by a_law_behind_good a_law_k14 : Addr} {od_Web_init an_Web_init od_marks_over an_marks_over od_is_tree an_is_tree od_look_at_tree an_look_at_tree od_without_tie an_without_tie od_ring_of an_ring_of od_cut_of an_cut_of od_exchanges_of an_exchanges_of od_exchanged an_exchanged od_law_cell an_law_cell od_law_mixed an_law_mixed od_law_draws an_law_draws od_law_ties an_law_ties od_law_web an_law_web od_law_marks an_law_marks od_law_tree_by an_law_tree_by od_law_behind_good an_law_behind_good od_law_k14 an_law_k14 : Option Addr} {sl_Web_init sl_marks_over sl_is_tree sl_look_at_tree sl_without_tie sl_ring_of sl_cut_of sl_exchanges_of sl_exchanged sl_law_cell sl_law_mixed sl_law_draws sl_law_ties sl_law_web sl_law_marks sl_law_tree_by sl_law_behind_good sl_law_k14 : Array (Option Value)} {oc_Web_init kV_Web_init dc_Web_init pm_Web_init cd_Web_init ct_Web_init oc_marks_over kV_marks_over dc_marks_over pm_marks_over cd_marks_over ct_marks_over oc_is_tree kV_is_tree dc_is_tree pm_is_tree cd_is_tree ct_is_tree oc_look_at_tree kV_look_at_tree dc_look_at_tree pm_look_at_tree cd_look_at_tree ct_look_at_tree oc_without_tie kV_without_tie dc_without_tie pm_without_tie cd_without_tie ct_without_tie oc_ring_of kV_ring_of dc_ring_of pm_ring_of cd_ring_of ct_ring_of oc_cut_of kV_cut_of dc_cut_of pm_cut_of cd_cut_of ct_cut_of oc_exchanges_of kV_exchanges_of dc_exchanges_of pm_exchanges_of cd_exchanges_of ct_exchanges_of oc_exchanged kV_exchanged dc_exchanged pm_exchanged cd_exchanged ct_exchanged oc_law_cell kV_law_cell dc_law_cell pm_law_cell cd_law_cell ct_law_cell oc_law_mixed kV_law_mixed dc_law_mixed pm_law_mixed cd_law_mixed ct_law_mixed oc_law_draws kV_law_draws dc_law_draws pm_law_draws cd_law_draws ct_law_draws oc_law_ties kV_law_ties dc_law_ties pm_law_ties cd_law_ties ct_law_ties oc_law_web kV_law_web dc_law_web pm_law_web cd_law_web ct_law_web oc_law_marks kV_law_marks dc_law_marks pm_law_marks cd_law_marks ct_law_marks oc_law_tree_by kV_law_tree_by dc_law_tree_by pm_law_tree_by cd_law_tree_by ct_law_tree_by oc_law_behind_good kV_law_behind_good dc_law_behind_good pm_law_behind_good cd_law_behind_good ct_law_behind_good oc_law_k14 kV_law_k14 dc_law_k14 pm_law_k14 cd_law_k14 ct_law_k14 : Value} {t_MOST_PLACES t_MOST_TIES : Tok}
    (a_WebError : PySem.W.nsIn K mainGlobals "WebError" = some (some (.ref C_WebError)))
    (x_WebError : PySem.W.excIn K C_WebError [.type "ValueError", .type "Exception", .type "BaseException", .type "object"] "ValueError.__new__" = true)
    (kx_WebError : PySem.W.keepIn K (.ref C_WebError) = true)
    (bx_WebError : PySem.W.subIn K (.ref C_WebError) (.type "BaseException") = some true)
    (tx_WebError : PySem.W.typeIn K (.ref C_WebError) = some (.type "type"))
    (a_BadWeb : PySem.W.nsIn K mainGlobals "BadWeb" = some (some (.ref C_BadWeb)))
    (x_BadWeb : PySem.W.excIn K C_BadWeb [.type "ValueError", .type "Exception", .type "BaseException", .type "object"] "ValueError.__new__" = true)
    (kx_BadWeb : PySem.W.keepIn K (.ref C_BadWeb) = true)
    (bx_BadWeb : PySem.W.subIn K (.ref C_BadWeb) (.type "BaseException") = some true)
    (tx_BadWeb : PySem.W.typeIn K (.ref C_BadWeb) = some (.type "type"))
    (a_NoTree : PySem.W.nsIn K mainGlobals "NoTree" = some (some (.ref C_NoTree)))
    (x_NoTree : PySem.W.excIn K C_NoTree [.type "ValueError", .type "Exception", .type "BaseException", .type "object"] "ValueError.__new__" = true)
    (kx_NoTree : PySem.W.keepIn K (.ref C_NoTree) = true)
    (bx_NoTree : PySem.W.subIn K (.ref C_NoTree) (.type "BaseException") = some true)
    (tx_NoTree : PySem.W.typeIn K (.ref C_NoTree) = some (.type "type"))
    (a_NoTie : PySem.W.nsIn K mainGlobals "NoTie" = some (some (.ref C_NoTie)))
    (x_NoTie : PySem.W.excIn K C_NoTie [.type "ValueError", .type "Exception", .type "BaseException", .type "object"] "ValueError.__new__" = true)
    (kx_NoTie : PySem.W.keepIn K (.ref C_NoTie) = true)
    (bx_NoTie : PySem.W.subIn K (.ref C_NoTie) (.type "BaseException") = some true)
    (tx_NoTie : PySem.W.typeIn K (.ref C_NoTie) = some (.type "type"))
    (a_Web : PySem.W.nsIn K mainGlobals "Web" = some (some (.ref C_Web)))
    (pg_Web : PySem.W.plainGet K C_Web Str.empty = true)
    (hd_Web : PySem.W.hasDictIn K C_Web = true)
    (po_Web : PySem.W.plainOver K C_Web = true)
    (sa_Web : PySem.W.findIn K (.ref C_Web) "__setattr__" = some (some (.builtin "object.__setattr__")))
    (mk_Web : PySem.W.makesIn K C_Web = true)
    (kc_Web : PySem.W.keepIn K (.ref C_Web) = true)
    (na_Web_places : PySem.W.findIn K (.ref C_Web) "places" = some none)
    (na_Web_ties : PySem.W.findIn K (.ref C_Web) "ties" = some none)
    (n_Web_init : PySem.W.findIn K (.ref C_Web) "__init__" = some (some (.ref a_Web_init)))
    (i_Web_init : PySem.W.isFn K (.ref a_Web_init) = true)
    (l_Web_init : K.lookup a_Web_init = some ⟨oc_Web_init, od_Web_init, .func (PySem.W.fnOf "__init__" "Web.__init__" (defArgs s_Web_init) (defBody s_Web_init) (defScope s_Web_init) .none kV_Web_init dc_Web_init pm_Web_init an_Web_init cd_Web_init ct_Web_init), sl_Web_init⟩)
    (c_Web_init : PySem.W.codeIn K cd_Web_init "Web.__init__" = true)
    (k_Web_init : PySem.W.keepIn K (.ref a_Web_init) = true)
    (n_marks_over : PySem.W.nsIn K mainGlobals "marks_over" = some (some (.ref a_marks_over)))
    (l_marks_over : K.lookup a_marks_over = some ⟨oc_marks_over, od_marks_over, .func (PySem.W.fnOf "marks_over" "marks_over" (defArgs s_marks_over) (defBody s_marks_over) (defScope s_marks_over) .none kV_marks_over dc_marks_over pm_marks_over an_marks_over cd_marks_over ct_marks_over), sl_marks_over⟩)
    (c_marks_over : PySem.W.codeIn K cd_marks_over "marks_over" = true)
    (k_marks_over : PySem.W.keepIn K (.ref a_marks_over) = true)
    (n_is_tree : PySem.W.nsIn K mainGlobals "is_tree" = some (some (.ref a_is_tree)))
    (l_is_tree : K.lookup a_is_tree = some ⟨oc_is_tree, od_is_tree, .func (PySem.W.fnOf "is_tree" "is_tree" (defArgs s_is_tree) (defBody s_is_tree) (defScope s_is_tree) .none kV_is_tree dc_is_tree pm_is_tree an_is_tree cd_is_tree ct_is_tree), sl_is_tree⟩)
    (c_is_tree : PySem.W.codeIn K cd_is_tree "is_tree" = true)
    (k_is_tree : PySem.W.keepIn K (.ref a_is_tree) = true)
    (n_look_at_tree : PySem.W.nsIn K mainGlobals "look_at_tree" = some (some (.ref a_look_at_tree)))
    (l_look_at_tree : K.lookup a_look_at_tree = some ⟨oc_look_at_tree, od_look_at_tree, .func (PySem.W.fnOf "look_at_tree" "look_at_tree" (defArgs s_look_at_tree) (defBody s_look_at_tree) (defScope s_look_at_tree) .none kV_look_at_tree dc_look_at_tree pm_look_at_tree an_look_at_tree cd_look_at_tree ct_look_at_tree), sl_look_at_tree⟩)
    (c_look_at_tree : PySem.W.codeIn K cd_look_at_tree "look_at_tree" = true)
    (k_look_at_tree : PySem.W.keepIn K (.ref a_look_at_tree) = true)
    (n_without_tie : PySem.W.nsIn K mainGlobals "without_tie" = some (some (.ref a_without_tie)))
    (l_without_tie : K.lookup a_without_tie = some ⟨oc_without_tie, od_without_tie, .func (PySem.W.fnOf "without_tie" "without_tie" (defArgs s_without_tie) (defBody s_without_tie) (defScope s_without_tie) .none kV_without_tie dc_without_tie pm_without_tie an_without_tie cd_without_tie ct_without_tie), sl_without_tie⟩)
    (c_without_tie : PySem.W.codeIn K cd_without_tie "without_tie" = true)
    (k_without_tie : PySem.W.keepIn K (.ref a_without_tie) = true)
    (n_ring_of : PySem.W.nsIn K mainGlobals "ring_of" = some (some (.ref a_ring_of)))
    (l_ring_of : K.lookup a_ring_of = some ⟨oc_ring_of, od_ring_of, .func (PySem.W.fnOf "ring_of" "ring_of" (defArgs s_ring_of) (defBody s_ring_of) (defScope s_ring_of) .none kV_ring_of dc_ring_of pm_ring_of an_ring_of cd_ring_of ct_ring_of), sl_ring_of⟩)
    (c_ring_of : PySem.W.codeIn K cd_ring_of "ring_of" = true)
    (k_ring_of : PySem.W.keepIn K (.ref a_ring_of) = true)
    (n_cut_of : PySem.W.nsIn K mainGlobals "cut_of" = some (some (.ref a_cut_of)))
    (l_cut_of : K.lookup a_cut_of = some ⟨oc_cut_of, od_cut_of, .func (PySem.W.fnOf "cut_of" "cut_of" (defArgs s_cut_of) (defBody s_cut_of) (defScope s_cut_of) .none kV_cut_of dc_cut_of pm_cut_of an_cut_of cd_cut_of ct_cut_of), sl_cut_of⟩)
    (c_cut_of : PySem.W.codeIn K cd_cut_of "cut_of" = true)
    (k_cut_of : PySem.W.keepIn K (.ref a_cut_of) = true)
    (n_exchanges_of : PySem.W.nsIn K mainGlobals "exchanges_of" = some (some (.ref a_exchanges_of)))
    (l_exchanges_of : K.lookup a_exchanges_of = some ⟨oc_exchanges_of, od_exchanges_of, .func (PySem.W.fnOf "exchanges_of" "exchanges_of" (defArgs s_exchanges_of) (defBody s_exchanges_of) (defScope s_exchanges_of) .none kV_exchanges_of dc_exchanges_of pm_exchanges_of an_exchanges_of cd_exchanges_of ct_exchanges_of), sl_exchanges_of⟩)
    (c_exchanges_of : PySem.W.codeIn K cd_exchanges_of "exchanges_of" = true)
    (k_exchanges_of : PySem.W.keepIn K (.ref a_exchanges_of) = true)
    (n_exchanged : PySem.W.nsIn K mainGlobals "exchanged" = some (some (.ref a_exchanged)))
    (l_exchanged : K.lookup a_exchanged = some ⟨oc_exchanged, od_exchanged, .func (PySem.W.fnOf "exchanged" "exchanged" (defArgs s_exchanged) (defBody s_exchanged) (defScope s_exchanged) .none kV_exchanged dc_exchanged pm_exchanged an_exchanged cd_exchanged ct_exchanged), sl_exchanged⟩)
    (c_exchanged : PySem.W.codeIn K cd_exchanged "exchanged" = true)
    (k_exchanged : PySem.W.keepIn K (.ref a_exchanged) = true)
    (n_law_cell : PySem.W.nsIn K mainGlobals "_law_cell" = some (some (.ref a_law_cell)))
    (l_law_cell : K.lookup a_law_cell = some ⟨oc_law_cell, od_law_cell, .func (PySem.W.fnOf "_law_cell" "_law_cell" (defArgs s_law_cell) (defBody s_law_cell) (defScope s_law_cell) .none kV_law_cell dc_law_cell pm_law_cell an_law_cell cd_law_cell ct_law_cell), sl_law_cell⟩)
    (c_law_cell : PySem.W.codeIn K cd_law_cell "_law_cell" = true)
    (k_law_cell : PySem.W.keepIn K (.ref a_law_cell) = true)
    (n_law_mixed : PySem.W.nsIn K mainGlobals "_law_mixed" = some (some (.ref a_law_mixed)))
    (l_law_mixed : K.lookup a_law_mixed = some ⟨oc_law_mixed, od_law_mixed, .func (PySem.W.fnOf "_law_mixed" "_law_mixed" (defArgs s_law_mixed) (defBody s_law_mixed) (defScope s_law_mixed) .none kV_law_mixed dc_law_mixed pm_law_mixed an_law_mixed cd_law_mixed ct_law_mixed), sl_law_mixed⟩)
    (c_law_mixed : PySem.W.codeIn K cd_law_mixed "_law_mixed" = true)
    (k_law_mixed : PySem.W.keepIn K (.ref a_law_mixed) = true)
    (n_law_draws : PySem.W.nsIn K mainGlobals "_law_draws" = some (some (.ref a_law_draws)))
    (l_law_draws : K.lookup a_law_draws = some ⟨oc_law_draws, od_law_draws, .func (PySem.W.fnOf "_law_draws" "_law_draws" (defArgs s_law_draws) (defBody s_law_draws) (defScope s_law_draws) .none kV_law_draws dc_law_draws pm_law_draws an_law_draws cd_law_draws ct_law_draws), sl_law_draws⟩)
    (c_law_draws : PySem.W.codeIn K cd_law_draws "_law_draws" = true)
    (k_law_draws : PySem.W.keepIn K (.ref a_law_draws) = true)
    (n_law_ties : PySem.W.nsIn K mainGlobals "_law_ties" = some (some (.ref a_law_ties)))
    (l_law_ties : K.lookup a_law_ties = some ⟨oc_law_ties, od_law_ties, .func (PySem.W.fnOf "_law_ties" "_law_ties" (defArgs s_law_ties) (defBody s_law_ties) (defScope s_law_ties) .none kV_law_ties dc_law_ties pm_law_ties an_law_ties cd_law_ties ct_law_ties), sl_law_ties⟩)
    (c_law_ties : PySem.W.codeIn K cd_law_ties "_law_ties" = true)
    (k_law_ties : PySem.W.keepIn K (.ref a_law_ties) = true)
    (n_law_web : PySem.W.nsIn K mainGlobals "_law_web" = some (some (.ref a_law_web)))
    (l_law_web : K.lookup a_law_web = some ⟨oc_law_web, od_law_web, .func (PySem.W.fnOf "_law_web" "_law_web" (defArgs s_law_web) (defBody s_law_web) (defScope s_law_web) .none kV_law_web dc_law_web pm_law_web an_law_web cd_law_web ct_law_web), sl_law_web⟩)
    (c_law_web : PySem.W.codeIn K cd_law_web "_law_web" = true)
    (k_law_web : PySem.W.keepIn K (.ref a_law_web) = true)
    (n_law_marks : PySem.W.nsIn K mainGlobals "_law_marks" = some (some (.ref a_law_marks)))
    (l_law_marks : K.lookup a_law_marks = some ⟨oc_law_marks, od_law_marks, .func (PySem.W.fnOf "_law_marks" "_law_marks" (defArgs s_law_marks) (defBody s_law_marks) (defScope s_law_marks) .none kV_law_marks dc_law_marks pm_law_marks an_law_marks cd_law_marks ct_law_marks), sl_law_marks⟩)
    (c_law_marks : PySem.W.codeIn K cd_law_marks "_law_marks" = true)
    (k_law_marks : PySem.W.keepIn K (.ref a_law_marks) = true)
    (n_law_tree_by : PySem.W.nsIn K mainGlobals "_law_tree_by" = some (some (.ref a_law_tree_by)))
    (l_law_tree_by : K.lookup a_law_tree_by = some ⟨oc_law_tree_by, od_law_tree_by, .func (PySem.W.fnOf "_law_tree_by" "_law_tree_by" (defArgs s_law_tree_by) (defBody s_law_tree_by) (defScope s_law_tree_by) .none kV_law_tree_by dc_law_tree_by pm_law_tree_by an_law_tree_by cd_law_tree_by ct_law_tree_by), sl_law_tree_by⟩)
    (c_law_tree_by : PySem.W.codeIn K cd_law_tree_by "_law_tree_by" = true)
    (k_law_tree_by : PySem.W.keepIn K (.ref a_law_tree_by) = true)
    (n_law_behind_good : PySem.W.nsIn K mainGlobals "_law_behind_good" = some (some (.ref a_law_behind_good)))
    (l_law_behind_good : K.lookup a_law_behind_good = some ⟨oc_law_behind_good, od_law_behind_good, .func (PySem.W.fnOf "_law_behind_good" "_law_behind_good" (defArgs s_law_behind_good) (defBody s_law_behind_good) (defScope s_law_behind_good) .none kV_law_behind_good dc_law_behind_good pm_law_behind_good an_law_behind_good cd_law_behind_good ct_law_behind_good), sl_law_behind_good⟩)
    (c_law_behind_good : PySem.W.codeIn K cd_law_behind_good "_law_behind_good" = true)
    (k_law_behind_good : PySem.W.keepIn K (.ref a_law_behind_good) = true)
    (n_law_k14 : PySem.W.nsIn K mainGlobals "law" = some (some (.ref a_law_k14)))
    (l_law_k14 : K.lookup a_law_k14 = some ⟨oc_law_k14, od_law_k14, .func (PySem.W.fnOf "law" "law" (defArgs s_law_k14) (defBody s_law_k14) (defScope s_law_k14) .none kV_law_k14 dc_law_k14 pm_law_k14 an_law_k14 cd_law_k14 ct_law_k14), sl_law_k14⟩)
    (c_law_k14 : PySem.W.codeIn K cd_law_k14 "law" = true)
    (k_law_k14 : PySem.W.keepIn K (.ref a_law_k14) = true)
    (v_MOST_PLACES : PySem.W.nsIn K mainGlobals "MOST_PLACES" = some (some (.int 14 t_MOST_PLACES)))
    (v_MOST_TIES : PySem.W.nsIn K mainGlobals "MOST_TIES" = some (some (.int 30 t_MOST_TIES)))
    (z_enumerate : PySem.W.nsIn K mainGlobals "enumerate" = some none)
    (z_len : PySem.W.nsIn K mainGlobals "len" = some none)
    (z_list : PySem.W.nsIn K mainGlobals "list" = some none)
    (z_max : PySem.W.nsIn K mainGlobals "max" = some none)
    (z_min : PySem.W.nsIn K mainGlobals "min" = some none)
    (z_range : PySem.W.nsIn K mainGlobals "range" = some none)
    (z_set : PySem.W.nsIn K mainGlobals "set" = some none)
    (z_sorted : PySem.W.nsIn K mainGlobals "sorted" = some none)
    (z_sum : PySem.W.nsIn K mainGlobals "sum" = some none)
    (z_tuple : PySem.W.nsIn K mainGlobals "tuple" = some none)
    : ∃ T : Tx K mg, mg "law" = some (.ref T.a_law_k14) ∧ ∀ (s : Shared) (v : Value), BindsTo s T.d_law_k14 ⟨[v], []⟩ [("script", v)] := by
  refine ⟨{
    C_WebError := C_WebError,
    C_BadWeb := C_BadWeb,
    C_NoTree := C_NoTree,
    C_NoTie := C_NoTie,
    C_Web := C_Web,
    a_Web_init := a_Web_init,
    d_Web_init := PySem.W.fnOf "__init__" "Web.__init__" (defArgs s_Web_init) (defBody s_Web_init) (defScope s_Web_init) .none kV_Web_init dc_Web_init pm_Web_init an_Web_init cd_Web_init ct_Web_init,
    a_marks_over := a_marks_over,
    d_marks_over := PySem.W.fnOf "marks_over" "marks_over" (defArgs s_marks_over) (defBody s_marks_over) (defScope s_marks_over) .none kV_marks_over dc_marks_over pm_marks_over an_marks_over cd_marks_over ct_marks_over,
    a_is_tree := a_is_tree,
    d_is_tree := PySem.W.fnOf "is_tree" "is_tree" (defArgs s_is_tree) (defBody s_is_tree) (defScope s_is_tree) .none kV_is_tree dc_is_tree pm_is_tree an_is_tree cd_is_tree ct_is_tree,
    a_look_at_tree := a_look_at_tree,
    d_look_at_tree := PySem.W.fnOf "look_at_tree" "look_at_tree" (defArgs s_look_at_tree) (defBody s_look_at_tree) (defScope s_look_at_tree) .none kV_look_at_tree dc_look_at_tree pm_look_at_tree an_look_at_tree cd_look_at_tree ct_look_at_tree,
    a_without_tie := a_without_tie,
    d_without_tie := PySem.W.fnOf "without_tie" "without_tie" (defArgs s_without_tie) (defBody s_without_tie) (defScope s_without_tie) .none kV_without_tie dc_without_tie pm_without_tie an_without_tie cd_without_tie ct_without_tie,
    a_ring_of := a_ring_of,
    d_ring_of := PySem.W.fnOf "ring_of" "ring_of" (defArgs s_ring_of) (defBody s_ring_of) (defScope s_ring_of) .none kV_ring_of dc_ring_of pm_ring_of an_ring_of cd_ring_of ct_ring_of,
    a_cut_of := a_cut_of,
    d_cut_of := PySem.W.fnOf "cut_of" "cut_of" (defArgs s_cut_of) (defBody s_cut_of) (defScope s_cut_of) .none kV_cut_of dc_cut_of pm_cut_of an_cut_of cd_cut_of ct_cut_of,
    a_exchanges_of := a_exchanges_of,
    d_exchanges_of := PySem.W.fnOf "exchanges_of" "exchanges_of" (defArgs s_exchanges_of) (defBody s_exchanges_of) (defScope s_exchanges_of) .none kV_exchanges_of dc_exchanges_of pm_exchanges_of an_exchanges_of cd_exchanges_of ct_exchanges_of,
    a_exchanged := a_exchanged,
    d_exchanged := PySem.W.fnOf "exchanged" "exchanged" (defArgs s_exchanged) (defBody s_exchanged) (defScope s_exchanged) .none kV_exchanged dc_exchanged pm_exchanged an_exchanged cd_exchanged ct_exchanged,
    a_law_cell := a_law_cell,
    d_law_cell := PySem.W.fnOf "_law_cell" "_law_cell" (defArgs s_law_cell) (defBody s_law_cell) (defScope s_law_cell) .none kV_law_cell dc_law_cell pm_law_cell an_law_cell cd_law_cell ct_law_cell,
    a_law_mixed := a_law_mixed,
    d_law_mixed := PySem.W.fnOf "_law_mixed" "_law_mixed" (defArgs s_law_mixed) (defBody s_law_mixed) (defScope s_law_mixed) .none kV_law_mixed dc_law_mixed pm_law_mixed an_law_mixed cd_law_mixed ct_law_mixed,
    a_law_draws := a_law_draws,
    d_law_draws := PySem.W.fnOf "_law_draws" "_law_draws" (defArgs s_law_draws) (defBody s_law_draws) (defScope s_law_draws) .none kV_law_draws dc_law_draws pm_law_draws an_law_draws cd_law_draws ct_law_draws,
    a_law_ties := a_law_ties,
    d_law_ties := PySem.W.fnOf "_law_ties" "_law_ties" (defArgs s_law_ties) (defBody s_law_ties) (defScope s_law_ties) .none kV_law_ties dc_law_ties pm_law_ties an_law_ties cd_law_ties ct_law_ties,
    a_law_web := a_law_web,
    d_law_web := PySem.W.fnOf "_law_web" "_law_web" (defArgs s_law_web) (defBody s_law_web) (defScope s_law_web) .none kV_law_web dc_law_web pm_law_web an_law_web cd_law_web ct_law_web,
    a_law_marks := a_law_marks,
    d_law_marks := PySem.W.fnOf "_law_marks" "_law_marks" (defArgs s_law_marks) (defBody s_law_marks) (defScope s_law_marks) .none kV_law_marks dc_law_marks pm_law_marks an_law_marks cd_law_marks ct_law_marks,
    a_law_tree_by := a_law_tree_by,
    d_law_tree_by := PySem.W.fnOf "_law_tree_by" "_law_tree_by" (defArgs s_law_tree_by) (defBody s_law_tree_by) (defScope s_law_tree_by) .none kV_law_tree_by dc_law_tree_by pm_law_tree_by an_law_tree_by cd_law_tree_by ct_law_tree_by,
    a_law_behind_good := a_law_behind_good,
    d_law_behind_good := PySem.W.fnOf "_law_behind_good" "_law_behind_good" (defArgs s_law_behind_good) (defBody s_law_behind_good) (defScope s_law_behind_good) .none kV_law_behind_good dc_law_behind_good pm_law_behind_good an_law_behind_good cd_law_behind_good ct_law_behind_good,
    a_law_k14 := a_law_k14,
    d_law_k14 := PySem.W.fnOf "law" "law" (defArgs s_law_k14) (defBody s_law_k14) (defScope s_law_k14) .none kV_law_k14 dc_law_k14 pm_law_k14 an_law_k14 cd_law_k14 ct_law_k14,
    t_MOST_PLACES := t_MOST_PLACES,
    t_MOST_TIES := t_MOST_TIES,
    m_WebError := PySem.W.mg_of X G a_WebError,
    x_WebError := x_WebError,
    kx_WebError := kx_WebError,
    bx_WebError := bx_WebError,
    tx_WebError := tx_WebError,
    m_BadWeb := PySem.W.mg_of X G a_BadWeb,
    x_BadWeb := x_BadWeb,
    kx_BadWeb := kx_BadWeb,
    bx_BadWeb := bx_BadWeb,
    tx_BadWeb := tx_BadWeb,
    m_NoTree := PySem.W.mg_of X G a_NoTree,
    x_NoTree := x_NoTree,
    kx_NoTree := kx_NoTree,
    bx_NoTree := bx_NoTree,
    tx_NoTree := tx_NoTree,
    m_NoTie := PySem.W.mg_of X G a_NoTie,
    x_NoTie := x_NoTie,
    kx_NoTie := kx_NoTie,
    bx_NoTie := bx_NoTie,
    tx_NoTie := tx_NoTie,
    m_Web := PySem.W.mg_of X G a_Web,
    cl_Web := ⟨pg_Web, hd_Web, po_Web, sa_Web⟩,
    na_Web_places := na_Web_places,
    na_Web_ties := na_Web_ties,
    mk_Web := ⟨mk_Web, n_Web_init, i_Web_init, kc_Web⟩,
    F_Web_init := fun_mk (st := s_Web_init) l_Web_init c_Web_init k_Web_init,
    b_Web_init := (fun_mk (st := s_Web_init) l_Web_init c_Web_init k_Web_init).binds (ps := ["self", "places", "ties"]) fun _ _ _ _ _ _ us hl => match us, hl with | [_, _, _], _ => rfl,
    k_Web_init := k_Web_init,
    F_marks_over := fun_mk (st := s_marks_over) l_marks_over c_marks_over k_marks_over,
    b_marks_over := (fun_mk (st := s_marks_over) l_marks_over c_marks_over k_marks_over).binds (ps := ["web", "ties"]) fun _ _ _ _ _ _ us hl => match us, hl with | [_, _], _ => rfl,
    m_marks_over := PySem.W.mg_of X G n_marks_over,
    k_marks_over := k_marks_over,
    F_is_tree := fun_mk (st := s_is_tree) l_is_tree c_is_tree k_is_tree,
    b_is_tree := (fun_mk (st := s_is_tree) l_is_tree c_is_tree k_is_tree).binds (ps := ["web", "ties"]) fun _ _ _ _ _ _ us hl => match us, hl with | [_, _], _ => rfl,
    m_is_tree := PySem.W.mg_of X G n_is_tree,
    k_is_tree := k_is_tree,
    F_look_at_tree := fun_mk (st := s_look_at_tree) l_look_at_tree c_look_at_tree k_look_at_tree,
    b_look_at_tree := (fun_mk (st := s_look_at_tree) l_look_at_tree c_look_at_tree k_look_at_tree).binds (ps := ["web", "tree"]) fun _ _ _ _ _ _ us hl => match us, hl with | [_, _], _ => rfl,
    m_look_at_tree := PySem.W.mg_of X G n_look_at_tree,
    k_look_at_tree := k_look_at_tree,
    F_without_tie := fun_mk (st := s_without_tie) l_without_tie c_without_tie k_without_tie,
    b_without_tie := (fun_mk (st := s_without_tie) l_without_tie c_without_tie k_without_tie).binds (ps := ["ties", "tie"]) fun _ _ _ _ _ _ us hl => match us, hl with | [_, _], _ => rfl,
    m_without_tie := PySem.W.mg_of X G n_without_tie,
    k_without_tie := k_without_tie,
    F_ring_of := fun_mk (st := s_ring_of) l_ring_of c_ring_of k_ring_of,
    b_ring_of := (fun_mk (st := s_ring_of) l_ring_of c_ring_of k_ring_of).binds (ps := ["web", "tree", "tie"]) fun _ _ _ _ _ _ us hl => match us, hl with | [_, _, _], _ => rfl,
    m_ring_of := PySem.W.mg_of X G n_ring_of,
    k_ring_of := k_ring_of,
    F_cut_of := fun_mk (st := s_cut_of) l_cut_of c_cut_of k_cut_of,
    b_cut_of := (fun_mk (st := s_cut_of) l_cut_of c_cut_of k_cut_of).binds (ps := ["web", "tree", "tie"]) fun _ _ _ _ _ _ us hl => match us, hl with | [_, _, _], _ => rfl,
    m_cut_of := PySem.W.mg_of X G n_cut_of,
    k_cut_of := k_cut_of,
    F_exchanges_of := fun_mk (st := s_exchanges_of) l_exchanges_of c_exchanges_of k_exchanges_of,
    b_exchanges_of := (fun_mk (st := s_exchanges_of) l_exchanges_of c_exchanges_of k_exchanges_of).binds (ps := ["web", "tree"]) fun _ _ _ _ _ _ us hl => match us, hl with | [_, _], _ => rfl,
    m_exchanges_of := PySem.W.mg_of X G n_exchanges_of,
    k_exchanges_of := k_exchanges_of,
    F_exchanged := fun_mk (st := s_exchanged) l_exchanged c_exchanged k_exchanged,
    b_exchanged := (fun_mk (st := s_exchanged) l_exchanged c_exchanged k_exchanged).binds (ps := ["web", "tree", "out", "into"]) fun _ _ _ _ _ _ us hl => match us, hl with | [_, _, _, _], _ => rfl,
    m_exchanged := PySem.W.mg_of X G n_exchanged,
    k_exchanged := k_exchanged,
    F_law_cell := fun_mk (st := s_law_cell) l_law_cell c_law_cell k_law_cell,
    b_law_cell := (fun_mk (st := s_law_cell) l_law_cell c_law_cell k_law_cell).binds (ps := ["script", "k"]) fun _ _ _ _ _ _ us hl => match us, hl with | [_, _], _ => rfl,
    m_law_cell := PySem.W.mg_of X G n_law_cell,
    k_law_cell := k_law_cell,
    F_law_mixed := fun_mk (st := s_law_mixed) l_law_mixed c_law_mixed k_law_mixed,
    b_law_mixed := (fun_mk (st := s_law_mixed) l_law_mixed c_law_mixed k_law_mixed).binds (ps := ["cell", "k"]) fun _ _ _ _ _ _ us hl => match us, hl with | [_, _], _ => rfl,
    m_law_mixed := PySem.W.mg_of X G n_law_mixed,
    k_law_mixed := k_law_mixed,
    F_law_draws := fun_mk (st := s_law_draws) l_law_draws c_law_draws k_law_draws,
    b_law_draws := (fun_mk (st := s_law_draws) l_law_draws c_law_draws k_law_draws).binds (ps := ["script", "start", "count", "way"]) fun _ _ _ _ _ _ us hl => match us, hl with | [_, _, _, _], _ => rfl,
    m_law_draws := PySem.W.mg_of X G n_law_draws,
    k_law_draws := k_law_draws,
    F_law_ties := fun_mk (st := s_law_ties) l_law_ties c_law_ties k_law_ties,
    b_law_ties := (fun_mk (st := s_law_ties) l_law_ties c_law_ties k_law_ties).binds (ps := ["draws", "places", "hang"]) fun _ _ _ _ _ _ us hl => match us, hl with | [_, _, _], _ => rfl,
    m_law_ties := PySem.W.mg_of X G n_law_ties,
    k_law_ties := k_law_ties,
    F_law_web := fun_mk (st := s_law_web) l_law_web c_law_web k_law_web,
    b_law_web := (fun_mk (st := s_law_web) l_law_web c_law_web k_law_web).binds (ps := ["script", "most", "count"]) fun _ _ _ _ _ _ us hl => match us, hl with | [_, _, _], _ => rfl,
    m_law_web := PySem.W.mg_of X G n_law_web,
    k_law_web := k_law_web,
    F_law_marks := fun_mk (st := s_law_marks) l_law_marks c_law_marks k_law_marks,
    b_law_marks := (fun_mk (st := s_law_marks) l_law_marks c_law_marks k_law_marks).binds (ps := ["places", "ties", "some"]) fun _ _ _ _ _ _ us hl => match us, hl with | [_, _, _], _ => rfl,
    m_law_marks := PySem.W.mg_of X G n_law_marks,
    k_law_marks := k_law_marks,
    F_law_tree_by := fun_mk (st := s_law_tree_by) l_law_tree_by c_law_tree_by k_law_tree_by,
    b_law_tree_by := (fun_mk (st := s_law_tree_by) l_law_tree_by c_law_tree_by k_law_tree_by).binds (ps := ["places", "ties", "cell"]) fun _ _ _ _ _ _ us hl => match us, hl with | [_, _, _], _ => rfl,
    m_law_tree_by := PySem.W.mg_of X G n_law_tree_by,
    k_law_tree_by := k_law_tree_by,
    F_law_behind_good := fun_mk (st := s_law_behind_good) l_law_behind_good c_law_behind_good k_law_behind_good,
    b_law_behind_good := (fun_mk (st := s_law_behind_good) l_law_behind_good c_law_behind_good k_law_behind_good).binds (ps := ["web", "tree", "out", "into"]) fun _ _ _ _ _ _ us hl => match us, hl with | [_, _, _, _], _ => rfl,
    m_law_behind_good := PySem.W.mg_of X G n_law_behind_good,
    k_law_behind_good := k_law_behind_good,
    F_law_k14 := fun_mk (st := s_law_k14) l_law_k14 c_law_k14 k_law_k14,
    b_law_k14 := (fun_mk (st := s_law_k14) l_law_k14 c_law_k14 k_law_k14).binds (ps := ["script"]) fun _ _ _ _ _ _ us hl => match us, hl with | [_], _ => rfl,
    m_law_k14 := PySem.W.mg_of X G n_law_k14,
    k_law_k14 := k_law_k14,
    v_MOST_PLACES := PySem.W.mg_of X G v_MOST_PLACES,
    v_MOST_TIES := PySem.W.mg_of X G v_MOST_TIES,
    z_enumerate := PySem.W.mg_none_of X G z_enumerate,
    z_len := PySem.W.mg_none_of X G z_len,
    z_list := PySem.W.mg_none_of X G z_list,
    z_max := PySem.W.mg_none_of X G z_max,
    z_min := PySem.W.mg_none_of X G z_min,
    z_range := PySem.W.mg_none_of X G z_range,
    z_set := PySem.W.mg_none_of X G z_set,
    z_sorted := PySem.W.mg_none_of X G z_sorted,
    z_sum := PySem.W.mg_none_of X G z_sum,
    z_tuple := PySem.W.mg_none_of X G z_tuple }, PySem.W.mg_of X G n_law_k14, fun s v => .of_eq rfl⟩
def spLaw (K : PySem.W.Frag) : Sp := fun vs H Q _ => ∃ (a : Addr) (ns : List Int), vs = [.ref a] ∧ SqL K H a (ns.map V.int) ∧ ns.length ≤ 63 ∧ ∀ v H', v = .bl true → Q v H'
theorem law_ok (T : Tx K mg) : FnOk P w K mg base (L2.CX P w) 6 T.a_law_k14 T.d_law_k14 ["script"] (spLaw K) := by
  have G_Web_init := ok_Web_init (P := P) (w := w) (base := base) T
  have G_marks_over := ok_marks_over (P := P) (w := w) (base := base) T
  have G_is_tree := ok_is_tree (P := P) (w := w) (base := base) T G_marks_over
  have G_look_at_tree := ok_look_at_tree (P := P) (w := w) (base := base) T G_is_tree
  have G_without_tie := ok_without_tie (P := P) (w := w) (base := base) T
  have G_ring_of := ok_ring_of (P := P) (w := w) (base := base) T G_look_at_tree G_marks_over G_without_tie
  have G_cut_of := ok_cut_of (P := P) (w := w) (base := base) T G_look_at_tree G_marks_over G_without_tie
  have G_exchanges_of := ok_exchanges_of (P := P) (w := w) (base := base) T G_look_at_tree G_cut_of
  have G_exchanged := ok_exchanged (P := P) (w := w) (base := base) T G_look_at_tree G_without_tie G_is_tree
  have G_law_cell := ok_law_cell (P := P) (w := w) (base := base) T
  have G_law_mixed := ok_law_mixed (P := P) (w := w) (base := base) T
  have G_law_draws := ok_law_draws (P := P) (w := w) (base := base) T G_law_mixed
  have G_law_ties := ok_law_ties (P := P) (w := w) (base := base) T
  have G_law_web := ok_law_web (P := P) (w := w) (base := base) T G_law_cell G_law_draws G_law_ties
  have G_law_marks := ok_law_marks (P := P) (w := w) (base := base) T
  have G_law_tree_by := ok_law_tree_by (P := P) (w := w) (base := base) T G_law_mixed G_law_marks
  have G_law_behind_good := ok_law_behind_good (P := P) (w := w) (base := base) T G_exchanged G_is_tree G_ring_of G_cut_of
  have G_law_k14 := ok_law_k14 (P := P) (w := w) (base := base) T G_law_web G_Web_init G_law_tree_by G_exchanges_of G_cut_of G_ring_of G_law_behind_good
  refine G_law_k14.imp fun vs H Q E q => ?_
  obtain ⟨a, ns, rfl, hS, hl, k⟩ := q
  have e := law_sp (K := K) (cls := T.cls) (g := g_law_k14) (H := H) (true_law_k14 ns hl) hS
  obtain ⟨F, ds, h1, h2, h3, h4⟩ := e
  refine ⟨F, ds, h1, h2, h3, ?_⟩
  cases eg : g_law_k14 ds with
  | ok d => rw [eg] at h4; exact fun v F' H' O' x y z => k v H' (h4 v F' H' O' x y z)
  | xc c => rw [eg] at h4; exact fun F' H' x => (h4 F' H' x).elim
  | bad => rw [eg] at h4; exact h4.elim
end
theorem walk {l : PySem.W.OpenLaw} {q : Program} {loose : List Str} {XP : (Str → Option Value) → Heap → Prop} {YP : World → Heap → Prop} {d : DefRec} {K : Params → PySem.W.Frag} (hn : l.most = some 63) (hdf : d.params.defaults = []) (hname : d.name = "law")
    (hY : ∀ (w : World) (h : Heap), YP w h → (K w.params).In h)
    (F : ∀ (w : World) (mg : Str → Option Value) (h : Heap), (K w.params).In h → h.Ns mainGlobals mg → ∃ T : Tx (K w.params) mg, mg "law" = some (.ref T.a_law_k14) ∧ ∀ (s : Shared) (v : Value), BindsTo s T.d_law_k14 ⟨[v], []⟩ [("script", v)]) :
    PySem.W.WalkO q loose XP YP l.row.toRowW d [] (fun f vs => PySem.call f vs) :=
  L2.walk_of (n := 63) (k := 6) (x := "script") (CX := fun w => L2.CX l.prog w) (sp := fun w => spLaw (K w.params)) hn (by decide) hdf ⟨rfl, by decide, by decide⟩ hY (fun w mg fa h KX G hmg => by
    obtain ⟨T, h1, h2⟩ := F w mg h KX G
    rw [hname, h1] at hmg
    cases hmg
    exact ⟨T.d_law_k14, h2, fun base _ _ => law_ok T⟩) (fun _ _ a ns hl _ hS => ⟨a, ns, rfl, hS, hl, fun _ _ h => h⟩) fun _ _ _ _ _ z => law_cx z
end Lw
open PySem PySem.W PyProof.Rows in
set_option maxRecDepth 100000 in
set_option maxHeartbeats 0 in
theorem PySem.Challenge.cw_spanrow_k14_whole_rings_and_cuts_holds : PySem.Challenge.rw_spanrow_k14_whole_rings_and_cuts.Holds := by
  w_on; o_law; k_head; (case hw => w_witness2)
  k_fill
  refine Lw.walk (l := PySem.Challenge.rw_spanrow_k14_whole_rings_and_cuts) rfl rfl rfl (fun w h Y => PySem.W.kIn_of Y) ?F
  case F =>
    intro w mg h KX G
    refine' Lw.all_mk KX G ?a_WebError ?x_WebError ?kx_WebError ?bx_WebError ?tx_WebError ?a_BadWeb ?x_BadWeb ?kx_BadWeb ?bx_BadWeb ?tx_BadWeb ?a_NoTree ?x_NoTree ?kx_NoTree ?bx_NoTree ?tx_NoTree ?a_NoTie ?x_NoTie ?kx_NoTie ?bx_NoTie ?tx_NoTie ?a_Web ?pg_Web ?hd_Web ?po_Web ?sa_Web ?mk_Web ?kc_Web ?na_Web_places ?na_Web_ties ?n_Web_init ?i_Web_init ?l_Web_init ?c_Web_init ?k_Web_init ?n_marks_over ?l_marks_over ?c_marks_over ?k_marks_over ?n_is_tree ?l_is_tree ?c_is_tree ?k_is_tree ?n_look_at_tree ?l_look_at_tree ?c_look_at_tree ?k_look_at_tree ?n_without_tie ?l_without_tie ?c_without_tie ?k_without_tie ?n_ring_of ?l_ring_of ?c_ring_of ?k_ring_of ?n_cut_of ?l_cut_of ?c_cut_of ?k_cut_of ?n_exchanges_of ?l_exchanges_of ?c_exchanges_of ?k_exchanges_of ?n_exchanged ?l_exchanged ?c_exchanged ?k_exchanged ?n_law_cell ?l_law_cell ?c_law_cell ?k_law_cell ?n_law_mixed ?l_law_mixed ?c_law_mixed ?k_law_mixed ?n_law_draws ?l_law_draws ?c_law_draws ?k_law_draws ?n_law_ties ?l_law_ties ?c_law_ties ?k_law_ties ?n_law_web ?l_law_web ?c_law_web ?k_law_web ?n_law_marks ?l_law_marks ?c_law_marks ?k_law_marks ?n_law_tree_by ?l_law_tree_by ?c_law_tree_by ?k_law_tree_by ?n_law_behind_good ?l_law_behind_good ?c_law_behind_good ?k_law_behind_good ?n_law_k14 ?l_law_k14 ?c_law_k14 ?k_law_k14 ?v_MOST_PLACES ?v_MOST_TIES ?z_enumerate ?z_len ?z_list ?z_max ?z_min ?z_range ?z_set ?z_sorted ?z_sum ?z_tuple
    (case a_WebError => k_is)
    (case x_WebError => k_exc)
    (case kx_WebError => k_is)
    (case bx_WebError => k_is)
    (case tx_WebError => k_is)
    (case a_BadWeb => k_is)
    (case x_BadWeb => k_exc)
    (case kx_BadWeb => k_is)
    (case bx_BadWeb => k_is)
    (case tx_BadWeb => k_is)
    (case a_NoTree => k_is)
    (case x_NoTree => k_exc)
    (case kx_NoTree => k_is)
    (case bx_NoTree => k_is)
    (case tx_NoTree => k_is)
    (case a_NoTie => k_is)
    (case x_NoTie => k_exc)
    (case kx_NoTie => k_is)
    (case bx_NoTie => k_is)
    (case tx_NoTie => k_is)
    (case a_Web => k_is)
    (case pg_Web => k_is)
    (case hd_Web => k_is)
    (case po_Web => k_is)
    (case sa_Web => k_is)
    (case mk_Web => k_is)
    (case kc_Web => k_is)
    (case na_Web_places => k_is)
    (case na_Web_ties => k_is)
    (case n_Web_init => k_is)
    (case i_Web_init => k_is)
    (case l_Web_init => k_is)
    (case c_Web_init => k_is)
    (case k_Web_init => k_is)
    (case n_marks_over => k_is)
    (case l_marks_over => k_is)
    (case c_marks_over => k_is)
    (case k_marks_over => k_is)
    (case n_is_tree => k_is)
    (case l_is_tree => k_is)
    (case c_is_tree => k_is)
    (case k_is_tree => k_is)
    (case n_look_at_tree => k_is)
    (case l_look_at_tree => k_is)
    (case c_look_at_tree => k_is)
    (case k_look_at_tree => k_is)
    (case n_without_tie => k_is)
    (case l_without_tie => k_is)
    (case c_without_tie => k_is)
    (case k_without_tie => k_is)
    (case n_ring_of => k_is)
    (case l_ring_of => k_is)
    (case c_ring_of => k_is)
    (case k_ring_of => k_is)
    (case n_cut_of => k_is)
    (case l_cut_of => k_is)
    (case c_cut_of => k_is)
    (case k_cut_of => k_is)
    (case n_exchanges_of => k_is)
    (case l_exchanges_of => k_is)
    (case c_exchanges_of => k_is)
    (case k_exchanges_of => k_is)
    (case n_exchanged => k_is)
    (case l_exchanged => k_is)
    (case c_exchanged => k_is)
    (case k_exchanged => k_is)
    (case n_law_cell => k_is)
    (case l_law_cell => k_is)
    (case c_law_cell => k_is)
    (case k_law_cell => k_is)
    (case n_law_mixed => k_is)
    (case l_law_mixed => k_is)
    (case c_law_mixed => k_is)
    (case k_law_mixed => k_is)
    (case n_law_draws => k_is)
    (case l_law_draws => k_is)
    (case c_law_draws => k_is)
    (case k_law_draws => k_is)
    (case n_law_ties => k_is)
    (case l_law_ties => k_is)
    (case c_law_ties => k_is)
    (case k_law_ties => k_is)
    (case n_law_web => k_is)
    (case l_law_web => k_is)
    (case c_law_web => k_is)
    (case k_law_web => k_is)
    (case n_law_marks => k_is)
    (case l_law_marks => k_is)
    (case c_law_marks => k_is)
    (case k_law_marks => k_is)
    (case n_law_tree_by => k_is)
    (case l_law_tree_by => k_is)
    (case c_law_tree_by => k_is)
    (case k_law_tree_by => k_is)
    (case n_law_behind_good => k_is)
    (case l_law_behind_good => k_is)
    (case c_law_behind_good => k_is)
    (case k_law_behind_good => k_is)
    (case n_law_k14 => k_is)
    (case l_law_k14 => k_is)
    (case c_law_k14 => k_is)
    (case k_law_k14 => k_is)
    (case v_MOST_PLACES => k_is)
    (case v_MOST_TIES => k_is)
    (case z_enumerate => k_is)
    (case z_len => k_is)
    (case z_list => k_is)
    (case z_max => k_is)
    (case z_min => k_is)
    (case z_range => k_is)
    (case z_set => k_is)
    (case z_sorted => k_is)
    (case z_sum => k_is)
    (case z_tuple => k_is)
