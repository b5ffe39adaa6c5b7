import PyProof.Rows.All
import Wide.All
import OpenK.AllK
import Wide.FinOn
import HandS.ForMost
import HandS.ForExc
import HandS.TupAny
import HandS.Wide
import HandS.SortInts
import HandS.ExcIs
import HandS.TryOnly
import HandS.Rev
import HandS.RevRange
import HandS.WordsExc
import HandS.SetFor
import HandS.Strs
import HandS.Conv
import HandS.IsInst
import HandS.RevTup
import HandS.NamedTupSort
import HandS.SortRule
import HandS.Deep
import HandS.WideBits
import KE.DataMinMax
import HandS.Iter
import KE.GoesMore
import KE.SortData
import HandS.More
import HandS.Dict
import HandS.Zip
import KE.GoesZip
import KE.KTurns
import KE.KTupSum
import HandS.TupLe
import KE.KDictSum
import KE.DataFind
import HandS.EndBits
import KE.RegKIsAll
import PySem.Challenge.RW_spanrow_k63_whole_cheapest_ones_by_trial
set_option Elab.async false
set_option linter.all false
set_option maxRecDepth 100000
namespace DL
open PySem L2

inductive D where
  | un | non | bl (b : Bool) | int (i : Int) | str (x : Str)
  | sc (xs : List D) | ls (xs : List D) | tp (xs : List D) | ob (c : Nat) (fs : List D)
  | ol (xs : List D) | bo (xs : List D)
  | od (ks : List Key) (xs : List D) | bd (ks : List Key) (xs : List D)
  | oo (o : Option Addr) (c : Nat) (fs : List D) | bb (c : Nat) (fs : List D)
  | rf (a : Addr)

abbrev Cls := Nat → Option (Addr × List Str)
abbrev Env := List D

inductive Res (α : Type) where
  | ok (a : α) | xc (c : Nat) | bad
inductive Out where
  | nx (g : Env) | rt (d : D) | bk (g : Env) | ct (g : Env) | xc (c : Nat) (g : Env) | bad

def excV (cls : Cls) (c : Nat) : Value := match cls c with
  | some (C, _) => .ref C
  | none => .none

mutual
inductive Rp (K : PySem.W.Frag) (cls : Cls) (F : Hp) : V → D → Prop
  | non : Rp K cls F .non .non
  | bl (b : Bool) : Rp K cls F (.bl b) (.bl b)
  | int (i : Int) : Rp K cls F (.int i) (.int i)
  | str (x : Str) : Rp K cls F (.str x) (.str x)
  | rf (a : Addr) : Rp K cls F (.ref a) (.rf a)
  | sc {a : Addr} {vs : List V} {ds : List D} : SqL K F a vs → Rps K cls F vs ds → Rp K cls F (.ref a) (.sc ds)
  | ls {a : Addr} {vs : List V} {ds : List D} : F a = some (.lst vs) → Rps K cls F vs ds → Rp K cls F (.ref a) (.ls ds)
  | tp {a : Addr} {vs : List V} {ds : List D} : SqT K F a vs → Rps K cls F vs ds → Rp K cls F (.ref a) (.tp ds)
  | ob {a C dx : Addr} {c : Nat} {ns : List Str} {vs : List V} {ds : List D} : cls c = some (C, ns) → F a = some (.ins C dx (ns.zip vs)) → vs.length ≤ ns.length → Rps K cls F vs ds → Rp K cls F (.ref a) (.ob c ds)
inductive Rps (K : PySem.W.Frag) (cls : Cls) (F : Hp) : List V → List D → Prop
  | nil : Rps K cls F [] []
  | cons {v : V} {d : D} {vs : List V} {ds : List D} : Rp K cls F v d → Rps K cls F vs ds → Rps K cls F (v :: vs) (d :: ds)
end

mutual
inductive Ow (K : PySem.W.Frag) (cls : Cls) (F H : Hp) : V → D → List Addr → Prop
  | sh {v : V} {d : D} : Rp K cls F v d → Ow K cls F H v d []
  | ol {a : Addr} {vs : List V} {ds : List D} {O : List Addr} : F a = none → H a = some (.lst vs) → a ∉ O → Ows K cls F H vs ds O → Ow K cls F H (.ref a) (.ol ds) (a :: O)
  | od {a : Addr} {ks : List Key} {vs : List V} {ds : List D} {O : List Addr} : F a = none → H a = some (.dK (ks.zip vs)) → ks.length = vs.length → a ∉ O → Ows K cls F H vs ds O → Ow K cls F H (.ref a) (.od ks ds) (a :: O)
  | oo {o : Option Addr} {a C dx : Addr} {c : Nat} {ns : List Str} {vs : List V} {ds : List D} {O : List Addr} : (∀ x, o = some x → x = a) → cls c = some (C, ns) → F a = none → H a = some (.ins C dx (ns.zip vs)) → vs.length ≤ ns.length → a ∉ O → Ows K cls F H vs ds O → Ow K cls F H (.ref a) (.oo o c ds) (a :: O)
inductive Ows (K : PySem.W.Frag) (cls : Cls) (F H : Hp) : List V → List D → List Addr → Prop
  | nil : Ows K cls F H [] [] []
  | cons {v : V} {d : D} {vs : List V} {ds : List D} {O1 O2 O : List Addr} : Ow K cls F H v d O1 → Ows K cls F H vs ds O2 → (∀ a ∈ O1, a ∉ O2) → O = O1 ++ O2 → Ows K cls F H (v :: vs) (d :: ds) O
end

mutual
inductive Bo (K : PySem.W.Frag) (cls : Cls) (F H : Hp) : V → D → Prop
  | sh {v : V} {d : D} : Rp K cls F v d → Bo K cls F H v d
  | bo {a : Addr} {vs : List V} {ds : List D} : H a = some (.lst vs) → Bos K cls F H vs ds → Bo K cls F H (.ref a) (.bo ds)
  | bd {a : Addr} {ks : List Key} {vs : List V} {ds : List D} : H a = some (.dK (ks.zip vs)) → ks.length = vs.length → Bos K cls F H vs ds → Bo K cls F H (.ref a) (.bd ks ds)
  | bb {a C dx : Addr} {c : Nat} {ns : List Str} {vs : List V} {ds : List D} : cls c = some (C, ns) → H a = some (.ins C dx (ns.zip vs)) → vs.length ≤ ns.length → Bos K cls F H vs ds → Bo K cls F H (.ref a) (.bb c ds)
inductive Bos (K : PySem.W.Frag) (cls : Cls) (F H : Hp) : List V → List D → Prop
  | nil : Bos K cls F H [] []
  | cons {v : V} {d : D} {vs : List V} {ds : List D} : Bo K cls F H v d → Bos K cls F H vs ds → Bos K cls F H (v :: vs) (d :: ds)
end

def Tm (K : PySem.W.Frag) (cls : Cls) (F H : Hp) (v : V) (d : D) (O : List Addr) : Prop := Ow K cls F H v d O ∨ (Bo K cls F H v d ∧ O = [])

inductive Sts (K : PySem.W.Frag) (cls : Cls) (F H : Hp) : St → Env → List Addr → Prop
  | nil : Sts K cls F H [] [] []
  | un {o : Option V} {σ : St} {g : Env} {O : List Addr} : Sts K cls F H σ g O → Sts K cls F H (o :: σ) (.un :: g) O
  | cons {v : V} {d : D} {σ : St} {g : Env} {O1 O2 O : List Addr} : Ow K cls F H v d O1 → Sts K cls F H σ g O2 → (∀ a ∈ O1, a ∉ O2) → O = O1 ++ O2 → Sts K cls F H (some v :: σ) (d :: g) O

def Fresh (H : Hp) (O : List Addr) : Prop := ∀ a ∈ O, H a = none

structure Ext (F H F' H' : Hp) : Prop where
  ff : Same F F'
  hh : Same H H'
  fh : Same F' H'
  ow : ∀ a, F a = none → H a ≠ none → F' a = none

structure SExt (F H : Hp) (O : List Addr) (F' H' : Hp) (O' : List Addr) : Prop where
  ff : Same F F'
  fh : Same F' H'
  fr : ∀ a o, H a = some o → a ∉ O → H' a = some o
  ow : ∀ a, F a = none → H a ≠ none → a ∉ O → F' a = none
  oo : ∀ a ∈ O', a ∈ O ∨ H a = none

section
variable {K : PySem.W.Frag} {cls : Cls} {F H F' H' F'' H'' : Hp} {O O' O'' : List Addr}

theorem Ext.refl (s : Same F H) : Ext F H F H := ⟨.refl F, .refl H, s, fun _ h _ => h⟩
theorem Ext.trans (x : Ext F H F' H') (y : Ext F' H' F'' H'') : Ext F H F'' H'' :=
  ⟨x.ff.trans y.ff, x.hh.trans y.hh, y.fh, fun a h1 h2 => y.ow a (x.ow a h1 h2) (fun e => by
    cases q : H a with
    | none => exact h2 q
    | some o => rw [x.hh a o q] at e; cases e)⟩
theorem Ext.some (x : Ext F H F' H') {a : Addr} (h : H a ≠ none) : H' a ≠ none := fun e => by
  cases q : H a with
  | none => exact h q
  | some o => rw [x.hh a o q] at e; cases e
theorem Ext.fresh (x : Ext F H F' H') (h : Fresh H' O) : Fresh H O := fun a ha => x.hh.free (h a ha)
theorem Fresh.mono (s : Same H H') (h : Fresh H' O) : Fresh H O := fun a ha => s.free (h a ha)
theorem Fresh.nil : Fresh H [] := fun _ h => nomatch h
theorem SExt.refl (s : Same F H) : SExt F H O F H O := ⟨.refl F, s, fun _ _ h _ => h, fun _ h _ _ => h, fun _ h => .inl h⟩
theorem SExt.trans (x : SExt F H O F' H' O') (y : SExt F' H' O' F'' H'' O'') : SExt F H O F'' H'' O'' := by
  have no : ∀ a o, H a = .some o → a ∉ O → a ∉ O' := fun a o h n h' => by
    rcases x.oo a h' with e | e
    · exact n e
    · rw [h] at e; cases e
  have ne : ∀ a, H a ≠ none → ∃ o, H a = .some o := fun a h => by
    cases q : H a with
    | none => exact (h q).elim
    | some o => exact ⟨o, rfl⟩
  refine ⟨x.ff.trans y.ff, y.fh, fun a o h n => y.fr a o (x.fr a o h n) (no a o h n), fun a h1 h2 n => ?_, fun a h => ?_⟩
  · obtain ⟨o, q⟩ := ne a h2
    exact y.ow a (x.ow a h1 h2 n) (by rw [x.fr a o q n]; exact fun e => nomatch e) (no a o q n)
  · rcases y.oo a h with e | e
    · exact x.oo a e
    · cases q : H a with
      | none => exact .inr rfl
      | some o =>
        by_cases n : a ∈ O
        · exact .inl n
        · rw [x.fr a o q n] at e; cases e
theorem Ext.sext (x : Ext F H F' H') (h : ∀ a ∈ O', a ∈ O ∨ H a = none) : SExt F H O F' H' O' := ⟨x.ff, x.fh, fun a o e _ => x.hh a o e, fun a h1 h2 _ => x.ow a h1 h2, h⟩
theorem SExt.ext (x : SExt F H [] F' H' O') : Ext F H F' H' := ⟨x.ff, fun a o e => x.fr a o e (by simp), x.fh, fun a h1 h2 => x.ow a h1 h2 (by simp)⟩

mutual
theorem Rp.mono (s : Same F F') : ∀ {v : V} {d : D}, Rp K cls F v d → Rp K cls F' v d
  | _, _, .non => .non
  | _, _, .bl b => .bl b
  | _, _, .int i => .int i
  | _, _, .str x => .str x
  | _, _, .rf x => .rf x
  | _, _, .sc h r => .sc (s.seq h) (Rps.mono s r)
  | _, _, .ls h r => .ls (s _ _ h) (Rps.mono s r)
  | _, _, .tp h r => .tp (by
      rcases h with (h | ⟨o, h⟩) | h
      · exact .inl (.inl (s _ _ h))
      · exact .inl (.inr ⟨o, s _ _ h⟩)
      · exact .inr h) (Rps.mono s r)
  | _, _, .ob c h l r => .ob c (s _ _ h) l (Rps.mono s r)
theorem Rps.mono (s : Same F F') : ∀ {v : List V} {d : List D}, Rps K cls F v d → Rps K cls F' v d
  | _, _, .nil => .nil
  | _, _, .cons h r => .cons (Rp.mono s h) (Rps.mono s r)
end
mutual
theorem Ow.frame (s : Same F F') : ∀ {v : V} {d : D} {O : List Addr}, Ow K cls F H v d O → (∀ a ∈ O, H' a = H a ∧ F' a = none) → Ow K cls F' H' v d O
  | _, _, _, .sh r, _ => .sh (r.mono s)
  | _, _, _, .ol h1 h2 h3 r, k => .ol (k _ (by simp)).2 ((k _ (by simp)).1.trans h2) h3 (Ows.frame s r fun a ha => k a (by simp [ha]))
  | _, _, _, .od h1 h2 hl h3 r, k => .od (k _ (by simp)).2 ((k _ (by simp)).1.trans h2) hl h3 (Ows.frame s r fun a ha => k a (by simp [ha]))
  | _, _, _, .oo ho hc h1 h2 hl h3 r, k => .oo ho hc (k _ (by simp)).2 ((k _ (by simp)).1.trans h2) hl h3 (Ows.frame s r fun a ha => k a (by simp [ha]))
theorem Ows.frame (s : Same F F') : ∀ {v : List V} {d : List D} {O : List Addr}, Ows K cls F H v d O → (∀ a ∈ O, H' a = H a ∧ F' a = none) → Ows K cls F' H' v d O
  | _, _, _, .nil, _ => .nil
  | _, _, _, .cons h r dj e, k => .cons (Ow.frame s h fun a ha => k a (by simp [e, ha])) (Ows.frame s r fun a ha => k a (by simp [e, ha])) dj e
end
mutual
theorem Ow.dom : ∀ {v : V} {d : D} {O : List Addr}, Ow K cls F H v d O → ∀ a ∈ O, F a = none ∧ H a ≠ none
  | _, _, _, .sh r, _, h => nomatch h
  | _, _, _, .ol h1 h2 h3 r, a, h => by
    rcases List.mem_cons.mp h with rfl | h
    · exact ⟨h1, by rw [h2]; exact fun e => nomatch e⟩
    · exact Ows.dom r a h
  | _, _, _, .od h1 h2 hl h3 r, a, h => by
    rcases List.mem_cons.mp h with rfl | h
    · exact ⟨h1, by rw [h2]; exact fun e => nomatch e⟩
    · exact Ows.dom r a h
  | _, _, _, .oo ho hc h1 h2 hl h3 r, a, h => by
    rcases List.mem_cons.mp h with rfl | h
    · exact ⟨h1, by rw [h2]; exact fun e => nomatch e⟩
    · exact Ows.dom r a h
theorem Ows.dom : ∀ {v : List V} {d : List D} {O : List Addr}, Ows K cls F H v d O → ∀ a ∈ O, F a = none ∧ H a ≠ none
  | _, _, _, .nil, _, h => nomatch h
  | _, _, _, .cons h r dj e, a, ha => by
    rw [e] at ha
    rcases List.mem_append.mp ha with q | q
    · exact Ow.dom h a q
    · exact Ows.dom r a q
end
theorem Ext.get (x : Ext F H F' H') {a : Addr} (h1 : F a = none) (h2 : H a ≠ none) : H' a = H a ∧ F' a = none := by
  refine ⟨?_, x.ow a h1 h2⟩
  cases q : H a with
  | none => exact (h2 q).elim
  | some o => exact x.hh a o q
theorem Ow.ext (x : Ext F H F' H') {v : V} {d : D} (h : Ow K cls F H v d O) : Ow K cls F' H' v d O :=
  h.frame x.ff fun a ha => x.get (h.dom a ha).1 (h.dom a ha).2
theorem Ows.ext (x : Ext F H F' H') {v : List V} {d : List D} (h : Ows K cls F H v d O) : Ows K cls F' H' v d O :=
  h.frame x.ff fun a ha => x.get (h.dom a ha).1 (h.dom a ha).2
mutual
theorem Bo.ext (x : Ext F H F' H') : ∀ {v : V} {d : D}, Bo K cls F H v d → Bo K cls F' H' v d
  | _, _, .sh r => .sh (r.mono x.ff)
  | _, _, .bo h r => .bo (x.hh _ _ h) (Bos.ext x r)
  | _, _, .bd h l r => .bd (x.hh _ _ h) l (Bos.ext x r)
  | _, _, .bb hc h l r => .bb hc (x.hh _ _ h) l (Bos.ext x r)
theorem Bos.ext (x : Ext F H F' H') : ∀ {v : List V} {d : List D}, Bos K cls F H v d → Bos K cls F' H' v d
  | _, _, .nil => .nil
  | _, _, .cons h r => .cons (Bo.ext x h) (Bos.ext x r)
end
theorem Tm.ext (x : Ext F H F' H') {v : V} {d : D} (h : Tm K cls F H v d O) : Tm K cls F' H' v d O := by
  rcases h with h | ⟨h, e⟩
  · exact .inl (h.ext x)
  · exact .inr ⟨h.ext x, e⟩
theorem Sts.dom : ∀ {σ : St} {g : Env} {O : List Addr}, Sts K cls F H σ g O → ∀ a ∈ O, F a = none ∧ H a ≠ none
  | _, _, _, .nil, _, h => nomatch h
  | _, _, _, .un r, a, h => r.dom a h
  | _, _, _, .cons h r dj e, a, ha => by
    rw [e] at ha
    rcases List.mem_append.mp ha with q | q
    · exact Ow.dom h a q
    · exact Sts.dom r a q
theorem Sts.frame (s : Same F F') : ∀ {σ : St} {g : Env} {O : List Addr}, Sts K cls F H σ g O → (∀ a ∈ O, H' a = H a ∧ F' a = none) → Sts K cls F' H' σ g O
  | _, _, _, .nil, _ => .nil
  | _, _, _, .un r, k => .un (r.frame s k)
  | _, _, _, .cons h r dj e, k => .cons (h.frame s fun a ha => k a (by simp [e, ha])) (r.frame s fun a ha => k a (by simp [e, ha])) dj e
theorem Sts.ext (x : Ext F H F' H') {σ : St} {g : Env} (h : Sts K cls F H σ g O) : Sts K cls F' H' σ g O :=
  h.frame x.ff fun a ha => x.get (h.dom a ha).1 (h.dom a ha).2
theorem Sts.len : ∀ {σ : St} {g : Env} {O : List Addr}, Sts K cls F H σ g O → σ.length = g.length
  | _, _, _, .nil => rfl
  | _, _, _, .un r => by simp [r.len]
  | _, _, _, .cons h r dj e => by simp [r.len]

theorem Sts.at : ∀ {σ : St} {g : Env} {O : List Addr} (i : Nat), Sts K cls F H σ g O → i < g.length → ∃ O1 : List Addr, (∀ a ∈ O1, a ∈ O) ∧
    (g[i]? = some .un ∧ O1 = [] ∨ ∃ v d, σ[i]? = some (some v) ∧ g[i]? = some d ∧ Ow K cls F H v d O1) ∧
    (∀ (F' H' : Hp) (v' : V) (d' : D) (O1' : List Addr), (∀ b ∈ O, b ∉ O1 → H' b = H b ∧ F' b = none) → Same F F' → Ow K cls F' H' v' d' O1' → (∀ a ∈ O1', a ∈ O → a ∈ O1) →
      ∃ O'', Sts K cls F' H' (σ.set i (some v')) (g.set i d') O'' ∧ ∀ a ∈ O'', a ∈ O ∨ a ∈ O1') ∧
    (∀ (F' H' : Hp) (o : Option V), (∀ b ∈ O, b ∉ O1 → H' b = H b ∧ F' b = none) → Same F F' →
      ∃ O'', Sts K cls F' H' (σ.set i o) (g.set i .un) O'' ∧ (∀ a ∈ O'', a ∈ O) ∧ ∀ a ∈ O'', a ∉ O1)
  | _, _, _, i, .nil, h => absurd h (Nat.not_lt_zero i)
  | _, _, _, 0, .un (o := o) (O := O) r, _ => by
    refine ⟨[], fun _ h => (nomatch h), .inl ⟨rfl, rfl⟩, fun F' H' v' d' O1' k s w dj => ⟨O1' ++ O, ?_, fun a ha => ?_⟩, fun F' H' o' k s => ⟨O, ?_, fun _ h => h, fun _ _ h => (nomatch h)⟩⟩
    · exact .cons w (r.frame s fun a ha => k a ha (by simp)) (fun a h1 h2 => (nomatch (dj a h1 h2))) rfl
    · rcases List.mem_append.mp ha with q | q
      · exact .inr q
      · exact .inl q
    · exact .un (r.frame s fun a ha => k a ha (by simp))
  | _, _, _, 0, .cons (v := v) (d := d) (O1 := O1) (O2 := O2) h r dj e, _ => by
    subst e
    refine ⟨O1, fun a h => List.mem_append_left _ h, .inr ⟨v, d, rfl, rfl, h⟩, fun F' H' v' d' O1' k s w dj' => ⟨O1' ++ O2, ?_, fun a ha => ?_⟩, fun F' H' o' k s => ⟨O2, ?_, fun a h => List.mem_append_right _ h, fun a h1 h2 => dj a h2 h1⟩⟩
    · refine .cons w (r.frame s fun a ha => k a (List.mem_append_right _ ha) fun q => dj a q ha) (fun a h1 h2 => ?_) rfl
      exact dj a (dj' a h1 (List.mem_append_right _ h2)) h2
    · rcases List.mem_append.mp ha with q | q
      · exact .inr q
      · exact .inl (List.mem_append_right _ q)
    · exact .un (r.frame s fun a ha => k a (List.mem_append_right _ ha) fun q => dj a q ha)
  | _, _, _, i + 1, .un (o := o) (O := O) r, hi => by
    obtain ⟨O1, h1, h2, h3, h4⟩ := r.at i (Nat.lt_of_succ_lt_succ hi)
    refine ⟨O1, h1, by simpa using h2, fun F' H' v' d' O1' k s w dj => ?_, fun F' H' o' k s => ?_⟩
    · obtain ⟨O'', q1, q2⟩ := h3 F' H' v' d' O1' k s w dj
      exact ⟨O'', .un q1, q2⟩
    · obtain ⟨O'', q1, q2⟩ := h4 F' H' o' k s
      exact ⟨O'', .un q1, q2⟩
  | _, _, _, i + 1, .cons (v := v) (d := d) (O1 := P1) (O2 := P2) h r dj e, hi => by
    subst e
    obtain ⟨O1, h1, h2, h3, h4⟩ := r.at i (Nat.lt_of_succ_lt_succ hi)
    have n1 : ∀ a ∈ P1, a ∉ O1 := fun a q q' => dj a q (h1 a q')
    refine ⟨O1, fun a q => List.mem_append_right _ (h1 a q), by simpa using h2, fun F' H' v' d' O1' k s w dj' => ?_, fun F' H' o' k s => ?_⟩
    · obtain ⟨O'', q1, q2⟩ := h3 F' H' v' d' O1' (fun b hb => k b (List.mem_append_right _ hb)) s w fun a q q' => dj' a q (List.mem_append_right _ q')
      refine ⟨P1 ++ O'', .cons (h.frame s fun a ha => k a (List.mem_append_left _ ha) (n1 a ha)) q1 (fun a ha hb => ?_) rfl, fun a ha => ?_⟩
      · rcases q2 a hb with z | z
        · exact dj a ha z
        · exact n1 a ha (dj' a z (List.mem_append_left _ ha))
      · rcases List.mem_append.mp ha with z | z
        · exact .inl (List.mem_append_left _ z)
        · rcases q2 a z with z | z
          · exact .inl (List.mem_append_right _ z)
          · exact .inr z
    · obtain ⟨O'', q1, q2, q3⟩ := h4 F' H' o' (fun b hb => k b (List.mem_append_right _ hb)) s
      refine ⟨P1 ++ O'', .cons (h.frame s fun a ha => k a (List.mem_append_left _ ha) (n1 a ha)) q1 (fun a ha hb => dj a ha (q2 a hb)) rfl, fun a ha => ?_, fun a ha hb => ?_⟩
      · rcases List.mem_append.mp ha with z | z
        · exact List.mem_append_left _ z
        · exact List.mem_append_right _ (q2 a z)
      · rcases List.mem_append.mp ha with z | z
        · exact n1 a z hb
        · exact q3 a z hb

mutual
/-- a value all of whose lists are shared from now on -/
def frz : D → D
  | .ol xs => .ls (frzs xs)
  | .oo _ c xs => .ob c (frzs xs)
  | d => d
def frzs : List D → List D
  | [] => []
  | d :: ds => frz d :: frzs ds
end
mutual
/-- how an owned value is read -/
def brw : D → D
  | .ol xs => .bo (brws xs)
  | .od ks xs => .bd ks (brws xs)
  | .oo _ c xs => .bb c (brws xs)
  | d => d
def brws : List D → List D
  | [] => []
  | d :: ds => brw d :: brws ds
end
mutual
/-- a borrowed value as plain data -/
def pln : D → D
  | .bo xs => .ls (plns xs)
  | .bb c xs => .ob c (plns xs)
  | d => d
def plns : List D → List D
  | [] => []
  | d :: ds => pln d :: plns ds
end
mutual
theorem Ow.brw (s : Same F H) : ∀ {v : V} {d : D} {O : List Addr}, Ow K cls F H v d O → Bo K cls F H v (brw d)
  | _, _, _, .sh r => by cases r <;> exact .sh (by first | assumption | constructor <;> assumption | constructor)
  | _, _, _, .ol h1 h2 h3 r => .bo h2 (Ows.brws s r)
  | _, _, _, .od h1 h2 hl h3 r => .bd h2 hl (Ows.brws s r)
  | _, _, _, .oo ho hc h1 h2 hl h3 r => .bb hc h2 hl (Ows.brws s r)
theorem Ows.brws (s : Same F H) : ∀ {v : List V} {d : List D} {O : List Addr}, Ows K cls F H v d O → Bos K cls F H v (brws d)
  | _, _, _, .nil => .nil
  | _, _, _, .cons h r _ _ => .cons (Ow.brw s h) (Ows.brws s r)
end
end
end DL

namespace DL
open PySem L2

def Res.bind {α β : Type} (r : Res α) (f : α → Res β) : Res β := match r with
  | .ok a => f a
  | .xc c => .xc c
  | .bad => .bad
@[simp] theorem Res.bind_ok {α β : Type} (a : α) (f : α → Res β) : (Res.ok a).bind f = f a := rfl
@[simp] theorem Res.bind_xc {α β : Type} (c : Nat) (f : α → Res β) : (Res.xc c : Res α).bind f = .xc c := rfl
@[simp] theorem Res.bind_bad {α β : Type} (f : α → Res β) : (Res.bad : Res α).bind f = .bad := rfl
def Res.of {α : Type} : Option α → Res α
  | some a => .ok a
  | none => .bad
@[simp] theorem Res.of_some {α : Type} (a : α) : Res.of (some a) = .ok a := rfl
@[simp] theorem Res.of_none {α : Type} : Res.of (none : Option α) = .bad := rfl

mutual
@[simp] def nod : D → Bool
  | .od _ _ => false
  | .ol xs => nods xs
  | .oo _ _ xs => nods xs
  | _ => true
@[simp] def nods : List D → Bool
  | [] => true
  | d :: ds => nod d && nods ds
end
section
variable {K : PySem.W.Frag} {cls : Cls} {F H F' H' F'' H'' : Hp} {O O' O'' : List Addr}
mutual
theorem Ow.freeze (s : Same F F') : ∀ {v : V} {d : D} {O : List Addr}, Ow K cls F H v d O → (∀ a ∈ O, F' a = H a) → nod d = true → Rp K cls F' v (frz d)
  | _, d, _, .sh r, _, _ => by
    have r' := r.mono s
    cases r <;> (simp only [frz]; exact r')
  | _, _, _, .ol (ds := ds) h1 h2 h3 r, k, n => by
    simp only [frz]
    exact .ls ((k _ (by simp)).trans h2) (Ows.freeze s r (fun a ha => k a (by simp [ha])) (by simpa using n))
  | _, _, _, .od h1 h2 hl h3 r, k, n => by simp at n
  | _, _, _, .oo (ds := ds) ho hc h1 h2 hl h3 r, k, n => by
    simp only [frz]
    exact .ob hc ((k _ (by simp)).trans h2) hl (Ows.freeze s r (fun a ha => k a (by simp [ha])) (by simpa using n))
theorem Ows.freeze (s : Same F F') : ∀ {v : List V} {d : List D} {O : List Addr}, Ows K cls F H v d O → (∀ a ∈ O, F' a = H a) → nods d = true → Rps K cls F' v (frzs d)
  | _, _, _, .nil, _, _ => .nil
  | _, _, _, .cons h r dj e, k, n => by
    simp only [nods, Bool.and_eq_true] at n
    simp only [frzs]
    exact .cons (Ow.freeze s h (fun a ha => k a (by simp [e, ha])) n.1) (Ows.freeze s r (fun a ha => k a (by simp [e, ha])) n.2)
end
def addF (F H : Hp) (O : List Addr) : Hp := fun a => if a ∈ O then H a else F a
theorem addF_ext {F0 H0 : Hp} (x : Ext F0 H0 F H) (f : Fresh H0 O) (n : ∀ a ∈ O, F a = none) : Ext F0 H0 (addF F H O) H := by
  have s1 : Same F (addF F H O) := fun a o e => by
    unfold addF
    split
    · rename_i q; rw [n a q] at e; cases e
    · exact e
  refine ⟨x.ff.trans s1, x.hh, fun a o e => ?_, fun a h1 h2 => ?_⟩
  · unfold addF at e
    split at e
    · exact e
    · exact x.fh a o e
  · unfold addF
    rw [if_neg (fun q => h2 (f a q))]
    exact x.ow a h1 h2
theorem addF_same (n : ∀ a ∈ O, F a = none) : Same F (addF F H O) := fun a o e => by
  unfold addF
  split
  · rename_i q; rw [n a q] at e; cases e
  · exact e
theorem addF_at : ∀ a ∈ O, addF F H O a = H a := fun a h => by unfold addF; rw [if_pos h]
theorem addF_no {a : Addr} (h : a ∉ O) : addF F H O a = F a := by unfold addF; rw [if_neg h]

def opd (d : D) : D := if nod d = true then frz d else brw d
theorem Rp.opd {v : V} {d : D} (r : Rp K cls F v d) : opd d = d := by cases r <;> rfl
theorem Bo.opd {v : V} {d : D} (r : Bo K cls F H v d) : opd d = d := by
  cases r with
  | sh r => exact r.opd
  | bo => rfl
  | bd => rfl
  | bb => rfl
@[simp] theorem opd_un : opd .un = .un := rfl
@[simp] theorem opd_non : opd .non = .non := rfl
@[simp] theorem opd_bl {b} : opd (.bl b) = .bl b := rfl
@[simp] theorem opd_int {b} : opd (.int b) = .int b := rfl
@[simp] theorem opd_str {b} : opd (.str b) = .str b := rfl
@[simp] theorem opd_sc {b} : opd (.sc b) = .sc b := rfl
@[simp] theorem opd_ls {b} : opd (.ls b) = .ls b := rfl
@[simp] theorem opd_tp {b} : opd (.tp b) = .tp b := rfl
@[simp] theorem opd_ob {c b} : opd (.ob c b) = .ob c b := rfl
@[simp] theorem opd_bo {b} : opd (.bo b) = .bo b := rfl
@[simp] theorem opd_bd {c b} : opd (.bd c b) = .bd c b := rfl
@[simp] theorem opd_od {c b} : opd (.od c b) = .bd c (brws b) := rfl
@[simp] theorem opd_rf {b} : opd (.rf b) = .rf b := rfl
@[simp] theorem opd_bb {c b} : opd (.bb c b) = .bb c b := rfl
@[simp] theorem opd_oo {o c b} : opd (.oo o c b) = if nods b = true then .ob c (frzs b) else .bb c (brws b) := rfl
@[simp] theorem opd_ol {b} : opd (.ol b) = if nods b = true then .ls (frzs b) else .bo (brws b) := by
  rfl
theorem Tm.operand {F0 H0 : Hp} {v : V} {d : D} (x : Ext F0 H0 F H) (f : Fresh H0 O) (t : Tm K cls F H v d O) : ∃ F', Ext F0 H0 F' H ∧ Same F F' ∧ (∀ a, a ∉ O → F' a = F a) ∧ Bo K cls F' H v (opd d) := by
  rcases t with t | ⟨t, e⟩
  · by_cases n : nod d = true
    · refine ⟨addF F H O, addF_ext x f fun a ha => (t.dom a ha).1, addF_same fun a ha => (t.dom a ha).1, fun a ha => addF_no ha, ?_⟩
      unfold DL.opd
      rw [if_pos n]
      exact .sh (t.freeze (addF_same fun a ha => (t.dom a ha).1) addF_at n)
    · refine ⟨F, x, .refl F, fun _ _ => rfl, ?_⟩
      unfold DL.opd
      rw [if_neg n]
      exact t.brw x.fh
  · refine ⟨F, x, .refl F, fun _ _ => rfl, ?_⟩
    rw [t.opd]
    exact t

@[simp] def kp : D → Res D
  | .bo _ => .bad
  | .bd _ _ => .bad
  | .bb _ _ => .bad
  | d => .ok d
theorem Tm.keep {v : V} {d d' : D} (t : Tm K cls F H v d O) (e : kp d = .ok d') : Ow K cls F H v d' O := by
  rcases t with t | ⟨t, rfl⟩
  · have : d' = d := by
      cases t with
      | sh r => cases r <;> (simp at e; exact e.symm)
      | ol => simp at e; exact e.symm
      | od => simp at e; exact e.symm
      | oo => simp at e; exact e.symm
    rw [this]; exact t
  · cases t with
    | sh r =>
      have : d' = d := by cases r <;> (simp at e; exact e.symm)
      rw [this]; exact .sh r
    | bo => simp at e
    | bd => simp at e
    | bb => simp at e

def PostE (K : PySem.W.Frag) (cls : Cls) (W : WX) (σ : St) (F H : Hp) (Q : VK) : Res D → Prop
  | .ok d => ∀ v F' H' O', Ext F H F' H' → Fresh H O' → Tm K cls F' H' v d O' → Q v H'
  | .xc c => ∀ F' H', Ext F H F' H' → W (excV cls c) none σ H'
  | .bad => False
def PostB (K : PySem.W.Frag) (cls : Cls) (W : WX) (σ : St) (F H : Hp) (Q : VK) : Res D → Prop
  | .ok d => ∀ v F' H', Ext F H F' H' → Bo K cls F' H' v d → Q v H'
  | .xc c => ∀ F' H', Ext F H F' H' → W (excV cls c) none σ H'
  | .bad => False
def PostO (K : PySem.W.Frag) (cls : Cls) (W : WX) (σ : St) (F H : Hp) (Q : VK) : Res D → Prop
  | .ok d => ∀ v F' H' O', Ext F H F' H' → Fresh H O' → Ow K cls F' H' v d O' → Q v H'
  | .xc c => ∀ F' H', Ext F H F' H' → W (excV cls c) none σ H'
  | .bad => False
def PostT (cls : Cls) (W : WX) (σ : St) (F H : Hp) (Q : Bool → Hp → Prop) : Res Bool → Prop
  | .ok b => ∀ F' H', Ext F H F' H' → Q b H'
  | .xc c => ∀ F' H', Ext F H F' H' → W (excV cls c) none σ H'
  | .bad => False
def PostA (K : PySem.W.Frag) (cls : Cls) (W : WX) (σ : St) (F H : Hp) (Q : List V → Hp → Prop) : Res (List D) → Prop
  | .ok d => ∀ v F' H', Ext F H F' H' → Bos K cls F' H' v d → Q v H'
  | .xc c => ∀ F' H', Ext F H F' H' → W (excV cls c) none σ H'
  | .bad => False
def PostAO (K : PySem.W.Frag) (cls : Cls) (W : WX) (σ : St) (F H : Hp) (Q : List V → Hp → Prop) : Res (List D) → Prop
  | .ok d => ∀ v F' H' O', Ext F H F' H' → Fresh H O' → Ows K cls F' H' v d O' → Q v H'
  | .xc c => ∀ F' H', Ext F H F' H' → W (excV cls c) none σ H'
  | .bad => False
def DE (K : PySem.W.Frag) (cls : Cls) (W : WX) (t : TE) (f : Env → Res D) : Prop :=
  ∀ σ F H g O Q, Same F H → Sts K cls F H σ g O → PostE K cls W σ F H Q (f g) → t σ H Q
def DB (K : PySem.W.Frag) (cls : Cls) (W : WX) (t : TE) (f : Env → Res D) : Prop :=
  ∀ σ F H g O Q, Same F H → Sts K cls F H σ g O → PostB K cls W σ F H Q (f g) → t σ H Q
def DO (K : PySem.W.Frag) (cls : Cls) (W : WX) (t : TE) (f : Env → Res D) : Prop :=
  ∀ σ F H g O Q, Same F H → Sts K cls F H σ g O → PostO K cls W σ F H Q (f g) → t σ H Q
def DT (K : PySem.W.Frag) (cls : Cls) (W : WX) (t : TT) (f : Env → Res Bool) : Prop :=
  ∀ σ F H g O Q, Same F H → Sts K cls F H σ g O → PostT cls W σ F H Q (f g) → t σ H Q
def DA (K : PySem.W.Frag) (cls : Cls) (W : WX) (t : TA) (f : Env → Res (List D)) : Prop :=
  ∀ σ F H g O Q, Same F H → Sts K cls F H σ g O → PostA K cls W σ F H Q (f g) → t σ H Q
def DAO (K : PySem.W.Frag) (cls : Cls) (W : WX) (t : TA) (f : Env → Res (List D)) : Prop :=
  ∀ σ F H g O Q, Same F H → Sts K cls F H σ g O → PostAO K cls W σ F H Q (f g) → t σ H Q

def bF (f : Env → Res D) : Env → Res D := fun g => (f g).bind fun d => .ok (opd d)
def oF (f : Env → Res D) : Env → Res D := fun g => (f g).bind kp
section
variable {f : Env → Res D} {g : Env}
theorem bF_ok {d : D} (e : f g = .ok d) : bF f g = .ok (opd d) := by unfold bF; rw [e]; rfl
theorem bF_xc {d : Nat} (e : f g = .xc d) : bF f g = .xc d := by unfold bF; rw [e]; rfl
theorem bF_bad (e : f g = .bad) : bF f g = .bad := by unfold bF; rw [e]; rfl
theorem oF_ok {d : D} (e : f g = .ok d) : oF f g = kp d := by unfold oF; rw [e]; rfl
theorem oF_xc {d : Nat} (e : f g = .xc d) : oF f g = .xc d := by unfold oF; rw [e]; rfl
theorem oF_bad (e : f g = .bad) : oF f g = .bad := by unfold oF; rw [e]; rfl
end
theorem kp_ok {d : D} : kp d = .ok d ∨ kp d = .bad := by cases d <;> simp
theorem DE.toB {W : WX} {t : TE} {f : Env → Res D} (h : DE K cls W t f) : DB K cls W t (bF f) := by
  intro σ F H g O Q s st p
  refine h σ F H g O Q s st ?_
  cases e : f g with
  | ok d =>
    rw [bF_ok e] at p
    intro v F' H' O' x fr tm
    obtain ⟨F2, x2, _, _, b⟩ := tm.operand x fr
    exact p v F2 H' x2 b
  | xc c => rw [bF_xc e] at p; exact p
  | bad => rw [bF_bad e] at p; exact p
theorem DE.toO {W : WX} {t : TE} {f : Env → Res D} (h : DE K cls W t f) : DO K cls W t (oF f) := by
  intro σ F H g O Q s st p
  refine h σ F H g O Q s st ?_
  cases e : f g with
  | ok d =>
    rw [oF_ok e] at p
    intro v F' H' O' x fr tm
    rcases kp_ok (d := d) with e2 | e2
    · rw [e2] at p; exact p v F' H' O' x fr (tm.keep e2)
    · rw [e2] at p; exact p.elim
  | xc c => rw [oF_xc e] at p; exact p
  | bad => rw [oF_bad e] at p; exact p

theorem PostE.mono {W : WX} {σ : St} {F H F1 H1 : Hp} {Q : VK} {r : Res D} (x : Ext F H F1 H1) (p : PostE K cls W σ F H Q r) : PostE K cls W σ F1 H1 Q r := by
  cases r with
  | ok d => exact fun v F' H' O' y fr tm => p v F' H' O' (x.trans y) (fr.mono x.hh) tm
  | xc c => exact fun F' H' y => p F' H' (x.trans y)
  | bad => exact p
theorem PostT.mono {W : WX} {σ : St} {F H F1 H1 : Hp} {Q : Bool → Hp → Prop} {r : Res Bool} (x : Ext F H F1 H1) (p : PostT cls W σ F H Q r) : PostT cls W σ F1 H1 Q r := by
  cases r with
  | ok d => exact fun F' H' y => p F' H' (x.trans y)
  | xc c => exact fun F' H' y => p F' H' (x.trans y)
  | bad => exact p
theorem PostA.mono {W : WX} {σ : St} {F H F1 H1 : Hp} {Q : List V → Hp → Prop} {r : Res (List D)} (x : Ext F H F1 H1) (p : PostA K cls W σ F H Q r) : PostA K cls W σ F1 H1 Q r := by
  cases r with
  | ok d => exact fun v F' H' y tm => p v F' H' (x.trans y) tm
  | xc c => exact fun F' H' y => p F' H' (x.trans y)
  | bad => exact p
theorem PostAO.mono {W : WX} {σ : St} {F H F1 H1 : Hp} {Q : List V → Hp → Prop} {r : Res (List D)} (x : Ext F H F1 H1) (p : PostAO K cls W σ F H Q r) : PostAO K cls W σ F1 H1 Q r := by
  cases r with
  | ok d => exact fun v F' H' O' y fr tm => p v F' H' O' (x.trans y) (fr.mono x.hh) tm
  | xc c => exact fun F' H' y => p F' H' (x.trans y)
  | bad => exact p

structure JE (X : Cx) (cls : Cls) (W : WX) (e : Expr) (f : Env → Res D) : Prop where
  ex : ∃ t, PE X e t ∧ DE X.K cls W t f
structure JT (X : Cx) (cls : Cls) (W : WX) (e : Expr) (f : Env → Res Bool) : Prop where
  ex : ∃ t, PT X e t ∧ DT X.K cls W t f
structure JW (X : Cx) (cls : Cls) (W : WX) (e : Expr) (f : Env → Res Bool) : Prop where
  ex : ∃ t, PW X e t ∧ DT X.K cls W t f
structure JA (X : Cx) (cls : Cls) (W : WX) (e : List Expr) (f : Env → Res (List D)) : Prop where
  ex : ∃ t, PA X e t ∧ DA X.K cls W t f
structure JAO (X : Cx) (cls : Cls) (W : WX) (e : List Expr) (f : Env → Res (List D)) : Prop where
  ex : ∃ t, PA X e t ∧ DAO X.K cls W t f
end

section
variable {X : Cx} {cls : Cls} {W : WX} {a b c : Expr} {es : List Expr} {fa fb fc : Env → Res D} {fs : Env → Res (List D)} {pos : Pos}
@[simp] def gv (g : Env) (i : Nat) : Res D := match g[i]? with
  | some .un => .bad
  | some d => .ok (brw d)
  | none => .bad
def eVar (i : Nat) : Env → Res D := fun g => gv g i
@[simp] theorem eVar_ (i : Nat) (g : Env) : eVar i g = gv g i := rfl
theorem de_var {K : PySem.W.Frag} (i : Nat) : DE K cls W (tVar i) (eVar i) := by
  intro σ F H g O Q s st p
  unfold eVar gv at p
  cases e : g[i]? with
  | none => rw [e] at p; exact p.elim
  | some d =>
    have hi : i < g.length := (List.getElem?_eq_some_iff.mp e).1
    obtain ⟨O1, h1, h2, _⟩ := st.at i hi
    rcases h2 with ⟨h2, _⟩ | ⟨v, d', h2, h3, ow⟩
    · rw [e] at h2; cases h2; rw [e] at p; exact p.elim
    · rw [e] at h3; cases h3
      refine ⟨v, h2, ?_⟩
      rw [e] at p
      have q : PostE K cls W σ F H Q (.ok (brw d)) := by
        cases d <;> first | exact p | exact p.elim
      exact q v F H [] (.refl s) Fresh.nil (.inr ⟨ow.brw s, rfl⟩)
theorem je_var (i : Nat) {x : Str} (hN : X.N[i]? = some x := by rfl) (hv : Vis X.env.scope x := by first | exact Or.inl rfl | exact Or.inr (Or.inl rfl) | exact Or.inr (Or.inr rfl)) (hd : (x == ("__debug__" : Str)) = false := by decide)
    (hcd : (x == ("__classdict__" : Str)) = false := by decide) : JE X cls W (.Name x pos) (eVar i) := ⟨_, pe_var hN hv hd hcd, de_var i⟩
def eC (d : D) : Env → Res D := fun _ => .ok d
@[simp] theorem eC_ (d : D) (g : Env) : eC d g = .ok d := rfl
theorem de_c {K : PySem.W.Frag} {v : V} {d : D} (h : ∀ F, Rp K cls F v d) : DE K cls W (tC v) (eC d) := by
  intro σ F H g O Q s st p
  exact p v F H [] (.refl s) Fresh.nil (.inl (.sh (h F)))
theorem je_int {i : Int} {j} : JE X cls W (.Constant (.int i) j pos) (eC (.int i)) := ⟨_, pe_int, de_c fun _ => .int i⟩
theorem je_bl {i : Bool} {j} : JE X cls W (.Constant (.bool i) j pos) (eC (.bl i)) := ⟨_, pe_bl, de_c fun _ => .bl i⟩
theorem je_non {j} : JE X cls W (.Constant .none j pos) (eC .non) := ⟨_, pe_non, de_c fun _ => .non⟩
theorem je_gint {x : Str} {i : Int} {t : Tok} (hm : X.mg x = some (.int i t)) (hg : Gl X x := by rfl) (hd : (x == ("__debug__" : Str)) = false := by decide) : JE X cls W (.Name x pos) (eC (.int i)) :=
  ⟨_, pe_glob (v := .int i) hg hm ⟨t, rfl⟩ hd, de_c fun _ => .int i⟩
def R2Ok (K : PySem.W.Frag) (cls : Cls) (r : R2) (op : D → D → Option D) : Prop :=
  ∀ F H x y a b d Q, Same F H → Bo K cls F H x a → Bo K cls F H y b → op a b = some d → (∀ v F' H' O', Ext F H F' H' → Fresh H O' → Tm K cls F' H' v d O' → Q v H') → r x y H Q
def eBin (op : D → D → Option D) (fa fb : Env → Res D) : Env → Res D := fun g => (fa g).bind fun a => (fb g).bind fun b => .of (op (opd a) (opd b))
@[simp] theorem eBin_ (op : D → D → Option D) (fa fb : Env → Res D) (g : Env) : eBin op fa fb g = (fa g).bind fun a => (fb g).bind fun b => .of (op (opd a) (opd b)) := rfl
theorem de_bin {K : PySem.W.Frag} {r : R2} {op : D → D → Option D} {ta tb : TE} (hr : R2Ok K cls r op) (ha : DE K cls W ta fa) (hb : DE K cls W tb fb) : DE K cls W (tOp r ta tb) (eBin op fa fb) := by
  intro σ F H g O Q s st p
  have e0 : eBin op fa fb g = (fa g).bind fun a => (fb g).bind fun b => .of (op (opd a) (opd b)) := rfl
  rw [e0] at p
  refine ha.toB σ F H g O _ s st ?_
  cases ea : fa g with
  | xc c => rw [ea] at p; rw [bF_xc ea]; exact p
  | bad => rw [ea] at p; exact p.elim
  | ok a =>
    rw [ea] at p
    rw [bF_ok ea]
    intro x F1 H1 x1 b1
    refine hb.toB σ F1 H1 g O _ x1.fh (st.ext x1) ?_
    simp only [Res.bind] at p
    cases eb : fb g with
    | xc c => rw [eb] at p; rw [bF_xc eb]; exact p.mono x1
    | bad => rw [eb] at p; exact p.elim
    | ok b =>
      rw [eb] at p
      rw [bF_ok eb]
      simp only [] at p
      intro y F2 H2 x2 b2
      cases eo : op (opd a) (opd b) with
      | none => rw [eo] at p; exact p.elim
      | some d =>
        rw [eo] at p
        exact hr F2 H2 x y _ _ d Q x2.fh (b1.ext x2) b2 eo fun v F' H' O' x3 fr tm => p v F' H' O' (x1.trans (x2.trans x3)) (fr.mono (x1.trans x2).hh) tm
theorem je_bin {o : Operator} {r : R2} {op : D → D → Option D} (ho : OpR X (binaryOp o) r) (hr : R2Ok X.K cls r op) (ha : JE X cls W a fa) (hb : JE X cls W b fb) : JE X cls W (.BinOp a o b pos) (eBin op fa fb) := by
  obtain ⟨ta, pa, da⟩ := ha.ex
  obtain ⟨tb, pb, db⟩ := hb.ex
  exact ⟨_, pe_op ho pa pb, de_bin hr da db⟩
def C2Ok (K : PySem.W.Frag) (cls : Cls) (r : R2) (op : D → D → Option Bool) : Prop :=
  ∀ F H x y a b d Q, Same F H → Bo K cls F H x a → Bo K cls F H y b → op a b = some d → Q (.bl d) H → r x y H Q
def tC2 (op : D → D → Option Bool) (fa fb : Env → Res D) : Env → Res Bool := fun g => (fa g).bind fun a => (fb g).bind fun b => .of (op (opd a) (opd b))
@[simp] theorem tC2_ (op : D → D → Option Bool) (fa fb : Env → Res D) (g : Env) : tC2 op fa fb g = (fa g).bind fun a => (fb g).bind fun b => .of (op (opd a) (opd b)) := rfl
def eB (f : Env → Res Bool) : Env → Res D := fun g => (f g).bind fun b => .ok (.bl b)
@[simp] theorem eB_ (f : Env → Res Bool) (g : Env) : eB f g = (f g).bind fun b => .ok (.bl b) := rfl
theorem de_c2 {K : PySem.W.Frag} {r : R2} {op : D → D → Option Bool} {ta tb : TE} (hr : C2Ok K cls r op) (ha : DE K cls W ta fa) (hb : DE K cls W tb fb) : DE K cls W (tOp r ta tb) (eB (tC2 op fa fb)) := by
  have h : R2Ok K cls r (fun a b => (op a b).map D.bl) := fun F H x y a b d Q s b1 b2 e q => by
    have e : (op a b).map D.bl = some d := e
    cases eo : op a b with
    | none => rw [eo] at e; cases e
    | some k =>
      rw [eo] at e
      cases e
      exact hr F H x y a b k Q s b1 b2 eo (q _ F H [] (.refl s) Fresh.nil (.inl (.sh (.bl k))))
  have q := de_bin (W := W) h ha hb
  have e : eBin (fun a b => (op a b).map D.bl) fa fb = eB (tC2 op fa fb) := by
    funext g
    unfold eBin eB tC2
    cases fa g with
    | ok a =>
      cases fb g with
      | ok b => simp only [Res.bind]; cases op (opd a) (opd b) <;> rfl
      | xc c => rfl
      | bad => rfl
    | xc c => rfl
    | bad => rfl
  rw [e] at q
  exact q
theorem dt_of {K : PySem.W.Frag} {t : TE} {f : Env → Res Bool} (h : DE K cls W t (eB f)) : DT K cls W (tTest t) f := by
  intro σ F H g O Q s st p
  refine h σ F H g O _ s st ?_
  unfold eB
  cases e : f g with
  | ok k =>
    rw [e] at p
    intro v F' H' O' x fr tm
    have : v = .bl k := by
      rcases tm with t | ⟨t, _⟩
      · cases t with
        | sh r => cases r; rfl
      · cases t with
        | sh r => cases r; rfl
    subst this
    exact ⟨k, rfl, p F' H' x⟩
  | xc c => rw [e] at p; exact p
  | bad => rw [e] at p; exact p
theorem je_cmp {o : CmpOp} {r : R2} {op : D → D → Option Bool} (ho : OpR X (compareOp o) r) (hr : C2Ok X.K cls r op) (ha : JE X cls W a fa) (hb : JE X cls W b fb) (hm : behindInMarks o b = false) : JE X cls W (.Compare a [o] [b] pos) (eB (tC2 op fa fb)) := by
  obtain ⟨ta, pa, da⟩ := ha.ex
  obtain ⟨tb, pb, db⟩ := hb.ex
  exact ⟨_, pe_cmpR ho pa pb hm, de_c2 hr da db⟩
theorem jt_cmp {o : CmpOp} {r : R2} {op : D → D → Option Bool} (ho : OpR X (compareOp o) r) (hr : C2Ok X.K cls r op) (ha : JE X cls W a fa) (hb : JE X cls W b fb) (hm : behindInMarks o b = false) : JT X cls W (.Compare a [o] [b] pos) (tC2 op fa fb) := by
  obtain ⟨ta, pa, da⟩ := ha.ex
  obtain ⟨tb, pb, db⟩ := hb.ex
  exact ⟨_, pt_cmpR ho pa pb hm, dt_of (de_c2 hr da db)⟩
end
end DL

namespace DL
open PySem L2
section
variable {K : PySem.W.Frag} {cls : Cls} {W : WX} {X : Cx} {a b c : Expr} {es : List Expr} {fa fb fc : Env → Res D} {ga gb : Env → Res Bool} {fs : Env → Res (List D)} {pos : Pos}
  {F H F1 H1 : Hp} {Q : VK} {σ : St}

def R1Ok (K : PySem.W.Frag) (cls : Cls) (r : V → Hp → VK → Prop) (op : D → Option D) : Prop :=
  ∀ F H x a d Q, Same F H → Bo K cls F H x a → op a = some d → (∀ v F' H' O', Ext F H F' H' → Fresh H O' → Tm K cls F' H' v d O' → Q v H') → r x H Q
def eUn (op : D → Option D) (fa : Env → Res D) : Env → Res D := fun g => (fa g).bind fun a => .of (op (opd a))
@[simp] theorem eUn_ (op : D → Option D) (fa : Env → Res D) (g : Env) : eUn op fa g = (fa g).bind fun a => .of (op (opd a)) := rfl
theorem de_un {r : V → Hp → VK → Prop} {op : D → Option D} {ta : TE} (hr : R1Ok K cls r op) (ha : DE K cls W ta fa) : DE K cls W (tUn r ta) (eUn op fa) := by
  intro σ F H g O Q s st p
  rw [eUn_] at p
  refine ha.toB σ F H g O _ s st ?_
  cases ea : fa g with
  | xc c => rw [ea] at p; rw [bF_xc ea]; exact p
  | bad => rw [ea] at p; exact p.elim
  | ok a =>
    rw [ea] at p
    rw [bF_ok ea]
    simp only [Res.bind] at p
    intro x F1 H1 x1 b1
    cases eo : op (opd a) with
    | none => rw [eo] at p; exact p.elim
    | some d =>
      rw [eo] at p
      exact hr F1 H1 x _ d Q x1.fh b1 eo fun v F' H' O' x3 fr tm => p v F' H' O' (x1.trans x3) (fr.mono x1.hh) tm
theorem je_un {o : UnaryOp} {r : V → Hp → VK → Prop} {op : D → Option D} (ho : UnR X (unaryOp o) r) (hr : R1Ok X.K cls r op) (ha : JE X cls W a fa) : JE X cls W (.UnaryOp o a pos) (eUn op fa) := by
  obtain ⟨ta, pa, da⟩ := ha.ex
  exact ⟨_, pe_un ho pa, de_un hr da⟩

def tru : D → Option Bool
  | .non => some false
  | .bl b => some b
  | .int i => some (i != 0)
  | .str y => if y.length ≤ 1000000 then some ((y.length : Int) != 0) else none
  | .sc xs => some (!xs.isEmpty)
  | .ls xs => some (!xs.isEmpty)
  | .bo xs => some (!xs.isEmpty)
  | .tp xs => some (!xs.isEmpty)
  | .bd ks xs => some (!ks.isEmpty)
  | _ => none
theorem Rps.empty {vs : List V} {ds : List D} (h : Rps K cls F vs ds) : (!vs.isEmpty) = !ds.isEmpty := by cases h <;> rfl
theorem Bos.empty {vs : List V} {ds : List D} (h : Bos K cls F H vs ds) : (!vs.isEmpty) = !ds.isEmpty := by cases h <;> rfl
theorem sameL {a : Addr} {xs : List V} (s : Same F H) (h : SqL K F a xs) : SqL K H a xs := s.seq h
theorem sameT {a : Addr} {xs : List V} (s : Same F H) (h : SqT K F a xs) : SqT K H a xs := by
  rcases h with (h | ⟨o, h⟩) | h
  · exact .inl (.inl (s _ _ h))
  · exact .inl (.inr ⟨o, s _ _ h⟩)
  · exact .inr h
theorem lim_line : (1000000 : Nat) < sizeLine := by rw [sizeLine_eq]; decide
theorem Bo.tru {v : V} {d : D} {k : Bool} (s : Same F H) (b : Bo K cls F H v d) (e : tru d = some k) : TruV K v H k := by
  cases b with
  | sh r =>
    cases r with
    | non => cases e; rfl
    | bl => cases e; rfl
    | int => cases e; rfl
    | str y =>
      have e : (if y.length ≤ 1000000 then some ((y.length : Int) != 0) else none) = some k := e
      split at e
      · rename_i hy
        cases e
        exact ⟨Nat.le_trans hy (Nat.le_of_lt lim_line), rfl⟩
      · cases e
    | sc h r => cases e; exact .inl ⟨_, sameL s h, r.empty.symm⟩
    | ls h r => cases e; exact .inl ⟨_, SqL.of (s _ _ h), r.empty.symm⟩
    | tp h r => cases e; exact .inr (.inl ⟨_, sameT s h, r.empty.symm⟩)
    | ob => cases e
    | rf => cases e
  | bo h r => cases e; exact .inl ⟨_, SqL.of h, r.empty.symm⟩
  | bd h l r =>
    cases e
    refine .inr (.inr ⟨_, h, ?_⟩)
    rename_i a ks vs ds
    cases ks <;> cases vs <;> first | rfl | (simp at l)
  | bb => cases e
def tTr (fa : Env → Res D) : Env → Res Bool := fun g => (fa g).bind fun a => .of (tru (opd a))
@[simp] theorem tTr_ (fa : Env → Res D) (g : Env) : tTr fa g = (fa g).bind fun a => .of (tru (opd a)) := rfl
theorem jt_truth (ha : JE X cls W a fa) (he : ∀ whole, isTrue a X.env whole = (do let v ← whole; standAt a.pos; holding [v] (truthy v)) := by intro _; rfl) : JT X cls W a (tTr fa) := by
  obtain ⟨ta, pa, da⟩ := ha.ex
  refine ⟨_, pt_truth pa he, ?_⟩
  intro σ F H g O Q s st p
  rw [tTr_] at p
  refine da.toB σ F H g O _ s st ?_
  cases ea : fa g with
  | xc c => rw [ea] at p; rw [bF_xc ea]; exact p
  | bad => rw [ea] at p; exact p.elim
  | ok a =>
    rw [ea] at p
    rw [bF_ok ea]
    simp only [Res.bind] at p
    intro x F1 H1 x1 b1
    cases eo : tru (opd a) with
    | none => rw [eo] at p; exact p.elim
    | some d =>
      rw [eo] at p
      exact ⟨d, b1.tru x1.fh eo, p F1 H1 x1⟩
def tAn (ga gb : Env → Res Bool) : Env → Res Bool := fun g => (ga g).bind fun k => if k = true then gb g else .ok false
def tOr_ (ga gb : Env → Res Bool) : Env → Res Bool := fun g => (ga g).bind fun k => if k = true then .ok true else gb g
def tNo (ga : Env → Res Bool) : Env → Res Bool := fun g => (ga g).bind fun k => .ok (!k)
@[simp] theorem tAn_ (ga gb : Env → Res Bool) (g : Env) : tAn ga gb g = (ga g).bind fun k => if k = true then gb g else .ok false := rfl
@[simp] theorem tOr__ (ga gb : Env → Res Bool) (g : Env) : tOr_ ga gb g = (ga g).bind fun k => if k = true then .ok true else gb g := rfl
@[simp] theorem tNo_ (ga : Env → Res Bool) (g : Env) : tNo ga g = (ga g).bind fun k => .ok (!k) := rfl
theorem DT.go {t : TT} (ha : DT K cls W t ga) {σ : St} {F H : Hp} {g : Env} {O : List Addr} {Q : Bool → Hp → Prop} (s : Same F H) (st : Sts K cls F H σ g O)
    (hx : ∀ c, ga g = .xc c → ∀ F' H', Ext F H F' H' → W (excV cls c) none σ H') (hb : ga g ≠ .bad) (hk : ∀ k, ga g = .ok k → ∀ F' H', Ext F H F' H' → Q k H') : t σ H Q := by
  refine ha σ F H g O Q s st ?_
  cases e : ga g with
  | ok k => exact hk k e
  | xc c => exact hx c e
  | bad => exact (hb e).elim
theorem dt_and {ta tb : TT} (ha : DT K cls W ta ga) (hb : DT K cls W tb gb) : DT K cls W (tAnd ta tb) (tAn ga gb) := by
  intro σ F H g O Q s st p
  rw [tAn_] at p
  refine ha.go s st (fun c e => by rw [e] at p; exact p) (fun e => by rw [e] at p; exact p) fun k e F1 H1 x => ?_
  rw [e] at p
  simp only [Res.bind] at p
  cases k with
  | true =>
    rw [if_pos rfl] at p
    rw [if_pos rfl]
    exact hb σ F1 H1 g O Q x.fh (st.ext x) (p.mono x)
  | false =>
    rw [if_neg (by decide)] at p
    rw [if_neg (by decide)]
    exact p F1 H1 x
theorem dt_or {ta tb : TT} (ha : DT K cls W ta ga) (hb : DT K cls W tb gb) : DT K cls W (tOr ta tb) (tOr_ ga gb) := by
  intro σ F H g O Q s st p
  rw [tOr__] at p
  refine ha.go s st (fun c e => by rw [e] at p; exact p) (fun e => by rw [e] at p; exact p) fun k e F1 H1 x => ?_
  rw [e] at p
  simp only [Res.bind] at p
  cases k with
  | true =>
    rw [if_pos rfl] at p
    rw [if_pos rfl]
    exact p F1 H1 x
  | false =>
    rw [if_neg (by decide)] at p
    rw [if_neg (by decide)]
    exact hb σ F1 H1 g O Q x.fh (st.ext x) (p.mono x)
theorem dt_not {ta : TT} (ha : DT K cls W ta ga) : DT K cls W (tNot ta) (tNo ga) := by
  intro σ F H g O Q s st p
  rw [tNo_] at p
  refine ha.go s st (fun c e => by rw [e] at p; exact p) (fun e => by rw [e] at p; exact p) fun k e F1 H1 x => ?_
  rw [e] at p
  exact p F1 H1 x
theorem jw_and1 (h : JT X cls W a ga) : JW X cls W (.BoolOp .And [a] pos) ga := by
  obtain ⟨ta, pa, da⟩ := h.ex
  exact ⟨_, pw_and1 pa, da⟩
theorem jw_or1 (h : JT X cls W a ga) : JW X cls W (.BoolOp .Or [a] pos) ga := by
  obtain ⟨ta, pa, da⟩ := h.ex
  exact ⟨_, pw_or1 pa, da⟩
theorem jw_and (h : JT X cls W a ga) (h2 : JW X cls W (.BoolOp .And (b :: es) pos) gb) : JW X cls W (.BoolOp .And (a :: b :: es) pos) (tAn ga gb) := by
  obtain ⟨ta, pa, da⟩ := h.ex
  obtain ⟨tb, pb, db⟩ := h2.ex
  exact ⟨_, pw_and pa pb, dt_and da db⟩
theorem jw_or (h : JT X cls W a ga) (h2 : JW X cls W (.BoolOp .Or (b :: es) pos) gb) : JW X cls W (.BoolOp .Or (a :: b :: es) pos) (tOr_ ga gb) := by
  obtain ⟨ta, pa, da⟩ := h.ex
  obtain ⟨tb, pb, db⟩ := h2.ex
  exact ⟨_, pw_or pa pb, dt_or da db⟩
theorem jt_w (h : JW X cls W a ga) : JT X cls W a ga := by
  obtain ⟨ta, pa, da⟩ := h.ex
  exact ⟨_, pa.pt, da⟩
theorem jt_not (h : JT X cls W a ga) : JT X cls W (.UnaryOp .Not a pos) (tNo ga) := by
  obtain ⟨ta, pa, da⟩ := h.ex
  exact ⟨_, pt_not pa, dt_not da⟩
theorem PostE.bl {k : Bool} {g : Env} (p : PostE K cls W σ F H Q (.ok (.bl k))) (x : Ext F H F1 H1) : Q (.bl k) H1 := p _ F1 H1 [] x Fresh.nil (.inl (.sh (.bl k)))
@[simp] def blv : D → Res Bool
  | .bl b => .ok b
  | _ => .bad
def tV (fa : Env → Res D) : Env → Res Bool := fun g => (fa g).bind blv
@[simp] theorem tV_ (fa : Env → Res D) (g : Env) : tV fa g = (fa g).bind blv := rfl
def eIf (ga : Env → Res Bool) (fa fb : Env → Res D) : Env → Res D := fun g => (ga g).bind fun k => if k = true then fa g else fb g
@[simp] theorem eIf_ (ga : Env → Res Bool) (fa fb : Env → Res D) (g : Env) : eIf ga fa fb g = (ga g).bind fun k => if k = true then fa g else fb g := rfl
theorem je_if (hc : JT X cls W c ga) (ha : JE X cls W a fa) (hb : JE X cls W b fb) : JE X cls W (.IfExp c a b pos) (eIf ga fa fb) := by
  obtain ⟨tc, pc, dc⟩ := hc.ex
  obtain ⟨ta, pa, da⟩ := ha.ex
  obtain ⟨tb, pb, db⟩ := hb.ex
  refine ⟨_, pe_ifExp pc pa pb, ?_⟩
  intro σ F H g O Q s st p
  rw [eIf_] at p
  refine dc.go s st (fun c e => by rw [e] at p; exact p) (fun e => by rw [e] at p; exact p) fun k e F1 H1 x => ?_
  rw [e] at p
  simp only [Res.bind] at p
  cases k with
  | true =>
    rw [if_pos rfl] at p
    rw [if_pos rfl]
    exact da σ F1 H1 g O Q x.fh (st.ext x) (p.mono x)
  | false =>
    rw [if_neg (by decide)] at p
    rw [if_neg (by decide)]
    exact db σ F1 H1 g O Q x.fh (st.ext x) (p.mono x)
def tCh (op op' : D → D → Option Bool) (fa fb fc : Env → Res D) : Env → Res Bool := fun g => (fa g).bind fun a => (fb g).bind fun b => (Res.of (op (opd a) (opd b))).bind fun k => if k = true then (fc g).bind fun c => .of (op' (opd b) (opd c)) else .ok false
@[simp] theorem tCh_ (op op' : D → D → Option Bool) (fa fb fc : Env → Res D) (g : Env) : tCh op op' fa fb fc g = (fa g).bind fun a => (fb g).bind fun b => (Res.of (op (opd a) (opd b))).bind fun k => if k = true then (fc g).bind fun c => .of (op' (opd b) (opd c)) else .ok false := rfl
theorem DE.go {t : TE} (ha : DE K cls W t fa) {σ : St} {F H : Hp} {g : Env} {O : List Addr} {Q : VK} (s : Same F H) (st : Sts K cls F H σ g O)
    (hx : ∀ c, fa g = .xc c → ∀ F' H', Ext F H F' H' → W (excV cls c) none σ H') (hb : fa g ≠ .bad) (hk : ∀ d, fa g = .ok d → ∀ v F' H', Ext F H F' H' → Bo K cls F' H' v (opd d) → Q v H') : t σ H Q := by
  refine ha.toB σ F H g O Q s st ?_
  cases e : fa g with
  | ok k => rw [bF_ok e]; exact hk k e
  | xc c => rw [bF_xc e]; exact hx c e
  | bad => exact (hb e).elim
theorem DE.goO {t : TE} (ha : DE K cls W t fa) {σ : St} {F H : Hp} {g : Env} {O : List Addr} {Q : VK} (s : Same F H) (st : Sts K cls F H σ g O)
    (hx : ∀ c, fa g = .xc c → ∀ F' H', Ext F H F' H' → W (excV cls c) none σ H') (hb : (fa g).bind kp ≠ .bad) (hk : ∀ d, (fa g).bind kp = .ok d → ∀ v F' H' O', Ext F H F' H' → Fresh H O' → Ow K cls F' H' v d O' → Q v H') : t σ H Q := by
  refine ha.toO σ F H g O Q s st ?_
  cases e : fa g with
  | ok k =>
    rw [oF_ok e]
    rw [e] at hb hk
    rcases kp_ok (d := k) with e2 | e2
    · rw [e2]; exact hk k e2
    · exact (hb e2).elim
  | xc c => rw [oF_xc e]; exact hx c e
  | bad => rw [e] at hb; exact (hb rfl).elim
theorem dt_chain {r r' : R2} {op op' : D → D → Option Bool} {ta tb tc : TE} (hr : C2Ok K cls r op) (hr' : C2Ok K cls r' op') (ha : DE K cls W ta fa) (hb : DE K cls W tb fb) (hc : DE K cls W tc fc) :
    DE K cls W (tChain r r' ta tb tc) (eB (tCh op op' fa fb fc)) := by
  intro σ F H g O Q s st p
  rw [eB_, tCh_] at p
  refine ha.go s st (fun c e => by rw [e] at p; exact p) (fun e => by rw [e] at p; exact p) fun da ea va F1 H1 x1 b1 => ?_
  rw [ea] at p
  simp only [Res.bind] at p
  refine hb.go x1.fh (st.ext x1) (fun c e F' H' x => by rw [e] at p; exact p F' H' (x1.trans x)) (fun e => by rw [e] at p; exact p) fun db eb vb F2 H2 x2 b2 => ?_
  rw [eb] at p
  simp only [] at p
  cases eo : op (opd da) (opd db) with
  | none => rw [eo] at p; exact p.elim
  | some k =>
    rw [eo] at p
    simp only [Res.of] at p
    refine hr F2 H2 va vb _ _ k _ x2.fh (b1.ext x2) b2 eo ⟨k, rfl, ?_⟩
    cases k with
    | true =>
      rw [if_pos rfl] at p
      rw [if_pos rfl]
      have x12 := x1.trans x2
      refine hc.go x2.fh ((st.ext x1).ext x2) (fun c e F' H' x => by rw [e] at p; exact p F' H' (x12.trans x)) (fun e => by rw [e] at p; exact p) fun dc ec vc F3 H3 x3 b3 => ?_
      rw [ec] at p
      simp only [] at p
      cases eo' : op' (opd db) (opd dc) with
      | none => rw [eo'] at p; exact p.elim
      | some k' =>
        rw [eo'] at p
        exact hr' F3 H3 vb vc _ _ k' _ x3.fh (b2.ext x3) b3 eo' (p _ F3 H3 [] (x12.trans x3) Fresh.nil (.inl (.sh (.bl k'))))
    | false =>
      rw [if_neg (by decide)] at p
      rw [if_neg (by decide)]
      exact p _ F2 H2 [] (x1.trans x2) Fresh.nil (.inl (.sh (.bl false)))
theorem jt_chain {o o' : CmpOp} {r r' : R2} {op op' : D → D → Option Bool} (ho : OpR X (compareOp o) r) (ho' : OpR X (compareOp o') r') (hr : C2Ok X.K cls r op) (hr' : C2Ok X.K cls r' op') (ha : JE X cls W a fa) (hb : JE X cls W b fb) (hc : JE X cls W c fc)
    (hm : lastMarks [o, o'] [b, c] = false := by with_unfolding_all rfl) : JT X cls W (.Compare a [o, o'] [b, c] pos) (tCh op op' fa fb fc) := by
  obtain ⟨ta, pa, da⟩ := ha.ex
  obtain ⟨tb, pb, db⟩ := hb.ex
  obtain ⟨tc, pc, dc⟩ := hc.ex
  exact ⟨_, pt_chain ho ho' pa pb pc hm, dt_of (dt_chain hr hr' da db dc)⟩
end
end DL

namespace DL
open PySem L2
def shd1 : D → Bool
  | .bo _ => false
  | .bd _ _ => false
  | .bb _ _ => false
  | _ => true
@[simp] theorem shd1_bo {b} : shd1 (.bo b) = false := rfl
@[simp] theorem shd1_bd {k b} : shd1 (.bd k b) = false := rfl
@[simp] theorem shd1_bb {k b} : shd1 (.bb k b) = false := rfl
@[simp] theorem shd1_un : shd1 .un = true := rfl
@[simp] theorem shd1_non : shd1 .non = true := rfl
@[simp] theorem shd1_bl {b} : shd1 (.bl b) = true := rfl
@[simp] theorem shd1_int {b} : shd1 (.int b) = true := rfl
@[simp] theorem shd1_str {b} : shd1 (.str b) = true := rfl
@[simp] theorem shd1_sc {b} : shd1 (.sc b) = true := rfl
@[simp] theorem shd1_ls {b} : shd1 (.ls b) = true := rfl
@[simp] theorem shd1_tp {b} : shd1 (.tp b) = true := rfl
@[simp] theorem shd1_ob {k b} : shd1 (.ob k b) = true := rfl
@[simp] theorem shd1_rf {b} : shd1 (.rf b) = true := rfl
def shd (l : List D) : Bool := l.all shd1
@[simp] theorem shd_nil : shd [] = true := rfl
@[simp] theorem shd_cons (d : D) (l : List D) : shd (d :: l) = (shd1 d && shd l) := rfl
@[simp] def lsv : D → Option (List D)
  | .ls xs => some xs
  | .bo xs => if shd xs = true then some xs else none
  | _ => none
@[simp] def sqL : D → Option (List D)
  | .ls xs => some xs
  | .sc xs => some xs
  | .bo xs => some xs
  | _ => none
@[simp] def sqK : D → Option (List D)
  | .ls xs => some xs
  | .sc xs => some xs
  | .bo xs => if shd xs = true then some xs else none
  | _ => none
@[simp] def intOf : D → Option Int
  | .int i => some i
  | _ => none
@[simp] def strOf : D → Option Str
  | .str i => some i
  | _ => none
@[simp] def blOf : D → Option Bool
  | .bl i => some i
  | _ => none
def intsOf : List D → Option (List Int)
  | [] => some []
  | d :: ds => match intOf d, intsOf ds with
    | some i, some is => some (i :: is)
    | _, _ => none
def strsOf : List D → Option (List Str)
  | [] => some []
  | d :: ds => match strOf d, strsOf ds with
    | some i, some is => some (i :: is)
    | _, _ => none
def blsOf : List D → Option (List Bool)
  | [] => some []
  | d :: ds => match blOf d, blsOf ds with
    | some i, some is => some (i :: is)
    | _, _ => none
theorem intsOf_eq : ∀ {ds : List D} {ns : List Int}, intsOf ds = some ns → ds = ns.map D.int
  | [], ns, h => by simp [intsOf] at h; subst h; rfl
  | d :: ds, ns, h => by
    unfold intsOf at h
    cases d <;> simp at h
    cases q : intsOf ds with
    | none => rw [q] at h; simp at h
    | some is => rw [q] at h; simp at h; subst h; rw [intsOf_eq q]; rfl
theorem strsOf_eq : ∀ {ds : List D} {ns : List Str}, strsOf ds = some ns → ds = ns.map D.str
  | [], ns, h => by simp [strsOf] at h; subst h; rfl
  | d :: ds, ns, h => by
    unfold strsOf at h
    cases d <;> simp at h
    cases q : strsOf ds with
    | none => rw [q] at h; simp at h
    | some is => rw [q] at h; simp at h; subst h; rw [strsOf_eq q]; rfl
theorem blsOf_eq : ∀ {ds : List D} {ns : List Bool}, blsOf ds = some ns → ds = ns.map D.bl
  | [], ns, h => by simp [blsOf] at h; subst h; rfl
  | d :: ds, ns, h => by
    unfold blsOf at h
    cases d <;> simp at h
    cases q : blsOf ds with
    | none => rw [q] at h; simp at h
    | some is => rw [q] at h; simp at h; subst h; rw [blsOf_eq q]; rfl
@[simp] theorem intsOf_map : ∀ ns : List Int, intsOf (ns.map D.int) = some ns
  | [] => rfl
  | n :: ns => by simp [intsOf, intsOf_map ns]
@[simp] theorem intsOf_nil : intsOf [] = some [] := rfl
@[simp] theorem intsOf_cons (i : Int) (ds : List D) : intsOf (.int i :: ds) = (intsOf ds).map (i :: ·) := by
  simp only [intsOf, intOf]; cases intsOf ds <;> rfl
@[simp] theorem strsOf_map : ∀ ns : List Str, strsOf (ns.map D.str) = some ns
  | [] => rfl
  | n :: ns => by simp [strsOf, strsOf_map ns]
@[simp] theorem strsOf_nil : strsOf [] = some [] := rfl
@[simp] theorem strsOf_cons (i : Str) (ds : List D) : strsOf (.str i :: ds) = (strsOf ds).map (i :: ·) := by
  simp only [strsOf, strOf]; cases strsOf ds <;> rfl
@[simp] theorem blsOf_map : ∀ ns : List Bool, blsOf (ns.map D.bl) = some ns
  | [] => rfl
  | n :: ns => by simp [blsOf, blsOf_map ns]
@[simp] theorem blsOf_nil : blsOf [] = some [] := rfl
@[simp] theorem blsOf_cons (i : Bool) (ds : List D) : blsOf (.bl i :: ds) = (blsOf ds).map (i :: ·) := by
  simp only [blsOf, blOf]; cases blsOf ds <;> rfl

section
variable {K : PySem.W.Frag} {cls : Cls} {W : WX} {X : Cx} {F H F' H' : Hp} {Q : VK} {σ : St}
theorem Rps.len {vs : List V} {ds : List D} (h : Rps K cls F vs ds) : vs.length = ds.length := by
  induction ds generalizing vs with
  | nil => cases h; rfl
  | cons d ds ih => cases h with | cons a b => simp [ih b]
theorem Bos.len {vs : List V} {ds : List D} (h : Bos K cls F H vs ds) : vs.length = ds.length := by
  induction ds generalizing vs with
  | nil => cases h; rfl
  | cons d ds ih => cases h with | cons a b => simp [ih b]
theorem Ows.len {vs : List V} {ds : List D} {O : List Addr} (h : Ows K cls F H vs ds O) : vs.length = ds.length := by
  induction ds generalizing vs O with
  | nil => cases h; rfl
  | cons d ds ih => cases h with | cons a b => simp [ih b]
theorem Rps.toBos {vs : List V} {ds : List D} (h : Rps K cls F vs ds) : Bos K cls F H vs ds := by
  induction ds generalizing vs with
  | nil => cases h; exact .nil
  | cons d ds ih => cases h with | cons a b => exact .cons (.sh a) (ih b)
theorem Rps.toOws {vs : List V} {ds : List D} (h : Rps K cls F vs ds) : Ows K cls F H vs ds [] := by
  induction ds generalizing vs with
  | nil => cases h; exact .nil
  | cons d ds ih => cases h with | cons a b => exact .cons (.sh a) (ih b) (fun _ q => (nomatch q)) rfl
theorem Bo.toRp {v : V} {d : D} (h : Bo K cls F H v d) (e : shd1 d = true) : Rp K cls F v d := by
  cases h with
  | sh r => exact r
  | bo => simp at e
  | bd => simp at e
  | bb => simp at e
theorem Bos.toRps {vs : List V} {ds : List D} (h : Bos K cls F H vs ds) (e : shd ds = true) : Rps K cls F vs ds := by
  induction ds generalizing vs with
  | nil => cases h; exact .nil
  | cons d ds ih =>
    cases h with
    | cons a b =>
      simp only [shd, List.all_cons, Bool.and_eq_true] at e
      exact .cons (a.toRp e.1) (ih b e.2)
theorem Bos.get : ∀ {vs : List V} {ds : List D} {i : Nat} {d : D}, Bos K cls F H vs ds → ds[i]? = some d → ∃ v, vs[i]? = some v ∧ Bo K cls F H v d
  | _, _, _, _, .nil, e => by simp at e
  | _, _, 0, _, .cons r _, e => by simp at e; subst e; exact ⟨_, rfl, r⟩
  | _, _, i + 1, _, .cons _ t, e => by
    obtain ⟨v, h1, h2⟩ := Bos.get (i := i) t (by simpa using e)
    exact ⟨v, by simpa using h1, h2⟩
theorem Rps.get : ∀ {vs : List V} {ds : List D} {i : Nat} {d : D}, Rps K cls F vs ds → ds[i]? = some d → ∃ v, vs[i]? = some v ∧ Rp K cls F v d
  | _, _, _, _, .nil, e => by simp at e
  | _, _, 0, _, .cons r _, e => by simp at e; subst e; exact ⟨_, rfl, r⟩
  | _, _, i + 1, _, .cons _ t, e => by
    obtain ⟨v, h1, h2⟩ := Rps.get (i := i) t (by simpa using e)
    exact ⟨v, by simpa using h1, h2⟩
theorem Rps.append : ∀ {vs ws : List V} {ds es : List D}, Rps K cls F vs ds → Rps K cls F ws es → Rps K cls F (vs ++ ws) (ds ++ es)
  | _, _, _, _, .nil, h => h
  | _, _, _, _, .cons a b, h => .cons a (b.append h)
theorem Rps.take : ∀ {vs : List V} {ds : List D} (n : Nat), Rps K cls F vs ds → Rps K cls F (vs.take n) (ds.take n)
  | _, _, 0, _ => by simp; exact .nil
  | _, _, n + 1, .nil => by simp; exact .nil
  | _, _, n + 1, .cons a b => .cons a (b.take n)
theorem Rps.drop : ∀ {vs : List V} {ds : List D} (n : Nat), Rps K cls F vs ds → Rps K cls F (vs.drop n) (ds.drop n)
  | _, _, 0, h => h
  | _, _, n + 1, .nil => by simp; exact .nil
  | _, _, n + 1, .cons a b => b.drop n
theorem Rps.reverse {vs : List V} {ds : List D} (h : Rps K cls F vs ds) : Rps K cls F vs.reverse ds.reverse := by
  induction ds generalizing vs with
  | nil => cases h; exact .nil
  | cons d ds ih =>
    cases h with
    | cons a b =>
      rw [List.reverse_cons, List.reverse_cons]
      exact (ih b).append (.cons a .nil)
theorem Rps.ints {vs : List V} : ∀ {ns : List Int}, Rps K cls F vs (ns.map D.int) → vs = ns.map V.int := by
  intro ns
  induction ns generalizing vs with
  | nil => intro h; cases h; rfl
  | cons n ns ih => intro h; cases h with | cons a b => cases a; rw [ih b]; rfl
theorem Bos.ints {vs : List V} : ∀ {ns : List Int}, Bos K cls F H vs (ns.map D.int) → vs = ns.map V.int := by
  intro ns
  induction ns generalizing vs with
  | nil => intro h; cases h; rfl
  | cons n ns ih => intro h; cases h with | cons a b => cases a with | sh a => cases a; rw [ih b]; rfl
theorem Bos.strs {vs : List V} : ∀ {ns : List Str}, Bos K cls F H vs (ns.map D.str) → vs = ns.map V.str := by
  intro ns
  induction ns generalizing vs with
  | nil => intro h; cases h; rfl
  | cons n ns ih => intro h; cases h with | cons a b => cases a with | sh a => cases a; rw [ih b]; rfl
theorem Bos.bls {vs : List V} : ∀ {ns : List Bool}, Bos K cls F H vs (ns.map D.bl) → vs = ns.map V.bl := by
  intro ns
  induction ns generalizing vs with
  | nil => intro h; cases h; rfl
  | cons n ns ih => intro h; cases h with | cons a b => cases a with | sh a => cases a; rw [ih b]; rfl
theorem rps_ints : ∀ {ns : List Int}, Rps K cls F (ns.map V.int) (ns.map D.int)
  | [] => .nil
  | n :: ns => .cons (.int n) rps_ints
theorem Bo.lsv {v : V} {d : D} {xs : List D} (s : Same F H) (b : Bo K cls F H v d) (e : lsv d = some xs) : ∃ a vs, v = .ref a ∧ H a = some (.lst vs) ∧ Rps K cls F vs xs := by
  cases b with
  | sh r => cases r <;> simp at e <;> (subst e; exact ⟨_, _, rfl, s _ _ (by assumption), by assumption⟩)
  | bo h r =>
    simp at e
    obtain ⟨e1, e2⟩ := e
    subst e2
    exact ⟨_, _, rfl, h, r.toRps (by simpa using e1)⟩
  | bd => simp at e
  | bb => simp at e
theorem Bo.sqL {v : V} {d : D} {xs : List D} (s : Same F H) (b : Bo K cls F H v d) (e : sqL d = some xs) : ∃ a vs, v = .ref a ∧ SqL K H a vs ∧ Bos K cls F H vs xs := by
  cases b with
  | sh r =>
    cases r <;> simp at e
    · subst e; exact ⟨_, _, rfl, s.seq (by assumption), Rps.toBos (by assumption)⟩
    · subst e; exact ⟨_, _, rfl, SqL.of (s _ _ (by assumption)), Rps.toBos (by assumption)⟩
  | bo h r => simp at e; subst e; exact ⟨_, _, rfl, SqL.of h, r⟩
  | bd => simp at e
  | bb => simp at e
theorem Bo.sqK {v : V} {d : D} {xs : List D} (s : Same F H) (b : Bo K cls F H v d) (e : sqK d = some xs) : ∃ a vs, v = .ref a ∧ SqL K H a vs ∧ Rps K cls F vs xs := by
  cases b with
  | sh r =>
    cases r <;> simp at e
    · subst e; exact ⟨_, _, rfl, s.seq (by assumption), by assumption⟩
    · subst e; exact ⟨_, _, rfl, SqL.of (s _ _ (by assumption)), by assumption⟩
  | bo h r =>
    simp at e
    obtain ⟨e1, e2⟩ := e
    subst e2
    exact ⟨_, _, rfl, SqL.of h, r.toRps (by simpa using e1)⟩
  | bd => simp at e
  | bb => simp at e
@[simp] def tpv : D → Option (List D)
  | .tp xs => some xs
  | _ => none
theorem Bo.tpv {v : V} {d : D} {xs : List D} (s : Same F H) (b : Bo K cls F H v d) (e : tpv d = some xs) : ∃ a vs, v = .ref a ∧ SqT K H a vs ∧ SqT K F a vs ∧ Rps K cls F vs xs := by
  cases b with
  | sh r => cases r <;> simp at e <;> (subst e; exact ⟨_, _, rfl, sameT s (by assumption), by assumption, by assumption⟩)
  | bo => simp at e
  | bd => simp at e
  | bb => simp at e
theorem Bo.int {v : V} {i : Int} (b : Bo K cls F H v (.int i)) : v = .int i := by cases b with | sh r => cases r; rfl
theorem Bo.str {v : V} {i : Str} (b : Bo K cls F H v (.str i)) : v = .str i := by cases b with | sh r => cases r; rfl
theorem Bo.bl {v : V} {i : Bool} (b : Bo K cls F H v (.bl i)) : v = .bl i := by cases b with | sh r => cases r; rfl
theorem Bo.non {v : V} (b : Bo K cls F H v .non) : v = .non := by cases b with | sh r => cases r; rfl

theorem upd_same' {a : Addr} {o : HO} (hn : H a = none) : Same H (upd H a o) := fun b u e => by rw [upd_ne (ne_of_none e hn)]; exact e
theorem Ext.own {a : Addr} {o : HO} (s : Same F H) (hn : H a = none) : Ext F H F (upd H a o) := ⟨.refl F, upd_same' hn, s.trans (upd_same' hn), fun _ h _ => h⟩
theorem Ext.put {a : Addr} {o : HO} (s : Same F H) (hn : H a = none) : Ext F H (upd F a o) (upd H a o) := by
  have hf : F a = none := by
    cases q : F a with
    | none => rfl
    | some u => rw [s a u q] at hn; cases hn
  refine ⟨upd_same' hf, upd_same' hn, fun b u e => ?_, fun b h1 h2 => ?_⟩
  · by_cases hb : b = a
    · subst hb; rw [upd_same] at e ⊢; exact e
    · rw [upd_ne hb] at e ⊢; exact s b u e
  · have hb : b ≠ a := fun z => h2 (by rw [z]; exact hn)
    rw [upd_ne hb]; exact h1
theorem ow_new {a : Addr} {vs : List V} {ds : List D} {O : List Addr} (s : Same F H) (hn : H a = none) (r : Ows K cls F H vs ds O) : Ow K cls F (upd H a (.lst vs)) (.ref a) (.ol ds) (a :: O) := by
  have hf : F a = none := by
    cases q : F a with
    | none => rfl
    | some u => rw [s a u q] at hn; cases hn
  have no : a ∉ O := fun q => (r.dom a q).2 hn
  exact .ol hf upd_same no (r.frame (.refl F) fun b hb => ⟨upd_ne fun z => no (z ▸ hb), (r.dom b hb).1⟩)
theorem fresh_new {a : Addr} (hn : H a = none) : Fresh H [a] := fun b hb => by simp at hb; subst hb; exact hn

@[simp] def mulOk (i j : Int) : Prop := ((-(2 ^ 64) < i ∧ i < 2 ^ 64) ∨ (-(2 ^ 64) < j ∧ j < 2 ^ 64)) ∨ i.natAbs.log2 + j.natAbs.log2 < 100000000
def divOk (j : Int) : Prop := j ≠ 0 ∧ (j.natAbs < 1073741824 ∨ j.natAbs.log2 < 9000)
instance (i j : Int) : Decidable (mulOk i j) := by unfold mulOk; infer_instance
instance (j : Int) : Decidable (divOk j) := by unfold divOk; infer_instance
instance (i j : Int) : Decidable (CPow i j) := by unfold CPow; infer_instance
def lim : Nat := 1000000
theorem lim_ok {n : Nat} (h : n ≤ lim) : n ≤ sizeLine := Nat.le_trans h (Nat.le_of_lt lim_line)
theorem lim_lt {n : Nat} (h : n < lim) : n < sizeLine := Nat.lt_trans h lim_line

def opAddL (a b : D) : Option D := match lsv a, lsv b with
    | some xs, some ys => if xs.length + ys.length ≤ lim then some (.ol (xs ++ ys)) else none
    | _, _ => none
def opAdd : D → D → Option D
  | .int i, .int j => some (.int (i + j))
  | .str x, .str y => if x.length + y.length ≤ lim then some (.str (x ++ y)) else none
  | .tp xs, .tp ys => if xs.length + ys.length ≤ lim then some (.tp (xs ++ ys)) else none
  | a, b => opAddL a b
def opSub : D → D → Option D
  | .int i, .int j => some (.int (i - j))
  | _, _ => none
def opMul : D → D → Option D
  | .int i, .int j => if mulOk i j then some (.int (i * j)) else none
  | a, .int k => match lsv a with
    | some xs => if k < 2 ^ 63 ∧ -(2 ^ 63) ≤ k ∧ xs.length * k.toNat ≤ lim then some (.ol (List.replicate k.toNat xs).flatten) else none
    | none => none
  | _, _ => none
def opDiv : D → D → Option D
  | .int i, .int j => if divOk j then some (.int (if 0 < j then i / j else i.fdiv j)) else none
  | _, _ => none
def opMod : D → D → Option D
  | .int i, .int j => if j ≠ 0 then some (.int (if 0 < j then i % j else i.fmod j)) else none
  | _, _ => none
def opPow : D → D → Option D
  | .int i, .int j => if CPow i j then some (.int (i ^ j.toNat)) else none
  | _, _ => none
def opNeg : D → Option D
  | .int i => some (.int (-i))
  | _ => none
def rAdd4 (K : PySem.W.Frag) : R2 := fun x y H Q => ((rI0 fun i j => .int (i + j)) x y H Q ∨ (∃ i j, x = .str i ∧ y = .str j ∧ i.length + j.length ≤ sizeLine ∧ Q (.str (i ++ j)) H)) ∨ (rCat x y H Q ∨ rCatA K x y H Q)
theorem op_add4 : OpR X (binaryOp .Add) (rAdd4 X.K) := (op_add.or op_add_str).or (op_cat.or op_catA)
theorem pi1 {v : V} {d : D} (s : Same F H) (r : Rp K cls F v d) (q : ∀ v F' H' O', Ext F H F' H' → Fresh H O' → Tm K cls F' H' v d O' → Q v H') : Q v H := q v F H [] (.refl s) Fresh.nil (.inl (.sh r))
theorem ok_add : R2Ok K cls (rAdd4 K) opAdd := by
  intro F H x y a b d Q s b1 b2 e q
  unfold opAdd at e
  split at e
  · cases e
    obtain rfl := b1.int
    obtain rfl := b2.int
    exact .inl (.inl ⟨_, _, rfl, rfl, pi1 s (.int _) q⟩)
  · split at e
    · rename_i h
      cases e
      obtain rfl := b1.str
      obtain rfl := b2.str
      exact .inl (.inr ⟨_, _, rfl, rfl, lim_ok h, pi1 s (.str _) q⟩)
    · cases e
  · rename_i xs ys
    split at e
    · rename_i h
      cases e
      obtain ⟨a1, vs, rfl, h1, f1, r1⟩ := b1.tpv s (xs := xs) rfl
      obtain ⟨a2, ws, rfl, h2, f2, r2⟩ := b2.tpv s (xs := ys) rfl
      have l1 := r1.len
      have l2 := r2.len
      refine .inr (.inr ⟨_, _, vs, ws, rfl, rfl, h1, h2, lim_ok (by rw [l1, l2]; exact h), fun e => ?_, fun e1 e2 => ?_, fun e1 e2 p hp => ?_⟩)
      · subst e
        cases r1
        exact pi1 s (.tp f2 r2) q
      · subst e2
        cases r2
        rw [List.append_nil] at q
        exact pi1 s (.tp f1 r1) q
      · exact q _ _ _ [] (Ext.put s hp) Fresh.nil (.inl (.sh (.tp (SqT.of upd_same) ((r1.append r2).mono (Ext.put s hp).ff))))
    · cases e
  · unfold opAddL at e
    split at e
    · rename_i xs ys q1 q2
      split at e
      · rename_i h
        cases e
        obtain ⟨a1, vs, rfl, h1, r1⟩ := b1.lsv s q1
        obtain ⟨a2, ws, rfl, h2, r2⟩ := b2.lsv s q2
        refine .inr (.inl ⟨_, _, _, _, rfl, rfl, h1, h2, lim_ok (by rw [r1.len, r2.len]; exact h), fun p hp => ?_⟩)
        exact q _ _ _ [p] (Ext.own s hp) (fresh_new hp) (.inl (ow_new s hp (r1.append r2).toOws))
      · cases e
    · cases e
theorem ok_sub : R2Ok K cls (rI0 fun i j => .int (i - j)) opSub := by
  intro F H x y a b d Q s b1 b2 e q
  unfold opSub at e
  split at e
  · cases e
    obtain rfl := b1.int
    obtain rfl := b2.int
    exact ⟨_, _, rfl, rfl, pi1 s (.int _) q⟩
  · cases e
theorem mulW_ok {a b : Int} (h : a.natAbs.log2 + b.natAbs.log2 < 100000000) : IntMulOk a b := by
  unfold IntMulOk Builtin.Int.intTooBig
  have h1 : ∀ z : Int, Builtin.Int.intBits z ≤ z.natAbs.log2 + 1 := fun z => by unfold Builtin.Int.intBits; split <;> omega
  have h3 := h1 a
  have h4 := h1 b
  have h5 := bitsLine_eq
  simp only [Bool.and_eq_true, decide_eq_true_eq]
  omega
theorem op_mulX : OpR X (binaryOp .Mult) (rI mulOk fun i j => .int (i * j)) := opI fun _ _ _ _ _ _ _ hc q => PyProof.Rows.mul_int q (by
  rcases hc with hc | hc
  · exact CMul.ok hc
  · exact mulW_ok hc)
theorem op_mul4 : OpR X (binaryOp .Mult) (fun x y H Q => (rI mulOk fun i j => .int (i * j)) x y H Q ∨ rRep x y H Q) := op_mulX.or op_rep
theorem Rps.rep {vs : List V} {ds : List D} (h : Rps K cls F vs ds) : ∀ k : Nat, Rps K cls F (List.replicate k vs).flatten (List.replicate k ds).flatten
  | 0 => by simp; exact .nil
  | k + 1 => by rw [List.replicate_succ, List.replicate_succ, List.flatten_cons, List.flatten_cons]; exact h.append (h.rep k)
theorem ok_mul : R2Ok K cls (fun x y H Q => (rI mulOk fun i j => .int (i * j)) x y H Q ∨ rRep x y H Q) opMul := by
  intro F H x y a b d Q s b1 b2 e q
  unfold opMul at e
  split at e
  · split at e
    · rename_i h
      cases e
      obtain rfl := b1.int
      obtain rfl := b2.int
      exact .inl ⟨_, _, rfl, rfl, h, pi1 s (.int _) q⟩
    · cases e
  · split at e
    · rename_i xs q1
      split at e
      · rename_i h
        cases e
        obtain rfl := b2.int
        obtain ⟨a1, vs, rfl, h1, r1⟩ := b1.lsv s q1
        refine .inr ⟨_, _, _, rfl, rfl, h1, h.2.1, h.1, lim_ok (by rw [r1.len]; exact h.2.2), fun p hp => ?_⟩
        exact q _ _ _ [p] (Ext.own s hp) (fresh_new hp) (.inl (ow_new s hp (r1.rep _).toOws))
      · cases e
    · cases e
  · cases e
theorem op_divX : OpR X (binaryOp .FloorDiv) (rI (fun _ j => divOk j) fun i j => .int (if 0 < j then i / j else i.fdiv j)) := opI fun i j _ _ _ _ _ hc q => by
  have e : (if 0 < j then i / j else i.fdiv j) = i.fdiv j := by
    split
    · rw [Int.fdiv_eq_ediv_of_nonneg i (by omega)]
    · rfl
  rw [e] at q
  rcases hc with ⟨h0, h | h⟩
  · exact PyProof.Rows.floordiv_int h0 q (.inl (PyProof.noPylong_small h))
  · exact PyProof.Rows.floordiv_int h0 q (.inl (PyProof.noPylong_of_log2 h))
theorem ok_div : R2Ok K cls (rI (fun _ j => divOk j) fun i j => .int (if 0 < j then i / j else i.fdiv j)) opDiv := by
  intro F H x y a b d Q s b1 b2 e q
  unfold opDiv at e
  split at e
  · rename_i i j
    by_cases h : divOk j
    · rw [if_pos h] at e
      cases e
      obtain rfl := b1.int
      obtain rfl := b2.int
      exact ⟨_, _, rfl, rfl, h, pi1 s (.int _) q⟩
    · rw [if_neg h] at e; cases e
  · cases e
theorem op_modX : OpR X (binaryOp .Mod) (rI (fun _ j => j ≠ 0) fun i j => .int (if 0 < j then i % j else i.fmod j)) := opI fun i j _ _ _ _ _ hc q => by
  have e : (if 0 < j then i % j else i.fmod j) = i.fmod j := by
    split
    · rw [Int.fmod_eq_emod_of_nonneg i (by omega)]
    · rfl
  rw [e] at q
  exact PyProof.Rows.mod_int' hc q
theorem ok_mod : R2Ok K cls (rI (fun _ j => j ≠ 0) fun i j => .int (if 0 < j then i % j else i.fmod j)) opMod := by
  intro F H x y a b d Q s b1 b2 e q
  unfold opMod at e
  split at e
  · rename_i i j
    by_cases h : j ≠ 0
    · rw [if_pos h] at e
      cases e
      obtain rfl := b1.int
      obtain rfl := b2.int
      exact ⟨_, _, rfl, rfl, h, pi1 s (.int _) q⟩
    · rw [if_neg h] at e; cases e
  · cases e
theorem ok_pow : R2Ok K cls (rI CPow fun i j => .int (i ^ j.toNat)) opPow := by
  intro F H x y a b d Q s b1 b2 e q
  unfold opPow at e
  split at e
  · rename_i i j
    by_cases h : CPow i j
    · rw [if_pos h] at e
      cases e
      obtain rfl := b1.int
      obtain rfl := b2.int
      exact ⟨_, _, rfl, rfl, h, pi1 s (.int _) q⟩
    · rw [if_neg h] at e; cases e
  · cases e
theorem ok_neg : R1Ok K cls (rU fun i => .int (-i)) opNeg := by
  intro F H x a d Q s b1 e q
  unfold opNeg at e
  split at e
  · cases e
    obtain rfl := b1.int
    exact ⟨_, rfl, pi1 s (.int _) q⟩
  · cases e

def cLt : D → D → Option Bool
  | .int i, .int j => some (decide (i < j))
  | _, _ => none
def cLe : D → D → Option Bool
  | .int i, .int j => some (decide (i ≤ j))
  | _, _ => none
def cGt : D → D → Option Bool
  | .int i, .int j => some (decide (j < i))
  | _, _ => none
def cGe : D → D → Option Bool
  | .int i, .int j => some (decide (j ≤ i))
  | _, _ => none
theorem ok_lt : C2Ok K cls (rI0 fun i j => .bl (decide (i < j))) cLt := by
  intro F H x y a b d Q s b1 b2 e q
  unfold cLt at e
  split at e
  · cases e
    obtain rfl := b1.int
    obtain rfl := b2.int
    exact ⟨_, _, rfl, rfl, q⟩
  · cases e
theorem ok_le : C2Ok K cls (rI0 fun i j => .bl (decide (i ≤ j))) cLe := by
  intro F H x y a b d Q s b1 b2 e q
  unfold cLe at e
  split at e
  · cases e
    obtain rfl := b1.int
    obtain rfl := b2.int
    exact ⟨_, _, rfl, rfl, q⟩
  · cases e
theorem ok_gt : C2Ok K cls (rI0 fun i j => .bl (decide (j < i))) cGt := by
  intro F H x y a b d Q s b1 b2 e q
  unfold cGt at e
  split at e
  · cases e
    obtain rfl := b1.int
    obtain rfl := b2.int
    exact ⟨_, _, rfl, rfl, q⟩
  · cases e
theorem ok_ge : C2Ok K cls (rI0 fun i j => .bl (decide (j ≤ i))) cGe := by
  intro F H x y a b d Q s b1 b2 e q
  unfold cGe at e
  split at e
  · cases e
    obtain rfl := b1.int
    obtain rfl := b2.int
    exact ⟨_, _, rfl, rfl, q⟩
  · cases e
mutual
def toPy : D → Option PyData
  | .non => some .none
  | .bl b => some (.bool b)
  | .int i => some (.int i)
  | .str x => some (.str x)
  | .sc xs => (toPys xs).map .list
  | .ls xs => (toPys xs).map .list
  | .bo xs => (toPys xs).map .list
  | .tp xs => (toPys xs).map .tuple
  | _ => none
def toPys : List D → Option (List PyData)
  | [] => some []
  | d :: ds => match toPy d, toPys ds with
    | some p, some ps => some (p :: ps)
    | _, _ => none
end
mutual
theorem Rp.dp (s : Same F H) : ∀ {v : V} {d : D} {p : PyData}, Rp K cls F v d → toPy d = some p → Dp K H v p
  | _, _, _, .non, e => by simp [toPy] at e; subst e; exact .non
  | _, _, _, .bl b, e => by simp [toPy] at e; subst e; exact .bl b
  | _, _, _, .int b, e => by simp [toPy] at e; subst e; exact .int b
  | _, _, _, .str b, e => by simp [toPy] at e; subst e; exact .str b
  | _, _, _, .sc (ds := ds) h r, e => by
    simp [toPy] at e
    obtain ⟨ps, e1, e2⟩ := e
    subst e2
    exact .lst (s.seq h) (Rps.dp s r e1)
  | _, _, _, .ls (ds := ds) h r, e => by
    simp [toPy] at e
    obtain ⟨ps, e1, e2⟩ := e
    subst e2
    exact .lst (SqL.of (s _ _ h)) (Rps.dp s r e1)
  | _, _, _, .tp (ds := ds) h r, e => by
    simp [toPy] at e
    obtain ⟨ps, e1, e2⟩ := e
    subst e2
    exact .tup (sameT s h) (Rps.dp s r e1)
  | _, _, _, .ob .., e => by simp [toPy] at e
theorem Rps.dp (s : Same F H) : ∀ {v : List V} {d : List D} {p : List PyData}, Rps K cls F v d → toPys d = some p → DpAll K H v p
  | _, _, _, .nil, e => by simp [toPys] at e; subst e; exact .nil
  | _, _, _, .cons (d := d) (ds := ds) a b, e => by
    unfold toPys at e
    cases q1 : toPy d with
    | none => rw [q1] at e; cases e
    | some p =>
      cases q2 : toPys ds with
      | none => rw [q1, q2] at e; cases e
      | some ps =>
        rw [q1, q2] at e
        cases e
        exact .cons (Rp.dp s a q1) (Rps.dp s b q2)
end
mutual
theorem Bo.dp (s : Same F H) : ∀ {v : V} {d : D} {p : PyData}, Bo K cls F H v d → toPy d = some p → Dp K H v p
  | _, _, _, .sh r, e => r.dp s e
  | _, _, _, .bo (ds := ds) h r, e => by
    simp [toPy] at e
    obtain ⟨ps, e1, e2⟩ := e
    subst e2
    exact .lst (SqL.of h) (Bos.dp s r e1)
  | _, _, _, .bd .., e => by simp [toPy] at e
theorem Bos.dp (s : Same F H) : ∀ {v : List V} {d : List D} {p : List PyData}, Bos K cls F H v d → toPys d = some p → DpAll K H v p
  | _, _, _, .nil, e => by simp [toPys] at e; subst e; exact .nil
  | _, _, _, .cons (d := d) (ds := ds) a b, e => by
    unfold toPys at e
    cases q1 : toPy d with
    | none => rw [q1] at e; cases e
    | some p =>
      cases q2 : toPys ds with
      | none => rw [q1, q2] at e; cases e
      | some ps =>
        rw [q1, q2] at e
        cases e
        exact .cons (Bo.dp s a q1) (Bos.dp s b q2)
end
def pyEq (a b : D) : Option Bool := match toPy a, toPy b with
  | some p, some q => if SeqAt.shaped p = true ∧ SeqAt.shaped q = true then some (PyData.eqv p q) else none
  | _, _ => none
def cEq : D → D → Option Bool
  | .int i, .int j => some (decide (i = j))
  | .str i, .str j => some (decide (i = j))
  | .bl i, .bl j => some (decide (i = j))
  | .non, .non => some true
  | .non, .int _ => some false
  | .int _, .non => some false
  | .int _, .str _ => some false
  | .str _, .int _ => some false
  | .non, .str _ => some false
  | .str _, .non => some false
  | a, b => pyEq a b
def cNe (a b : D) : Option Bool := (cEq a b).map (!·)
theorem cEq_ok {x y : V} {a b : D} {k : Bool} (s : Same F H) (b1 : Bo K cls F H x a) (b2 : Bo K cls F H y b) (e : cEq a b = some k) :
    (scal x y = true ∧ decide (x = y) = k) ∨ ∃ d e, Dp K H x d ∧ Dp K H y e ∧ SeqAt.shaped d = true ∧ SeqAt.shaped e = true ∧ PyData.eqv d e = k := by
  have py : ∀ {a b : D}, Bo K cls F H x a → Bo K cls F H y b → pyEq a b = some k → ∃ d e, Dp K H x d ∧ Dp K H y e ∧ SeqAt.shaped d = true ∧ SeqAt.shaped e = true ∧ PyData.eqv d e = k := fun {a b} b1 b2 e => by
    unfold pyEq at e
    split at e
    · rename_i p q h1 h2
      split at e
      · rename_i h
        cases e
        exact ⟨p, q, b1.dp s h1, b2.dp s h2, h.1, h.2, rfl⟩
      · cases e
    · cases e
  unfold cEq at e
  split at e
  · cases e; obtain rfl := b1.int; obtain rfl := b2.int; exact .inl ⟨rfl, by simp⟩
  · cases e; obtain rfl := b1.str; obtain rfl := b2.str; exact .inl ⟨rfl, by simp⟩
  · cases e; obtain rfl := b1.bl; obtain rfl := b2.bl; exact .inl ⟨rfl, by simp⟩
  · cases e; obtain rfl := b1.non; obtain rfl := b2.non; exact .inl ⟨rfl, by simp⟩
  · cases e; obtain rfl := b1.non; obtain rfl := b2.int; exact .inl ⟨rfl, by simp⟩
  · cases e; obtain rfl := b1.int; obtain rfl := b2.non; exact .inl ⟨rfl, by simp⟩
  · cases e; obtain rfl := b1.int; obtain rfl := b2.str; exact .inl ⟨rfl, by simp⟩
  · cases e; obtain rfl := b1.str; obtain rfl := b2.int; exact .inl ⟨rfl, by simp⟩
  · cases e; obtain rfl := b1.non; obtain rfl := b2.str; exact .inl ⟨rfl, by simp⟩
  · cases e; obtain rfl := b1.str; obtain rfl := b2.non; exact .inl ⟨rfl, by simp⟩
  · exact .inr (py b1 b2 e)
theorem ok_eq : C2Ok K cls (fun x y H Q => rEq x y H Q ∨ rEqD K x y H Q) cEq := by
  intro F H x y a b d Q s b1 b2 e q
  rcases cEq_ok s b1 b2 e with ⟨h1, h2⟩ | ⟨p, r, h1, h2, h3, h4, h5⟩
  · exact .inl ⟨h1, by rw [h2]; exact q⟩
  · exact .inr ⟨p, r, h1, h2, h3, h4, by rw [h5]; exact q⟩
theorem ok_ne : C2Ok K cls (fun x y H Q => rNe x y H Q ∨ rNeD K x y H Q) cNe := by
  intro F H x y a b d Q s b1 b2 e q
  unfold cNe at e
  cases e0 : cEq a b with
  | none => rw [e0] at e; cases e
  | some k =>
    rw [e0] at e
    cases e
    rcases cEq_ok s b1 b2 e0 with ⟨h1, h2⟩ | ⟨p, r, h1, h2, h3, h4, h5⟩
    · exact .inl ⟨h1, by rw [h2]; exact q⟩
    · exact .inr ⟨p, r, h1, h2, h3, h4, by rw [h5]; exact q⟩
theorem op_eq4 (hu : X.A.units + 64 < cLine) : OpR X (compareOp .Eq) (fun x y H Q => rEq x y H Q ∨ rEqD X.K x y H Q) := op_eq.or (op_eqD hu)
theorem op_ne4 (hu : X.A.units + 64 < cLine) : OpR X (compareOp .NotEq) (fun x y H Q => rNe x y H Q ∨ rNeD X.K x y H Q) := op_ne.or (op_neD hu)
def cIsN : D → D → Option Bool
  | .un, _ => none
  | a, .non => some (match a with | .non => true | _ => false)
  | _, _ => none
def cNotN (a b : D) : Option Bool := (cIsN a b).map (!·)
theorem cIsN_ok {x y : V} {a b : D} {k : Bool} (b1 : Bo K cls F H x a) (b2 : Bo K cls F H y b) (e : cIsN a b = some k) : y = .non ∧ decide (x = .non) = k := by
  unfold cIsN at e
  split at e
  · cases e
  · obtain rfl := b2.non
    refine ⟨rfl, ?_⟩
    cases e
    cases b1 with
    | sh r => cases r <;> simp
    | bo => simp
    | bd => simp
    | bb => simp
  · cases e
theorem ok_isN : C2Ok K cls (fun x y H Q => y = .non ∧ Q (.bl (decide (x = .non))) H) cIsN := by
  intro F H x y a b d Q s b1 b2 e q
  obtain ⟨h1, h2⟩ := cIsN_ok b1 b2 e
  exact ⟨h1, by rw [h2]; exact q⟩
end
end DL

namespace DL
open PySem L2
section
variable {K : PySem.W.Frag} {cls : Cls} {W : WX} {X : Cx} {F H F' H' : Hp} {Q : VK} {σ : St} {a b c e : Expr} {es : List Expr} {fa fb fc : Env → Res D} {ga gb : Env → Res Bool} {fs : Env → Res (List D)} {pos : Pos}

theorem inV_ints (i : Int) (ns : List Int) : inV (.int i) (ns.map V.int) = decide (i ∈ ns) := by
  induction ns with
  | nil => rfl
  | cons n ns ih =>
    unfold inV at ih ⊢
    rw [List.map_cons, List.any_cons, ih]
    have : eqV (.int n) (.int i) = decide (i = n) := by
      show (n == i) = decide (i = n)
      by_cases h : n = i
      · subst h; simp
      · have h' : ¬ i = n := fun q => h q.symm
        simp [h, h']
    rw [this, ← Bool.decide_or]
    simp
theorem inV_strs (i : Str) (ns : List Str) : inV (.str i) (ns.map V.str) = decide (i ∈ ns) := by
  induction ns with
  | nil => rfl
  | cons n ns ih =>
    unfold inV at ih ⊢
    rw [List.map_cons, List.any_cons, ih]
    have : eqV (.str n) (.str i) = decide (i = n) := by
      show (n == i) = decide (i = n)
      by_cases h : n = i
      · subst h; simp
      · have h' : ¬ i = n := fun q => h q.symm
        simp [h, h']
    rw [this, ← Bool.decide_or]
    simp
@[simp] def sqA : D → Option (List D)
  | .ls xs => some xs
  | .sc xs => some xs
  | .bo xs => some xs
  | .tp xs => some xs
  | _ => none
def cIn : D → D → Option Bool
  | .int i, s => match sqA s with
    | some xs => match intsOf xs with
      | some ns => some (decide (i ∈ ns))
      | none => none
    | none => none
  | .str i, s => match sqA s with
    | some xs => match strsOf xs with
      | some ns => some (decide (i ∈ ns))
      | none => none
    | none => none
  | _, _ => none
def cNIn (a b : D) : Option Bool := (cIn a b).map (!·)
theorem Bo.sqA {v : V} {d : D} {xs : List D} (s : Same F H) (b : Bo K cls F H v d) (e : sqA d = some xs) : ∃ a vs, v = .ref a ∧ (SqL K H a vs ∨ SqT K H a vs) ∧ Bos K cls F H vs xs := by
  cases d with
  | tp ys => obtain ⟨a, vs, e1, h1, h2, r⟩ := b.tpv s (xs := xs) (by simpa using e); exact ⟨a, vs, e1, .inr h1, r.toBos⟩
  | ls ys => obtain ⟨a, vs, e1, h1, r⟩ := b.sqL s (xs := xs) (by simpa using e); exact ⟨a, vs, e1, .inl h1, r⟩
  | sc ys => obtain ⟨a, vs, e1, h1, r⟩ := b.sqL s (xs := xs) (by simpa using e); exact ⟨a, vs, e1, .inl h1, r⟩
  | bo ys => obtain ⟨a, vs, e1, h1, r⟩ := b.sqL s (xs := xs) (by simpa using e); exact ⟨a, vs, e1, .inl h1, r⟩
  | _ => simp at e
theorem flat_ints (ns : List Int) : (ns.map V.int).all flatV = true := by
  induction ns with
  | nil => rfl
  | cons n ns ih => rw [List.map_cons, List.all_cons, ih]; rfl
theorem flat_strs (ns : List Str) : (ns.map V.str).all flatV = true := by
  induction ns with
  | nil => rfl
  | cons n ns ih => rw [List.map_cons, List.all_cons, ih]; rfl
theorem cIn_ok {x y : V} {a b : D} {k : Bool} (s : Same F H) (b1 : Bo K cls F H x a) (b2 : Bo K cls F H y b) (e : cIn a b = some k) :
    ∃ p xs, y = .ref p ∧ (SqL K H p xs ∨ SqT K H p xs) ∧ flatV x = true ∧ xs.all flatV = true ∧ inV x xs = k := by
  unfold cIn at e
  split at e
  · split at e
    · rename_i xs h1
      split at e
      · rename_i ns h2
        cases e
        obtain rfl := b1.int
        obtain ⟨p, vs, rfl, h3, r⟩ := b2.sqA s h1
        rw [intsOf_eq h2] at r
        rw [r.ints] at h3
        exact ⟨p, _, rfl, h3, rfl, flat_ints ns, inV_ints _ _⟩
      · cases e
    · cases e
  · split at e
    · rename_i xs h1
      split at e
      · rename_i ns h2
        cases e
        obtain rfl := b1.str
        obtain ⟨p, vs, rfl, h3, r⟩ := b2.sqA s h1
        rw [strsOf_eq h2] at r
        rw [r.strs] at h3
        exact ⟨p, _, rfl, h3, rfl, flat_strs ns, inV_strs _ _⟩
      · cases e
    · cases e
  · cases e
theorem ok_in : C2Ok K cls (rIn K false) cIn := by
  intro F H x y a b d Q s b1 b2 e q
  obtain ⟨p, xs, e1, h1, h2, h3, h4⟩ := cIn_ok s b1 b2 e
  exact ⟨p, xs, e1, h1, h2, h3, by rw [if_neg (by decide), h4]; exact q⟩
theorem ok_nin : C2Ok K cls (rIn K true) cNIn := by
  intro F H x y a b d Q s b1 b2 e q
  unfold cNIn at e
  cases e0 : cIn a b with
  | none => rw [e0] at e; cases e
  | some k =>
    rw [e0] at e
    cases e
    obtain ⟨p, xs, e1, h1, h2, h3, h4⟩ := cIn_ok s b1 b2 e0
    exact ⟨p, xs, e1, h1, h2, h3, by rw [if_pos rfl, h4]; exact q⟩

def opIx : D → D → Option D
  | .str z, .int i => if z.length ≤ lim then (atI z.cps.toList i).map fun c => .str ⟨#[c]⟩ else none
  | a, .int i => match sqA a with
    | some xs => atI xs i
    | none => none
  | _, _ => none
theorem atI_some {α : Type} {xs : List α} {i : Int} {d : α} (h : atI xs i = some d) : ∃ j, ixN xs.length i = some j ∧ xs[j]? = some d := by
  unfold atI at h
  cases q : ixN xs.length i with
  | none => rw [q] at h; cases h
  | some j => rw [q] at h; exact ⟨j, rfl, h⟩
theorem Bos.at {vs : List V} {ds : List D} {i : Int} {d : D} (h : Bos K cls F H vs ds) (e : atI ds i = some d) : ∃ v, atI vs i = some v ∧ Bo K cls F H v d := by
  obtain ⟨j, h1, h2⟩ := atI_some e
  obtain ⟨v, h3, h4⟩ := h.get h2
  refine ⟨v, ?_, h4⟩
  unfold atI
  rw [h.len, h1]
  exact h3
theorem ok_ix : R2Ok K cls (rIx K) opIx := by
  intro F H x y a b d Q s b1 b2 e q
  unfold opIx at e
  split at e
  · rename_i z i
    by_cases h : z.length ≤ lim
    · rw [if_pos h] at e
      obtain rfl := b1.str
      obtain rfl := b2.int
      cases e0 : atI z.cps.toList i with
      | none => rw [e0] at e; cases e
      | some c =>
        rw [e0] at e
        cases e
        exact .inr (.inr ⟨z, i, c, rfl, rfl, lim_ok h, e0, pi1 s (.str _) q⟩)
    · rw [if_neg h] at e; cases e
  · split at e
    · rename_i xs h1
      obtain rfl := b2.int
      obtain ⟨p, vs, rfl, h3, r⟩ := b1.sqA s h1
      obtain ⟨v, h4, h5⟩ := r.at e
      have q' : Q v H := q v F H [] (.refl s) Fresh.nil (.inr ⟨h5, rfl⟩)
      rcases h3 with h3 | h3
      · exact .inl ⟨p, vs, _, v, rfl, rfl, h3, h4, q'⟩
      · exact .inr (.inl ⟨p, vs, _, v, rfl, rfl, h3, h4, q'⟩)
    · cases e
  · cases e
theorem je_ix (ha : JE X cls W a fa) (hb : JE X cls W b fb) (hs : PlainIx b := by exact fun _ _ => rfl) : JE X cls W (.Subscript a b pos) (eBin opIx fa fb) := by
  obtain ⟨ta, pa, da⟩ := ha.ex
  obtain ⟨tb, pb, db⟩ := hb.ex
  exact ⟨_, pe_ix ix_seq pa pb hs, de_bin ok_ix da db⟩

def sIx (n d : Nat) : Option Int → Nat := HT.sIx n d
def cut {α : Type} (xs : List α) (lo hi : Option Int) : List α := (xs.drop (HT.sIx xs.length 0 lo)).take (HT.sIx xs.length xs.length hi - HT.sIx xs.length 0 lo)
def opSl (a : D) (lo hi : Option Int) : Option D := match a with
  | .tp xs => some (.tp (cut xs lo hi))
  | a => match sqK a with
    | some xs => some (.ol (cut xs lo hi))
    | none => none
def ePart (o : Option (Env → Res D)) : Env → Res (Option Int) := fun g => match o with
  | none => .ok none
  | some f => (f g).bind fun d => (Res.of (intOf (opd d))).bind fun i => .ok (some i)
@[simp] theorem ePart_none (g : Env) : ePart none g = .ok none := rfl
@[simp] theorem ePart_some (f : Env → Res D) (g : Env) : ePart (some f) g = (f g).bind fun d => (Res.of (intOf (opd d))).bind fun i => .ok (some i) := rfl
structure JP (X : Cx) (cls : Cls) (W : WX) (e : Option Expr) (f : Env → Res (Option Int)) : Prop where
  ex : ∃ t, PO X e t ∧ ∀ σ F H g O (Q : Option Int → Hp → Prop), Same F H → Sts X.K cls F H σ g O → (match f g with
    | .ok o => ∀ F' H', Ext F H F' H' → Q o H'
    | .xc c => ∀ F' H', Ext F H F' H' → W (excV cls c) none σ H'
    | .bad => False) → t σ H Q
theorem jp_none : JP X cls W none (ePart none) := ⟨_, po_none, fun σ F H g O Q s st p => p F H (.refl s)⟩
theorem jp_some (ha : JE X cls W a fa) : JP X cls W (some a) (ePart (some fa)) := by
  obtain ⟨ta, pa, da⟩ := ha.ex
  refine ⟨_, po_some pa, fun σ F H g O Q s st p => ?_⟩
  rw [ePart_some] at p
  refine da.go s st (fun c e => by rw [e] at p; exact p) (fun e => by rw [e] at p; exact p) fun d e v F' H' x b => ?_
  rw [e] at p
  simp only [Res.bind] at p
  cases e2 : intOf (opd d) with
  | none => rw [e2] at p; exact p.elim
  | some i =>
    rw [e2] at p
    have e3 : opd d = .int i := by
      cases e4 : opd d <;> rw [e4] at e2 <;> simp at e2
      rw [e2]
    rw [e3] at b
    exact ⟨i, b.int, p F' H' x⟩
def eSl (fa : Env → Res D) (lo hi : Env → Res (Option Int)) : Env → Res D := fun g => (fa g).bind fun a => (lo g).bind fun l => (hi g).bind fun h => .of (opSl (opd a) l h)
@[simp] theorem eSl_ (fa : Env → Res D) (lo hi : Env → Res (Option Int)) (g : Env) : eSl fa lo hi g = (fa g).bind fun a => (lo g).bind fun l => (hi g).bind fun h => .of (opSl (opd a) l h) := rfl
theorem Rps.cut {vs : List V} {ds : List D} (h : Rps K cls F vs ds) (lo hi : Option Int) : Rps K cls F (cutV vs lo hi) (cut ds lo hi) := by
  unfold cutV DL.cut
  rw [h.len]
  exact (h.drop _).take _
theorem cut_whole {α : Type} {xs : List α} {lo hi : Option Int} (h : HT.sIx xs.length 0 lo = 0 ∧ HT.sIx xs.length xs.length hi = xs.length) : cut xs lo hi = xs := by
  unfold cut
  rw [h.1, h.2]
  simp
theorem je_sl {lo hi : Option Expr} {fl fh : Env → Res (Option Int)} {p2 : Pos} (ha : JE X cls W a fa) (hl : JP X cls W lo fl) (hh : JP X cls W hi fh) : JE X cls W (.Subscript a (.Slice lo hi none p2) pos) (eSl fa fl fh) := by
  obtain ⟨ta, pa, da⟩ := ha.ex
  obtain ⟨tl, pl, dl⟩ := hl.ex
  obtain ⟨th, ph, dh⟩ := hh.ex
  refine ⟨_, pe_slice (sl_list.or sl_tupA) pa pl ph, ?_⟩
  intro σ F H g O Q s st p
  rw [eSl_] at p
  refine da.go s st (fun c e => by rw [e] at p; exact p) (fun e => by rw [e] at p; exact p) fun d e v F1 H1 x1 b1 => ?_
  rw [e] at p
  simp only [Res.bind] at p
  refine dl σ F1 H1 g O _ x1.fh (st.ext x1) ?_
  cases el : fl g with
  | bad => rw [el] at p; exact p.elim
  | xc c => rw [el] at p; exact fun F' H' x => p F' H' (x1.trans x)
  | ok l =>
    rw [el] at p
    simp only [] at p ⊢
    intro F2 H2 x2
    refine dh σ F2 H2 g O _ x2.fh ((st.ext x1).ext x2) ?_
    cases eh : fh g with
    | bad => rw [eh] at p; exact p.elim
    | xc c => rw [eh] at p; exact fun F' H' x => p F' H' ((x1.trans x2).trans x)
    | ok h =>
      rw [eh] at p
      simp only [] at p ⊢
      intro F3 H3 x3
      have x23 := x2.trans x3
      have x13 := x1.trans x23
      have b3 := b1.ext x23
      cases eo : opSl (opd d) l h with
      | none => rw [eo] at p; exact p.elim
      | some r =>
        rw [eo] at p
        have q : ∀ v F' H' O', Ext F3 H3 F' H' → Fresh H3 O' → Tm X.K cls F' H' v r O' → Q v H' := fun v F' H' O' y fr tm => p v F' H' O' (x13.trans y) (fr.mono x13.hh) tm
        unfold opSl at eo
        split at eo
        · rename_i xs ed
          cases eo
          rw [ed] at b3
          obtain ⟨a1, vs, rfl, h1, f1, r1⟩ := b3.tpv x3.fh (xs := xs) rfl
          refine .inr ⟨a1, vs, rfl, h1, fun w => ?_, fun w p hp => ?_⟩
          · rw [r1.len] at w
            exact q _ F3 H3 [] (.refl x3.fh) Fresh.nil (.inl (.sh (by rw [cut_whole w]; exact .tp f1 r1)))
          · exact q _ _ _ [] (Ext.put x3.fh hp) Fresh.nil (.inl (.sh (.tp (SqT.of upd_same) ((r1.cut l h).mono (Ext.put x3.fh hp).ff))))
        · split at eo
          · rename_i xs ek
            cases eo
            obtain ⟨a1, vs, rfl, h1, r1⟩ := b3.sqK x3.fh ek
            refine .inl ⟨a1, vs, rfl, h1, fun p hp => ?_⟩
            exact q _ _ _ [p] (Ext.own x3.fh hp) (fresh_new hp) (.inl (ow_new x3.fh hp (r1.cut l h).toOws))
          · cases eo

def aNil : Env → Res (List D) := fun _ => .ok []
def aCons (fa : Env → Res D) (fs : Env → Res (List D)) : Env → Res (List D) := fun g => (fa g).bind fun a => (fs g).bind fun r => .ok (opd a :: r)
def aConsO (fa : Env → Res D) (fs : Env → Res (List D)) : Env → Res (List D) := fun g => (fa g).bind fun a => (kp a).bind fun a => (fs g).bind fun r => .ok (a :: r)
@[simp] theorem aNil_ (g : Env) : aNil g = .ok [] := rfl
@[simp] theorem aCons_ (fa : Env → Res D) (fs : Env → Res (List D)) (g : Env) : aCons fa fs g = (fa g).bind fun a => (fs g).bind fun r => .ok (opd a :: r) := rfl
@[simp] theorem aConsO_ (fa : Env → Res D) (fs : Env → Res (List D)) (g : Env) : aConsO fa fs g = (fa g).bind fun a => (kp a).bind fun a => (fs g).bind fun r => .ok (a :: r) := rfl
theorem ja_nil : JA X cls W [] aNil := ⟨_, pa_nil, fun σ F H g O Q s st p => p [] F H (.refl s) .nil⟩
theorem jao_nil : JAO X cls W [] aNil := ⟨_, pa_nil, fun σ F H g O Q s st p => p [] F H [] (.refl s) Fresh.nil .nil⟩
theorem DA.go {t : TA} (ha : DA K cls W t fs) {σ : St} {F H : Hp} {g : Env} {O : List Addr} {Q : List V → Hp → Prop} (s : Same F H) (st : Sts K cls F H σ g O)
    (hx : ∀ c, fs g = .xc c → ∀ F' H', Ext F H F' H' → W (excV cls c) none σ H') (hb : fs g ≠ .bad) (hk : ∀ d, fs g = .ok d → ∀ v F' H', Ext F H F' H' → Bos K cls F' H' v d → Q v H') : t σ H Q := by
  refine ha σ F H g O Q s st ?_
  cases e : fs g with
  | ok k => exact hk k e
  | xc c => exact hx c e
  | bad => exact (hb e).elim
theorem DAO.go {t : TA} (ha : DAO K cls W t fs) {σ : St} {F H : Hp} {g : Env} {O : List Addr} {Q : List V → Hp → Prop} (s : Same F H) (st : Sts K cls F H σ g O)
    (hx : ∀ c, fs g = .xc c → ∀ F' H', Ext F H F' H' → W (excV cls c) none σ H') (hb : fs g ≠ .bad) (hk : ∀ d, fs g = .ok d → ∀ v F' H' O', Ext F H F' H' → Fresh H O' → Ows K cls F' H' v d O' → Q v H') : t σ H Q := by
  refine ha σ F H g O Q s st ?_
  cases e : fs g with
  | ok k => exact hk k e
  | xc c => exact hx c e
  | bad => exact (hb e).elim
theorem ja_cons (ha : JE X cls W a fa) (hr : JA X cls W es fs) (hs : starEach (a :: es) X.env = (false, eval a X.env) :: starEach es X.env := by rfl) : JA X cls W (a :: es) (aCons fa fs) := by
  obtain ⟨ta, pa, da⟩ := ha.ex
  obtain ⟨tr, pr, dr⟩ := hr.ex
  refine ⟨_, pa_cons pa pr hs, ?_⟩
  intro σ F H g O Q s st p
  rw [aCons_] at p
  refine da.go s st (fun c e => by rw [e] at p; exact p) (fun e => by rw [e] at p; exact p) fun d e v F1 H1 x1 b1 => ?_
  rw [e] at p
  simp only [Res.bind] at p
  refine dr.go x1.fh (st.ext x1) (fun c e F' H' x => by rw [e] at p; exact p F' H' (x1.trans x)) (fun e => by rw [e] at p; exact p) fun ds es vs F2 H2 x2 b2 => ?_
  rw [es] at p
  exact p _ F2 H2 (x1.trans x2) (.cons (b1.ext x2) b2)
theorem jao_cons (ha : JE X cls W a fa) (hr : JAO X cls W es fs) (hs : starEach (a :: es) X.env = (false, eval a X.env) :: starEach es X.env := by rfl) : JAO X cls W (a :: es) (aConsO fa fs) := by
  obtain ⟨ta, pa, da⟩ := ha.ex
  obtain ⟨tr, pr, dr⟩ := hr.ex
  refine ⟨_, pa_cons pa pr hs, ?_⟩
  intro σ F H g O Q s st p
  rw [aConsO_] at p
  refine da.goO s st (fun c e => by rw [e] at p; exact p) (fun e => ?_) fun d e v F1 H1 O1 x1 fr1 b1 => ?_
  · cases q : fa g with
    | ok d => rw [q] at e p; simp only [Res.bind] at e p; rw [e] at p; exact p
    | xc c => rw [q] at e; cases e
    | bad => rw [q] at p; exact p
  have p : PostAO X.K cls W σ F H Q ((fs g).bind fun r => .ok (d :: r)) := by
    cases q : fa g with
    | ok d => rw [q] at e p; simp only [Res.bind] at e p; rw [e] at p; exact p
    | xc c => rw [q] at e; cases e
    | bad => rw [q] at e; cases e
  refine dr.go x1.fh (st.ext x1) (fun c e F' H' x => by rw [e] at p; exact p F' H' (x1.trans x)) (fun e => by rw [e] at p; exact p) fun ds es vs F2 H2 O2 x2 fr2 b2 => ?_
  rw [es] at p
  refine p _ F2 H2 (O1 ++ O2) (x1.trans x2) (fun a ha => ?_) (.cons (b1.ext x2) b2 (fun a h1 h2 => ?_) rfl)
  · rcases List.mem_append.mp ha with q | q
    · exact fr1 a q
    · exact x1.hh.free (fr2 a q)
  · exact (b1.dom a h1).2 (fr2 a h2)
def eLst (fs : Env → Res (List D)) : Env → Res D := fun g => (fs g).bind fun ds => if ds.length ≤ lim then .ok (.ol ds) else .bad
def eTup (fs : Env → Res (List D)) : Env → Res D := fun g => (fs g).bind fun ds => if ds.length ≤ lim ∧ nods ds = true then .ok (.tp (frzs ds)) else .bad
@[simp] theorem eLst_ (fs : Env → Res (List D)) (g : Env) : eLst fs g = (fs g).bind fun ds => if ds.length ≤ lim then .ok (.ol ds) else .bad := rfl
@[simp] theorem eTup_ (fs : Env → Res (List D)) (g : Env) : eTup fs g = (fs g).bind fun ds => if ds.length ≤ lim ∧ nods ds = true then .ok (.tp (frzs ds)) else .bad := rfl
theorem je_lst (h : JAO X cls W es fs) : JE X cls W (.List es pos) (eLst fs) := by
  obtain ⟨ta, pa, da⟩ := h.ex
  refine ⟨_, pe_lst pa, ?_⟩
  intro σ F H g O Q s st p
  rw [eLst_] at p
  refine da.go s st (fun c e => by rw [e] at p; exact p) (fun e => by rw [e] at p; exact p) fun ds e vs F1 H1 O1 x1 fr1 b1 => ?_
  rw [e] at p
  simp only [Res.bind] at p
  split at p
  · rename_i hl
    refine ⟨lim_ok (by rw [b1.len]; exact hl), fun q hq => ?_⟩
    exact p _ _ _ (q :: O1) (x1.trans (Ext.own x1.fh hq)) (fun a ha => by
      rcases List.mem_cons.mp ha with rfl | ha
      · exact x1.hh.free hq
      · exact fr1 a ha) (.inl (ow_new x1.fh hq b1))
  · exact p.elim
theorem je_tup {k : Nat} (h : JAO X cls W es fs) : JE X cls W (.Tuple es k pos) (eTup fs) := by
  obtain ⟨ta, pa, da⟩ := h.ex
  refine ⟨_, pe_tup pa, ?_⟩
  intro σ F H g O Q s st p
  rw [eTup_] at p
  refine da.go s st (fun c e => by rw [e] at p; exact p) (fun e => by rw [e] at p; exact p) fun ds e vs F1 H1 O1 x1 fr1 b1 => ?_
  rw [e] at p
  simp only [Res.bind] at p
  split at p
  · rename_i hl
    refine ⟨lim_ok (by rw [b1.len]; exact hl.1), fun q hq => ?_⟩
    have no : ∀ a ∈ O1, F1 a = none := fun a ha => (b1.dom a ha).1
    have x2 := addF_ext x1 fr1 no
    have r2 := b1.freeze (addF_same no) addF_at hl.2
    exact p _ _ _ [] (x2.trans (Ext.put x2.fh hq)) Fresh.nil (.inl (.sh (.tp (SqT.of upd_same) (r2.mono (Ext.put x2.fh hq).ff))))
  · exact p.elim

def CaOk (K : PySem.W.Frag) (cls : Cls) (r : List V → Hp → VK → Prop) (op : List D → Option D) : Prop :=
  ∀ F H vs ds d Q, Same F H → Bos K cls F H vs ds → op ds = some d → (∀ v F' H' O', Ext F H F' H' → Fresh H O' → Tm K cls F' H' v d O' → Q v H') → r vs H Q
def eCall (op : List D → Option D) (fs : Env → Res (List D)) : Env → Res D := fun g => (fs g).bind fun ds => .of (op ds)
@[simp] theorem eCall_ (op : List D → Option D) (fs : Env → Res (List D)) (g : Env) : eCall op fs g = (fs g).bind fun ds => .of (op ds) := rfl
theorem de_call {r : List V → Hp → VK → Prop} {op : List D → Option D} {t : TA} (hr : CaOk K cls r op) (ha : DA K cls W t fs) : DE K cls W (tCB r t) (eCall op fs) := by
  intro σ F H g O Q s st p
  rw [eCall_] at p
  refine ha.go s st (fun c e => by rw [e] at p; exact p) (fun e => by rw [e] at p; exact p) fun ds e vs F1 H1 x1 b1 => ?_
  rw [e] at p
  simp only [Res.bind] at p
  cases eo : op ds with
  | none => rw [eo] at p; exact p.elim
  | some d =>
    rw [eo] at p
    exact hr F1 H1 vs ds d Q x1.fh b1 eo fun v F' H' O' y fr tm => p v F' H' O' (x1.trans y) (fr.mono x1.hh) tm
theorem je_callB {x : Str} {id : String} {p : Pos} {r : List V → Hp → VK → Prop} {op : List D → Option D} (hc : CallR X (.builtin id) r) (hr : CaOk X.K cls r op) (hm : X.mg x = none) (hv : bootBuiltins x = some (.builtin id)) (ha : JA X cls W (e :: es) fs)
    (hg : Gl X x := by rfl) (hn : x ≠ "__name__" := by decide) (hdb : (x == ("__debug__" : Str)) = false := by decide)
    (he : starEach (e :: es) X.env = (false, eval e X.env) :: starEach es X.env := by rfl) (hpl : (backTo pos (starEach es X.env)).any (·.1) = false := by rfl) : JE X cls W (.Call (.Name x p) (e :: es) [] pos) (eCall op fs) := by
  obtain ⟨ta, pa, da⟩ := ha.ex
  exact ⟨_, pe_callB hc hg hm hv pa hn hdb he hpl, de_call hr da⟩
theorem je_callTy {x : Str} {T : String} {p : Pos} {r : List V → Hp → VK → Prop} {op : List D → Option D} (hc : CallR X (.type T) r) (hr : CaOk X.K cls r op) (hm : X.mg x = none) (hv : bootBuiltins x = some (.type T)) (ha : JA X cls W (e :: es) fs)
    (hg : Gl X x := by rfl) (hn : x ≠ "__name__" := by decide) (hdb : (x == ("__debug__" : Str)) = false := by decide)
    (he : starEach (e :: es) X.env = (false, eval e X.env) :: starEach es X.env := by rfl) (hpl : (backTo pos (starEach es X.env)).any (·.1) = false := by rfl) : JE X cls W (.Call (.Name x p) (e :: es) [] pos) (eCall op fs) := by
  obtain ⟨ta, pa, da⟩ := ha.ex
  exact ⟨_, pe_callTy hc hg hm hv pa hn hdb he hpl, de_call hr da⟩
def caLen : List D → Option D
  | [.str z] => if z.length ≤ lim then some (.int z.length) else none
  | [d] => match sqA d with
    | some xs => some (.int xs.length)
    | none => match d with
      | .bd ks _ => none
      | _ => none
  | _ => none
theorem Bos.one {vs : List V} {d : D} (h : Bos K cls F H vs [d]) : ∃ v, vs = [v] ∧ Bo K cls F H v d := by
  cases h with | cons a b => cases b; exact ⟨_, rfl, a⟩
theorem Bos.two {vs : List V} {d d' : D} (h : Bos K cls F H vs [d, d']) : ∃ v v', vs = [v, v'] ∧ Bo K cls F H v d ∧ Bo K cls F H v' d' := by
  cases h with | cons a b => cases b with | cons a' b' => cases b'; exact ⟨_, _, rfl, a, a'⟩
theorem ok_len : CaOk K cls (fun xs H Q => ∃ x n, xs = [x] ∧ LenV K x H n ∧ Q (.int n) H) caLen := by
  intro F H vs ds d Q s b e q
  unfold caLen at e
  split at e
  · rename_i z
    by_cases h : z.length ≤ lim
    · rw [if_pos h] at e
      cases e
      obtain ⟨v, rfl, b1⟩ := b.one
      obtain rfl := b1.str
      exact ⟨_, _, rfl, ⟨lim_ok h, rfl⟩, pi1 s (.int _) q⟩
    · rw [if_neg h] at e; cases e
  · split at e
    · rename_i xs h1
      cases e
      obtain ⟨v, rfl, b1⟩ := b.one
      obtain ⟨p, vs, rfl, h3, r⟩ := b1.sqA s h1
      have q' : Q (.int (xs.length : Int)) H := pi1 s (.int _) q
      rw [← r.len] at q'
      rcases h3 with h3 | h3
      · exact ⟨_, vs.length, rfl, .inl ⟨vs, h3, rfl⟩, q'⟩
      · exact ⟨_, vs.length, rfl, .inr ⟨vs, h3, rfl⟩, q'⟩
    · split at e <;> cases e
  · cases e
def caMax2 : List D → Option D
  | [.int i, .int j] => some (.int (if j > i then j else i))
  | _ => none
def caMin2 : List D → Option D
  | [.int i, .int j] => some (.int (if j < i then j else i))
  | _ => none
theorem ok_max2 : CaOk K cls (fun xs H Q => ∃ i j, xs = [.int i, .int j] ∧ Q (.int (if j > i then j else i)) H) caMax2 := by
  intro F H vs ds d Q s b e q
  unfold caMax2 at e
  split at e
  · cases e
    obtain ⟨v, v', rfl, b1, b2⟩ := b.two
    obtain rfl := b1.int
    obtain rfl := b2.int
    exact ⟨_, _, rfl, pi1 s (.int _) q⟩
  · cases e
theorem ok_min2 : CaOk K cls (fun xs H Q => ∃ i j, xs = [.int i, .int j] ∧ Q (.int (if j < i then j else i)) H) caMin2 := by
  intro F H vs ds d Q s b e q
  unfold caMin2 at e
  split at e
  · cases e
    obtain ⟨v, v', rfl, b1, b2⟩ := b.two
    obtain rfl := b1.int
    obtain rfl := b2.int
    exact ⟨_, _, rfl, pi1 s (.int _) q⟩
  · cases e
def caAbs : List D → Option D
  | [.int i] => some (.int (if i < 0 then -i else i))
  | _ => none
theorem ok_abs : CaOk K cls (fun xs H Q => ∃ i, xs = [.int i] ∧ Q (.int (if i < 0 then -i else i)) H) caAbs := by
  intro F H vs ds d Q s b e q
  unfold caAbs at e
  split at e
  · cases e
    obtain ⟨v, rfl, b1⟩ := b.one
    obtain rfl := b1.int
    exact ⟨_, rfl, pi1 s (.int _) q⟩
  · cases e
def caInt : List D → Option D
  | [.int i] => some (.int i)
  | [.bl k] => some (.int (if k = true then 1 else 0))
  | _ => none
@[simp] def sqKA : D → Option (List D)
  | .tp xs => some xs
  | d => sqK d
theorem Bo.sqKA {v : V} {d : D} {xs : List D} (s : Same F H) (b : Bo K cls F H v d) (e : sqKA d = some xs) : ∃ a vs, v = .ref a ∧ (SqL K H a vs ∨ SqT K H a vs) ∧ Rps K cls F vs xs := by
  cases d with
  | tp ys => obtain ⟨a, vs, e1, h1, h2, r⟩ := b.tpv s (xs := xs) (by simpa using e); exact ⟨a, vs, e1, .inr h1, r⟩
  | ls ys => obtain ⟨a, vs, e1, h1, r⟩ := b.sqK s (xs := xs) (by simpa using e); exact ⟨a, vs, e1, .inl h1, r⟩
  | sc ys => obtain ⟨a, vs, e1, h1, r⟩ := b.sqK s (xs := xs) (by simpa using e); exact ⟨a, vs, e1, .inl h1, r⟩
  | bo ys => obtain ⟨a, vs, e1, h1, r⟩ := b.sqK s (xs := xs) (by simpa using e); exact ⟨a, vs, e1, .inl h1, r⟩
  | _ => simp at e
def caList : List D → Option D
  | [d] => (sqKA d).map .ol
  | _ => none
theorem ok_list : CaOk K cls (fun xs H Q => ∃ p ys, xs = [.ref p] ∧ (SqL K H p ys ∨ SqT K H p ys) ∧ ∀ l, H l = none → Q (.ref l) (upd H l (.lst ys))) caList := by
  intro F H vs ds d Q s b e q
  unfold caList at e
  split at e
  · rename_i d0
    cases h1 : sqKA d0 with
    | none => rw [h1] at e; cases e
    | some xs =>
      rw [h1] at e
      cases e
      obtain ⟨v, rfl, b1⟩ := b.one
      obtain ⟨p, ws, rfl, h2, r⟩ := b1.sqKA s h1
      exact ⟨p, ws, rfl, h2, fun l hl => q _ _ _ [l] (Ext.own s hl) (fresh_new hl) (.inl (ow_new s hl r.toOws))⟩
  · cases e
def caTuple : List D → Option D
  | [d] => (sqKA d).map .tp
  | _ => none
theorem ok_tuple : CaOk K cls (fun xs H Q => ∃ p ys, xs = [.ref p] ∧ ((SqL K H p ys ∧ ∀ l, H l = none → Q (.ref l) (upd H l (.tup ys))) ∨ (SqT K H p ys ∧ Q (.ref p) H))) caTuple := by
  intro F H vs ds d Q s b e q
  unfold caTuple at e
  split at e
  · rename_i d0
    cases h1 : sqKA d0 with
    | none => rw [h1] at e; cases e
    | some xs =>
      rw [h1] at e
      cases e
      obtain ⟨v, rfl, b1⟩ := b.one
      have lst : ∀ {a : Addr} {ws : List V}, SqL K H a ws → Rps K cls F ws xs → ∀ l, H l = none → Q (.ref l) (upd H l (.tup ws)) := fun {a ws} h r l hl =>
        q _ _ _ [] (Ext.put s hl) Fresh.nil (.inl (.sh (.tp (SqT.of upd_same) (r.mono (Ext.put s hl).ff))))
      cases d0 with
      | tp ys =>
        obtain ⟨a, ws, rfl, h2, h3, r⟩ := b1.tpv s (xs := xs) (by simpa using h1)
        exact ⟨a, ws, rfl, .inr ⟨h2, pi1 s (.tp h3 r) q⟩⟩
      | ls ys => obtain ⟨a, ws, rfl, h2, r⟩ := b1.sqK s (xs := xs) (by simpa using h1); exact ⟨a, ws, rfl, .inl ⟨h2, lst h2 r⟩⟩
      | sc ys => obtain ⟨a, ws, rfl, h2, r⟩ := b1.sqK s (xs := xs) (by simpa using h1); exact ⟨a, ws, rfl, .inl ⟨h2, lst h2 r⟩⟩
      | bo ys => obtain ⟨a, ws, rfl, h2, r⟩ := b1.sqK s (xs := xs) (by simpa using h1); exact ⟨a, ws, rfl, .inl ⟨h2, lst h2 r⟩⟩
      | _ => simp at h1
  · cases e
def caSum : List D → Option D
  | [d] => match sqL d with
    | some xs => (intsOf xs).map fun ns => .int ns.sum
    | none => none
  | _ => none
theorem Bo.sqI {v : V} {d : D} {xs : List D} {ns : List Int} (s : Same F H) (b : Bo K cls F H v d) (e : DL.sqL d = some xs) (e2 : intsOf xs = some ns) : ∃ a, v = .ref a ∧ L2.SqL K H a (ns.map V.int) := by
  obtain ⟨a, vs, e1, h, r⟩ := Bo.sqL s b e
  rw [intsOf_eq e2] at r
  rw [r.ints] at h
  exact ⟨a, e1, h⟩
theorem ok_sum : CaOk K cls (rSum K) caSum := by
  intro F H vs ds d Q s b e q
  unfold caSum at e
  split at e
  · split at e
    · rename_i xs h1
      cases h2 : intsOf xs with
      | none => rw [h2] at e; cases e
      | some ns =>
        rw [h2] at e
        cases e
        obtain ⟨v, rfl, b1⟩ := b.one
        obtain ⟨a, rfl, h3⟩ := b1.sqI s h1 h2
        exact ⟨a, ns, rfl, h3, pi1 s (.int _) q⟩
    · cases e
  · cases e
def gst : List Int → Int
  | [] => 0
  | [x] => x
  | x :: xs => if gst xs > x then gst xs else x
def lst_ : List Int → Int
  | [] => 0
  | [x] => x
  | x :: xs => if lst_ xs < x then lst_ xs else x
theorem gst_spec : ∀ {ns : List Int}, ns ≠ [] → gst ns ∈ ns ∧ ∀ y ∈ ns, y ≤ gst ns
  | [], h => (h rfl).elim
  | [x], _ => by simp [gst]
  | x :: y :: r, _ => by
    obtain ⟨h1, h2⟩ := gst_spec (ns := y :: r) (by simp)
    have e : gst (x :: y :: r) = if gst (y :: r) > x then gst (y :: r) else x := rfl
    rw [e]
    split
    · refine ⟨List.mem_cons_of_mem _ h1, fun z hz => ?_⟩
      rcases List.mem_cons.mp hz with rfl | hz
      · omega
      · exact h2 z hz
    · refine ⟨List.mem_cons_self, fun z hz => ?_⟩
      rcases List.mem_cons.mp hz with rfl | hz
      · omega
      · have := h2 z hz; omega
theorem lst_spec : ∀ {ns : List Int}, ns ≠ [] → lst_ ns ∈ ns ∧ ∀ y ∈ ns, lst_ ns ≤ y
  | [], h => (h rfl).elim
  | [x], _ => by simp [lst_]
  | x :: y :: r, _ => by
    obtain ⟨h1, h2⟩ := lst_spec (ns := y :: r) (by simp)
    have e : lst_ (x :: y :: r) = if lst_ (y :: r) < x then lst_ (y :: r) else x := rfl
    rw [e]
    split
    · refine ⟨List.mem_cons_of_mem _ h1, fun z hz => ?_⟩
      rcases List.mem_cons.mp hz with rfl | hz
      · omega
      · exact h2 z hz
    · refine ⟨List.mem_cons_self, fun z hz => ?_⟩
      rcases List.mem_cons.mp hz with rfl | hz
      · omega
      · have := h2 z hz; omega
def caMax : List D → Option D
  | [d] => match sqL d with
    | some xs => match intsOf xs with
      | some ns => if ns.isEmpty = true then none else some (.int (gst ns))
      | none => none
    | none => none
  | _ => none
def caMin : List D → Option D
  | [d] => match sqL d with
    | some xs => match intsOf xs with
      | some ns => if ns.isEmpty = true then none else some (.int (lst_ ns))
      | none => none
    | none => none
  | _ => none
theorem ok_max : CaOk K cls (rMax K) caMax := by
  intro F H vs ds d Q s b e q
  unfold caMax at e
  split at e
  · split at e
    · rename_i xs h1
      split at e
      · rename_i ns h2
        split at e
        · cases e
        · rename_i hne
          cases e
          obtain ⟨v, rfl, b1⟩ := b.one
          obtain ⟨a, rfl, h3⟩ := b1.sqI s h1 h2
          have hne' : ns ≠ [] := fun z => hne (by rw [z]; rfl)
          obtain ⟨g1, g2⟩ := gst_spec hne'
          refine ⟨a, ns, rfl, h3, List.length_pos_iff.mpr hne', fun m m1 m2 => ?_⟩
          have : m = gst ns := Int.le_antisymm (g2 m m1) (m2 _ g1)
          rw [this]
          exact pi1 s (.int _) q
      · cases e
    · cases e
  · cases e
theorem ok_min : CaOk K cls (rMin K) caMin := by
  intro F H vs ds d Q s b e q
  unfold caMin at e
  split at e
  · split at e
    · rename_i xs h1
      split at e
      · rename_i ns h2
        split at e
        · cases e
        · rename_i hne
          cases e
          obtain ⟨v, rfl, b1⟩ := b.one
          obtain ⟨a, rfl, h3⟩ := b1.sqI s h1 h2
          have hne' : ns ≠ [] := fun z => hne (by rw [z]; rfl)
          obtain ⟨g1, g2⟩ := lst_spec hne'
          refine ⟨a, ns, rfl, h3, List.length_pos_iff.mpr hne', fun m m1 m2 => ?_⟩
          have : m = lst_ ns := Int.le_antisymm (m2 _ g1) (g2 m m1)
          rw [this]
          exact pi1 s (.int _) q
      · cases e
    · cases e
  · cases e
def ins (x : Int) : List Int → List Int
  | [] => [x]
  | y :: r => if x ≤ y then x :: y :: r else y :: ins x r
def srt : List Int → List Int
  | [] => []
  | x :: r => ins x (srt r)
theorem ins_perm (x : Int) : ∀ l : List Int, (ins x l).Perm (x :: l)
  | [] => List.Perm.refl _
  | y :: r => by
    unfold ins
    split
    · exact List.Perm.refl _
    · exact ((ins_perm x r).cons y).trans (List.Perm.swap x y r)
theorem srt_perm : ∀ l : List Int, (srt l).Perm l
  | [] => List.Perm.refl _
  | x :: r => (ins_perm x _).trans ((srt_perm r).cons x)
theorem ins_sorted (x : Int) : ∀ {l : List Int}, l.Pairwise (· ≤ ·) → (ins x l).Pairwise (· ≤ ·)
  | [], _ => by simp [ins]
  | y :: r, h => by
    unfold ins
    obtain ⟨h1, h2⟩ := List.pairwise_cons.mp h
    split
    · rename_i hxy
      refine List.pairwise_cons.mpr ⟨fun z hz => ?_, h⟩
      rcases List.mem_cons.mp hz with rfl | hz
      · exact hxy
      · exact Int.le_trans hxy (h1 z hz)
    · rename_i hxy
      refine List.pairwise_cons.mpr ⟨fun z hz => ?_, ins_sorted x h2⟩
      rcases List.mem_cons.mp ((ins_perm x r).mem_iff.mp hz) with rfl | hz
      · omega
      · exact h1 z hz
theorem srt_sorted : ∀ l : List Int, (srt l).Pairwise (· ≤ ·)
  | [] => List.Pairwise.nil
  | x :: r => ins_sorted x (srt_sorted r)
theorem srt_len (l : List Int) : (srt l).length = l.length := (srt_perm l).length_eq
def caSorted : List D → Option D
  | [d] => match sqL d with
    | some xs => (intsOf xs).map fun ns => .ol ((srt ns).map D.int)
    | none => none
  | _ => none
def caAll : List D → Option D
  | [d] => match sqL d with
    | some xs => (blsOf xs).map fun ns => .bl (ns.all id)
    | none => none
  | _ => none
theorem ok_all : CaOk K cls (rAll K) caAll := by
  intro F H vs ds d Q s b e q
  unfold caAll at e
  split at e
  · split at e
    · rename_i xs h1
      cases h2 : blsOf xs with
      | none => rw [h2] at e; cases e
      | some ns =>
        rw [h2] at e
        cases e
        obtain ⟨v, rfl, b1⟩ := b.one
        obtain ⟨a, vs, rfl, h3, r⟩ := b1.sqL s h1
        rw [blsOf_eq h2] at r
        rw [r.bls] at h3
        exact ⟨a, ns, rfl, h3, pi1 s (.bl _) q⟩
    · cases e
  · cases e
end
end DL

namespace DL
open PySem L2
theorem set_self {α : Type} : ∀ {l : List α} {i : Nat} {a : α}, l[i]? = some a → l.set i a = l
  | [], _, _, h => by simp at h
  | x :: l, 0, a, h => by simp at h; subst h; rfl
  | x :: l, i + 1, a, h => by rw [List.set_cons_succ, set_self (by simpa using h)]
structure Cn (X : Cx) (W : WX) (k : Nat) : Prop where
  tk : Takes X W
  hp : PassesOwn (model X.prog X.w) X.A X.env X.xe
  calm : X.calm = true
  nd : X.N.Nodup
  hr : Room k X.A
theorem Cn.mono {X : Cx} {W : WX} {j k : Nat} (c : Cn X W k) (h : j ≤ k) : Cn X W j := ⟨c.tk, c.hp, c.calm, c.nd, c.hr.mono h⟩
theorem Cn.eq {X : Cx} {W : WX} {k : Nat} (c : Cn X W k) : X.A.units + 64 < cLine := c.hr.units
abbrev W0 : WX := fun _ _ _ _ => False
theorem Cn.blk {X : Cx} {W : WX} {k : Nat} (c : Cn X W k) {s : Shared} {H : Hp} {scope : Scope} {cenv : PySem.Env} {fp : List Addr} : Cn (X.blk s H scope cenv fp) W0 k :=
  ⟨takes0, PassesOwn.never, c.calm, c.nd, c.hr⟩

structure ClsOk (K : PySem.W.Frag) (cls : Cls) (c : Nat) (C : Addr) (ns : List Str) : Prop where
  e : cls c = some (C, ns)
  nd : ns.Nodup
  cl : L2.Cls K C
  na : ∀ f ∈ ns, NoAttr K C f
theorem lookup_zip : ∀ {ns : List Str} {vs : List V} {i : Nat} {f : Str} {v : V}, ns.Nodup → ns[i]? = some f → vs[i]? = some v → (ns.zip vs).lookup f = some v
  | [], _, _, _, _, _, h, _ => by simp at h
  | n :: ns, [], _, _, _, _, _, h => by simp at h
  | n :: ns, w :: vs, 0, f, v, nd, h1, h2 => by
    simp at h1 h2
    subst h1 h2
    simp [List.lookup]
  | n :: ns, w :: vs, i + 1, f, v, nd, h1, h2 => by
    obtain ⟨a1, a2⟩ := List.nodup_cons.mp nd
    have h1' : ns[i]? = some f := by simpa using h1
    have : ¬ f = n := fun e => a1 (e ▸ List.mem_of_getElem? h1')
    rw [List.zip_cons_cons, List.lookup]
    have e : (f == n) = false := by simpa using this
    rw [e]
    exact lookup_zip a2 h1' (by simpa using h2)
def opFld (c i : Nat) : D → Option D
  | .ob c' ds => if c' = c then ds[i]? else none
  | .bb c' ds => if c' = c then ds[i]? else none
  | _ => none
section
variable {K : PySem.W.Frag} {cls : Cls} {W : WX} {X : Cx} {F H F' H' F1 H1 : Hp} {O O1 : List Addr} {Q : VK} {σ : St} {a b e : Expr} {es : List Expr} {fa fb fc : Env → Res D} {ga gb : Env → Res Bool} {fs : Env → Res (List D)} {pos : Pos}
theorem Bo.fld {c i : Nat} {C : Addr} {ns : List Str} {f : Str} {v : V} {d r : D} (s : Same F H) (T : ClsOk K cls c C ns) (hi : ns[i]? = some f) (b : Bo K cls F H v d) (e : opFld c i d = some r) :
    ∃ a dx fs w, v = .ref a ∧ H a = some (.ins C dx fs) ∧ fs.lookup f = some w ∧ Bo K cls F H w r := by
  cases d with
  | ob c' ds =>
    have e2 : (if c' = c then ds[i]? else none) = some r := e
    split at e2
    · rename_i hc
      subst hc
      cases b with
      | sh rr =>
        cases rr with
        | ob he hF hl hr =>
          have := he.symm.trans T.e
          cases this
          obtain ⟨w, h1, h2⟩ := hr.get e2
          exact ⟨_, _, _, w, rfl, s _ _ hF, lookup_zip T.nd hi h1, .sh h2⟩
    · cases e2
  | bb c' ds =>
    have e2 : (if c' = c then ds[i]? else none) = some r := e
    split at e2
    · rename_i hc
      subst hc
      cases b with
      | sh rr => cases rr
      | bb he hF hl hr =>
        have := he.symm.trans T.e
        cases this
        obtain ⟨w, h1, h2⟩ := hr.get e2
        exact ⟨_, _, _, w, rfl, hF, lookup_zip T.nd hi h1, h2⟩
    · cases e2
  | _ => cases e
theorem je_fld {c i : Nat} {C : Addr} {ns : List Str} {f : Str} (T : ClsOk X.K cls c C ns) (hi : ns[i]? = some f) (ha : JE X cls W a fa) (hb : attributeBase a f X.env (eval a X.env) = eval a X.env := by rfl) : JE X cls W (.Attribute a f pos) (eUn (opFld c i) fa) := by
  obtain ⟨ta, pa, da⟩ := ha.ex
  refine ⟨_, pe_fld pa hb, ?_⟩
  intro σ F H g O Q s st p
  rw [eUn_] at p
  refine da.go s st (fun c e => by rw [e] at p; exact p) (fun e => by rw [e] at p; exact p) fun d e v F1 H1 x1 b1 => ?_
  rw [e] at p
  simp only [Res.bind] at p
  cases eo : opFld c i (opd d) with
  | none => rw [eo] at p; exact p.elim
  | some r =>
    rw [eo] at p
    obtain ⟨a, dx, fs, w, rfl, h1, h2, h3⟩ := b1.fld x1.fh T hi eo
    exact ⟨_, _, _, _, w, rfl, h1, T.cl, T.na f (List.mem_of_getElem? hi), h2, p w F1 H1 [] x1 Fresh.nil (.inr ⟨h3, rfl⟩)⟩

def spD (K : PySem.W.Frag) (cls : Cls) (n : Nat) (g : List D → Res D) : Sp := fun vs H Q E => ∃ F ds, Same F H ∧ Rps K cls F vs ds ∧ ds.length = n ∧
  match g ds with
  | .ok d => ∀ v F' H' O', Ext F H F' H' → Fresh H O' → Ow K cls F' H' v d O' → Q v H'
  | .xc c => ∀ F' H', Ext F H F' H' → E (excV cls c) none H'
  | .bad => False
mutual
/-- nothing but scalars, in new lists -/
@[simp] def flat : D → Bool
  | .non => true
  | .bl _ => true
  | .int _ => true
  | .str _ => true
  | .ol xs => flats xs
  | _ => false
@[simp] def flats : List D → Bool
  | [] => true
  | d :: ds => flat d && flats ds
end
mutual
@[simp] def plok : D → Bool
  | .bd _ _ => false
  | .bo xs => ploks xs
  | .bb _ xs => ploks xs
  | _ => true
@[simp] def ploks : List D → Bool
  | [] => true
  | d :: ds => plok d && ploks ds
end
mutual
theorem Bo.pln (s : Same F H) : ∀ {v : V} {d : D}, Bo K cls F H v d → plok d = true → Rp K cls H v (pln d)
  | _, _, .sh r, _ => by
    have r' := r.mono s
    cases r <;> exact r'
  | _, _, .bo h r, e => by
    simp only [DL.pln]
    exact .ls h (Bos.plns s r (by simpa using e))
  | _, _, .bb hc h l r, e => by
    simp only [DL.pln]
    exact .ob hc h l (Bos.plns s r (by simpa using e))
  | _, _, .bd .., e => by simp at e
theorem Bos.plns (s : Same F H) : ∀ {v : List V} {d : List D}, Bos K cls F H v d → ploks d = true → Rps K cls H v (plns d)
  | _, _, .nil, _ => .nil
  | _, _, .cons a b, e => by
    simp only [ploks, Bool.and_eq_true] at e
    simp only [DL.plns]
    exact .cons (Bo.pln s a e.1) (Bos.plns s b e.2)
end
mutual
theorem Ow.flat : ∀ {v : V} {d : D} {O : List Addr}, Ow K cls F' H' v d O → flat d = true → (∀ a ∈ O, F a = none) → Ow K cls F H' v d O
  | _, _, _, .sh r, e, _ => by
    cases r with
    | non => exact .sh .non
    | bl b => exact .sh (.bl b)
    | int b => exact .sh (.int b)
    | str b => exact .sh (.str b)
    | _ => simp at e
  | _, _, _, .ol h1 h2 h3 r, e, k => .ol (k _ (by simp)) h2 h3 (Ows.flats r (by simpa using e) fun a ha => k a (by simp [ha]))
  | _, _, _, .od .., e, _ => by simp at e
  | _, _, _, .oo .., e, _ => by simp at e
theorem Ows.flats : ∀ {v : List V} {d : List D} {O : List Addr}, Ows K cls F' H' v d O → flats d = true → (∀ a ∈ O, F a = none) → Ows K cls F H' v d O
  | _, _, _, .nil, _, _ => .nil
  | _, _, _, .cons a b dj q, e, k => by
    simp only [DL.flats, Bool.and_eq_true] at e
    exact .cons (Ow.flat a e.1 fun x hx => k x (by simp [q, hx])) (Ows.flats b e.2 fun x hx => k x (by simp [q, hx])) dj q
end
def calD (g : List D → Res D) (ds : List D) : Res D :=
  if shd ds = true then g ds
  else if ploks ds = true then (g (plns ds)).bind fun d => if flat d = true then .ok d else .bad
  else .bad
def eOwn (g : List D → Res D) (fs : Env → Res (List D)) : Env → Res D := fun e => (fs e).bind fun ds => calD g ds
@[simp] theorem eOwn_ (g : List D → Res D) (fs : Env → Res (List D)) (e : Env) : eOwn g fs e = (fs e).bind fun ds => calD g ds := rfl
theorem plns_len : ∀ ds : List D, (plns ds).length = ds.length
  | [] => rfl
  | d :: ds => by simp [plns, plns_len ds]
theorem spD_call {n : Nat} {g : List D → Res D} {vs : List V} {ds : List D} {E : XK} (s : Same F H) (b : Bos K cls F H vs ds) (hn : ds.length = n)
    (p : match calD g ds with
      | .ok d => ∀ v F' H' O', Ext F H F' H' → Fresh H O' → Ow K cls F' H' v d O' → Q v H'
      | .xc c => ∀ F' H', Ext F H F' H' → E (excV cls c) none H'
      | .bad => False) : spD K cls n g vs H Q E := by
  unfold calD at p
  by_cases h1 : shd ds = true
  · rw [if_pos h1] at p
    exact ⟨F, ds, s, b.toRps h1, hn, p⟩
  · rw [if_neg h1] at p
    by_cases h2 : ploks ds = true
    · rw [if_pos h2] at p
      refine ⟨H, plns ds, .refl H, b.plns s h2, by rw [plns_len]; exact hn, ?_⟩
      have up : ∀ {F' H'}, Ext H H F' H' → Ext F H F H' := fun x => ⟨.refl F, x.hh, s.trans x.hh, fun _ h _ => h⟩
      cases e : g (plns ds) with
      | ok d =>
        rw [e] at p
        simp only [Res.bind] at p ⊢
        by_cases h3 : flat d = true
        · rw [if_pos h3] at p
          intro v F' H' O' x fr ow
          refine p v F H' O' (up x) fr (ow.flat h3 fun a ha => ?_)
          cases q : F a with
          | none => rfl
          | some o => have := fr a ha; rw [s a o q] at this; cases this
        · rw [if_neg h3] at p; exact p.elim
      | xc c =>
        rw [e] at p
        exact fun F' H' x => p F H' (up x)
      | bad => rw [e] at p; exact p.elim
    · rw [if_neg h2] at p; exact p.elim
theorem je_own {x : Str} {f : Addr} {fd : FuncData} {ps : List Str} {k n : Nat} {g : List D → Res D} {p : Pos} (c : Cn X W k) (G : FnOk X.prog X.w X.K X.mg X.base (L2.CX X.prog X.w) k f fd ps (spD X.K cls n g))
    (hm : X.mg x = some (.ref f)) (hk : PySem.W.keepIn X.K (.ref f) = true) (hb : Binds X.K fd ps []) (ha : JA X cls W (e :: es) fs) (hn : ∀ g ds, fs g = .ok ds → ds.length = n) (hg : Gl X x := by rfl)
    (hdb : (x == ("__debug__" : Str)) = false := by decide) (he : starEach (e :: es) X.env = (false, eval e X.env) :: starEach es X.env := by rfl) (hpl : (backTo pos (starEach es X.env)).any (·.1) = false := by rfl) :
    JE X cls W (.Call (.Name x p) (e :: es) [] pos) (eOwn g fs) := by
  obtain ⟨ta, pa, da⟩ := ha.ex
  refine ⟨_, pe_callS G c.hr hg hm hk hb (fun σ => passAt c.tk σ) pa hdb he hpl, ?_⟩
  intro σ F H env O Q s st p
  rw [eOwn_] at p
  refine da.go s st (fun c e => by rw [e] at p; exact p) (fun e => by rw [e] at p; exact p) fun ds e vs F1 H1 x1 b1 => ?_
  rw [e] at p
  simp only [Res.bind] at p
  refine spD_call x1.fh b1 (hn env ds e) ?_
  cases eo : calD g ds with
  | ok d => rw [eo] at p; exact fun v F' H' O' y fr ow => p v F' H' O' (x1.trans y) (fr.mono x1.hh) (.inl ow)
  | xc c => rw [eo] at p; exact fun F' H' y => p F' H' (x1.trans y)
  | bad => rw [eo] at p; exact p
theorem an_len {g : Env} {ds : List D} {n : Nat} (h : ∀ g ds, fs g = .ok ds → ds.length = n) (e : aCons fa fs g = .ok ds) : ds.length = n + 1 := by
  rw [aCons_] at e
  cases q1 : fa g with
  | ok d =>
    rw [q1] at e
    simp only [Res.bind] at e
    cases q2 : fs g with
    | ok r => rw [q2] at e; cases e; simp [h g r q2]
    | xc c => rw [q2] at e; cases e
    | bad => rw [q2] at e; cases e
  | xc c => rw [q1] at e; cases e
  | bad => rw [q1] at e; cases e
theorem al0 : ∀ g ds, aNil g = .ok ds → ds.length = 0 := fun g ds e => by cases e; rfl
theorem alS {n : Nat} (h : ∀ g ds, fs g = .ok ds → ds.length = n) : ∀ g ds, aCons fa fs g = .ok ds → ds.length = n + 1 := fun g ds e => an_len h e

def PostS (K : PySem.W.Frag) (cls : Cls) (W : WX) (D : Ends) (F H : Hp) (O : List Addr) : Out → Prop
  | .nx g => ∀ σ' F' H' O', SExt F H O F' H' O' → Sts K cls F' H' σ' g O' → D.nx σ' H'
  | .rt d => ∀ v F' H' O', SExt F H O F' H' O' → Ow K cls F' H' v d O' → D.rt v H'
  | .bk g => ∀ σ' F' H' O', SExt F H O F' H' O' → Sts K cls F' H' σ' g O' → D.bk σ' H'
  | .ct g => ∀ σ' F' H' O', SExt F H O F' H' O' → Sts K cls F' H' σ' g O' → D.ct σ' H'
  | .xc c g => ∀ σ' F' H' O', SExt F H O F' H' O' → Sts K cls F' H' σ' g O' → W (excV cls c) none σ' H'
  | .bad => False
def DS (K : PySem.W.Frag) (cls : Cls) (W : WX) (t : TS) (f : Env → Out) : Prop :=
  ∀ D σ F H g O, Same F H → Sts K cls F H σ g O → PostS K cls W D F H O (f g) → t D σ H
structure JS (X : Cx) (cls : Cls) (W : WX) (st : Stmt) (f : Env → Out) : Prop where
  ex : ∃ t, PS X st t ∧ DS X.K cls W t f
structure JSs (X : Cx) (cls : Cls) (W : WX) (st : List Stmt) (f : Env → Out) : Prop where
  ex : ∃ t, PSs X st t ∧ DS X.K cls W t f
theorem PostS.mono {D : Ends} {r : Out} (x : SExt F H O F1 H1 O1) (p : PostS K cls W D F H O r) : PostS K cls W D F1 H1 O1 r := by
  cases r with
  | nx g => exact fun σ' F' H' O' y => p σ' F' H' O' (x.trans y)
  | rt d => exact fun v F' H' O' y => p v F' H' O' (x.trans y)
  | bk g => exact fun σ' F' H' O' y => p σ' F' H' O' (x.trans y)
  | ct g => exact fun σ' F' H' O' y => p σ' F' H' O' (x.trans y)
  | xc c g => exact fun σ' F' H' O' y => p σ' F' H' O' (x.trans y)
  | bad => exact p
def Res.st {α : Type} (r : Res α) (g : Env) (f : α → Out) : Out := match r with
  | .ok a => f a
  | .xc c => .xc c g
  | .bad => .bad
@[simp] theorem Res.st_ok {α : Type} (a : α) (g : Env) (f : α → Out) : (Res.ok a).st g f = f a := rfl
@[simp] theorem Res.st_xc {α : Type} (c : Nat) (g : Env) (f : α → Out) : (Res.xc c : Res α).st g f = .xc c g := rfl
@[simp] theorem Res.st_bad {α : Type} (g : Env) (f : α → Out) : (Res.bad : Res α).st g f = .bad := rfl
theorem xc_st {D : Ends} {c : Nat} {g : Env} (st : Sts K cls F H σ g O) (p : PostS K cls W D F H O (.xc c g)) : ∀ F' H', Ext F H F' H' → W (excV cls c) none σ H' :=
  fun F' H' x => p σ F' H' O (x.sext fun a h => .inl h) (st.ext x)
def sSeq (f u : Env → Out) : Env → Out := fun g => match f g with
  | .nx g' => u g'
  | o => o
@[simp] theorem sSeq_ (f u : Env → Out) (g : Env) : sSeq f u g = match f g with
  | .nx g' => u g'
  | o => o := rfl
def sNil : Env → Out := fun g => .nx g
@[simp] theorem sNil_ (g : Env) : sNil g = .nx g := rfl
theorem ds_seq {t u : TS} {f1 f2 : Env → Out} (h1 : DS K cls W t f1) (h2 : DS K cls W u f2) : DS K cls W (tSeq t u) (sSeq f1 f2) := by
  intro D σ F H g O s st p
  rw [sSeq_] at p
  refine h1 _ σ F H g O s st ?_
  cases e : f1 g with
  | nx g' => rw [e] at p; exact fun σ' F' H' O' x st' => h2 D σ' F' H' g' O' x.fh st' (PostS.mono x p)
  | rt d => rw [e] at p; exact p
  | bk g' => rw [e] at p; exact p
  | ct g' => rw [e] at p; exact p
  | xc c g' => rw [e] at p; exact p
  | bad => rw [e] at p; exact p
theorem jss_nil : JSs X cls W [] sNil := ⟨_, pss_nil, fun D σ F H g O s st p => p σ F H O (.refl s) st⟩
theorem jss_cons {st : Stmt} {sts : List Stmt} {f1 f2 : Env → Out} (h1 : JS X cls W st f1) (h2 : JSs X cls W sts f2) : JSs X cls W (st :: sts) (sSeq f1 f2) := by
  obtain ⟨t, p, d⟩ := h1.ex
  obtain ⟨u, q, d'⟩ := h2.ex
  exact ⟨_, pss_cons p q, ds_seq d d'⟩
theorem jss_one {st : Stmt} {f1 : Env → Out} (h1 : JS X cls W st f1) : JSs X cls W [st] f1 := by
  obtain ⟨t, p, d⟩ := h1.ex
  exact ⟨_, pss_one p, d⟩
def sNever : Env → Out := fun _ => .bad
@[simp] theorem sNever_ (g : Env) : sNever g = .bad := rfl
theorem jss_never {st : List Stmt} : JSs X cls W st sNever := ⟨_, pss_never, fun _ _ _ _ _ _ _ _ p => p⟩
def sBreak : Env → Out := fun g => .bk g
@[simp] theorem sBreak_ (g : Env) : sBreak g = .bk g := rfl
def sCont : Env → Out := fun g => .ct g
@[simp] theorem sCont_ (g : Env) : sCont g = .ct g := rfl
def sIf (c : Env → Res Bool) (f1 f2 : Env → Out) : Env → Out := fun g => (c g).st g fun k => if k = true then f1 g else f2 g
@[simp] theorem sIf_ (c : Env → Res Bool) (f1 f2 : Env → Out) (g : Env) : sIf c f1 f2 g = (c g).st g fun k => if k = true then f1 g else f2 g := rfl
theorem js_if {c : Expr} {s1 s2 : List Stmt} {f1 f2 : Env → Out} (hc : JT X cls W c ga) (h1 : JSs X cls W s1 f1) (h2 : JSs X cls W s2 f2) : JS X cls W (.If c s1 s2 pos) (sIf ga f1 f2) := by
  obtain ⟨tc, pc, dc⟩ := hc.ex
  obtain ⟨t1, p1, d1⟩ := h1.ex
  obtain ⟨t2, p2, d2⟩ := h2.ex
  refine ⟨_, ps_if pc p1 p2, ?_⟩
  intro D σ F H g O s st p
  rw [sIf_] at p
  refine dc.go s st (fun c e => by rw [e] at p; exact xc_st st p) (fun e => by rw [e] at p; exact p) fun k e F1 H1 x => ?_
  rw [e, Res.st_ok] at p
  have x' : SExt F H O F1 H1 O := x.sext fun a h => .inl h
  cases k with
  | true =>
    rw [if_pos rfl] at p
    rw [if_pos rfl]
    exact d1 D σ F1 H1 g O x.fh (st.ext x) (p.mono x')
  | false =>
    rw [if_neg (by decide)] at p
    rw [if_neg (by decide)]
    exact d2 D σ F1 H1 g O x.fh (st.ext x) (p.mono x')
theorem DE.goS {t : TE} (ha : DE K cls W t fa) {σ : St} {F H : Hp} {g : Env} {O : List Addr} {Q : VK} {Dn : Ends} {f : D → Out} (s : Same F H) (st : Sts K cls F H σ g O)
    (p : PostS K cls W Dn F H O (((fa g).bind kp).st g f)) (hk : ∀ d, (fa g).bind kp = .ok d → PostS K cls W Dn F H O (f d) → ∀ v F' H' O', Ext F H F' H' → Fresh H O' → Ow K cls F' H' v d O' → Q v H') : t σ H Q := by
  refine ha.goO s st (fun c e => ?_) (fun e => by rw [e] at p; exact p) fun d e => ?_
  · have e' : (fa g).bind kp = .xc c := by rw [e]; rfl
    rw [e'] at p
    exact xc_st st p
  · rw [e] at p
    exact hk d e p
def sAsg (i : Nat) (fa : Env → Res D) : Env → Out := fun g => ((fa g).bind kp).st g fun d => .nx (g.set i d)
@[simp] theorem sAsg_ (i : Nat) (fa : Env → Res D) (g : Env) : sAsg i fa g = ((fa g).bind kp).st g fun d => .nx (g.set i d) := rfl
def sAsgF (i : Nat) (fa : Env → Res D) : Env → Out := fun g => ((fa g).bind kp).st g fun d => if nod d = true then .nx (g.set i (frz d)) else .bad
@[simp] theorem sAsgF_ (i : Nat) (fa : Env → Res D) (g : Env) : sAsgF i fa g = ((fa g).bind kp).st g fun d => if nod d = true then .nx (g.set i (frz d)) else .bad := rfl
theorem Sts.put {i : Nat} {v : V} {d : D} {g : Env} {Od : List Addr} (st : Sts K cls F H σ g O) (x : Ext F H F' H') (fr : Fresh H Od) (w : Ow K cls F' H' v d Od) :
    ∃ O'', Sts K cls F' H' (σ.set i (some v)) (g.set i d) O'' ∧ SExt F H O F' H' O'' := by
  have ne : ∀ a ∈ O, H a ≠ none := fun a ha => (st.dom a ha).2
  by_cases hi : i < g.length
  · obtain ⟨O1, h1, h2, h3, h4⟩ := st.at i hi
    obtain ⟨O'', q1, q2⟩ := h3 F' H' v d Od (fun b hb _ => x.get (st.dom b hb).1 (ne b hb)) x.ff w (fun a h1 h2 => absurd (fr a h1) (ne a h2))
    exact ⟨O'', q1, x.sext fun a ha => (q2 a ha).imp id (fr a)⟩
  · have hl := st.len
    rw [List.set_eq_of_length_le (by omega), List.set_eq_of_length_le (by omega)]
    exact ⟨O, st.ext x, x.sext fun a h => .inl h⟩
theorem Sts.putS {i : Nat} {v : V} {d : D} {g : Env} (s : Same F H) (st : Sts K cls F H σ g O) (w : Rp K cls F v d) :
    ∃ O'', Sts K cls F H (σ.set i (some v)) (g.set i d) O'' ∧ SExt F H O F H O'' := st.put (.refl s) Fresh.nil (.sh w)
theorem ds_asg {t : TE} {i : Nat} (ha : DE K cls W t fa) : DS K cls W (tAsg t (gName i)) (sAsg i fa) := by
  intro D σ F H g O s st p
  refine ha.goS s st p fun d e p v F1 H1 O1 x fr w => ?_
  obtain ⟨O'', q1, q2⟩ := st.put (i := i) x fr w
  exact p _ F1 H1 O'' q2 q1
theorem ds_asgF {t : TE} {i : Nat} (ha : DE K cls W t fa) : DS K cls W (tAsg t (gName i)) (sAsgF i fa) := by
  intro D σ F H g O s st p
  refine ha.goS s st p fun d e p v F1 H1 O1 x fr w => ?_
  split at p
  · rename_i n
    have no : ∀ a ∈ O1, F1 a = none := fun a ha => (w.dom a ha).1
    have x2 := addF_ext x fr no
    obtain ⟨O'', q1, q2⟩ := st.put (i := i) x2 Fresh.nil (.sh (w.freeze (addF_same no) addF_at n))
    exact p _ _ H1 O'' q2 q1
  · exact p.elim
theorem js_set {i : Nat} {x : Str} {pos' : Pos} {k : Nat} (c : Cn X W k) (hi : X.N[i]? = some x) (hx : Loc X.env.scope x) (ha : JE X cls W a fa) (hs : swapsWith a (some (.Name x pos')) pos.line X.env = pure false := by rfl)
    (hf : X.fn x = true ∨ X.env.scope.names.lookup x = some .local := by first | exact .inl rfl | exact .inr rfl) : JS X cls W (.Assign [.Name x pos'] a pos) (sAsg i fa) := by
  obtain ⟨t, p, d⟩ := ha.ex
  exact ⟨_, ps_set c.nd hi hx p hs hf, ds_asg d⟩
theorem js_setF {i : Nat} {x : Str} {pos' : Pos} {k : Nat} (c : Cn X W k) (hi : X.N[i]? = some x) (hx : Loc X.env.scope x) (ha : JE X cls W a fa) (hs : swapsWith a (some (.Name x pos')) pos.line X.env = pure false := by rfl)
    (hf : X.fn x = true ∨ X.env.scope.names.lookup x = some .local := by first | exact .inl rfl | exact .inr rfl) : JS X cls W (.Assign [.Name x pos'] a pos) (sAsgF i fa) := by
  obtain ⟨t, p, d⟩ := ha.ex
  exact ⟨_, ps_set c.nd hi hx p hs hf, ds_asgF d⟩
def sRet (fa : Env → Res D) : Env → Out := fun g => ((fa g).bind kp).st g .rt
@[simp] theorem sRet_ (fa : Env → Res D) (g : Env) : sRet fa g = ((fa g).bind kp).st g .rt := rfl
theorem js_ret (ha : JE X cls W a fa) : JS X cls W (.Return (some a) pos) (sRet fa) := by
  obtain ⟨t, p, d⟩ := ha.ex
  refine ⟨_, ps_ret p, ?_⟩
  intro D σ F H g O s st p
  exact d.goS s st p fun d e p v F1 H1 O1 x fr w => p v F1 H1 O1 (x.sext fun a h => .inr (fr a h)) w
def sRetV (i : Nat) : Env → Out := fun g => match g[i]? with
  | some .un => .bad
  | some d => .rt d
  | none => .bad
@[simp] theorem sRetV_ (i : Nat) (g : Env) : sRetV i g = match g[i]? with
  | some .un => .bad
  | some d => .rt d
  | none => .bad := rfl
theorem js_retV (i : Nat) {x : Str} {pos' : Pos} (hN : X.N[i]? = some x := by rfl) (hv : Vis X.env.scope x := by first | exact Or.inl rfl | exact Or.inr (Or.inl rfl) | exact Or.inr (Or.inr rfl)) (hd : (x == ("__debug__" : Str)) = false := by decide)
    (hcd : (x == ("__classdict__" : Str)) = false := by decide) : JS X cls W (.Return (some (.Name x pos')) pos) (sRetV i) := by
  refine ⟨_, ps_ret (pe_var hN hv hd hcd), ?_⟩
  intro D σ F H g O s st p
  rw [sRetV_] at p
  cases e : g[i]? with
  | none => rw [e] at p; exact p.elim
  | some d =>
    have hi : i < g.length := (List.getElem?_eq_some_iff.mp e).1
    obtain ⟨O1, h1, h2, _⟩ := st.at i hi
    rcases h2 with ⟨h2, _⟩ | ⟨v, d', h2, h3, ow⟩
    · rw [e] at h2; cases h2; rw [e] at p; exact p.elim
    · rw [e] at h3; cases h3
      rw [e] at p
      have q : PostS X.K cls W D F H O (.rt d) := by cases d <;> first | exact p | exact p.elim
      exact ⟨v, h2, q v F H O1 ⟨.refl F, s, fun _ _ h _ => h, fun _ h _ _ => h, fun a ha => .inl (h1 a ha)⟩ ow⟩
def sRetN : Env → Out := fun _ => .rt .non
@[simp] theorem sRetN_ (g : Env) : sRetN g = .rt .non := rfl
def sExp (fa : Env → Res D) : Env → Out := fun g => (fa g).st g fun _ => .nx g
@[simp] theorem sExp_ (fa : Env → Res D) (g : Env) : sExp fa g = (fa g).st g fun _ => .nx g := rfl
theorem js_exp (ha : JE X cls W a fa) (hs : swapsWith a none pos.line X.env = pure false := by rfl) : JS X cls W (.Expr a pos) (sExp fa) := by
  obtain ⟨t, p, d⟩ := ha.ex
  refine ⟨_, ps_expr p hs, ?_⟩
  intro D σ F H g O s st p
  rw [sExp_] at p
  exact d.go s st (fun c e => by rw [e] at p; exact xc_st st p) (fun e => by rw [e] at p; exact p) fun d e v F1 H1 x b => by
    rw [e] at p
    exact p σ F1 H1 O (x.sext fun a h => .inl h) (st.ext x)
def frzAt (g : Env) (i : Nat) : Env := match g[i]? with
  | some d => if nod d = true then g.set i (frz d) else g
  | none => g
def sFrz (i : Nat) (f : Env → Out) : Env → Out := fun g => f (frzAt g i)
@[simp] theorem sFrz_ (i : Nat) (f : Env → Out) (g : Env) : sFrz i f g = f (frzAt g i) := rfl
theorem Sts.frzAt (s : Same F H) {g : Env} (i : Nat) (st : Sts K cls F H σ g O) : ∃ F' O', SExt F H O F' H O' ∧ Sts K cls F' H σ (frzAt g i) O' := by
  unfold DL.frzAt
  cases e : g[i]? with
  | none => exact ⟨F, O, .refl s, st⟩
  | some d =>
    simp only []
    by_cases n : nod d = true
    · rw [if_pos n]
      have hi : i < g.length := (List.getElem?_eq_some_iff.mp e).1
      obtain ⟨O1, h1, h2, h3, h4⟩ := st.at i hi
      rcases h2 with ⟨h2, _⟩ | ⟨v, d', h2, h3', ow⟩
      · rw [e] at h2; cases h2
        rw [show frz .un = .un from rfl, set_self e]
        exact ⟨F, O, .refl s, st⟩
      · rw [e] at h3'; cases h3'
        have no : ∀ a ∈ O1, F a = none := fun a ha => (ow.dom a ha).1
        obtain ⟨O'', q1, q2⟩ := h3 (addF F H O1) H v (frz d) [] (fun b hb hn => ⟨rfl, by rw [addF_no hn]; exact (st.dom b hb).1⟩) (addF_same no) (.sh (ow.freeze (addF_same no) addF_at n)) (fun _ h => nomatch h)
        rw [set_self h2] at q1
        refine ⟨_, O'', ⟨addF_same no, fun a o e => ?_, fun _ _ h _ => h, fun a ha hb hc => ?_, fun a ha => .inl ((q2 a ha).resolve_right (fun h => nomatch h))⟩, q1⟩
        · unfold addF at e
          split at e
          · exact e
          · exact s a o e
        · rw [addF_no fun q => hc (h1 a q)]; exact ha
    · rw [if_neg n]; exact ⟨F, O, .refl s, st⟩
theorem ds_frz {t : TS} {f : Env → Out} {i : Nat} (h : DS K cls W t f) : DS K cls W t (sFrz i f) := by
  intro D σ F H g O s st p
  obtain ⟨F', O', x, st'⟩ := st.frzAt s i
  exact h D σ F' H (frzAt g i) O' x.fh st' (p.mono x)
theorem js_frz {st : Stmt} {f : Env → Out} (i : Nat) (h : JS X cls W st f) : JS X cls W st (sFrz i f) := by
  obtain ⟨t, p, d⟩ := h.ex
  exact ⟨t, p, ds_frz d⟩
end
end DL

namespace DL
open PySem L2
theorem wipe_set {σ : St} {i : Nat} {o : Option V} : ∀ {vs : List Nat}, wipe (σ.set i o) vs = if i ∈ vs then wipe σ vs else (wipe σ vs).set i o
  | [] => by simp [wipe]
  | v :: vs => by
    unfold wipe
    rw [wipe_set (vs := vs)]
    by_cases h : i = v
    · subst h
      simp only [List.mem_cons, true_or, if_true]
      split
      · rfl
      · rw [List.set_set]
    · by_cases h2 : i ∈ vs
      · simp [h2]
      · have : ¬ i ∈ v :: vs := by simp [h, h2]
        rw [if_neg this, if_neg h2, List.set_comm _ _ h]
theorem wipe_in {σ : St} {i : Nat} {o : Option V} {vs : List Nat} (h : i ∈ vs) : wipe (σ.set i o) vs = wipe σ vs := by rw [wipe_set, if_pos h]
theorem wipe_wipe {σ : St} : ∀ {us vs : List Nat}, (∀ i ∈ us, i ∈ vs) → wipe (wipe σ us) vs = wipe σ vs
  | [], _, _ => rfl
  | u :: us, vs, h => by
    show wipe ((wipe σ us).set u none) vs = _
    rw [wipe_in (h u (by simp))]
    exact wipe_wipe fun i hi => h i (by simp [hi])
def wipeG (g : Env) : List Nat → Env
  | [] => g
  | v :: vs => (wipeG g vs).set v .un
@[simp] theorem wipeG_nil (g : Env) : wipeG g [] = g := rfl
@[simp] theorem wipeG_cons (g : Env) (v : Nat) (vs : List Nat) : wipeG g (v :: vs) = (wipeG g vs).set v .un := rfl
section
variable {K : PySem.W.Frag} {cls : Cls} {W : WX} {X : Cx} {F H F' H' F1 H1 : Hp} {O O1 : List Addr} {Q : VK} {σ : St} {a b e tg iter : Expr} {es : List Expr} {fa fb fc : Env → Res D} {ga gb : Env → Res Bool} {fs : Env → Res (List D)} {pos : Pos}
theorem Sts.wipe (s : Same F H) {g : Env} (st : Sts K cls F H σ g O) : ∀ vs : List Nat, ∃ O', Sts K cls F H (wipe σ vs) (wipeG g vs) O' ∧ ∀ a ∈ O', a ∈ O
  | [] => ⟨O, st, fun _ h => h⟩
  | v :: vs => by
    obtain ⟨O', st', h'⟩ := st.wipe s vs
    by_cases hi : v < (wipeG g vs).length
    · obtain ⟨O1, h1, h2, h3, h4⟩ := st'.at v hi
      obtain ⟨O'', q1, q2, _⟩ := h4 F H none (fun b hb _ => ⟨rfl, (st'.dom b hb).1⟩) (.refl F)
      exact ⟨O'', q1, fun a ha => h' a (q2 a ha)⟩
    · have hl := st'.len
      refine ⟨O', ?_, h'⟩
      show Sts K cls F H ((L2.wipe σ vs).set v none) ((wipeG g vs).set v .un) O'
      rw [List.set_eq_of_length_le (by omega), List.set_eq_of_length_le (by omega)]
      exact st'

def DG (K : PySem.W.Frag) (cls : Cls) (t : TG) (f : D → Env → Option Env) (ss : List Nat) : Prop :=
  ∀ v d σ F H g O g' Q, Same F H → Sts K cls F H σ g O → Rp K cls F v d → f d g = some g' →
    (∀ σ' O', SExt F H O F H O' → Sts K cls F H σ' g' O' → (∀ vs : List Nat, (∀ i ∈ ss, i ∈ vs) → wipe σ' vs = wipe σ vs) → Q σ' H) → t v σ H Q
def DGs (K : PySem.W.Frag) (cls : Cls) (t : TGs) (f : List D → Env → Option Env) (ss : List Nat) : Prop :=
  ∀ v d σ F H g O g' Q, Same F H → Sts K cls F H σ g O → Rps K cls F v d → f d g = some g' →
    (∀ σ' O', SExt F H O F H O' → Sts K cls F H σ' g' O' → (∀ vs : List Nat, (∀ i ∈ ss, i ∈ vs) → wipe σ' vs = wipe σ vs) → Q σ' H) → t v σ H Q
structure JG (X : Cx) (cls : Cls) (e : Expr) (f : D → Env → Option Env) (ss : List Nat) : Prop where
  ex : ∃ t, PG X e t ∧ DG X.K cls t f ss
structure JGs (X : Cx) (cls : Cls) (e : List Expr) (f : List D → Env → Option Env) (ss : List Nat) : Prop where
  ex : ∃ t, PGs X e t ∧ DGs X.K cls t f ss
def gtN (i : Nat) : D → Env → Option Env := fun d g => some (g.set i d)
@[simp] theorem gtN_ (i : Nat) (d : D) (g : Env) : gtN i d g = some (g.set i d) := rfl
def gtNil : List D → Env → Option Env := fun ds g => match ds with | [] => some g | _ => none
@[simp] theorem gtNil_nil (g : Env) : gtNil [] g = some g := rfl
def gtCons (f : D → Env → Option Env) (fs : List D → Env → Option Env) : List D → Env → Option Env := fun ds g => match ds with
  | d :: r => match f d g with
    | some g1 => fs r g1
    | none => none
  | [] => none
@[simp] theorem gtCons_cons (f : D → Env → Option Env) (fs : List D → Env → Option Env) (d : D) (r : List D) (g : Env) : gtCons f fs (d :: r) g = match f d g with
    | some g1 => fs r g1
    | none => none := rfl
def gtT (n : Nat) (fs : List D → Env → Option Env) : D → Env → Option Env := fun d g => match d with
  | .tp ds => if ds.length = n then fs ds g else none
  | .ls ds => if ds.length = n then fs ds g else none
  | _ => none
@[simp] theorem gtT_tp (n : Nat) (fs : List D → Env → Option Env) (ds : List D) (g : Env) : gtT n fs (.tp ds) g = if ds.length = n then fs ds g else none := rfl
@[simp] theorem gtT_ls (n : Nat) (fs : List D → Env → Option Env) (ds : List D) (g : Env) : gtT n fs (.ls ds) g = if ds.length = n then fs ds g else none := rfl
theorem jg_name {i : Nat} {x : Str} (hN : X.N.Nodup) (hi : X.N[i]? = some x) (hx : Loc X.env.scope x) (hf : X.fn x = true ∨ X.env.scope.names.lookup x = some .local := by first | exact .inl rfl | exact .inr rfl) : JG X cls (.Name x pos) (gtN i) [i] := by
  refine ⟨_, pg_name hN hi hx hf, ?_⟩
  intro v d σ F H g O g' Q s st r e k
  cases e
  obtain ⟨O', q1, q2⟩ := st.putS (i := i) s r
  exact k _ O' q2 q1 fun vs h => wipe_in (h i (by simp))
theorem jgs_nil : JGs X cls [] gtNil [] := by
  refine ⟨_, pgs_nil, ?_⟩
  intro v d σ F H g O g' Q s st r e k
  cases r with
  | nil => cases e; exact ⟨rfl, k σ O (.refl s) st fun _ _ => rfl⟩
  | cons => cases e
theorem jgs_cons {f : D → Env → Option Env} {fs : List D → Env → Option Env} {ss us : List Nat} (h1 : JG X cls e f ss) (h2 : JGs X cls es fs us) (hs : (assignEach (e :: es) X.env).map (·.2) = assign e X.env :: (assignEach es X.env).map (·.2) := by rfl) :
    JGs X cls (e :: es) (gtCons f fs) (ss ++ us) := by
  obtain ⟨t, p, d⟩ := h1.ex
  obtain ⟨u, q, d'⟩ := h2.ex
  refine ⟨_, pgs_cons p q hs, ?_⟩
  intro v ds σ F H g O g' Q s st r e k
  cases r with
  | nil => cases e
  | cons r1 r2 =>
    rename_i v1 d1 vs1 ds1
    rw [gtCons_cons] at e
    cases e1 : f d1 g with
    | none => rw [e1] at e; cases e
    | some g1 =>
      rw [e1] at e
      refine ⟨v1, vs1, rfl, d v1 d1 σ F H g O g1 _ s st r1 e1 fun σ1 O1 x1 st1 w1 => ?_⟩
      refine d' vs1 ds1 σ1 F H g1 O1 g' _ s st1 r2 e fun σ2 O2 x2 st2 w2 => ?_
      exact k σ2 O2 (x1.trans x2) st2 fun vs h => (w2 vs fun i hi => h i (List.mem_append_right _ hi)).trans (w1 vs fun i hi => h i (List.mem_append_left _ hi))
theorem pg_or {t u : TG} (h : PG X tg t) (h' : PG X tg u) : PG X tg (fun v σ H Q => t v σ H Q ∨ u v σ H Q) :=
  ⟨fun pins s σ H v uu Q I r q => q.elim (h.run pins s σ H v uu Q I r) (h'.run pins s σ H v uu Q I r)⟩
theorem jg_tup {kk n : Nat} {fs : List D → Env → Option Env} {ss : List Nat} (hc : X.calm = true) (h : JGs X cls es fs ss)
    (hn : (assignEach es X.env).length = n := by rfl) (hst : (assignEach es X.env).findIdx? (·.1) = none := by rfl) : JG X cls (.Tuple es kk pos) (gtT n fs) ss := by
  obtain ⟨t, p, d⟩ := h.ex
  refine ⟨_, pg_or (pg_tup hc p hn hst) (pg_lst hc p hn hst), ?_⟩
  intro v dd σ F H g O g' Q s st r e k
  cases r with
  | tp hT hr =>
    rw [gtT_tp] at e
    split at e
    · rename_i hl
      exact .inl ⟨_, _, rfl, sameT s hT, by rw [hr.len]; exact hl, d _ _ σ F H g O g' Q s st hr e k⟩
    · cases e
  | ls hT hr =>
    rw [gtT_ls] at e
    split at e
    · rename_i hl
      exact .inr ⟨_, _, rfl, SqL.of (s _ _ hT), by rw [hr.len]; exact hl, d _ _ σ F H g O g' Q s st hr e k⟩
    · cases e
  | _ => cases e
def sAsgT (tg : D → Env → Option Env) (fa : Env → Res D) : Env → Out := fun g => ((fa g).bind kp).st g fun d => if nod d = true then match tg (frz d) g with
  | some g' => .nx g'
  | none => .bad else .bad
@[simp] theorem sAsgT_ (tg : D → Env → Option Env) (fa : Env → Res D) (g : Env) : sAsgT tg fa g = ((fa g).bind kp).st g fun d => if nod d = true then match tg (frz d) g with
  | some g' => .nx g'
  | none => .bad else .bad := rfl
theorem js_asgT {ft : D → Env → Option Env} {ss : List Nat} (ha : JE X cls W a fa) (hg : JG X cls tg ft ss) (hs : swapsWithSole [tg] a pos.line X.env = pure false := by rfl) (hw : swappedStores [tg] a X.env = pure none := by rfl)
    (h1 : (assignEach [tg] X.env).map (·.2) = [assign tg X.env] := by rfl) : JS X cls W (.Assign [tg] a pos) (sAsgT ft fa) := by
  obtain ⟨t, p, d⟩ := ha.ex
  obtain ⟨u, q, d'⟩ := hg.ex
  refine ⟨_, ps_asg p q hs hw h1, ?_⟩
  intro D σ F H g O s st p
  rw [sAsgT_] at p
  refine d.goS s st p fun dd e p v F1 H1 O1 x fr w => ?_
  split at p
  · rename_i n
    have no : ∀ a ∈ O1, F1 a = none := fun a ha => (w.dom a ha).1
    have x2 := addF_ext x fr no
    have r := w.freeze (addF_same no) addF_at n
    cases eo : ft (frz dd) g with
    | none => rw [eo] at p; exact p.elim
    | some g' =>
      rw [eo] at p
      refine d' v (frz dd) σ _ H1 g O g' _ x2.fh (st.ext x2) r eo fun σ' O' y st' _ => ?_
      exact p σ' _ H1 O' ((x2.sext fun a h => .inl h).trans y) st'
  · exact p.elim
def sPar (i j : Nat) (fs : Env → Res (List D)) : Env → Out := fun g => (fs g).st g fun ds => if nods ds = true then match frzs ds with
  | [d, d'] => .nx ((g.set i d).set j d')
  | _ => .bad else .bad
@[simp] theorem sPar_ (i j : Nat) (fs : Env → Res (List D)) (g : Env) : sPar i j fs g = (fs g).st g fun ds => if nods ds = true then match frzs ds with
  | [d, d'] => .nx ((g.set i d).set j d')
  | _ => .bad else .bad := rfl
end
end DL

namespace DL
open PySem L2
section
variable {K : PySem.W.Frag} {cls : Cls} {W : WX} {X : Cx} {F H F' H' F1 H1 : Hp} {O O1 : List Addr} {Q : VK} {σ : St} {a b e tg iter : Expr} {es : List Expr} {fa fb fc : Env → Res D} {ga gb : Env → Res Bool} {fs : Env → Res (List D)} {pos : Pos}
structure Feeds (K : PySem.W.Frag) (cls : Cls) (F : Hp) (J : It) (ds : List D) : Prop where
  go : ∀ i d, ds[i]? = some d → ∀ F' H', Same F F' → Same F' H' → J.go i H' ∧ ∀ x H'', J.yld i H' x H'' → ∃ F'', Ext F' H' F'' H'' ∧ Rp K cls F'' x d
  stop : ∀ F' H', Same F F' → Same F' H' → J.stop ds.length H'
def PostI (K : PySem.W.Frag) (cls : Cls) (W : WX) (σ : St) (F H : Hp) (R : It → Hp → Prop) : Res (List D) → Prop
  | .ok ds => ∀ J F' H', Ext F H F' H' → Feeds K cls F' J ds → R J H'
  | .xc c => ∀ F' H', Ext F H F' H' → W (excV cls c) none σ H'
  | .bad => False
def DI (K : PySem.W.Frag) (cls : Cls) (W : WX) (wi : TI) (f : Env → Res (List D)) : Prop :=
  ∀ σ F H g O (R : It → Hp → Prop), Same F H → Sts K cls F H σ g O → PostI K cls W σ F H R (f g) → wi σ H R
structure JI (X : Cx) (cls : Cls) (W : WX) (tg e : Expr) (f : Env → Res (List D)) : Prop where
  ex : ∃ wi, PI X tg e wi ∧ DI X.K cls W wi f
theorem pi_or {w1 w2 : TI} (h1 : PI X tg iter w1) (h2 : PI X tg iter w2) : PI X tg iter (fun σ H R => w1 σ H R ∨ w2 σ H R) :=
  ⟨fun pins s σ H R I q => q.elim (h1.run pins s σ H R I) (h2.run pins s σ H R I)⟩
theorem feeds_list {a : Addr} {vs : List V} {ds : List D} (h : SqL K F a vs) (r : Rps K cls F vs ds) : Feeds K cls F (Itl K a) ds where
  go := fun i d e F' H' s1 s2 => by
    obtain ⟨v, h1, h2⟩ := r.get e
    have h' : SqL K H' a vs := (s1.trans s2).seq h
    refine ⟨⟨vs, v, h', h1⟩, fun x H'' y => ?_⟩
    obtain ⟨e1, y⟩ := y
    subst e1
    have := y vs h'
    rw [h1] at this
    cases this
    exact ⟨F', .refl s2, h2.mono s1⟩
  stop := fun F' H' s1 s2 => ⟨vs, (s1.trans s2).seq h, by rw [r.len]; exact Nat.le_refl _⟩
theorem feeds_tup {a : Addr} {vs : List V} {ds : List D} (h : SqT K F a vs) (r : Rps K cls F vs ds) : Feeds K cls F (Itt K a) ds where
  go := fun i d e F' H' s1 s2 => by
    obtain ⟨v, h1, h2⟩ := r.get e
    have h' : SqT K H' a vs := sameT (s1.trans s2) h
    refine ⟨⟨vs, v, h', h1⟩, fun x H'' y => ?_⟩
    obtain ⟨e1, y⟩ := y
    subst e1
    have := y vs h'
    rw [h1] at this
    cases this
    exact ⟨F', .refl s2, h2.mono s1⟩
  stop := fun F' H' s1 s2 => ⟨vs, sameT (s1.trans s2) h, by rw [r.len]; exact Nat.le_refl _⟩
@[simp] def lsS : D → Option (List D)
  | .ls xs => some xs
  | .sc xs => some xs
  | _ => none
theorem Bo.lsS {v : V} {d : D} {xs : List D} (b : Bo K cls F H v d) (e : lsS d = some xs) : ∃ a vs, v = .ref a ∧ SqL K F a vs ∧ Rps K cls F vs xs := by
  cases b with
  | sh r =>
    cases r <;> simp at e
    · subst e; exact ⟨_, _, rfl, by assumption, by assumption⟩
    · subst e; exact ⟨_, _, rfl, SqL.of (by assumption), by assumption⟩
  | bo => simp at e
  | bd => simp at e
  | bb => simp at e
@[simp] def sqS : D → Option (List D)
  | .ls xs => some xs
  | .sc xs => some xs
  | .tp xs => some xs
  | _ => none
def iSeq (fa : Env → Res D) : Env → Res (List D) := fun g => (fa g).bind fun a => .of (sqS (opd a))
@[simp] theorem iSeq_ (fa : Env → Res D) (g : Env) : iSeq fa g = (fa g).bind fun a => .of (sqS (opd a)) := rfl
theorem ji_seq (ha : JE X cls W iter fa) : JI X cls W tg iter (iSeq fa) := by
  obtain ⟨t, p, d⟩ := ha.ex
  refine ⟨_, pi_or (pi_list p) (pi_tup p), ?_⟩
  intro σ F H g O R s st p
  rw [iSeq_] at p
  cases ea : fa g with
  | xc c =>
    rw [ea] at p
    exact .inl (d.go s st (fun c e => by rw [ea] at e; cases e; exact p) (fun e => by rw [ea] at e; cases e) fun d e => by rw [ea] at e; cases e)
  | bad => rw [ea] at p; exact p.elim
  | ok dd =>
    rw [ea] at p
    simp only [Res.bind] at p
    have side : (∃ xs, lsS (opd dd) = some xs ∧ sqS (opd dd) = some xs) ∨ (∃ xs, tpv (opd dd) = some xs ∧ sqS (opd dd) = some xs) ∨ sqS (opd dd) = none := by
      cases opd dd <;> simp
    rcases side with ⟨xs, e1, e2⟩ | ⟨xs, e1, e2⟩ | e2
    · rw [e2] at p
      refine .inl (d.go s st (fun c e => by rw [ea] at e; cases e) (fun e => by rw [ea] at e; cases e) fun d e v F1 H1 x b => ?_)
      rw [ea] at e; cases e
      obtain ⟨a, vs, rfl, h, r⟩ := b.lsS e1
      exact ⟨a, rfl, ⟨vs, x.fh.seq h⟩, p _ F1 H1 x (feeds_list h r)⟩
    · rw [e2] at p
      refine .inr (d.go s st (fun c e => by rw [ea] at e; cases e) (fun e => by rw [ea] at e; cases e) fun d e v F1 H1 x b => ?_)
      rw [ea] at e; cases e
      obtain ⟨a, vs, rfl, h, h', r⟩ := b.tpv x.fh e1
      exact ⟨a, rfl, ⟨vs, h⟩, p _ F1 H1 x (feeds_tup h' r)⟩
    · rw [e2] at p; exact p.elim
def rng (lo : Int) (n : Nat) : List D := (List.range n).map fun i : Nat => D.int (lo + (i : Int))
theorem rng_len (lo : Int) (n : Nat) : (rng lo n).length = n := by unfold rng; simp
theorem rng_get {lo : Int} {n i : Nat} {d : D} (h : (rng lo n)[i]? = some d) : i < n ∧ d = .int (lo + (i : Int)) := by
  unfold rng at h
  rw [List.getElem?_map] at h
  by_cases hi : i < n
  · rw [List.getElem?_range hi] at h
    cases h
    exact ⟨hi, rfl⟩
  · rw [List.getElem?_eq_none (by simpa using hi)] at h; cases h
theorem feeds_rng (lo : Int) (n : Nat) : Feeds K cls F (Itr lo n) (rng lo n) where
  go := fun i d e F' H' s1 s2 => by
    obtain ⟨h1, rfl⟩ := rng_get e
    refine ⟨h1, fun x H'' y => ?_⟩
    obtain ⟨e1, e2⟩ := y
    subst e1 e2
    exact ⟨F', .refl s2, .int _⟩
  stop := fun F' H' s1 s2 => by rw [rng_len]; exact Nat.le_refl _
def rgOk (i : Int) : Prop := i.natAbs ≤ 1000000000
theorem rgOk.lo {i : Int} (h : rgOk i) : -(2 ^ 62) ≤ i := by unfold rgOk at h; omega
theorem rgOk.hi {i : Int} (h : rgOk i) : i < 2 ^ 62 := by unfold rgOk at h; omega
instance (i : Int) : Decidable (rgOk i) := by unfold rgOk; infer_instance
theorem rgOk_of {i : Int} (h : -1000000000 ≤ i) (h' : i ≤ 1000000000) : rgOk i := by unfold rgOk; omega
def iRg1 (fs : Env → Res (List D)) : Env → Res (List D) := fun g => (fs g).bind fun ds => match ds with
  | [.int j] => if rgOk j then .ok (rng 0 j.toNat) else .bad
  | _ => .bad
def iRg2 (fs : Env → Res (List D)) : Env → Res (List D) := fun g => (fs g).bind fun ds => match ds with
  | [.int i, .int j] => if rgOk i ∧ rgOk j then .ok (rng i (j - i).toNat) else .bad
  | _ => .bad
@[simp] theorem iRg1_ (fs : Env → Res (List D)) (g : Env) : iRg1 fs g = (fs g).bind fun ds => match ds with
  | [.int j] => if rgOk j then .ok (rng 0 j.toNat) else .bad
  | _ => .bad := rfl
@[simp] theorem iRg2_ (fs : Env → Res (List D)) (g : Env) : iRg2 fs g = (fs g).bind fun ds => match ds with
  | [.int i, .int j] => if rgOk i ∧ rgOk j then .ok (rng i (j - i).toNat) else .bad
  | _ => .bad := rfl
theorem ji_rg1 {p : Pos} (hm : X.mg "range" = none) (ha : JA X cls W [a] fs) (hg : Gl X "range" := by rfl) (hs : starEach [a] X.env = [(false, eval a X.env)] := by rfl) : JI X cls W tg (.Call (.Name "range" p) [a] [] pos) (iRg1 fs) := by
  obtain ⟨t, p, d⟩ := ha.ex
  refine ⟨_, pi_range1 hg hm p hs, ?_⟩
  intro σ F H g O R s st p
  rw [iRg1_] at p
  refine d.go s st (fun c e => by rw [e] at p; exact p) (fun e => by rw [e] at p; exact p) fun ds e vs F1 H1 x b => ?_
  rw [e] at p
  simp only [Res.bind] at p
  split at p
  · rename_i j
    split at p
    · rename_i hj
      obtain ⟨v, rfl, b1⟩ := b.one
      obtain rfl := b1.int
      exact ⟨j, rfl, hj.lo, hj.hi, p _ F1 H1 x (feeds_rng 0 j.toNat)⟩
    · exact p.elim
  · exact p.elim
theorem ji_rg2 {p : Pos} (hm : X.mg "range" = none) (ha : JA X cls W [a, b] fs) (hg : Gl X "range" := by rfl) (hs : starEach [a, b] X.env = [(false, eval a X.env), (false, eval b X.env)] := by rfl) (hs2 : starEach [b] X.env = [(false, eval b X.env)] := by rfl) :
    JI X cls W tg (.Call (.Name "range" p) [a, b] [] pos) (iRg2 fs) := by
  obtain ⟨t, p, d⟩ := ha.ex
  refine ⟨_, pi_range2 hg hm p hs hs2, ?_⟩
  intro σ F H g O R s st p
  rw [iRg2_] at p
  refine d.go s st (fun c e => by rw [e] at p; exact p) (fun e => by rw [e] at p; exact p) fun ds e vs F1 H1 x b => ?_
  rw [e] at p
  simp only [Res.bind] at p
  split at p
  · rename_i i j
    split at p
    · rename_i hj
      obtain ⟨v, v', rfl, b1, b2⟩ := b.two
      obtain rfl := b1.int
      obtain rfl := b2.int
      exact ⟨i, j, rfl, ⟨hj.1.lo, hj.1.hi, hj.2.lo, hj.2.hi⟩, p _ F1 H1 x (feeds_rng i _)⟩
    · exact p.elim
  · exact p.elim
def enm (i : Nat) : List D → List D
  | [] => []
  | d :: ds => .tp [.int (i : Int), d] :: enm (i + 1) ds
theorem enm_len : ∀ (ds : List D) (i : Nat), (enm i ds).length = ds.length
  | [], _ => rfl
  | d :: ds, i => by simp [enm, enm_len ds]
theorem enm_get : ∀ {ds : List D} {j i : Nat} {d : D}, (enm j ds)[i]? = some d → ∃ e, ds[i]? = some e ∧ d = .tp [.int ((j + i : Nat) : Int), e]
  | [], _, _, _, h => by simp [enm] at h
  | d :: ds, j, 0, _, h => by simp [enm] at h; exact ⟨d, rfl, by simp [← h]⟩
  | d :: ds, j, i + 1, d2, h => by
    have h' : (enm (j + 1) ds)[i]? = some d2 := by simpa [enm] using h
    obtain ⟨e, h1, h2⟩ := enm_get h'
    exact ⟨e, by simpa using h1, by rw [h2, show j + 1 + i = j + (i + 1) by omega]⟩
theorem feeds_enum {a : Addr} {vs : List V} {ds : List D} (h : SqL K F a vs) (r : Rps K cls F vs ds) : Feeds K cls F (Ite K a) (enm 0 ds) where
  go := fun i d e F' H' s1 s2 => by
    obtain ⟨d', e1, rfl⟩ := enm_get e
    obtain ⟨v, h1, h2⟩ := r.get e1
    have h' : SqL K H' a vs := (s1.trans s2).seq h
    refine ⟨⟨vs, v, h', h1⟩, fun x H'' y => ?_⟩
    obtain ⟨T, w, e1, e2, e3, y⟩ := y
    subst e1 e3
    have := y vs h'
    rw [h1] at this
    cases this
    have px := Ext.put (o := .tup [.int ((0 + i : Nat) : Int), v]) s2 e2
    rw [Nat.zero_add] at px ⊢
    exact ⟨_, px, .tp (SqT.of upd_same) (.cons (.int _) (.cons (h2.mono (s1.trans px.ff)) .nil))⟩
  stop := fun F' H' s1 s2 => ⟨vs, (s1.trans s2).seq h, by rw [enm_len, r.len]; exact Nat.le_refl _⟩
def iEnm (fs : Env → Res (List D)) : Env → Res (List D) := fun g => (fs g).bind fun ds => match ds with
  | [d] => (Res.of (lsS d)).bind fun xs => .ok (enm 0 xs)
  | _ => .bad
@[simp] theorem iEnm_ (fs : Env → Res (List D)) (g : Env) : iEnm fs g = (fs g).bind fun ds => match ds with
  | [d] => (Res.of (lsS d)).bind fun xs => .ok (enm 0 xs)
  | _ => .bad := rfl
theorem ji_enm {p tpos : Pos} {elts : List Expr} {kk : Nat} (hm : X.mg "enumerate" = none) (ha : JA X cls W [a] fs) (hg : Gl X "enumerate" := by rfl) (hs : starEach [a] X.env = [(false, eval a X.env)] := by rfl) :
    JI X cls W (.Tuple elts kk tpos) (.Call (.Name "enumerate" p) [a] [] pos) (iEnm fs) := by
  obtain ⟨t, p, d⟩ := ha.ex
  refine ⟨_, pi_enum hg hm p hs, ?_⟩
  intro σ F H g O R s st p
  rw [iEnm_] at p
  refine d.go s st (fun c e => by rw [e] at p; exact p) (fun e => by rw [e] at p; exact p) fun ds e vs F1 H1 x b => ?_
  rw [e] at p
  simp only [Res.bind] at p
  split at p
  · rename_i d1
    cases e1 : lsS d1 with
    | none => rw [e1] at p; exact p.elim
    | some xs =>
      rw [e1] at p
      simp only [Res.of] at p
      obtain ⟨v, rfl, b1⟩ := b.one
      obtain ⟨a, vs, rfl, h, r⟩ := b1.lsS e1
      exact ⟨a, vs, rfl, x.fh.seq h, p _ F1 H1 x (feeds_enum h r)⟩
  · exact p.elim
def zipD : List D → List D → List D
  | a :: xs, b :: ys => .tp [a, b] :: zipD xs ys
  | _, _ => []
theorem zipD_len : ∀ (xs ys : List D), (zipD xs ys).length = min xs.length ys.length
  | [], _ => by simp [zipD]
  | _ :: _, [] => by simp [zipD]
  | a :: xs, b :: ys => by simp [zipD, zipD_len xs ys]
theorem zipD_get : ∀ {xs ys : List D} {i : Nat} {d : D}, (zipD xs ys)[i]? = some d → ∃ x y, xs[i]? = some x ∧ ys[i]? = some y ∧ d = .tp [x, y]
  | [], _, _, _, h => by simp [zipD] at h
  | _ :: _, [], _, _, h => by simp [zipD] at h
  | a :: xs, b :: ys, 0, _, h => by simp [zipD] at h; exact ⟨a, b, rfl, rfl, h.symm⟩
  | a :: xs, b :: ys, i + 1, d2, h => by
    have h' : (zipD xs ys)[i]? = some d2 := by simpa [zipD] using h
    obtain ⟨x, y, h1, h2, h3⟩ := zipD_get h'
    exact ⟨x, y, by simpa using h1, by simpa using h2, h3⟩
theorem feeds_zip {a b : Addr} {vs ws : List V} {ds es : List D} (h : SqL K F a vs) (r : Rps K cls F vs ds) (h2 : SqL K F b ws) (r2 : Rps K cls F ws es) : Feeds K cls F (Itz K a b) (zipD ds es) where
  go := fun i d e F' H' s1 s2 => by
    obtain ⟨x, y, e1, e2, rfl⟩ := zipD_get e
    obtain ⟨v, q1, q2⟩ := r.get e1
    obtain ⟨w, q3, q4⟩ := r2.get e2
    have h' : SqL K H' a vs := (s1.trans s2).seq h
    have h2' : SqL K H' b ws := (s1.trans s2).seq h2
    refine ⟨⟨vs, ws, v, w, h', h2', q1, q3⟩, fun x H'' z => ?_⟩
    obtain ⟨T, v', w', e1, e2, e3, z1, z2⟩ := z
    subst e1 e3
    have := z1 vs h'
    rw [q1] at this
    cases this
    have := z2 ws h2'
    rw [q3] at this
    cases this
    have px := Ext.put (o := .tup [v, w]) s2 e2
    exact ⟨_, px, .tp (SqT.of upd_same) (.cons (q2.mono (s1.trans px.ff)) (.cons (q4.mono (s1.trans px.ff)) .nil))⟩
  stop := fun F' H' s1 s2 => ⟨vs, ws, (s1.trans s2).seq h, (s1.trans s2).seq h2, by rw [zipD_len, r.len, r2.len]; omega⟩
def iZp (fs : Env → Res (List D)) : Env → Res (List D) := fun g => (fs g).bind fun ds => match ds with
  | [d, e] => (Res.of (lsS d)).bind fun xs => (Res.of (lsS e)).bind fun ys => .ok (zipD xs ys)
  | _ => .bad
@[simp] theorem iZp_ (fs : Env → Res (List D)) (g : Env) : iZp fs g = (fs g).bind fun ds => match ds with
  | [d, e] => (Res.of (lsS d)).bind fun xs => (Res.of (lsS e)).bind fun ys => .ok (zipD xs ys)
  | _ => .bad := rfl
theorem ji_zip {p tpos : Pos} {elts : List Expr} {kk : Nat} (hm : X.mg "zip" = none) (ha : JA X cls W [a, b] fs) (hg : Gl X "zip" := by rfl)
    (hs : starEach [a, b] X.env = (false, eval a X.env) :: starEach [b] X.env := by rfl) (hpl : (backTo pos (starEach [b] X.env)).any (·.1) = false := by rfl) :
    JI X cls W (.Tuple elts kk tpos) (.Call (.Name "zip" p) [a, b] [] pos) (iZp fs) := by
  obtain ⟨t, p, d⟩ := ha.ex
  refine ⟨_, pi_zip hg hm p hs hpl, ?_⟩
  intro σ F H g O R s st p
  rw [iZp_] at p
  refine d.go s st (fun c e => by rw [e] at p; exact p) (fun e => by rw [e] at p; exact p) fun ds e vs F1 H1 x b => ?_
  rw [e] at p
  simp only [Res.bind] at p
  split at p
  · rename_i d1 d2
    cases e1 : lsS d1 with
    | none => rw [e1] at p; exact p.elim
    | some xs =>
      rw [e1] at p
      cases e2 : lsS d2 with
      | none => rw [e2] at p; exact p.elim
      | some ys =>
        rw [e2] at p
        simp only [Res.of] at p
        obtain ⟨v, v', rfl, b1, b2⟩ := b.two
        obtain ⟨a, vs, rfl, h, r⟩ := b1.lsS e1
        obtain ⟨a2, vs2, rfl, h2, r2⟩ := b2.lsS e2
        exact ⟨a, a2, vs, vs2, rfl, x.fh.seq h, x.fh.seq h2, p _ F1 H1 x (feeds_zip h r h2 r2)⟩
  · exact p.elim

def forL (tg : D → Env → Option Env) (b : Env → Out) : List D → Env → Out
  | [], g => .nx g
  | d :: ds, g => match tg d g with
    | none => .bad
    | some g1 => match b g1 with
      | .nx g' => forL tg b ds g'
      | .ct g' => forL tg b ds g'
      | .bk g' => .nx g'
      | o => o
@[simp] theorem forL_nil (tg : D → Env → Option Env) (b : Env → Out) (g : Env) : forL tg b [] g = .nx g := rfl
theorem forL_cons (tg : D → Env → Option Env) (b : Env → Out) (d : D) (ds : List D) (g : Env) : forL tg b (d :: ds) g = match tg d g with
    | none => .bad
    | some g1 => match b g1 with
      | .nx g' => forL tg b ds g'
      | .ct g' => forL tg b ds g'
      | .bk g' => .nx g'
      | o => o := rfl
def sFor (fi : Env → Res (List D)) (tg : D → Env → Option Env) (b : Env → Out) : Env → Out := fun g => (fi g).st g fun ds => forL tg b ds g
@[simp] theorem sFor_ (fi : Env → Res (List D)) (tg : D → Env → Option Env) (b : Env → Out) (g : Env) : sFor fi tg b g = (fi g).st g fun ds => forL tg b ds g := rfl
theorem ds_for {wi : TI} {t : TG} {tb : TS} {ft : D → Env → Option Env} {fbo : Env → Out} {ss : List Nat} (hi : DI K cls W wi fs) (hg : DG K cls t ft ss) (hb : DS K cls W tb fbo) : DS K cls W (tFor wi t tb) (sFor fs ft fbo) := by
  intro D σ F H g O s st p
  rw [sFor_] at p
  refine hi σ F H g O _ s st ?_
  cases e : fs g with
  | bad => rw [e] at p; exact p
  | xc c => rw [e] at p; exact xc_st st p
  | ok ds =>
    rw [e, Res.st_ok] at p
    intro J F1 H1 x1 fd
    have x1' : SExt F H O F1 H1 O := x1.sext fun a h => .inl h
    refine ⟨fun i m σ2 H2 => m = ds.length - i ∧ i ≤ ds.length ∧ ∃ F2 g2 O2, SExt F1 H1 O F2 H2 O2 ∧ Sts K cls F2 H2 σ2 g2 O2 ∧ PostS K cls W D F1 H1 O (forL ft fbo (ds.drop i) g2),
      ⟨ds.length, rfl, Nat.zero_le _, F1, g, O, .refl x1.fh, st.ext x1, by rw [List.drop_zero]; exact p.mono x1'⟩, ?_⟩
    rintro i m σ2 H2 ⟨rfl, hi, F2, g2, O2, x2, st2, p2⟩
    by_cases hlt : i < ds.length
    · have ed : ds.drop i = ds[i] :: ds.drop (i + 1) := List.drop_eq_getElem_cons hlt
      rw [ed, forL_cons] at p2
      obtain ⟨g0, y0⟩ := fd.go i ds[i] (by simp [hlt]) F2 H2 x2.ff x2.fh
      have nxt : ∀ {g' : Env} {F3 H3 O3 : _} {σ3 : St}, SExt F1 H1 O F3 H3 O3 → Sts K cls F3 H3 σ3 g' O3 → PostS K cls W D F1 H1 O (forL ft fbo (ds.drop (i + 1)) g') →
          ∃ m', m' < ds.length - i ∧ m' = ds.length - (i + 1) ∧ i + 1 ≤ ds.length ∧ ∃ F2 g2 O2, SExt F1 H1 O F2 H3 O2 ∧ Sts K cls F2 H3 σ3 g2 O2 ∧ PostS K cls W D F1 H1 O (forL ft fbo (ds.drop (i + 1)) g2) :=
        fun {g' F3 H3 O3 σ3} x st' q => ⟨ds.length - (i + 1), by omega, rfl, hlt, F3, g', O3, x, st', q⟩
      refine .inr ⟨g0, fun σ3 H3 => ∃ F3 g' O3, SExt F1 H1 O F3 H3 O3 ∧ Sts K cls F3 H3 σ3 g' O3 ∧ PostS K cls W D F1 H1 O (forL ft fbo (ds.drop (i + 1)) g'), fun σ3 H3 ⟨F3, g', O3, x, st', q⟩ => nxt x st' q, fun v H3 yv => ?_⟩
      obtain ⟨F3, x3, rv⟩ := y0 v H3 yv
      cases et : ft ds[i] g2 with
      | none => rw [et] at p2; exact p2.elim
      | some g3 =>
        rw [et] at p2
        simp only [] at p2
        refine hg v ds[i] σ2 F3 H3 g2 O2 g3 _ x3.fh (st2.ext x3) rv et fun σ4 O4 x4 st4 _ => ?_
        have x34 : SExt F1 H1 O F3 H3 O4 := x2.trans ((x3.sext fun a h => .inl h).trans x4)
        refine hb _ σ4 F3 H3 g3 O4 x3.fh st4 ?_
        cases eb : fbo g3 with
        | nx g' => rw [eb] at p2; exact fun σ5 F5 H5 O5 x5 st5 => ⟨F5, g', O5, x34.trans x5, st5, p2⟩
        | ct g' => rw [eb] at p2; exact fun σ5 F5 H5 O5 x5 st5 => ⟨F5, g', O5, x34.trans x5, st5, p2⟩
        | bk g' => rw [eb] at p2; exact fun σ5 F5 H5 O5 x5 st5 => p2 σ5 F5 H5 O5 (x34.trans x5) st5
        | rt d => rw [eb] at p2; exact fun v F5 H5 O5 x5 w => p2 v F5 H5 O5 (x34.trans x5) w
        | xc c g' => rw [eb] at p2; exact fun σ5 F5 H5 O5 x5 st5 => p2 σ5 F5 H5 O5 (x34.trans x5) st5
        | bad => rw [eb] at p2; exact p2
    · have ei : i = ds.length := by omega
      subst ei
      rw [List.drop_length] at p2
      exact .inl ⟨fd.stop F2 H2 x2.ff x2.fh, p2 σ2 F2 H2 O2 x2 st2⟩
theorem js_for {body : List Stmt} {ft : D → Env → Option Env} {fbo : Env → Out} {ss : List Nat} {k : Nat} (c : Cn X W k) (hi : JI X cls W tg iter fs) (hg : JG X cls tg ft ss) (hb : JSs X cls W body fbo)
    (hs : ∀ x, foldedSetIterable iter X.env x = pure x := by intro _; rfl) : JS X cls W (.For tg iter body [] pos) (sFor fs ft fbo) := by
  obtain ⟨wi, p, d⟩ := hi.ex
  obtain ⟨t, q, d'⟩ := hg.ex
  obtain ⟨tb, r, d''⟩ := hb.ex
  exact ⟨_, ps_for c.hp c.calm p q r hs, ds_for d d' d''⟩

def whileN (c : Env → Res Bool) (b : Env → Out) : Nat → Env → Out
  | 0, _ => .bad
  | n + 1, g => (c g).st g fun k => if k = true then match b g with
      | .nx g' => whileN c b n g'
      | .ct g' => whileN c b n g'
      | .bk g' => .nx g'
      | o => o
    else .nx g
def fuel : Nat := 1000000000
def sWhile (c : Env → Res Bool) (b : Env → Out) : Env → Out := fun g => whileN c b fuel g
@[simp] theorem sWhile_ (c : Env → Res Bool) (b : Env → Out) (g : Env) : sWhile c b g = whileN c b fuel g := rfl
def lcL (tg : D → Env → Option Env) (tt : Env → Res Bool) (te : Env → Res D) (g : Env) : List D → Res (List D)
  | [] => .ok []
  | d :: ds => match tg d g with
    | none => .bad
    | some g1 => (tt g1).bind fun b => if b = true then ((te g1).bind kp).bind fun y => (lcL tg tt te g ds).bind fun r => .ok (y :: r) else lcL tg tt te g ds
@[simp] theorem lcL_nil (tg : D → Env → Option Env) (tt : Env → Res Bool) (te : Env → Res D) (g : Env) : lcL tg tt te g [] = .ok [] := rfl
theorem lcL_cons (tg : D → Env → Option Env) (tt : Env → Res Bool) (te : Env → Res D) (g : Env) (d : D) (ds : List D) : lcL tg tt te g (d :: ds) = match tg d g with
    | none => .bad
    | some g1 => (tt g1).bind fun b => if b = true then ((te g1).bind kp).bind fun y => (lcL tg tt te g ds).bind fun r => .ok (y :: r) else lcL tg tt te g ds := rfl
def eLc (fi : Env → Res (List D)) (own : List Nat) (tg : D → Env → Option Env) (tt : Env → Res Bool) (te : Env → Res D) : Env → Res D := fun g => (fi g).bind fun ds => if ds.length ≤ lim then
  match lcL tg tt te (wipeG g own) ds with
  | .ok r => .ok (.ol r)
  | _ => .bad
  else .bad
@[simp] theorem eLc_ (fi : Env → Res (List D)) (own : List Nat) (tg : D → Env → Option Env) (tt : Env → Res Bool) (te : Env → Res D) (g : Env) : eLc fi own tg tt te g = (fi g).bind fun ds => if ds.length ≤ lim then
  match lcL tg tt te (wipeG g own) ds with
  | .ok r => .ok (.ol r)
  | _ => .bad
  else .bad := rfl
def tYesG : Env → Res Bool := fun _ => .ok true
@[simp] theorem tYesG_ (g : Env) : tYesG g = .ok true := rfl
theorem Ows.snoc {vs : List V} {ds : List D} {O1 O2 : List Addr} {v : V} {d : D} (h : Ows K cls F H vs ds O1) (w : Ow K cls F H v d O2) (dj : ∀ a ∈ O1, a ∉ O2) : Ows K cls F H (vs ++ [v]) (ds ++ [d]) (O1 ++ O2) := by
  induction ds generalizing vs O1 with
  | nil => cases h; exact .cons w .nil (fun _ _ q => nomatch q) (by simp)
  | cons d' ds ih =>
    cases h with
    | cons a b dj' e =>
      subst e
      refine .cons a (ih b fun x hx => dj x (List.mem_append_right _ hx)) (fun x h1 h2 => ?_) (by simp)
      rcases List.mem_append.mp h2 with q | q
      · exact dj' x h1 q
      · exact dj x (List.mem_append_left _ h1) q
theorem de_lc {wi : TI} {t : TG} {tt : TT} {te : TE} {ft : D → Env → Option Env} {gt : Env → Res Bool} {fe : Env → Res D} {ss own : List Nat} (hi : DI K cls W wi fs) (hg : DG K cls t ft ss) (ht : DT K cls W0 tt gt) (he : DE K cls W0 te fe) (hss : ∀ i ∈ ss, i ∈ own) :
    DE K cls W (tLc wi t tt te own) (eLc fs own ft gt fe) := by
  intro σ F H g O Q s st p
  rw [eLc_] at p
  refine hi σ F H g O _ s st ?_
  cases e : fs g with
  | bad => rw [e] at p; exact p
  | xc c => rw [e] at p; exact p
  | ok ds =>
    rw [e] at p
    simp only [Res.bind] at p
    intro J F1 H1 x1 fd A hA
    by_cases hlen : ds.length ≤ lim
    · rw [if_pos hlen] at p
      -- the env within the block
      obtain ⟨Ow1, stw, hw⟩ := (st.ext x1).wipe x1.fh own
      have fA : F1 A = none := by
        cases q : F1 A with
        | none => rfl
        | some u => rw [x1.fh A u q] at hA; cases hA
      have sA : Same H1 (upd H1 A (.lst [])) := upd_same' hA
      let Inv := fun (i : Nat) (H2 : Hp) => ∃ F2 acc es' O2, Ext F1 H1 F2 H2 ∧ H2 A = some (.lst acc) ∧ F2 A = none ∧ A ∉ O2 ∧ Fresh H1 O2 ∧ Ows K cls F2 H2 acc es' O2 ∧ es'.length ≤ i ∧
        ∃ r, lcL ft gt fe (wipeG g own) (ds.drop i) = .ok r ∧ lcL ft gt fe (wipeG g own) ds = .ok (es' ++ r)
      cases er : lcL ft gt fe (wipeG g own) ds with
      | bad => rw [er] at p; exact p.elim
      | xc c => rw [er] at p; exact p.elim
      | ok r0 =>
        rw [er] at p
        simp only [] at p
        refine ⟨fun i m H2 => m = ds.length - i ∧ i ≤ ds.length ∧ Inv i H2, ⟨ds.length, rfl, Nat.zero_le _, F1, [], [], [], Ext.own x1.fh hA, upd_same, fA, by simp, Fresh.nil, .nil, Nat.zero_le _, r0, by rw [List.drop_zero]; exact er, by simpa using er⟩, ?_⟩
        rintro i m H2 ⟨rfl, hi, F2, acc, es', O2, x2, h2, f2, n2, fr2, w2, hl2, r, e1, e2⟩
        by_cases hlt : i < ds.length
        · have ed : ds.drop i = ds[i] :: ds.drop (i + 1) := List.drop_eq_getElem_cons hlt
          rw [ed, lcL_cons] at e1
          obtain ⟨g0, y0⟩ := fd.go i ds[i] (by simp [hlt]) F2 H2 x2.ff x2.fh
          refine .inr ⟨g0, fun H3 => Inv (i + 1) H3, fun H3 q => ⟨ds.length - (i + 1), by omega, rfl, hlt, q⟩, fun v H3 yv => ?_⟩
          obtain ⟨F3, x3, rv⟩ := y0 v H3 yv
          cases et : ft ds[i] (wipeG g own) with
          | none => rw [et] at e1; cases e1
          | some g3 =>
            rw [et] at e1
            simp only [] at e1
            have stw3 := (stw.ext x2).ext x3
            refine hg v ds[i] _ F3 H3 (wipeG g own) Ow1 g3 _ x3.fh stw3 rv et fun σ4 O4 x4 st4 w4 => ⟨?_, ?_⟩
            · exact (w4 own hss).trans (wipe_wipe fun _ h => h)
            · have h3 : H3 A = some (.lst acc) := x3.hh _ _ h2
              have f3 : F3 A = none := x3.ow A f2 (by rw [h2]; exact fun e => nomatch e)
              refine ht σ4 F3 H3 g3 O4 _ x3.fh st4 ?_
              cases eb : gt g3 with
              | bad => rw [eb] at e1; cases e1
              | xc c => rw [eb] at e1; cases e1
              | ok b =>
                rw [eb, Res.bind_ok] at e1
                intro F5 H5 x5
                have h5 : H5 A = some (.lst acc) := x5.hh _ _ h3
                have f5 : F5 A = none := x5.ow A f3 (by rw [h3]; exact fun e => nomatch e)
                have x25 := x2.trans (x3.trans x5)
                cases b with
                | false =>
                  rw [if_neg (by decide)] at e1
                  rw [if_neg (by decide)]
                  exact ⟨F5, acc, es', O2, x25, h5, f5, n2, fr2, (w2.ext x3).ext x5, Nat.le_succ_of_le hl2, r, e1, e2⟩
                | true =>
                  rw [if_pos rfl] at e1
                  rw [if_pos rfl]
                  refine he.goO x5.fh (st4.ext x5) (fun c e => by rw [e] at e1; cases e1) (fun e => by rw [e] at e1; cases e1) fun d e v F6 H6 O6 x6 fr6 w6 => ?_
                  rw [e, Res.bind_ok] at e1
                  cases er2 : lcL ft gt fe (wipeG g own) (ds.drop (i + 1)) with
                  | bad => rw [er2] at e1; cases e1
                  | xc c => rw [er2] at e1; cases e1
                  | ok r2 =>
                    rw [er2] at e1
                    cases e1
                    have h6 : H6 A = some (.lst acc) := x6.hh _ _ h5
                    have f6 : F6 A = none := x6.ow A f5 (by rw [h5]; exact fun e => nomatch e)
                    have x26 := x25.trans x6
                    have n6 : A ∉ O6 := fun q => by have := fr6 A q; rw [h5] at this; cases this
                    refine ⟨acc, h6, ?_, F6, acc ++ [v], es' ++ [d], O2 ++ O6, ?_, upd_same, f6, ?_, ?_, ?_, by simp; omega, r2, er2, by rw [e2]; simp⟩
                    · rw [w2.len]; exact lim_lt (by omega)
                    · exact ⟨x26.ff, fun b o q => by rw [upd_ne (ne_of_none q hA)]; exact x26.hh b o q, fun b o q => by
                        rw [upd_ne (fun z => by rw [z, f6] at q; cases q)]; exact x26.fh b o q, x26.ow⟩
                    · intro q
                      rcases List.mem_append.mp q with q | q
                      · exact n2 q
                      · exact n6 q
                    · intro a ha
                      rcases List.mem_append.mp ha with q | q
                      · exact fr2 a q
                      · exact (x25.hh).free (fr6 a q)
                    · have w2' := ((w2.ext x3).ext x5).ext x6
                      have dj : ∀ a ∈ O2, a ∉ O6 := fun a h1 h2 => ((((w2.ext x3).ext x5).dom a h1).2) (fr6 a h2)
                      refine (w2'.snoc w6 dj).frame (.refl F6) fun a ha => ⟨upd_ne fun z => ?_, ((w2'.snoc w6 dj).dom a ha).1⟩
                      rcases List.mem_append.mp ha with q | q
                      · exact n2 (z ▸ q)
                      · exact n6 (z ▸ q)
        · have ei : i = ds.length := by omega
          subst ei
          rw [List.drop_length] at e1
          cases e1
          rw [List.append_nil, er] at e2
          cases e2
          refine .inl ⟨fd.stop F2 H2 x2.ff x2.fh, p _ F2 H2 (A :: O2) (x1.trans x2) (fun a ha => ?_) (.inl (.ol f2 h2 n2 w2))⟩
          rcases List.mem_cons.mp ha with rfl | ha
          · exact x1.hh.free hA
          · exact x1.hh.free (fr2 a ha)
    · rw [if_neg hlen] at p; exact p.elim
structure JTs (X : Cx) (cls : Cls) (W : WX) (e : List Expr) (f : Env → Res Bool) : Prop where
  ex : ∃ t, PTs X e t ∧ DT X.K cls W t f
theorem jts_nil : JTs X cls W [] tYesG := ⟨_, pts_nil, fun σ F H g O Q s st p => p F H (.refl s)⟩
theorem jts_one (h : JT X cls W a ga) : JTs X cls W [a] ga := by
  obtain ⟨t, p, d⟩ := h.ex
  exact ⟨_, pts_one p, d⟩
end
end DL

namespace DL
open PySem L2
section
variable {K : PySem.W.Frag} {cls : Cls} {W : WX} {X : Cx} {F H F' H' F1 H1 : Hp} {O O1 : List Addr} {Q : VK} {σ : St} {a b e tg iter elt : Expr} {es : List Expr} {fa fb fc : Env → Res D} {ga gb : Env → Res Bool} {fs : Env → Res (List D)} {pos : Pos}
def cE (K : PySem.W.Frag) (cls : Cls) (W : WX) (f : Env → Res D) : TE := fun σ H Q => ∃ F g O, Same F H ∧ Sts K cls F H σ g O ∧ PostE K cls W σ F H Q (f g)
def cT (K : PySem.W.Frag) (cls : Cls) (W : WX) (f : Env → Res Bool) : TT := fun σ H Q => ∃ F g O, Same F H ∧ Sts K cls F H σ g O ∧ PostT cls W σ F H Q (f g)
def cG (K : PySem.W.Frag) (cls : Cls) (f : D → Env → Option Env) (ss : List Nat) : TG := fun v σ H Q => ∃ d F g O g', Same F H ∧ Sts K cls F H σ g O ∧ Rp K cls F v d ∧ f d g = some g' ∧
  (∀ σ' O', SExt F H O F H O' → Sts K cls F H σ' g' O' → (∀ vs : List Nat, (∀ i ∈ ss, i ∈ vs) → wipe σ' vs = wipe σ vs) → Q σ' H)
def cS (K : PySem.W.Frag) (cls : Cls) (f : Env → Out) (W : WX) : TS := fun D σ H => ∃ F g O, Same F H ∧ Sts K cls F H σ g O ∧ PostS K cls W D F H O (f g)
theorem de_cE {f : Env → Res D} : DE K cls W (cE K cls W f) f := fun σ F H g O Q s st p => ⟨F, g, O, s, st, p⟩
theorem dt_cT {f : Env → Res Bool} : DT K cls W (cT K cls W f) f := fun σ F H g O Q s st p => ⟨F, g, O, s, st, p⟩
theorem dg_cG {f : D → Env → Option Env} {ss : List Nat} : DG K cls (cG K cls f ss) f ss := fun v d σ F H g O g' Q s st r e k => ⟨d, F, g, O, g', s, st, r, e, k⟩
theorem JE.canon {f : Env → Res D} (h : JE X cls W e f) : PE X e (cE X.K cls W f) := by
  obtain ⟨t, p, d⟩ := h.ex
  exact ⟨fun pins s σ H Q I ⟨F, g, O, sm, st, q⟩ => p.run pins s σ H Q I (d σ F H g O Q sm st q)⟩
theorem JTs.canon {f : Env → Res Bool} (h : JTs X cls W es f) : PTs X es (cT X.K cls W f) := by
  obtain ⟨t, p, d⟩ := h.ex
  exact ⟨fun pins s σ H Q I ⟨F, g, O, sm, st, q⟩ => p.run pins s σ H Q I (d σ F H g O Q sm st q)⟩
theorem JG.canon {f : D → Env → Option Env} {ss : List Nat} (h : JG X cls e f ss) : PG X e (cG X.K cls f ss) := by
  obtain ⟨t, p, d⟩ := h.ex
  exact ⟨fun pins s σ H v u Q I r ⟨dd, F, g, O, g', sm, st, rr, ee, q⟩ => p.run pins s σ H v u Q I r (d v dd σ F H g O g' Q sm st rr ee q)⟩
theorem JSs.canon {st : List Stmt} {f : Env → Out} (h : JSs X cls W st f) : PSs X st (cS X.K cls f W) := by
  obtain ⟨t, p, d⟩ := h.ex
  exact ⟨fun pins s σ H D I ⟨F, g, O, sm, st, q⟩ => p.run pins s σ H D I (d D σ F H g O sm st q)⟩

theorem je_lc {ifs : List Expr} {scope : Scope} {ft : D → Env → Option Env} {gt : Env → Res Bool} {fe : Env → Res D} {ss : List Nat} {k : Nat} (own : List (Str × Nat)) (c : Cn X W k) (hi : JI X cls W tg iter fs) (ok : BlkOk X.N X.env.scope scope own)
    (hg : ∀ (s : Shared) (H : Hp) (C : Addr) (cl : List (Str × Addr)) (fp : List Addr), JG (X.blk s H scope (compEnvC scope cl C X.env) fp) cls tg ft ss)
    (ht : ∀ (s : Shared) (H : Hp) (C : Addr) (cl : List (Str × Addr)) (fp : List Addr), Cn (X.blk s H scope (compEnvC scope cl C X.env) fp) W0 k → JTs (X.blk s H scope (compEnvC scope cl C X.env) fp) cls W0 ifs gt)
    (he : ∀ (s : Shared) (H : Hp) (C : Addr) (cl : List (Str × Addr)) (fp : List Addr), Cn (X.blk s H scope (compEnvC scope cl C X.env) fp) W0 k → JE (X.blk s H scope (compEnvC scope cl C X.env) fp) cls W0 elt fe)
    (hss : ∀ i ∈ ss, i ∈ own.map (·.2)) (hs : ∀ x, foldedSetIterable iter X.env x = pure x := by intro _; rfl) :
    JE X cls W (.ListComp elt [⟨tg, iter, ifs, 0⟩] scope pos) (eLc fs (own.map (·.2)) ft gt fe) := by
  obtain ⟨wi, p, d⟩ := hi.ex
  exact ⟨_, pe_lc (own := own) c.calm c.nd p ok (fun s H C cl fp => (hg s H C cl fp).canon) (fun s H C cl fp => (ht s H C cl fp c.blk).canon) (fun s H C cl fp => (he s H C cl fp c.blk).canon) hs, de_lc d dg_cG dt_cT de_cE hss⟩
theorem js_setLcF {i : Nat} {y : Str} {py spos : Pos} {ifs : List Expr} {scope : Scope} {ft : D → Env → Option Env} {gt : Env → Res Bool} {fe : Env → Res D} {ss : List Nat} {k : Nat} (own : List (Str × Nat)) (c : Cn X W k) (hy : X.N[i]? = some y) (hyl : X.env.scope.names.lookup y = some .local)
    (hsw : swapsWith (.ListComp elt [⟨tg, iter, ifs, 0⟩] scope pos) (some (.Name y py)) spos.line X.env = pure true) (hi : JI X cls W tg iter fs) (ok : BlkOk X.N X.env.scope scope own)
    (hg : ∀ (s : Shared) (H : Hp) (C : Addr) (cl : List (Str × Addr)) (fp : List Addr), JG (X.blk s H scope (compEnvC scope cl C X.env) fp) cls tg ft ss)
    (ht : ∀ (s : Shared) (H : Hp) (C : Addr) (cl : List (Str × Addr)) (fp : List Addr), Cn (X.blk s H scope (compEnvC scope cl C X.env) fp) W0 k → JTs (X.blk s H scope (compEnvC scope cl C X.env) fp) cls W0 ifs gt)
    (he : ∀ (s : Shared) (H : Hp) (C : Addr) (cl : List (Str × Addr)) (fp : List Addr), Cn (X.blk s H scope (compEnvC scope cl C X.env) fp) W0 k → JE (X.blk s H scope (compEnvC scope cl C X.env) fp) cls W0 elt fe)
    (hss : ∀ i ∈ ss, i ∈ own.map (·.2)) (hs : ∀ x, foldedSetIterable iter X.env x = pure x := by intro _; rfl) :
    JS X cls W (.Assign [.Name y py] (.ListComp elt [⟨tg, iter, ifs, 0⟩] scope pos) spos) (sAsgF i (eLc fs (own.map (·.2)) ft gt fe)) := by
  obtain ⟨wi, p, d⟩ := hi.ex
  exact ⟨_, ps_setLc (own := own) c.calm c.nd hy hyl hsw p ok (fun s H C cl fp => (hg s H C cl fp).canon) (fun s H C cl fp => (ht s H C cl fp c.blk).canon) (fun s H C cl fp => (he s H C cl fp c.blk).canon) hs, ds_asgF (de_lc d dg_cG dt_cT de_cE hss)⟩

theorem Sts.lst {g : Env} {i : Nat} {xs : List D} (st : Sts K cls F H σ g O) (e : g[i]? = some (.ol xs)) : ∃ p vs O1, σ[i]? = some (some (.ref p)) ∧ H p = some (.lst vs) ∧ F p = none ∧ p ∉ O1 ∧ Ows K cls F H vs xs O1 ∧ p ∈ O ∧ (∀ a ∈ O1, a ∈ O) ∧
    ∀ (F' H' : Hp) (ws : List V) (ys : List D) (O2 : List Addr), Ext F H F' H' → Ows K cls F' H' ws ys O2 → p ∉ O2 → (∀ a ∈ O2, a ∈ O1 ∨ H a = none) →
      ∃ O'', Sts K cls F' (upd H' p (.lst ws)) σ (g.set i (.ol ys)) O'' ∧ SExt F H O F' (upd H' p (.lst ws)) O'' := by
  obtain ⟨P, h1, h2, h3, _⟩ := st.at i (List.getElem?_eq_some_iff.mp e).1
  rcases h2 with ⟨h2, _⟩ | ⟨v, d, h2, h2', ow⟩
  · rw [e] at h2; cases h2
  · rw [e] at h2'; cases h2'
    cases ow with
    | sh r => cases r
    | @ol p vs _ O1 f1 f2 f3 f4 =>
      refine ⟨p, vs, O1, h2, f2, f1, f3, f4, h1 _ (by simp), fun a ha => h1 a (by simp [ha]), fun F' H' ws ys O2 x w n k => ?_⟩
      have hp : F' p = none := x.ow p f1 (by rw [f2]; exact fun e => nomatch e)
      have up : ∀ b, b ≠ p → upd H' p (.lst ws) b = H' b := fun b hb => upd_ne hb
      obtain ⟨O'', q1, q2⟩ := h3 F' (upd H' p (.lst ws)) (.ref p) (.ol ys) (p :: O2) (fun b hb hn => by
          obtain ⟨e1, e2⟩ := x.get (st.dom b hb).1 (st.dom b hb).2
          exact ⟨(up b fun z => hn (by simp [z])).trans e1, e2⟩) x.ff
        (.ol hp upd_same n (w.frame (.refl F') fun a ha => ⟨up a fun z => n (z ▸ ha), (w.dom a ha).1⟩)) (fun a ha hO => by
          rcases List.mem_cons.mp ha with rfl | ha
          · simp
          · rcases k a ha with z | z
            · simp [z]
            · exact absurd z (st.dom a hO).2)
      rw [set_self h2] at q1
      refine ⟨O'', q1, x.ff, fun b o q => ?_, fun b o q hn => ?_, fun b h1 h2 _ => x.ow b h1 h2, fun b hb => ?_⟩
      · rw [up b fun z => by rw [z, hp] at q; cases q]; exact x.fh b o q
      · rw [up b fun z => hn (z ▸ h1 p (by simp))]; exact x.hh b o q
      · rcases q2 b hb with z | z
        · exact .inl z
        · rcases List.mem_cons.mp z with rfl | z
          · exact .inl (h1 _ (by simp))
          · exact (k b z).imp (fun z => h1 b (by simp [z])) id
def sApp (i : Nat) (fa : Env → Res D) : Env → Out := fun g => match g[i]? with
  | some (.ol xs) => ((fa g).bind kp).st g fun d => if xs.length < lim then .nx (g.set i (.ol (xs ++ [d]))) else .bad
  | _ => .bad
@[simp] theorem sApp_ (i : Nat) (fa : Env → Res D) (g : Env) : sApp i fa g = match g[i]? with
  | some (.ol xs) => ((fa g).bind kp).st g fun d => if xs.length < lim then .nx (g.set i (.ol (xs ++ [d]))) else .bad
  | _ => .bad := rfl
theorem js_app {i : Nat} {x : Str} {npos apos cpos : Pos} (hN : X.N[i]? = some x) (hv : Vis X.env.scope x) (ha : JE X cls W a fa) (hd : (x == ("__debug__" : Str)) = false := by decide) (hcd : (x == ("__classdict__" : Str)) = false := by decide)
    (hbase : attributeBase (.Name x npos) "append" X.env (eval (.Name x npos) X.env) = eval (.Name x npos) X.env := by rfl)
    (hfew : ((backTo cpos (starEach (a :: []) X.env)).all (fun x => !x.1) && (backToKw cpos (keywordEach [] X.env)).all (fun x => x.1.isSome)
      && decide ((a :: []).length + ([] : List Keyword).length + (if ([] : List Keyword).isEmpty then 0 else 1) < 30)) = true := by rfl)
    (hline : (apos.endLine == cpos.line) = true := by rfl) (hs : starEach (a :: []) X.env = (false, eval a X.env) :: starEach [] X.env := by rfl) (hplain : (backTo cpos (starEach [] X.env)).any (·.1) = false := by rfl)
    (hsw : swapsWith (.Call (.Attribute (.Name x npos) "append" apos) [a] [] cpos) none pos.line X.env = pure false := by rfl) :
    JS X cls W (.Expr (.Call (.Attribute (.Name x npos) "append" apos) [a] [] cpos) pos) (sApp i fa) := by
  obtain ⟨t, p, d⟩ := ha.ex
  refine ⟨_, ps_expr (pe_bm PySem.F.plainAttrs_list PySem.F.slot_list_append PySem.F.type_list_append mt_append (pe_var hN hv hd hcd) (pa_cons p pa_nil hs) hbase hfew hline hs hplain) hsw, ?_⟩
  intro D σ F H g O s st p
  rw [sApp_] at p
  split at p
  · rename_i xs eg
    obtain ⟨q, vs, O1, h1, h2, h2', h3, h4, h5, h6, h7⟩ := st.lst eg
    refine ⟨.ref q, h1, .inl ⟨rfl, vs, SqL.of h2⟩, ?_⟩
    refine d.goS s st p fun dd e p v F1 H1 O2 x fr w => ?_
    split at p
    · rename_i hl
      refine ⟨q, vs, v, rfl, rfl, x.hh _ _ h2, by rw [h4.len]; exact lim_lt hl, ?_⟩
      obtain ⟨O'', z1, z2⟩ := h7 F1 H1 (vs ++ [v]) (xs ++ [dd]) (O1 ++ O2) x ((h4.ext x).snoc w fun a q1 q2 => (h4.dom a q1).2 (fr a q2)) (fun z => by
          rcases List.mem_append.mp z with z | z
          · exact h3 z
          · have := fr q z; rw [h2] at this; cases this) (fun a z => (List.mem_append.mp z).imp id (fr a))
      exact p σ F1 _ O'' z2 z1
    · exact p.elim
  · exact p.elim
theorem Ows.set : ∀ {vs : List V} {ds : List D} {O1 O2 : List Addr} {v : V} {d : D} (j : Nat), Ows K cls F H vs ds O1 → Ow K cls F H v d O2 → (∀ a ∈ O1, a ∉ O2) → ∃ O3, Ows K cls F H (vs.set j v) (ds.set j d) O3 ∧ ∀ a ∈ O3, a ∈ O1 ∨ a ∈ O2
  | _, _, _, O2, _, _, _, .nil, _, _ => ⟨[], .nil, fun _ h => nomatch h⟩
  | _, _, _, O2, _, _, 0, .cons (O1 := P1) (O2 := P2) a b dj e, w, n => by
    subst e
    refine ⟨O2 ++ P2, .cons w b (fun x h1 h2 => n x (List.mem_append_right _ h2) h1) rfl, fun x hx => ?_⟩
    rcases List.mem_append.mp hx with z | z
    · exact .inr z
    · exact .inl (List.mem_append_right _ z)
  | _, _, _, O2, _, _, j + 1, .cons (O1 := P1) (O2 := P2) a b dj e, w, n => by
    subst e
    obtain ⟨O3, h1, h2⟩ := b.set j w fun x hx => n x (List.mem_append_right _ hx)
    refine ⟨P1 ++ O3, .cons a h1 (fun x q1 q2 => ?_) rfl, fun x hx => ?_⟩
    · rcases h2 x q2 with z | z
      · exact dj x q1 z
      · exact n x (List.mem_append_left _ q1) z
    · rcases List.mem_append.mp hx with z | z
      · exact .inl (List.mem_append_left _ z)
      · exact (h2 x z).imp (fun z => List.mem_append_right _ z) id
def sSet (i : Nat) (fk fa : Env → Res D) : Env → Out := fun g => ((fa g).bind kp).st g fun d => match g[i]? with
  | some (.ol xs) => (fk g).st g fun k => match opd k with
    | .int k => match ixN xs.length k with
      | some j => .nx (g.set i (.ol (xs.set j d)))
      | none => .bad
    | _ => .bad
  | _ => .bad
@[simp] theorem sSet_ (i : Nat) (fk fa : Env → Res D) (g : Env) : sSet i fk fa g = ((fa g).bind kp).st g fun d => match g[i]? with
  | some (.ol xs) => (fk g).st g fun k => match opd k with
    | .int k => match ixN xs.length k with
      | some j => .nx (g.set i (.ol (xs.set j d)))
      | none => .bad
    | _ => .bad
  | _ => .bad := rfl
theorem js_setIx {i : Nat} {x : Str} {npos spos : Pos} {fk : Env → Res D} (hN : X.N[i]? = some x) (hv : Vis X.env.scope x) (ha : JE X cls W a fa) (hk : JE X cls W b fk) (hd : (x == ("__debug__" : Str)) = false := by decide) (hcd : (x == ("__classdict__" : Str)) = false := by decide)
    (hs : swapsWithSole [.Subscript (.Name x npos) b spos] a pos.line X.env = pure false := by rfl) (hw : swappedStores [.Subscript (.Name x npos) b spos] a X.env = pure none := by rfl)
    (h1 : (assignEach [.Subscript (.Name x npos) b spos] X.env).map (·.2) = [assign (.Subscript (.Name x npos) b spos) X.env] := by rfl)
    (hass : ∀ v, assign (.Subscript (.Name x npos) b spos) X.env v = (do
      let ov ← holding [v] (eval (.Name x npos) X.env)
      let iv ← holding [v, ov] (eval b X.env)
      standAt spos
      holding [v, ov, iv] (setItem ov iv v)
      release [v, ov, iv] []) := by intro _; rfl) : JS X cls W (.Assign [.Subscript (.Name x npos) b spos] a pos) (sSet i fk fa) := by
  obtain ⟨t, p, d⟩ := ha.ex
  obtain ⟨t2, p2, d2⟩ := hk.ex
  refine ⟨_, ps_asg p (pg_sub (pe_var hN hv hd hcd) p2 set_list hass) hs hw h1, ?_⟩
  intro D σ F H g O s st p
  rw [sSet_] at p
  refine d.goS s st p fun dd e p v F1 H1 O2 x fr w => ?_
  split at p
  · rename_i xs eg
    obtain ⟨q, vs, O1, h1, h2, h2', h3, h4, h5, h6, h7⟩ := st.lst eg
    refine ⟨.ref q, h1, ?_⟩
    refine d2.go x.fh (st.ext x) (fun c e F' H' y => by rw [e] at p; exact p σ F' H' O ((x.trans y).sext fun a h => .inl h) (st.ext (x.trans y))) (fun e => by rw [e] at p; exact p) fun kd e kv F3 H3 x3 b3 => ?_
    rw [e, Res.st_ok] at p
    split at p
    · rename_i k ek
      split at p
      · rename_i j ej
        rw [ek] at b3
        obtain rfl := b3.int
        have x13 := x.trans x3
        refine ⟨q, vs, k, j, rfl, rfl, x13.hh _ _ h2, by rw [h4.len]; exact ej, ?_⟩
        obtain ⟨O3, w3, n3⟩ := (h4.ext x13).set j (w.ext x3) fun a q1 q2 => (h4.dom a q1).2 (fr a q2)
        obtain ⟨O'', z1, z2⟩ := h7 F3 H3 (vs.set j v) (xs.set j dd) O3 x13 w3 (fun z => by
          rcases n3 _ z with z | z
          · exact h3 z
          · have := fr q z; rw [h2] at this; cases this) (fun a z => (n3 a z).imp id (fr a))
        exact p σ F3 _ O'' z2 z1
      · exact p.elim
    · exact p.elim
  · exact p.elim
def sAug (op : Int → Int → Int) (i : Nat) (fa : Env → Res D) : Env → Out := fun g => match g[i]? with
  | some (.int a) => (fa g).st g fun d => match opd d with
    | .int b => .nx (g.set i (.int (op a b)))
    | _ => .bad
  | _ => .bad
@[simp] theorem sAug_ (op : Int → Int → Int) (i : Nat) (fa : Env → Res D) (g : Env) : sAug op i fa g = match g[i]? with
  | some (.int a) => (fa g).st g fun d => match opd d with
    | .int b => .nx (g.set i (.int (op a b)))
    | _ => .bad
  | _ => .bad := rfl
end
end DL

namespace DL
open PySem L2
section
variable {K : PySem.W.Frag} {cls : Cls} {W : WX} {X : Cx} {F H F' H' F1 H1 : Hp} {O O1 : List Addr} {Q : VK} {σ : St} {a b e tg iter elt : Expr} {es : List Expr} {fa fb fc : Env → Res D} {ga gb : Env → Res Bool} {fs : Env → Res (List D)} {pos : Pos}
structure ExOk (K : PySem.W.Frag) (mg : Str → Option Value) (cls : Cls) (c : Nat) (x : Str) (C : Addr) : Prop where
  e : cls c = some (C, [])
  g : mg x = some (.ref C)
  x : PySem.W.excIn K C [.type "ValueError", .type "Exception", .type "BaseException", .type "object"] "ValueError.__new__" = true
  k : PySem.W.keepIn K (.ref C) = true
  b : PySem.W.subIn K (.ref C) (.type "BaseException") = some true
  t : PySem.W.typeIn K (.ref C) = some (.type "type")
theorem ExOk.v {mg : Str → Option Value} {c : Nat} {x : Str} {C : Addr} (h : ExOk K mg cls c x C) : excV cls c = .ref C := by unfold excV; rw [h.e]
def sRaise (c : Nat) : Env → Out := fun g => .xc c g
@[simp] theorem sRaise_ (c : Nat) (g : Env) : sRaise c g = .xc c g := rfl
theorem js_raise {c k : Nat} {x m : Str} {C : Addr} {j : Nat} {p p2 pos2 : Pos} (n : Cn X W k) (h : ExOk X.K X.mg cls c x C) (hg : Gl X x := by rfl) (hdb : (x == ("__debug__" : Str)) = false := by decide) :
    JS X cls W (.Raise (some (.Call (.Name x p) [.Constant (.str m) j p2] [] pos)) none pos2) (sRaise c) := by
  refine ⟨_, ps_raise n.calm n.tk (pmk_own PySem.F.excBase_ValueError h.x h.g h.k (raises_own h.b h.t) hg hdb), ?_⟩
  intro D σ F H g O s st p
  have q := p σ F H O (.refl s) st
  rw [h.v] at q
  exact q

def runF (f : Env → Out) (n : Nat) (ds : List D) : Res D := match f (ds ++ List.replicate (n - ds.length) .un) with
  | .rt d => .ok d
  | .nx _ => .ok .non
  | .xc c _ => .xc c
  | _ => .bad
theorem sts_start {vs : List V} {ds : List D} (h : Rps K cls F vs ds) (n : Nat) : Sts K cls F H (vs.map some ++ List.replicate n none) (ds ++ List.replicate n .un) [] := by
  induction ds generalizing vs with
  | nil =>
    cases h
    simp only [List.map_nil, List.nil_append]
    induction n with
    | zero => exact .nil
    | succ n ih => rw [List.replicate_succ, List.replicate_succ]; exact .un ih
  | cons d ds ih =>
    cases h with
    | cons a b => exact .cons (.sh a) (ih b) (fun _ q => nomatch q) rfl
theorem fnD_ok {P : Program} {w : World} {mg : Str → Option Value} {base : Heap} {x qual : Str} {st : Stmt} {f : Addr} {fd : FuncData} {N ps : List Str} {k n : Nat} {g : List D → Res D} {fb : Env → Out}
    (Fn : Fun K x qual st f fd) (S : FnScope N ps (defScope st)) (hn : ps.length = n)
    (hbody : ∀ (cdv : Value) (A : Around) (outer : List PySem.Env) (s : Shared) (H : Hp) (E : XK), Cn (cxOf (L2.CX P w) P w K mg base N qual (defScope st) f cdv A outer s H E) (fun c d _ H => E c d H) k →
      JSs (cxOf (L2.CX P w) P w K mg base N qual (defScope st) f cdv A outer s H E) cls (fun c d _ H => E c d H) (defBody st) fb)
    (heq : ∀ ds, ds.length = n → g ds = .bad ∨ runF fb N.length ds = g ds) : FnOk P w K mg base (L2.CX P w) (k + 1) f fd ps (spD K cls n g) := by
  refine Fn.okX S (fun vs H Q E h => ?_) (fun cdv A outer s H vs Q E hr h => ?_)
  · obtain ⟨F, ds, _, r, h1, _⟩ := h
    rw [r.len, h1, hn]
  · obtain ⟨F, ds, sm, r, hl, h⟩ := h
    obtain ⟨t, p, d⟩ := (hbody cdv A outer s H E ⟨takes_of rfl rfl rfl rfl, passes_of rfl, rfl, S.nd, hr⟩).ex
    refine ⟨t, p, d _ _ F H (ds ++ List.replicate (N.length - ds.length) .un) [] sm ?_ ?_⟩
    · unfold L2.start
      rw [r.len]
      exact sts_start r _
    · rcases heq ds hl with e | e
      · rw [e] at h; exact h.elim
      · rw [← e] at h
        unfold runF at h
        cases q : fb (ds ++ List.replicate (N.length - ds.length) .un) with
        | nx g' => rw [q] at h; exact fun σ' F' H' O' x st' => h .non F' H' [] x.ext Fresh.nil (.sh .non)
        | rt d => rw [q] at h; exact fun v F' H' O' x w => h v F' H' O' x.ext (fun a ha => (x.oo a ha).resolve_left (by simp)) w
        | xc c g' => rw [q] at h; exact fun σ' F' H' O' x st' => h F' H' x.ext
        | bk g' => rw [q] at h; exact h.elim
        | ct g' => rw [q] at h; exact h.elim
        | bad => rw [q] at h; exact h.elim

def spI (K : PySem.W.Frag) (cls : Cls) (c n : Nat) (g : List D → Res (List D)) : Sp := fun vs H Q E => ∃ F x C dx ns vs' ds, vs = .ref x :: vs' ∧ cls c = some (C, ns) ∧ Same F H ∧ F x = none ∧ H x = some (.ins C dx []) ∧ Rps K cls F vs' ds ∧ ds.length = n ∧
  match g ds with
  | .ok fs => ∀ F' H' O', SExt F H [x] F' H' O' → Ow K cls F' H' (.ref x) (.oo none c fs) O' → Q .non H'
  | .xc e => ∀ F' H' O', SExt F H [x] F' H' O' → E (excV cls e) none H'
  | .bad => False
def outI (c : Nat) (x : Addr) : Out → Res (List D)
  | .nx g => match (g : List D)[0]? with
    | some (D.oo (some y) c' fs) => if c' = c ∧ y = x then .ok fs else .bad
    | _ => .bad
  | .xc e _ => .xc e
  | _ => .bad
def runI (f : Env → Out) (c n : Nat) (x : Addr) (ds : List D) : Res (List D) := outI c x (f (.oo (some x) c [] :: ds ++ List.replicate (n - (ds.length + 1)) .un))
theorem fnI_ok {P : Program} {w : World} {mg : Str → Option Value} {base : Heap} {x qual : Str} {st : Stmt} {f : Addr} {fd : FuncData} {N ps : List Str} {k n c : Nat} {g : List D → Res (List D)} {fb : Env → Out}
    (Fn : Fun K x qual st f fd) (S : FnScope N ps (defScope st)) (hn : ps.length = n + 1)
    (hbody : ∀ (cdv : Value) (A : Around) (outer : List PySem.Env) (s : Shared) (H : Hp) (E : XK), Cn (cxOf (L2.CX P w) P w K mg base N qual (defScope st) f cdv A outer s H E) (fun c d _ H => E c d H) k →
      JSs (cxOf (L2.CX P w) P w K mg base N qual (defScope st) f cdv A outer s H E) cls (fun c d _ H => E c d H) (defBody st) fb)
    (heq : ∀ ds x, ds.length = n → g ds = .bad ∨ runI fb c N.length x ds = g ds) : FnOk P w K mg base (L2.CX P w) (k + 1) f fd ps (spI K cls c n g) := by
  refine Fn.okX S (fun vs H Q E h => ?_) (fun cdv A outer s H vs Q E hr h => ?_)
  · obtain ⟨F, x, C, dx, ns, vs', ds, rfl, _, _, _, _, r, h1, _⟩ := h
    rw [List.length_cons, r.len, h1, hn]
  · obtain ⟨F, x, C, dx, ns, vs', ds, rfl, hc, sm, fx, hx, r, hl, h⟩ := h
    obtain ⟨t, p, d⟩ := (hbody cdv A outer s H E ⟨takes_of rfl rfl rfl rfl, passes_of rfl, rfl, S.nd, hr⟩).ex
    have s0 : Sts K cls F H (L2.start N (V.ref x :: vs')) (.oo (some x) c [] :: ds ++ List.replicate (N.length - (ds.length + 1)) .un) [x] := by
      unfold L2.start
      rw [List.length_cons, r.len, List.map_cons, List.cons_append, List.cons_append]
      exact .cons (O1 := [x]) (O2 := []) (.oo (fun y e => by cases e; rfl) hc fx (by simpa using hx) (Nat.zero_le _) (by simp) .nil) (sts_start r _) (fun a _ h => nomatch h) rfl
    refine ⟨t, p, d _ _ F H _ [x] sm s0 ?_⟩
    rcases heq ds x hl with e | e
    · rw [e] at h; exact h.elim
    · rw [← e] at h
      unfold runI at h
      cases q : fb (.oo (some x) c [] :: ds ++ List.replicate (N.length - (ds.length + 1)) .un) with
      | nx g' =>
        rw [q] at h
        intro σ' F' H' O' y st'
        unfold outI at h
        simp only [] at h
        split at h
        · rename_i fs eo
          split at eo
          · rename_i y' c' fs' eg
            split at eo
            · rename_i hcc
              cases eo
              obtain ⟨rfl, rfl⟩ := hcc
              obtain ⟨P, h1, h2, _⟩ := st'.at 0 (List.getElem?_eq_some_iff.mp eg).1
              rcases h2 with ⟨h2, _⟩ | ⟨v, d2, h2, h2', ow⟩
              · rw [eg] at h2; cases h2
              · rw [eg] at h2'; cases h2'
                cases ow with
                | sh r => cases r
                | oo ho hc h1' h2o hl h3 r =>
                  have := ho _ rfl
                  subst this
                  exact h F' H' _ ⟨y.ff, y.fh, y.fr, y.ow, fun a ha => y.oo a (h1 a ha)⟩ (.oo (fun _ e => nomatch e) hc h1' h2o hl h3 r)
            · cases eo
          · cases eo
        · rename_i e' eo
          split at eo
          · split at eo <;> cases eo
          · cases eo
        · exact h.elim
      | xc e g' => rw [q] at h; exact fun σ' F' H' O' y st' => h F' H' O' y
      | rt d => rw [q] at h; exact h.elim
      | bk g' => rw [q] at h; exact h.elim
      | ct g' => rw [q] at h; exact h.elim
      | bad => rw [q] at h; exact h.elim

theorem putF_new : ∀ {ns : List Str} {vs : List V} {f : Str} {y : V}, ns.Nodup → vs.length ≤ ns.length → ns[vs.length]? = some f → putF f y (ns.zip vs) = ns.zip (vs ++ [y])
  | [], vs, f, y, _, hl, h => by simp at h
  | n :: ns, [], f, y, _, _, h => by
    simp at h
    subst h
    simp [putF]
  | n :: ns, v :: vs, f, y, nd, hl, h => by
    obtain ⟨a1, a2⟩ := List.nodup_cons.mp nd
    have h' : ns[vs.length]? = some f := by simpa using h
    have ne : ¬ n = f := fun e => a1 (e ▸ List.mem_of_getElem? h')
    rw [List.zip_cons_cons, List.cons_append, List.zip_cons_cons]
    show (if n = f then (n, y) :: ns.zip vs else (n, v) :: putF f y (ns.zip vs)) = _
    rw [if_neg ne, putF_new a2 (by simpa using hl) h']
def sFld (i c j : Nat) (fa : Env → Res D) : Env → Out := fun g => ((fa g).bind kp).st g fun d => match (g : List D)[i]? with
  | some (D.oo o c' ds) => if c' = c ∧ ds.length = j then .nx (g.set i (.oo o c (ds ++ [d]))) else .bad
  | _ => .bad
@[simp] theorem sFld_ (i c j : Nat) (fa : Env → Res D) (g : Env) : sFld i c j fa g = ((fa g).bind kp).st g fun d => match (g : List D)[i]? with
  | some (D.oo o c' ds) => if c' = c ∧ ds.length = j then .nx (g.set i (.oo o c (ds ++ [d]))) else .bad
  | _ => .bad := rfl
theorem js_fld {i c j : Nat} {C : Addr} {ns : List Str} {f x : Str} {npos pos' : Pos} (T : ClsOk X.K cls c C ns) (hj : ns[j]? = some f) (hj9 : j < 1000) (hN : X.N[i]? = some x) (hv : Vis X.env.scope x) (ha : JE X cls W a fa)
    (hd : (x == ("__debug__" : Str)) = false := by decide) (hcd : (x == ("__classdict__" : Str)) = false := by decide)
    (hs : swapsWith a (some (.Attribute (.Name x npos) f pos')) pos.line X.env = pure false := by rfl) : JS X cls W (.Assign [.Attribute (.Name x npos) f pos'] a pos) (sFld i c j fa) := by
  obtain ⟨t, p, d⟩ := ha.ex
  refine ⟨_, ps_fld (pe_var hN hv hd hcd) p hs, ?_⟩
  intro D σ F H g O s st p
  rw [sFld_] at p
  refine d.goS s st p fun dd e p v F1 H1 O2 xx fr w => ?_
  split at p
  · rename_i o c' ds eg
    split at p
    · rename_i hc
      obtain ⟨hc1, hc2⟩ := hc
      subst hc1
      obtain ⟨P, h1, h2, h3, _⟩ := st.at i (List.getElem?_eq_some_iff.mp eg).1
      rcases h2 with ⟨h2, _⟩ | ⟨v0, d0, h2, h2', ow⟩
      · rw [eg] at h2; cases h2
      · rw [eg] at h2'; cases h2'
        cases ow with
        | sh r => cases r
        | @oo _ q C' dx _ ns' vs _ O1 ho hcl f1 f2 hl f3 f4 =>
          have := hcl.symm.trans T.e
          cases this
          have hlen : vs.length = ds.length := f4.len
          have hf : F1 q = none := xx.ow q f1 (by rw [f2]; exact fun e => nomatch e)
          have hq : H1 q = some (.ins C dx (ns.zip vs)) := xx.hh _ _ f2
          refine ⟨.ref q, h2, q, C, dx, ns.zip vs, rfl, hq, T.cl, T.na f (List.mem_of_getElem? hj), ?_, ?_⟩
          · rw [List.length_zip]; omega
          · rw [putF_new T.nd hl (by rw [hlen, hc2]; exact hj)]
            have dj : ∀ a ∈ O1, a ∉ O2 := fun a q1 q2 => (f4.dom a q1).2 (fr a q2)
            have nq : q ∉ O1 ++ O2 := fun z => by
              rcases List.mem_append.mp z with z | z
              · exact f3 z
              · have := fr q z; rw [f2] at this; cases this
            have wv := (f4.ext xx).snoc w dj
            have hle : (vs ++ [v]).length ≤ ns.length := by
              have := (List.getElem?_eq_some_iff.mp hj).1
              rw [List.length_append, List.length_singleton]; omega
            have up : ∀ b, b ≠ q → upd H1 q (.ins C dx (ns.zip (vs ++ [v]))) b = H1 b := fun b hb => upd_ne hb
            obtain ⟨O'', q1, q2⟩ := h3 F1 (upd H1 q (.ins C dx (ns.zip (vs ++ [v])))) (.ref q) (.oo o c' (ds ++ [dd])) (q :: (O1 ++ O2)) (fun b hb hn => by
                obtain ⟨e1, e2⟩ := xx.get (st.dom b hb).1 (st.dom b hb).2
                exact ⟨(up b fun z => hn (by simp [z])).trans e1, e2⟩) xx.ff
              (.oo ho hcl hf upd_same hle nq (wv.frame (.refl F1) fun a ha => ⟨up a fun z => nq (z ▸ ha), (wv.dom a ha).1⟩)) (fun a ha hO => by
                rcases List.mem_cons.mp ha with rfl | ha
                · simp
                · rcases List.mem_append.mp ha with z | z
                  · simp [z]
                  · exact absurd (fr a z) (st.dom a hO).2)
            rw [set_self h2] at q1
            refine p σ F1 _ O'' ⟨xx.ff, fun b o e => ?_, fun b o e hn => ?_, fun b h1 h2 _ => xx.ow b h1 h2, fun b hb => ?_⟩ q1
            · rw [up b fun z => by rw [z, hf] at e; cases e]; exact xx.fh b o e
            · rw [up b fun z => hn (z ▸ h1 q (by simp))]; exact xx.hh b o e
            · rcases q2 b hb with z | z
              · exact .inl z
              · rcases List.mem_cons.mp z with rfl | z
                · exact .inl (h1 _ (by simp))
                · rcases List.mem_append.mp z with z | z
                  · exact .inl (h1 b (by simp [z]))
                  · exact .inr (fr b z)
    · exact p.elim
  · exact p.elim

theorem run_makeS {k : Nat} {f C : Addr} {fd : FuncData} {ps : List Str} {sp : Sp} {E : XK} {pins : List (Addr × Obj)} {s : Shared} {us : List Value} {vs : List V} {CXx : CXT} (M : Mk X.K C f) (G : FnOk X.prog X.w X.K X.mg X.base CXx k f fd ps sp) (hr : Room (k + 1) X.A) (hb : Binds X.K fd ps [])
    (hx : PassesAt CXx X σ E) (hx2 : ∀ H' s' e s'', Inv X pins σ H s → Inv X pins σ H' s' → CXx X.stack H' s' E e s'' → X.xe e s'') (I : Inv X pins σ H s) (r : Vals vs us)
    (h : ∀ x dx, H x = none → H dx = none → dx ≠ x → sp (.ref x :: vs) (upd (upd H dx (.own x)) x (.ins C dx [])) (fun v H2 => v = .non ∧ Q (.ref x) H2) E) :
    wpAny (model X.prog X.w) X.A (call (.ref C) us) (EP X pins σ Q) X.xe s := by
  have hq := h (s.heap.objs.size + 1) s.heap.objs.size (I.hok.fresh (Nat.le_succ _)) (I.hok.fresh (Nat.le_refl _)) (Nat.ne_of_lt (Nat.lt_succ_self _))
  have I2 := Inv.made (C := C) I
  have r2 : Vals (V.ref (s.heap.objs.size + 1) :: vs) (Value.ref (s.heap.objs.size + 1) :: us) := .cons rfl r
  have hl : (Value.ref (s.heap.objs.size + 1) :: us ++ []).length = ps.length := by
    have e := r2.length
    rw [G.len _ _ _ _ hq] at e
    rw [List.append_nil]
    exact e.symm
  refine wpAny_call (make_map (f := f) I.kIn M.makes M.init (beq_iff_eq.mp M.fn) (codeAny_mono (G.run _ X.stack _ _ ⟨Value.ref (s.heap.objs.size + 1) :: us, []⟩ (Value.ref (s.heap.objs.size + 1) :: us) _ _ E (hr.make C us [])
    (I2.env0.make C us []) (by have := hb _ (Value.ref (s.heap.objs.size + 1) :: us) I2.kIn hl; rw [List.append_nil] at this; exact this) r2 hq) fun r s' hq' => ?_))
  cases r with
  | error e => exact hx2 _ _ e s' I I2 hq'
  | ok fl =>
    cases fl with
    | ret u =>
      obtain ⟨v, H', I3, rv, ev, q3⟩ := I2.after hq'
      subst ev
      exact ⟨rv, ⟨V.ref (s.heap.objs.size + 1), H', I3, rfl, q3⟩⟩
    | next => exact False.elim hq'
    | brk => exact False.elim hq'
    | cont => exact False.elim hq'
def tMakeS (C : Addr) (sp : Sp) (E : St → XK) (t : TA) : TE := fun σ H Q => t σ H fun vs H1 => ∀ x dx, H1 x = none → H1 dx = none → dx ≠ x →
  sp (.ref x :: vs) (upd (upd H1 dx (.own x)) x (.ins C dx [])) (fun v H2 => v = .non ∧ Q (.ref x) H2) (E σ)
theorem pe_makeS {k : Nat} {f C : Addr} {fd : FuncData} {ps : List Str} {sp : Sp} {x : Str} {p : Pos} {t : TA} (M : Mk X.K C f) (G : FnOk X.prog X.w X.K X.mg X.base (L2.CX X.prog X.w) k f fd ps sp) (hr : Room (k + 1) X.A) (hg : Gl X x) (hm : X.mg x = some (.ref C)) (hb : Binds X.K fd ps [])
    (tk : Takes X W) (ha : PA X (e :: es) t) (hdb : (x == ("__debug__" : Str)) = false := by decide) (he : starEach (e :: es) X.env = (false, eval e X.env) :: starEach es X.env := by rfl) (hpl : (backTo pos (starEach es X.env)).any (·.1) = false := by rfl) :
    PE X (.Call (.Name x p) (e :: es) [] pos) (tMakeS C sp (fun σ => WE W σ) t) := by
  refine ⟨fun pins s σ H Q I h => ?_⟩
  refine wpAny_Call_Name_kw (ld_glob I hg hm ?_ hdb)
  refine PySem.W.callWith_K (h₀ := X.base) I.ok.mod.kin M.kp (thn (ha.run pos pins s σ H _ I h) fun us s1 ⟨vs, H1, I1, r, q⟩ => ⟨I1.kIn, ?_⟩) he hpl
  exact run_makeS M G hr hb (passAt tk σ) (fun H' s' e s'' _ I2 c => passAt tk σ pins H' s' e s'' I2 c) I1 r q
def eMkF (c : Nat) (g : List D → Res (List D)) (fs : Env → Res (List D)) : Env → Res D := fun e => (fs e).bind fun ds => if shd ds = true then (g ds).bind fun fl => if nods fl = true then .ok (.ob c (frzs fl)) else .bad else .bad
@[simp] theorem eMkF_ (c : Nat) (g : List D → Res (List D)) (fs : Env → Res (List D)) (e : Env) : eMkF c g fs e = (fs e).bind fun ds => if shd ds = true then (g ds).bind fun fl => if nods fl = true then .ok (.ob c (frzs fl)) else .bad else .bad := rfl
theorem je_make {k c n : Nat} {f C : Addr} {fd : FuncData} {ps ns : List Str} {g : List D → Res (List D)} {x : Str} {p : Pos} (cn : Cn X W (k + 1)) (hcl : cls c = some (C, ns)) (M : Mk X.K C f) (G : FnOk X.prog X.w X.K X.mg X.base (L2.CX X.prog X.w) k f fd ps (spI X.K cls c n g))
    (hm : X.mg x = some (.ref C)) (hb : Binds X.K fd ps []) (ha : JA X cls W (e :: es) fs) (hn : ∀ g ds, fs g = .ok ds → ds.length = n) (hg : Gl X x := by rfl)
    (hdb : (x == ("__debug__" : Str)) = false := by decide) (he : starEach (e :: es) X.env = (false, eval e X.env) :: starEach es X.env := by rfl) (hpl : (backTo pos (starEach es X.env)).any (·.1) = false := by rfl) :
    JE X cls W (.Call (.Name x p) (e :: es) [] pos) (eMkF c g fs) := by
  obtain ⟨ta, pa, da⟩ := ha.ex
  refine ⟨_, pe_makeS M G cn.hr hg hm hb cn.tk pa hdb he hpl, ?_⟩
  intro σ F H env O Q s st p
  rw [eMkF_] at p
  refine da.go s st (fun c e => by rw [e] at p; exact p) (fun e => by rw [e] at p; exact p) fun ds e vs F1 H1 x1 b1 => ?_
  rw [e, Res.bind_ok] at p
  split at p
  · rename_i hsh
    intro x dx hx hdx hne
    have r1 := b1.toRps hsh
    have nF : ∀ {a : Addr}, H1 a = none → F1 a = none := fun {a} h => by
      cases q : F1 a with
      | none => rfl
      | some u => rw [x1.fh a u q] at h; cases h
    have sF : Same F1 (upd (upd H1 dx (.own x)) x (.ins C dx [])) := fun b o q => by
      rw [upd_ne (fun z => by rw [z, nF hx] at q; cases q), upd_ne (fun z => by rw [z, nF hdx] at q; cases q)]
      exact x1.fh b o q
    have sH : Same H1 (upd (upd H1 dx (.own x)) x (.ins C dx [])) := fun b o q => by
      rw [upd_ne (ne_of_none q hx), upd_ne (ne_of_none q hdx)]
      exact q
    refine ⟨F1, x, C, dx, ns, vs, ds, rfl, hcl, sF, nF hx, upd_same, r1, hn env ds e, ?_⟩
    have ext : ∀ {F' H' O'}, SExt F1 (upd (upd H1 dx (.own x)) x (.ins C dx [])) [x] F' H' O' → Ext F H F' H' := fun {F' H' O'} y =>
      ⟨x1.ff.trans y.ff, fun b o q => by
        have q1 := x1.hh b o q
        exact y.fr b o (sH b o q1) (by simp; exact ne_of_none q1 hx), y.fh, fun b h1 h2 => by
        have h3 := x1.ow b h1 h2
        have h4 : H1 b ≠ none := x1.some h2
        have h5 : b ≠ x := fun z => h4 (z ▸ hx)
        refine y.ow b h3 ?_ (by simp; exact h5)
        cases q : H1 b with
        | none => exact (h4 q).elim
        | some o => rw [sH b o q]; exact fun e => nomatch e⟩
    cases eg : g ds with
    | bad => rw [eg] at p; exact p.elim
    | xc e => rw [eg] at p; exact fun F' H' O' y => p F' H' (ext y)
    | ok fl =>
      rw [eg, Res.bind_ok] at p
      intro F' H' O' y w
      refine ⟨rfl, ?_⟩
      split at p
      · rename_i n
        have fr : Fresh H O' := fun a ha => by
          rcases y.oo a ha with z | z
          · simp at z; subst z; exact x1.hh.free hx
          · exact x1.hh.free (sH.free z)
        have no : ∀ a ∈ O', F' a = none := fun a ha => (w.dom a ha).1
        have z := w.freeze (addF_same no) addF_at (show nod (.oo none c fl) = true from n)
        exact p _ _ H' [] (addF_ext (ext y) fr no) Fresh.nil (.inl (.sh z))
      · exact p.elim
  · exact p.elim

def unO (i : Nat) : Out → Out
  | .nx g => .nx (g.set i .un)
  | .bk g => .bk (g.set i .un)
  | .ct g => .ct (g.set i .un)
  | .rt d => .rt d
  | .xc _ _ => .bad
  | .bad => .bad
def sTry (fb : Env → Out) (fh : Nat → Env → Out) : Env → Out := fun g => match fb g with
  | .xc c g' => fh c g'
  | o => o
@[simp] theorem sTry_ (fb : Env → Out) (fh : Nat → Env → Out) (g : Env) : sTry fb fh g = match fb g with
  | .xc c g' => fh c g'
  | o => o := rfl
theorem Sts.unset (s : Same F H) {g : Env} (st : Sts K cls F H σ g O) (i : Nat) : ∃ O', Sts K cls F H (σ.set i none) (g.set i .un) O' ∧ ∀ a ∈ O', a ∈ O := st.wipe s [i]
theorem js_try {i k : Nat} {n x : Str} {C : Addr} {body suite : List Stmt} {b0 : Stmt} {np pos' : Pos} {fbo : Env → Out} {fs : Nat → Addr → Env → Out} {fh : Nat → Env → Out} (cn : Cn X W k) (hs : X.stack = X.env :: X.outer) (hf : X.env.frame = some X.env.locals) (hi : X.N[i]? = some n) (hln : X.env.kindOf n = some .local)
    (hx : X.mg x = some (.ref C)) (hcatch : ∀ c g, fh c g ≠ .bad → PySem.W.exmOne X.K (excV cls c) (.ref C) = some true)
    (hb : ∀ (W : WX) (pn : List (Addr × Obj)) (xe : Value → Shared → Prop), Cn (X.tr pn xe) W k → JSs (X.tr pn xe) cls W body fbo)
    (hsu : ∀ (c : Nat) (a : Addr) (oe : Obj) (pn : List (Addr × Obj)), Zc (excV cls c) none oe → (∃ vs, oe.data = .fields vs) → JSs (X.suite a ((a, oe) :: pn)) cls W0 (b0 :: suite) (fs c a))
    (heq : ∀ c a g, fh c g = .bad ∨ unO i (fs c a (g.set i (.rf a))) = fh c g) (hg : Gl X x := by rfl) (hdb : (x == ("__debug__" : Str)) = false := by decide) :
    JS X cls W (.Try body [.ExceptHandler (some (.Name x np)) (some n) (b0 :: suite) pos'] [] [] pos) (sTry fbo fh) := by
  refine ⟨_, ps_try_as (i := i) (tb := fun W => cS X.K cls fbo W) (ts := fun a c d D σ H => ∃ ci, c = excV cls ci ∧ d = none ∧ cS X.K cls (fs ci a) W0 D σ H) (Wout := W) hs hf cn.nd hi hln ⟨hg, hdb, .inl hx⟩ cn.tk
    (fun W' pn xe tk hp => (hb W' pn xe ⟨tk, hp, cn.calm, cn.nd, cn.hr⟩).canon) (fun a oe c d pn hz hd => ?_), ?_⟩
  · refine ⟨fun pins s σ H D I q => ?_⟩
    obtain ⟨ci, rfl, rfl, q⟩ := q
    exact (hsu ci a oe pn hz hd).canon.run pins s σ H D I q
  · intro D σ F H g O s st p
    rw [sTry_] at p
    refine ⟨F, g, O, s, st, ?_⟩
    cases eb : fbo g with
    | nx g' => rw [eb] at p; exact p
    | rt d => rw [eb] at p; exact p
    | bk g' => rw [eb] at p; exact p
    | ct g' => rw [eb] at p; exact p
    | bad => rw [eb] at p; exact p
    | xc c g' =>
      rw [eb] at p
      have p : PostS X.K cls W D F H O (fh c g') := p
      have nb : fh c g' ≠ .bad := fun z => by rw [z] at p; exact p
      intro σ' F' H' O' y st'
      refine ⟨true, hcatch c g' nb, fun _ a ha => ⟨c, rfl, rfl, ?_⟩, fun q => nomatch q⟩
      have e : unO i (fs c a (g'.set i (.rf a))) = fh c g' := (heq c a g').resolve_left nb
      obtain ⟨O2, z1, z2⟩ := st'.putS (i := i) y.fh (.rf a)
      refine ⟨F', g'.set i (.rf a), O2, y.fh, z1, ?_⟩
      rw [← e] at p
      have y2 := y.trans z2
      cases es : fs c a (g'.set i (.rf a)) with
      | nx g2 =>
        rw [es] at p
        intro σ3 F3 H3 O3 y3 st3
        obtain ⟨O4, w1, w2⟩ := st3.unset y3.fh i
        exact p _ F3 H3 O4 ((y2.trans y3).trans ⟨.refl F3, y3.fh, fun _ _ h _ => h, fun _ h _ _ => h, fun a ha => .inl (w2 a ha)⟩) w1
      | bk g2 =>
        rw [es] at p
        intro σ3 F3 H3 O3 y3 st3
        obtain ⟨O4, w1, w2⟩ := st3.unset y3.fh i
        exact p _ F3 H3 O4 ((y2.trans y3).trans ⟨.refl F3, y3.fh, fun _ _ h _ => h, fun _ h _ _ => h, fun a ha => .inl (w2 a ha)⟩) w1
      | ct g2 =>
        rw [es] at p
        intro σ3 F3 H3 O3 y3 st3
        obtain ⟨O4, w1, w2⟩ := st3.unset y3.fh i
        exact p _ F3 H3 O4 ((y2.trans y3).trans ⟨.refl F3, y3.fh, fun _ _ h _ => h, fun _ h _ _ => h, fun a ha => .inl (w2 a ha)⟩) w1
      | rt d => rw [es] at p; exact fun v F3 H3 O3 y3 w => p v F3 H3 O3 (y2.trans y3) w
      | xc c2 g2 => rw [es] at p; exact p.elim
      | bad => rw [es] at p; exact p.elim
def eIs (i : Nat) (a : Addr) (b : Bool) : Env → Res D := fun g => match (g : List D)[i]? with
  | some (D.rf a') => if a' = a then .ok (.bl b) else .bad
  | _ => .bad
@[simp] theorem eIs_ (i : Nat) (a : Addr) (b : Bool) (g : Env) : eIs i a b g = match (g : List D)[i]? with
  | some (D.rf a') => if a' = a then .ok (.bl b) else .bad
  | _ => .bad := rfl
theorem je_is {ad D1 : Addr} {oe : Obj} {pn : List (Addr × Obj)} {i : Nat} {n : Str} {bb : Bool} {p p1 : Pos} {ec : Expr} {cv : V} {cu : Value} (C : ExcC X.K D1) (hz : Zc (.ref D1) none oe) (hf : ∃ vs, oe.data = .fields vs) (hm : X.mg "isinstance" = none)
    (hN : X.N[i]? = some n) (hv : Vis X.env.scope n) (hd : (n == ("__debug__" : Str)) = false := by decide) (hcd : (n == ("__classdict__" : Str)) = false := by decide)
    (hc : PE (X.suite ad ((ad, oe) :: pn)) ec (tC cv)) (hcv : ∀ u, RelV cv u → u = cu) (hk : PySem.W.kitOne X.K (.ref D1) cu = some bb) (hg : Gl X "isinstance" := by rfl)
    (he : starEach [.Name n p1, ec] X.env = (false, eval (.Name n p1) X.env) :: starEach [ec] X.env := by rfl) (he2 : starEach [ec] X.env = (false, eval ec X.env) :: starEach [] X.env := by rfl) (hpl : (backTo pos (starEach [ec] X.env)).any (·.1) = false := by rfl) :
    JE (X.suite ad ((ad, oe) :: pn)) cls W0 (.Call (.Name "isinstance" p) [.Name n p1, ec] [] pos) (eIs i ad bb) := by
  refine ⟨_, pe_callB (call_isE C hz hf) hg hm (by decide +kernel) (pa_cons (pe_var hN hv hd hcd) (pa_cons hc pa_nil he2) he) (by decide) (by decide) he hpl, ?_⟩
  intro σ F H g O Q s st p
  rw [eIs_] at p
  split at p
  · rename_i a' eg
    split at p
    · rename_i ea
      subst ea
      obtain ⟨P, _, h2, _⟩ := st.at i (List.getElem?_eq_some_iff.mp eg).1
      rcases h2 with ⟨h2, _⟩ | ⟨v, d, h2, h2', ow⟩
      · rw [eg] at h2; cases h2
      · rw [eg] at h2'; cases h2'
        cases ow with
        | sh r =>
          cases r
          exact ⟨_, h2, cv, cu, bb, rfl, hcv, hk, p _ F H [] (.refl s) Fresh.nil (.inl (.sh (.bl bb)))⟩
    · exact p.elim
  · exact p.elim
end
end DL

namespace DL
open PySem L2
section
variable {K : PySem.W.Frag} {cls : Cls} {W : WX} {X : Cx} {F H F' H' F1 H1 : Hp} {O O1 : List Addr} {Q : VK} {σ : St} {a b e tg iter elt : Expr} {es : List Expr} {fa fb fc : Env → Res D} {ga gb : Env → Res Bool} {fs : Env → Res (List D)} {pos : Pos}
theorem js_setFN {i : Nat} {x : Str} {pos' : Pos} (nd : X.N.Nodup) (hi : X.N[i]? = some x) (hx : Loc X.env.scope x) (ha : JE X cls W a fa) (hs : swapsWith a (some (.Name x pos')) pos.line X.env = pure false := by rfl)
    (hf : X.fn x = true ∨ X.env.scope.names.lookup x = some .local := by first | exact .inl rfl | exact .inr rfl) : JS X cls W (.Assign [.Name x pos'] a pos) (sAsgF i fa) := by
  obtain ⟨t, p, d⟩ := ha.ex
  exact ⟨_, ps_set nd hi hx p hs hf, ds_asgF d⟩
end
theorem law_sp {K : PySem.W.Frag} {cls : Cls} {g : List D → Res D} {H : Hp} {a : Addr} {ns : List Int} (h : g [.sc (ns.map D.int)] = .ok (.bl true)) (hS : SqL K H a (ns.map V.int)) :
    spD K cls 1 g [.ref a] H (fun v _ => v = .bl true) fun _ _ _ => False := by
  refine ⟨H, [.sc (ns.map D.int)], .refl H, .cons (.sc hS rps_ints) .nil, rfl, ?_⟩
  rw [h]
  intro v F' H' O' _ _ w
  cases w with
  | sh r => cases r; rfl
theorem law_cx {P : Program} {w : World} {H : Hp} {s : Shared} {e : Value} {s' : Shared} (h : L2.CX P w [] H s (fun _ _ _ => False) e s') : False := by
  obtain ⟨_, _, _, _, _, _, _, _, _, _, _, _, z⟩ := h
  exact z
end DL

namespace DL
open PySem L2
@[simp] theorem brw_un : brw .un = .un := rfl
@[simp] theorem brw_non : brw .non = .non := rfl
@[simp] theorem brw_bl {b} : brw (.bl b) = .bl b := rfl
@[simp] theorem brw_int {b} : brw (.int b) = .int b := rfl
@[simp] theorem brw_str {b} : brw (.str b) = .str b := rfl
@[simp] theorem brw_sc {b} : brw (.sc b) = .sc b := rfl
@[simp] theorem brw_ls {b} : brw (.ls b) = .ls b := rfl
@[simp] theorem brw_tp {b} : brw (.tp b) = .tp b := rfl
@[simp] theorem brw_ob {c b} : brw (.ob c b) = .ob c b := rfl
@[simp] theorem brw_ol {b} : brw (.ol b) = .bo (brws b) := rfl
@[simp] theorem brw_od {k b} : brw (.od k b) = .bd k (brws b) := rfl
@[simp] theorem brw_oo {o c b} : brw (.oo o c b) = .bb c (brws b) := rfl
@[simp] theorem brw_rf {b} : brw (.rf b) = .rf b := rfl
@[simp] theorem brws_nil : brws [] = [] := rfl
@[simp] theorem brws_cons {d ds} : brws (d :: ds) = brw d :: brws ds := rfl
@[simp] theorem frz_un : frz .un = .un := rfl
@[simp] theorem frz_non : frz .non = .non := rfl
@[simp] theorem frz_bl {b} : frz (.bl b) = .bl b := rfl
@[simp] theorem frz_int {b} : frz (.int b) = .int b := rfl
@[simp] theorem frz_str {b} : frz (.str b) = .str b := rfl
@[simp] theorem frz_sc {b} : frz (.sc b) = .sc b := rfl
@[simp] theorem frz_ls {b} : frz (.ls b) = .ls b := rfl
@[simp] theorem frz_tp {b} : frz (.tp b) = .tp b := rfl
@[simp] theorem frz_ob {c b} : frz (.ob c b) = .ob c b := rfl
@[simp] theorem frz_ol {b} : frz (.ol b) = .ls (frzs b) := rfl
@[simp] theorem frz_oo {o c b} : frz (.oo o c b) = .ob c (frzs b) := rfl
@[simp] theorem frz_od {k b} : frz (.od k b) = .od k b := rfl
@[simp] theorem frzs_nil : frzs [] = [] := rfl
@[simp] theorem frzs_cons {d ds} : frzs (d :: ds) = frz d :: frzs ds := rfl
@[simp] theorem pln_bo {b} : pln (.bo b) = .ls (plns b) := rfl
@[simp] theorem pln_int {b} : pln (.int b) = .int b := rfl
@[simp] theorem pln_ls {b} : pln (.ls b) = .ls b := rfl
@[simp] theorem pln_sc {b} : pln (.sc b) = .sc b := rfl
@[simp] theorem pln_tp {b} : pln (.tp b) = .tp b := rfl
@[simp] theorem pln_bl {b} : pln (.bl b) = .bl b := rfl
@[simp] theorem pln_str {b} : pln (.str b) = .str b := rfl
@[simp] theorem pln_non : pln .non = .non := rfl
@[simp] theorem pln_ob {c b} : pln (.ob c b) = .ob c b := rfl
@[simp] theorem plns_nil : plns [] = [] := rfl
@[simp] theorem plns_cons {d ds} : plns (d :: ds) = pln d :: plns ds := rfl
def dull : D → Prop := fun d => brw d = d ∧ frz d = d ∧ pln d = d ∧ nod d = true ∧ shd1 d = true ∧ plok d = true
theorem dulls {α : Type} {f : α → D} (h : ∀ a, dull (f a)) : ∀ l : List α, brws (l.map f) = l.map f ∧ frzs (l.map f) = l.map f ∧ plns (l.map f) = l.map f ∧ nods (l.map f) = true ∧ shd (l.map f) = true ∧ ploks (l.map f) = true
  | [] => ⟨rfl, rfl, rfl, rfl, rfl, rfl⟩
  | a :: l => by
    obtain ⟨h1, h2, h3, h4, h5, h6⟩ := dulls h l
    obtain ⟨k1, k2, k3, k4, k5, k6⟩ := h a
    refine ⟨?_, ?_, ?_, ?_, ?_, ?_⟩
    · simp [h1, k1]
    · simp [h2, k2]
    · simp [h3, k3]
    · simp [h4, k4]
    · simp [h5, k5]
    · simp [h6, k6]
theorem dull_int (i : Int) : dull (.int i) := ⟨rfl, rfl, rfl, rfl, rfl, rfl⟩
theorem dull_bl (i : Bool) : dull (.bl i) := ⟨rfl, rfl, rfl, rfl, rfl, rfl⟩
@[simp] def dP (p : Int × Int) : D := .tp [.int p.1, .int p.2]
theorem dull_P (p : Int × Int) : dull (dP p) := ⟨rfl, rfl, rfl, rfl, rfl, rfl⟩
def dT (l : List Int) : D := .tp (l.map D.int)
theorem dull_T (l : List Int) : dull (dT l) := ⟨rfl, rfl, rfl, rfl, rfl, rfl⟩
section
variable (l : List Int)
@[simp] theorem brws_I : brws (l.map D.int) = l.map D.int := (dulls dull_int l).1
@[simp] theorem frzs_I : frzs (l.map D.int) = l.map D.int := (dulls dull_int l).2.1
@[simp] theorem plns_I : plns (l.map D.int) = l.map D.int := (dulls dull_int l).2.2.1
@[simp] theorem nods_I : nods (l.map D.int) = true := (dulls dull_int l).2.2.2.1
@[simp] theorem shd_I : shd (l.map D.int) = true := (dulls dull_int l).2.2.2.2.1
@[simp] theorem ploks_I : ploks (l.map D.int) = true := (dulls dull_int l).2.2.2.2.2
@[simp] theorem flats_I : flats (l.map D.int) = true := by
  induction l with
  | nil => rfl
  | cons a l ih => simp [ih]
end
section
variable (l : List (Int × Int))
@[simp] theorem brws_P : brws (l.map dP) = l.map dP := (dulls dull_P l).1
@[simp] theorem frzs_P : frzs (l.map dP) = l.map dP := (dulls dull_P l).2.1
@[simp] theorem plns_P : plns (l.map dP) = l.map dP := (dulls dull_P l).2.2.1
@[simp] theorem nods_P : nods (l.map dP) = true := (dulls dull_P l).2.2.2.1
@[simp] theorem shd_P : shd (l.map dP) = true := (dulls dull_P l).2.2.2.2.1
@[simp] theorem ploks_P : ploks (l.map dP) = true := (dulls dull_P l).2.2.2.2.2
end
@[simp] theorem atI_map {α β : Type} (f : α → β) (l : List α) (i : Int) : atI (l.map f) i = (atI l i).map f := by
  unfold atI
  rw [List.length_map]
  cases ixN l.length i with
  | none => rfl
  | some j => simp
theorem atI_of {α : Type} {l : List α} {i : Int} (h0 : 0 ≤ i) (h1 : i < l.length) : ∃ a, atI l i = some a ∧ l[i.toNat]? = some a := by
  have h : i.toNat < l.length := by omega
  refine ⟨l[i.toNat], ?_, by simp [h]⟩
  unfold atI ixN
  rw [if_pos h0, if_pos h1]
  simp [h]
theorem atI_natG {α : Type} {l : List α} {j : Nat} {i : Int} (e : i = (j : Int)) (h : j < l.length) : atI l i = l[j]? := by
  subst e
  unfold atI ixN
  rw [if_pos (by omega), if_pos (by omega)]
  simp
theorem ixN_nat {n : Nat} {i : Int} (h0 : 0 ≤ i) (h1 : i < n) : ixN n i = some i.toNat := by
  unfold ixN
  rw [if_pos h0, if_pos h1]
theorem forL_inv {tg : D → Env → Option Env} {b : Env → Out} (P : Nat → Env → Prop) : ∀ (ds : List D) (g : Env) (j : Nat), P j g →
    (∀ i d g, ds[i]? = some d → P (j + i) g → ∃ g1 g', tg d g = some g1 ∧ (b g1 = .nx g' ∨ b g1 = .ct g') ∧ P (j + i + 1) g') → ∃ g', forL tg b ds g = .nx g' ∧ P (j + ds.length) g'
  | [], g, j, h0, _ => ⟨g, rfl, h0⟩
  | d :: ds, g, j, h0, hs => by
    obtain ⟨g1, g', e1, e2, h1⟩ := hs 0 d g rfl h0
    obtain ⟨g2, e3, h2⟩ := forL_inv P ds g' (j + 1) h1 fun i d' g e h => by
      have := hs (i + 1) d' g (by simpa using e) (by rw [show j + (i + 1) = j + 1 + i by omega]; exact h)
      rw [show j + (i + 1) + 1 = j + 1 + i + 1 by omega] at this
      exact this
    refine ⟨g2, ?_, by rw [List.length_cons, show j + (ds.length + 1) = j + 1 + ds.length by omega]; exact h2⟩
    rw [forL_cons, e1]
    rcases e2 with e2 | e2 <;> (simp only [e2]; exact e3)
theorem for_rng {tg : D → Env → Option Env} {b : Env → Out} (P : Nat → Env → Prop) {lo : Int} {n : Nat} {g : Env} (h0 : P 0 g)
    (hs : ∀ i g, i < n → P i g → ∃ g1 g', tg (.int (lo + i)) g = some g1 ∧ (b g1 = .nx g' ∨ b g1 = .ct g') ∧ P (i + 1) g') : ∃ g', forL tg b (rng lo n) g = .nx g' ∧ P n g' := by
  obtain ⟨g', e, h⟩ := forL_inv (tg := tg) (b := b) P (rng lo n) g 0 h0 fun i d g e h => by
    obtain ⟨h1, rfl⟩ := rng_get e
    rw [Nat.zero_add] at h ⊢
    exact hs i g h1 h
  rw [rng_len, Nat.zero_add] at h
  exact ⟨g', e, h⟩
end DL

namespace DL
open PySem L2
def e60 : Int := 10 ^ 60
@[simp] theorem e60_pos : 0 < e60 := by decide
section
variable {a b i j : Int} {x y : Str} {xs ys : List D} {k l : Bool} {d e : D} {ks : List Key} {c n : Nat}
@[simp] theorem caLen_sc : caLen [.sc xs] = some (.int xs.length) := rfl
@[simp] theorem caLen_ls : caLen [.ls xs] = some (.int xs.length) := rfl
@[simp] theorem caLen_bo : caLen [.bo xs] = some (.int xs.length) := rfl
@[simp] theorem caLen_tp : caLen [.tp xs] = some (.int xs.length) := rfl
@[simp] theorem opIx_sc : opIx (.sc xs) (.int i) = atI xs i := rfl
@[simp] theorem opIx_ls : opIx (.ls xs) (.int i) = atI xs i := rfl
@[simp] theorem opIx_bo : opIx (.bo xs) (.int i) = atI xs i := rfl
@[simp] theorem opIx_tp : opIx (.tp xs) (.int i) = atI xs i := rfl
@[simp] theorem atI_two0 {α : Type} {p q : α} : atI [p, q] 0 = some p := rfl
@[simp] theorem atI_two1 {α : Type} {p q : α} : atI [p, q] 1 = some q := rfl
theorem opPow_eq : opPow (.int i) (.int j) = if CPow i j then some (.int (i ^ j.toNat)) else none := rfl
theorem opMod_eq : opMod (.int i) (.int j) = if j ≠ 0 then some (.int (if 0 < j then i % j else i.fmod j)) else none := rfl
theorem opDiv_eq : opDiv (.int i) (.int j) = if divOk j then some (.int (if 0 < j then i / j else i.fdiv j)) else none := rfl
theorem opMul_eq : opMul (.int i) (.int j) = if mulOk i j then some (.int (i * j)) else none := rfl
theorem opMul_ls : opMul (.ls xs) (.int i) = if i < 2 ^ 63 ∧ -(2 ^ 63) ≤ i ∧ xs.length * i.toNat ≤ lim then some (.ol (List.replicate i.toNat xs).flatten) else none := rfl
theorem caMax2_eq : caMax2 [.int a, .int b] = some (.int (if b > a then b else a)) := rfl
theorem caMin2_eq : caMin2 [.int a, .int b] = some (.int (if b < a then b else a)) := rfl
theorem caAbs_eq : caAbs [.int a] = some (.int (if a < 0 then -a else a)) := rfl
@[simp] theorem opPow_c : opPow (.int 10) (.int 60) = some (.int e60) := by
  rw [opPow_eq, if_pos (by unfold CPow; decide)]
  rfl
@[simp] theorem opMod_pos (h : 0 < b) : opMod (.int a) (.int b) = some (.int (a % b)) := by
  rw [opMod_eq, if_pos (by omega), if_pos h]
theorem divOk_small (h0 : b ≠ 0) (h : b.natAbs < 1073741824) : divOk b := ⟨h0, .inl h⟩
@[simp] theorem opDiv_pos (h : 0 < b) (h' : b < 1073741824) : opDiv (.int a) (.int b) = some (.int (a / b)) := by
  rw [opDiv_eq, if_pos (divOk_small (by omega) (by omega)), if_pos h]
@[simp] theorem opMul_l (h : -18446744073709551616 < a) (h' : a < 18446744073709551616) : opMul (.int a) (.int b) = some (.int (a * b)) := by
  rw [opMul_eq, if_pos (.inl (.inl ⟨by omega, by omega⟩))]
@[simp] theorem opMul_r (h : -18446744073709551616 < b) (h' : b < 18446744073709551616) : opMul (.int a) (.int b) = some (.int (a * b)) := by
  rw [opMul_eq, if_pos (.inl (.inr ⟨by omega, by omega⟩))]
@[simp] theorem opAdd_int : opAdd (.int a) (.int b) = some (.int (a + b)) := rfl
@[simp] theorem opSub_int : opSub (.int a) (.int b) = some (.int (a - b)) := rfl
@[simp] theorem opNeg_int : opNeg (.int a) = some (.int (-a)) := rfl
@[simp] theorem opAdd_tp (h : xs.length + ys.length ≤ lim) : opAdd (.tp xs) (.tp ys) = some (.tp (xs ++ ys)) := if_pos h
@[simp] theorem opAdd_ll (h : xs.length + ys.length ≤ lim) : opAdd (.ls xs) (.ls ys) = some (.ol (xs ++ ys)) := if_pos h
theorem opAdd_lst {d e : D} (h1 : lsv d = some xs) (h2 : lsv e = some ys) (h : xs.length + ys.length ≤ lim) : opAdd d e = some (.ol (xs ++ ys)) := by
  have e1 : opAdd d e = opAddL d e := by cases d <;> first | rfl | cases h1
  rw [e1]
  unfold opAddL
  rw [h1, h2]
  exact if_pos h
@[simp] theorem opAdd_lb (h2 : shd ys = true) (h : xs.length + ys.length ≤ lim) : opAdd (.ls xs) (.bo ys) = some (.ol (xs ++ ys)) := opAdd_lst rfl (by simp [h2]) h
@[simp] theorem opAdd_bl (h2 : shd xs = true) (h : xs.length + ys.length ≤ lim) : opAdd (.bo xs) (.ls ys) = some (.ol (xs ++ ys)) := opAdd_lst (by simp [h2]) rfl h
@[simp] theorem opAdd_bb (h1 : shd xs = true) (h2 : shd ys = true) (h : xs.length + ys.length ≤ lim) : opAdd (.bo xs) (.bo ys) = some (.ol (xs ++ ys)) := opAdd_lst (by simp [h1]) (by simp [h2]) h
@[simp] theorem opAdd_str (h : x.length + y.length ≤ lim) : opAdd (.str x) (.str y) = some (.str (x ++ y)) := if_pos h
@[simp] theorem opMul_rep (h : 0 ≤ a) (h' : a ≤ 100000) (h2 : xs.length ≤ 10) : opMul (.ls xs) (.int a) = some (.ol (List.replicate a.toNat xs).flatten) := by
  have : xs.length * a.toNat ≤ lim := by
    unfold lim
    have h1 : a.toNat ≤ 100000 := by omega
    exact Nat.le_trans (Nat.mul_le_mul h2 h1) (by decide)
  rw [opMul_ls, if_pos ⟨by omega, by omega, this⟩]
@[simp] theorem cLt_int : cLt (.int a) (.int b) = some (decide (a < b)) := rfl
@[simp] theorem cLe_int : cLe (.int a) (.int b) = some (decide (a ≤ b)) := rfl
@[simp] theorem cGt_int : cGt (.int a) (.int b) = some (decide (b < a)) := rfl
@[simp] theorem cGe_int : cGe (.int a) (.int b) = some (decide (b ≤ a)) := rfl
@[simp] theorem cEq_int : cEq (.int a) (.int b) = some (decide (a = b)) := rfl
@[simp] theorem cEq_str : cEq (.str x) (.str y) = some (decide (x = y)) := rfl
@[simp] theorem cEq_bl : cEq (.bl k) (.bl l) = some (decide (k = l)) := rfl
@[simp] theorem cNe_int : cNe (.int a) (.int b) = some (!decide (a = b)) := rfl
@[simp] theorem cNe_str : cNe (.str x) (.str y) = some (!decide (x = y)) := rfl
@[simp] theorem cNe_bl : cNe (.bl k) (.bl l) = some (!decide (k = l)) := rfl
@[simp] theorem cIsN_non : cIsN .non .non = some true := rfl
@[simp] theorem cIsN_int : cIsN (.int a) .non = some false := rfl
@[simp] theorem cIsN_tp : cIsN (.tp xs) .non = some false := rfl
@[simp] theorem cIsN_ls : cIsN (.ls xs) .non = some false := rfl
@[simp] theorem cIsN_bo : cIsN (.bo xs) .non = some false := rfl
@[simp] theorem cIsN_ob : cIsN (.ob c xs) .non = some false := rfl
@[simp] theorem cIsN_str : cIsN (.str x) .non = some false := rfl
@[simp] theorem cNotN_non : cNotN .non .non = some false := rfl
@[simp] theorem cNotN_int : cNotN (.int a) .non = some true := rfl
@[simp] theorem cNotN_tp : cNotN (.tp xs) .non = some true := rfl
@[simp] theorem cNotN_ls : cNotN (.ls xs) .non = some true := rfl
@[simp] theorem cNotN_ob : cNotN (.ob c xs) .non = some true := rfl
@[simp] theorem caMax2_int : caMax2 [.int a, .int b] = some (.int (max a b)) := by
  rw [caMax2_eq, show (if b > a then b else a) = max a b by split <;> omega]
@[simp] theorem caMin2_int : caMin2 [.int a, .int b] = some (.int (min a b)) := by
  rw [caMin2_eq, show (if b < a then b else a) = min a b by split <;> omega]
@[simp] theorem caAbs_int : caAbs [.int a] = some (.int (a.natAbs : Int)) := by
  rw [caAbs_eq, show (if a < 0 then -a else a) = (a.natAbs : Int) by split <;> omega]
@[simp] theorem caInt_int : caInt [.int a] = some (.int a) := rfl
@[simp] theorem caInt_bl : caInt [.bl k] = some (.int (if k = true then 1 else 0)) := rfl
@[simp] theorem caList_ls : caList [.ls xs] = some (.ol xs) := rfl
@[simp] theorem caList_sc : caList [.sc xs] = some (.ol xs) := rfl
@[simp] theorem caList_tp : caList [.tp xs] = some (.ol xs) := rfl
@[simp] theorem caList_bo (h : shd xs = true) : caList [.bo xs] = some (.ol xs) := by simp [caList, h]
@[simp] theorem caTuple_ls : caTuple [.ls xs] = some (.tp xs) := rfl
@[simp] theorem caTuple_sc : caTuple [.sc xs] = some (.tp xs) := rfl
@[simp] theorem caTuple_tp : caTuple [.tp xs] = some (.tp xs) := rfl
@[simp] theorem caTuple_bo (h : shd xs = true) : caTuple [.bo xs] = some (.tp xs) := by simp [caTuple, h]
variable {ns : List Int}
@[simp] theorem caSum_ls : caSum [.ls (ns.map D.int)] = some (.int ns.sum) := by simp [caSum]
@[simp] theorem caSum_bo : caSum [.bo (ns.map D.int)] = some (.int ns.sum) := by simp [caSum]
@[simp] theorem caSum_sc : caSum [.sc (ns.map D.int)] = some (.int ns.sum) := by simp [caSum]
@[simp] theorem caSorted_ls : caSorted [.ls (ns.map D.int)] = some (.ol ((srt ns).map D.int)) := by simp [caSorted]
@[simp] theorem caSorted_bo : caSorted [.bo (ns.map D.int)] = some (.ol ((srt ns).map D.int)) := by simp [caSorted]
@[simp] theorem opSl_tp {lo hi : Option Int} : opSl (.tp xs) lo hi = some (.tp (cut xs lo hi)) := rfl
@[simp] theorem opSl_ls {lo hi : Option Int} : opSl (.ls xs) lo hi = some (.ol (cut xs lo hi)) := rfl
@[simp] theorem opSl_sc {lo hi : Option Int} : opSl (.sc xs) lo hi = some (.ol (cut xs lo hi)) := rfl
@[simp] theorem opSl_bo {lo hi : Option Int} (h : shd xs = true) : opSl (.bo xs) lo hi = some (.ol (cut xs lo hi)) := by simp [opSl, h]
@[simp] theorem cut_map {α β : Type} (f : α → β) (l : List α) (lo hi : Option Int) : cut (l.map f) lo hi = (cut l lo hi).map f := by
  unfold cut
  simp
@[simp] theorem tru_bl : tru (.bl k) = some k := rfl
@[simp] theorem tru_int : tru (.int a) = some (a != 0) := rfl
@[simp] theorem tru_non : tru .non = some false := rfl
@[simp] theorem tru_ls : tru (.ls xs) = some (!xs.isEmpty) := rfl
@[simp] theorem tru_bo : tru (.bo xs) = some (!xs.isEmpty) := rfl
@[simp] theorem tru_tp : tru (.tp xs) = some (!xs.isEmpty) := rfl
@[simp] theorem cIn_ls : cIn (.int a) (.ls (ns.map D.int)) = some (decide (a ∈ ns)) := by simp [cIn]
@[simp] theorem cIn_tp : cIn (.int a) (.tp (ns.map D.int)) = some (decide (a ∈ ns)) := by simp [cIn]
@[simp] theorem cIn_bo : cIn (.int a) (.bo (ns.map D.int)) = some (decide (a ∈ ns)) := by simp [cIn]
@[simp] theorem cNIn_ls : cNIn (.int a) (.ls (ns.map D.int)) = some (!decide (a ∈ ns)) := by simp [cNIn]
@[simp] theorem cNIn_tp : cNIn (.int a) (.tp (ns.map D.int)) = some (!decide (a ∈ ns)) := by simp [cNIn]
@[simp] theorem cNIn_bo : cNIn (.int a) (.bo (ns.map D.int)) = some (!decide (a ∈ ns)) := by simp [cNIn]
@[simp] theorem opFld_ob : opFld c n (.ob c xs) = xs[n]? := if_pos rfl
@[simp] theorem opFld_bb : opFld c n (.bb c xs) = xs[n]? := if_pos rfl
@[simp] theorem calD_shd {g : List D → Res D} (h : shd xs = true) : calD g xs = g xs := if_pos h
theorem calD_bo {g : List D → Res D} (h : shd xs = false) (h2 : ploks xs = true) : calD g xs = (g (plns xs)).bind fun d => if flat d = true then .ok d else .bad := by
  unfold calD
  rw [if_neg (by simp [h]), if_pos h2]
end
end DL

namespace DL
open PySem L2
theorem for_rngN {s : Nat} {b : Env → Out} (P : Nat → Env → Prop) {lo : Int} {n : Nat} {g : Env} (h0 : P 0 g)
    (hs : ∀ (i : Nat) g, i < n → P i g → ∃ g', (b (g.set s (.int (lo + i))) = .nx g' ∨ b (g.set s (.int (lo + i))) = .ct g') ∧ P (i + 1) g') : ∃ g', forL (gtN s) b (rng lo n) g = .nx g' ∧ P n g' :=
  for_rng P h0 fun i g hi h => by
    obtain ⟨g', e, h'⟩ := hs i g hi h
    exact ⟨_, g', rfl, e, h'⟩
theorem lcL_map {α : Type} {tg : D → Env → Option Env} {te : Env → Res D} {g : Env} {f h : α → D} : ∀ (l : List α), (∀ a ∈ l, ∃ g1, tg (f a) g = some g1 ∧ (te g1).bind kp = .ok (h a)) → lcL tg tYesG te g (l.map f) = .ok (l.map h)
  | [], _ => rfl
  | a :: l, k => by
    obtain ⟨g1, e1, e2⟩ := k a (by simp)
    rw [List.map_cons, lcL_cons, e1]
    simp only [tYesG_, Res.bind_ok, if_true]
    rw [e2, lcL_map l fun b hb => k b (by simp [hb])]
    rfl
theorem lcL_mapN {α : Type} {s : Nat} {te : Env → Res D} {g : Env} {f h : α → D} (l : List α) (k : ∀ a ∈ l, (te (g.set s (f a))).bind kp = .ok (h a)) : lcL (gtN s) tYesG te g (l.map f) = .ok (l.map h) :=
  lcL_map l fun a ha => ⟨_, rfl, k a ha⟩
theorem lcL_filter {α : Type} {tg : D → Env → Option Env} {tt : Env → Res Bool} {te : Env → Res D} {g : Env} {f h : α → D} {p : α → Bool} : ∀ (l : List α), (∀ a ∈ l, ∃ g1, tg (f a) g = some g1 ∧ tt g1 = .ok (p a) ∧ (p a = true → (te g1).bind kp = .ok (h a))) → lcL tg tt te g (l.map f) = .ok ((l.filter p).map h)
  | [], _ => rfl
  | a :: l, k => by
    obtain ⟨g1, e1, e2, e3⟩ := k a (by simp)
    have ih := lcL_filter (h := h) l fun b hb => k b (by simp [hb])
    rw [List.map_cons, lcL_cons, e1]
    simp only [e2, Res.bind_ok]
    cases hp : p a with
    | true => rw [if_pos rfl, e3 hp, ih, List.filter_cons_of_pos hp]; rfl
    | false => rw [if_neg (by decide), ih, List.filter_cons_of_neg (by simp [hp])]
theorem lcL_filterN {α : Type} {s : Nat} {tt : Env → Res Bool} {te : Env → Res D} {g : Env} {f h : α → D} {p : α → Bool} (l : List α) (k : ∀ a ∈ l, tt (g.set s (f a)) = .ok (p a) ∧ (p a = true → (te (g.set s (f a))).bind kp = .ok (h a))) : lcL (gtN s) tt te g (l.map f) = .ok ((l.filter p).map h) :=
  lcL_filter l fun a ha => ⟨_, rfl, (k a ha).1, (k a ha).2⟩
theorem map_int {α : Type} (h : α → Int) (l : List α) : l.map (fun a => D.int (h a)) = (l.map h).map D.int := by simp
theorem cut_from {α : Type} (l : List α) (i : Int) (h : 0 ≤ i) : cut l (some i) none = l.drop i.toNat := by
  unfold cut
  obtain ⟨n, rfl⟩ := Int.eq_ofNat_of_zero_le h
  rw [HT.sIx_nat, HT.sIx_none]
  simp only [Int.toNat_natCast]
  by_cases hn : n ≤ l.length
  · rw [Nat.min_eq_left hn, List.take_of_length_le (by simp)]
  · rw [Nat.min_eq_right (by omega), List.drop_length, List.drop_eq_nil_of_le (by omega)]; simp
theorem cut_to {α : Type} (l : List α) (i : Int) (h : 0 ≤ i) : cut l none (some i) = l.take i.toNat := by
  unfold cut
  obtain ⟨n, rfl⟩ := Int.eq_ofNat_of_zero_le h
  rw [HT.sIx_nat, HT.sIx_none]
  simp only [Int.toNat_natCast, List.drop_zero, Nat.sub_zero]
  by_cases hn : n ≤ l.length
  · rw [Nat.min_eq_left hn]
  · rw [Nat.min_eq_right (by omega), List.take_of_length_le (Nat.le_refl _), List.take_of_length_le (by omega)]
theorem rng_map (lo : Int) (n : Nat) : rng lo n = ((List.range n).map fun i : Nat => lo + (i : Int)).map D.int := by unfold rng; simp
theorem lim_eq : lim = 1000000 := rfl
@[simp] theorem lim_0 : 0 ≤ lim := by decide
@[simp] theorem lim_1 : 1 ≤ lim := by decide
@[simp] theorem lim_2 : 2 ≤ lim := by decide
@[simp] theorem lim_3 : 3 ≤ lim := by decide
@[simp] theorem lim_4 : 4 ≤ lim := by decide
@[simp] theorem lim_5 : 5 ≤ lim := by decide
@[simp] theorem lim_6 : 6 ≤ lim := by decide
@[simp] theorem lim_7 : 7 ≤ lim := by decide
@[simp] theorem lim_8 : 8 ≤ lim := by decide
@[simp] theorem lim_9 : 9 ≤ lim := by decide
@[simp] theorem lim_10 : 10 ≤ lim := by decide
@[simp] theorem lim_11 : 11 ≤ lim := by decide
@[simp] theorem lim_12 : 12 ≤ lim := by decide
@[simp] theorem lim_13 : 13 ≤ lim := by decide
@[simp] theorem lim_14 : 14 ≤ lim := by decide
@[simp] theorem lim_15 : 15 ≤ lim := by decide
@[simp] theorem lim_16 : 16 ≤ lim := by decide
@[simp] theorem lim_17 : 17 ≤ lim := by decide
@[simp] theorem lim_18 : 18 ≤ lim := by decide
@[simp] theorem lim_19 : 19 ≤ lim := by decide
@[simp] theorem lim_20 : 20 ≤ lim := by decide
end DL

namespace DL
open PySem L2
noncomputable def mirI (f : Env → Out) (c n : Nat) : List D → Res (List D) := fun ds => by
  classical exact if h : ∃ r, ∀ x, runI f c n x ds = r then h.choose else .bad
theorem mirI_eq {f : Env → Out} {c n : Nat} {ds : List D} {r : Res (List D)} (h : ∀ x, runI f c n x ds = r) : mirI f c n ds = r := by
  unfold mirI
  rw [dif_pos ⟨r, h⟩]
  have := (Exists.choose_spec (⟨r, h⟩ : ∃ r, ∀ x, runI f c n x ds = r)) 0
  rw [← this, h 0]
theorem mirI_ok {f : Env → Out} {c n k : Nat} : ∀ ds x, ds.length = k → mirI f c n ds = .bad ∨ runI f c n x ds = mirI f c n ds := by
  intro ds x _
  by_cases h : ∃ r, ∀ x, runI f c n x ds = r
  · right
    obtain ⟨r, h⟩ := h
    rw [mirI_eq h, h x]
  · left
    unfold mirI
    rw [dif_neg h]
end DL

namespace DL
open PySem L2
def Enc {α : Type} [DecidableEq α] (f : α → D) (n : Nat) : Prop := ∃ p : α → PyData, (∀ a, toPy (f a) = some (p a) ∧ (p a).canLay0 = true ∧ (p a).depth ≤ n) ∧ ∀ a b, PyData.eqv (p a) (p b) = decide (a = b)
section
variable {α : Type} [DecidableEq α] {f : α → D} {n : Nat}
theorem toPys_map {f : α → D} {p : α → PyData} (h : ∀ a, toPy (f a) = some (p a)) : ∀ l : List α, toPys (l.map f) = some (l.map p)
  | [] => by simp [toPys]
  | a :: l => by simp [toPys, h a, toPys_map h l]
theorem eqvAll_map {p : α → PyData} (h : ∀ a b, PyData.eqv (p a) (p b) = decide (a = b)) : ∀ l m : List α, PyData.eqvAll (l.map p) (m.map p) = decide (l = m)
  | [], [] => by simp [PyData.eqvAll]
  | [], _ :: _ => by simp [PyData.eqvAll]
  | _ :: _, [] => by simp [PyData.eqvAll]
  | a :: l, b :: m => by
    simp only [List.map_cons, PyData.eqvAll, h a b, eqvAll_map h l m]
    by_cases e : a = b <;> by_cases e' : l = m <;> simp [e, e']
theorem lay_map {p : α → PyData} (h : ∀ a, (p a).canLay0 = true) : ∀ l : List α, PyData.canLayAll0 (l.map p) = true
  | [] => by simp [PyData.canLayAll0]
  | a :: l => by simp [PyData.canLayAll0, h a, lay_map h l]
theorem dep_map {p : α → PyData} (h : ∀ a, (p a).depth ≤ n) : ∀ l : List α, PyData.depthAll (l.map p) ≤ n
  | [] => by simp [PyData.depthAll]
  | a :: l => by
    simp only [List.map_cons, PyData.depthAll]
    exact Nat.max_le.mpr ⟨h a, dep_map h l⟩
theorem enc_int : Enc D.int 0 := ⟨.int, fun a => ⟨by simp [toPy], by simp [PyData.canLay0], by simp [PyData.depth]⟩, fun a b => by simp only [PyData.eqv]; by_cases e : a = b <;> simp [e]⟩
theorem enc_bl : Enc D.bl 0 := ⟨.bool, fun a => ⟨by simp [toPy], by simp [PyData.canLay0], by simp [PyData.depth]⟩, fun a b => by simp only [PyData.eqv]; by_cases e : a = b <;> simp [e]⟩
theorem Enc.ls (h : Enc f n) : Enc (fun l : List α => D.ls (l.map f)) (n + 1) := by
  obtain ⟨p, h1, h2⟩ := h
  refine ⟨fun l => .list (l.map p), fun l => ⟨by simp [toPy, toPys_map fun a => (h1 a).1], ?_, ?_⟩, fun l m => ?_⟩
  · simp [PyData.canLay0, lay_map fun a => (h1 a).2.1]
  · have := dep_map (fun a => (h1 a).2.2) l
    simp only [PyData.depth]; omega
  · simp only [PyData.eqv]; exact eqvAll_map h2 l m
theorem Enc.tp (h : Enc f n) : Enc (fun l : List α => D.tp (l.map f)) (n + 1) := by
  obtain ⟨p, h1, h2⟩ := h
  refine ⟨fun l => .tuple (l.map p), fun l => ⟨by simp [toPy, toPys_map fun a => (h1 a).1], ?_, ?_⟩, fun l m => ?_⟩
  · simp [PyData.canLay0, lay_map fun a => (h1 a).2.1]
  · have := dep_map (fun a => (h1 a).2.2) l
    simp only [PyData.depth]; omega
  · simp only [PyData.eqv]; exact eqvAll_map h2 l m
theorem Enc.pair {β : Type} [DecidableEq β] {g : β → D} (h : Enc f n) (h' : Enc g n) : Enc (fun x : α × β => D.tp [f x.1, g x.2]) (n + 1) := by
  obtain ⟨p, h1, h2⟩ := h
  obtain ⟨q, h3, h4⟩ := h'
  refine ⟨fun x => .tuple [p x.1, q x.2], fun x => ⟨by simp [toPy, toPys, h1 x.1, h3 x.2], ?_, ?_⟩, fun x y => ?_⟩
  · simp [PyData.canLay0, PyData.canLayAll0, h1 x.1, h3 x.2]
  · have a := (h1 x.1).2.2
    have b := (h3 x.2).2.2
    simp only [PyData.depth, PyData.depthAll]; omega
  · simp only [PyData.eqv, PyData.eqvAll, h2, h4]
    obtain ⟨x1, x2⟩ := x
    obtain ⟨y1, y2⟩ := y
    by_cases e : x1 = y1 <;> by_cases e' : x2 = y2 <;> simp [e, e']
theorem Enc.eq (h : Enc f n) (hn : n ≤ 64) (a b : α) : pyEq (f a) (f b) = some (decide (a = b)) := by
  obtain ⟨p, h1, h2⟩ := h
  have s : ∀ a, SeqAt.shaped (p a) = true := fun a => by
    have := (h1 a).2.2
    simp only [SeqAt.shaped, (h1 a).2.1, Bool.true_and, decide_eq_true_eq]; omega
  simp [pyEq, (h1 a).1, (h1 b).1, s, h2]
end
theorem toPy_bo {xs : List D} : toPy (.bo xs) = toPy (.ls xs) := by simp [toPy]
theorem pyEq_bl {xs ys : List D} : pyEq (.bo xs) (.ls ys) = pyEq (.ls xs) (.ls ys) := by simp [pyEq, toPy_bo]
theorem pyEq_lb {xs ys : List D} : pyEq (.ls xs) (.bo ys) = pyEq (.ls xs) (.ls ys) := by simp [pyEq, toPy_bo]
theorem pyEq_bb {xs ys : List D} : pyEq (.bo xs) (.bo ys) = pyEq (.ls xs) (.ls ys) := by simp [pyEq, toPy_bo]
@[simp] theorem cEq_ll {xs ys : List D} : cEq (.ls xs) (.ls ys) = pyEq (.ls xs) (.ls ys) := rfl
@[simp] theorem cEq_lbo {xs ys : List D} : cEq (.ls xs) (.bo ys) = pyEq (.ls xs) (.ls ys) := pyEq_lb
@[simp] theorem cEq_bol {xs ys : List D} : cEq (.bo xs) (.ls ys) = pyEq (.ls xs) (.ls ys) := pyEq_bl
@[simp] theorem cEq_bobo {xs ys : List D} : cEq (.bo xs) (.bo ys) = pyEq (.ls xs) (.ls ys) := pyEq_bb
@[simp] theorem cEq_tt {xs ys : List D} : cEq (.tp xs) (.tp ys) = pyEq (.tp xs) (.tp ys) := rfl
@[simp] theorem cNe_eq {a b : D} : cNe a b = (cEq a b).map (!·) := rfl
@[simp] theorem pyEq_lsI {xs ys : List Int} : pyEq (.ls (xs.map D.int)) (.ls (ys.map D.int)) = some (decide (xs = ys)) := enc_int.ls.eq (by omega) xs ys
@[simp] theorem pyEq_tpI {xs ys : List Int} : pyEq (.tp (xs.map D.int)) (.tp (ys.map D.int)) = some (decide (xs = ys)) := enc_int.tp.eq (by omega) xs ys
theorem enc_P : Enc dP 1 := enc_int.pair enc_int
@[simp] theorem pyEq_lsP {xs ys : List (Int × Int)} : pyEq (.ls (xs.map dP)) (.ls (ys.map dP)) = some (decide (xs = ys)) := enc_P.ls.eq (by omega) xs ys
@[simp] theorem pyEq_tpP {xs ys : List (Int × Int)} : pyEq (.tp (xs.map dP)) (.tp (ys.map dP)) = some (decide (xs = ys)) := enc_P.tp.eq (by omega) xs ys
@[simp] theorem pyEq_lsB {xs ys : List Bool} : pyEq (.ls (xs.map D.bl)) (.ls (ys.map D.bl)) = some (decide (xs = ys)) := enc_bl.ls.eq (by omega) xs ys
@[simp] theorem pyEq_tpB {xs ys : List Bool} : pyEq (.tp (xs.map D.bl)) (.tp (ys.map D.bl)) = some (decide (xs = ys)) := enc_bl.tp.eq (by omega) xs ys
@[simp] theorem pyEq_bbb {a b c d e f : Bool} : pyEq (.ls [.bl a, .bl b, .bl c]) (.ls [.bl d, .bl e, .bl f]) = some (decide ([a, b, c] = [d, e, f])) := pyEq_lsB (xs := [a, b, c]) (ys := [d, e, f])
@[simp] theorem pyEq_bb2 {a b d e : Bool} : pyEq (.ls [.bl a, .bl b]) (.ls [.bl d, .bl e]) = some (decide ([a, b] = [d, e])) := pyEq_lsB (xs := [a, b]) (ys := [d, e])
@[simp] theorem pyEq_nn : pyEq (.ls []) (.ls []) = some true := pyEq_lsI (xs := []) (ys := [])
@[simp] theorem pyEq_bn {a b c : Bool} : pyEq (.ls [.bl a, .bl b, .bl c]) (.ls []) = some false := by rw [show (.ls [.bl a, .bl b, .bl c] : D) = .ls ([a, b, c].map D.bl) from rfl, show (.ls [] : D) = .ls (([] : List Bool).map D.bl) from rfl, pyEq_lsB]; rfl
@[simp] theorem pyEq_nb {a b c : Bool} : pyEq (.ls []) (.ls [.bl a, .bl b, .bl c]) = some false := by rw [show (.ls [.bl a, .bl b, .bl c] : D) = .ls ([a, b, c].map D.bl) from rfl, show (.ls [] : D) = .ls (([] : List Bool).map D.bl) from rfl, pyEq_lsB]; rfl
end DL

namespace DL
open PySem L2
section
variable {xs ys : List D}
@[simp] theorem nods_append : nods (xs ++ ys) = (nods xs && nods ys) := by induction xs <;> simp [*, Bool.and_assoc]
@[simp] theorem frzs_append : frzs (xs ++ ys) = frzs xs ++ frzs ys := by induction xs <;> simp [*]
@[simp] theorem brws_append : brws (xs ++ ys) = brws xs ++ brws ys := by induction xs <;> simp [*]
@[simp] theorem plns_append : plns (xs ++ ys) = plns xs ++ plns ys := by induction xs <;> simp [*]
@[simp] theorem shd_append : shd (xs ++ ys) = (shd xs && shd ys) := by induction xs <;> simp [*, Bool.and_assoc]
@[simp] theorem ploks_append : ploks (xs ++ ys) = (ploks xs && ploks ys) := by induction xs <;> simp [*, Bool.and_assoc]
@[simp] theorem flats_append : flats (xs ++ ys) = (flats xs && flats ys) := by induction xs <;> simp [*, Bool.and_assoc]
end
theorem rng_succ (lo : Int) (n : Nat) : rng lo (n + 1) = .int lo :: rng (lo + 1) n := by
  unfold rng
  rw [List.range_succ_eq_map, List.map_cons, List.map_map]
  congr 1
  · simp
  · refine List.map_congr_left fun a _ => ?_
    simp; omega
theorem rng_zero (lo : Int) : rng lo 0 = [] := rfl
end DL

namespace DL
open PySem PySem.Spec PyProof.Rows L2
section
variable {P : Program} {w : World} {A : Around} {E : Value → Shared → Prop} {s : Shared}
set_option maxHeartbeats 3200000 in
theorem call_set_listR {l : Addr} {items : Array Value} (ns : List Int) {Q : Value → Shared → Prop} (hh : A.handled = none) (hl : s.heap.IsList l items) (hit : IntsAre items.toList ns) (hb : ns.length + 1 < scanBound)
    (h : ∀ (h' : Heap) (tk c : Nat), SetR w h' s.heap.objs.size (fun j => decide (j ∈ ns)) c → c ≤ ns.length → (∀ b o, s.heap.get? b = some o → h'.get? b = some o) → Q (.ref s.heap.objs.size) { s with heap := h', toks := tk }) :
    wpAny (model P w) A (call (.type "set") [.ref l]) Q E s := by
  have hisz : items.size = ns.length := by
    have q := IntsAre.length hit
    rwa [Array.length_toList] at q
  obtain ⟨c, tl, hmro⟩ := F.called_set.mro
  have hmade := F.called_set.made
  have hsub := F.called_set.sub
  refine wpAny_call (codeAny_of_tree (wpAny_pure ⟨Code.quiet_builtin _ (by decide +kernel), codeAny_builtin F.entry_type_call ?_⟩))
  rw [Around.under_plain (weight_type_call_type "set" [.ref l] []) rfl]
  have h1 := F.called_set.notType
  have h2 := F.called_set.canCreate
  have hct := F.typeCall_set_1 (.ref l)
  repeat (any_goals (first | assumption | wp_step))
  generalize hO : ({ cls := .type "set", dict := none, data := .set #[] 0 (.fresh 0 0 (!w.params.followText "set-order")) } : Obj) = O
  refine codeAny_mono (code_set_led1 (.ref l) (E := E) (Q₁ := fun obj s₁ => obj = .ref s.heap.objs.size ∧ s₁ = { s with heap := s.heap.push O }) ⟨rfl, by rw [hO]⟩) fun r s₁ hr => ?_
  cases r with
  | error e => exact hr
  | ok fl =>
    cases fl with
    | ret obj =>
      obtain ⟨rfl, rfl⟩ := hr
      have hS : (s.heap.push O).get? s.heap.objs.size = some O := Heap.get?_push_size _ (by rw [← hO]; rfl)
      have hT : Shared.TypeIs { s with heap := s.heap.push O } (.ref s.heap.objs.size) "set" := ⟨_, hS, by rw [← hO]⟩
      have hli := F.called_set.init.lookup
      have hbi := F.called_set.init.bind (.ref s.heap.objs.size)
      repeat (any_goals (first | assumption | wp_step))
      refine codeAny_mono (codeAny_call_builtin (R := wants (fun r s₂ => r = .none ∧ ∃ h' tk c, s₂ = { s with heap := h', toks := tk } ∧ SetR w h' s.heap.objs.size (fun j => decide (j ∈ ns)) c ∧ c ≤ ns.length ∧
          (∀ b o, s.heap.get? b = some o → h'.get? b = some o)) E) F.called_set.init.plain F.entry_set_init (check_set_init_1 hT ?_)) fun r₂ s₂ hr₂ => ?_
      · have hlS : l < s.heap.objs.size := by
          obtain ⟨o, ho, _⟩ := hl
          exact Heap.lt_size ho
        have hl1 : (s.heap.push O).IsList l items := hl.push _
        obtain ⟨ol, hol', hcl, nl, hdl⟩ := hl1
        obtain ⟨ocls, odict, odata, oslots⟩ := ol
        simp only at hcl hdl
        subst hcl; subst hdl
        have hl2 : (s.heap.push O).IsList l items := ⟨_, hol', rfl, nl, rfl⟩
        have hsls := F.sub_list_set
        have hslf := F.sub_list_frozenset
        have hne : (Value.type "list" == Value.type "dict") = false := by decide
        have hneI : l ≠ (s.heap.push O).objs.size := by rw [Heap.size_push]; exact Nat.ne_of_lt (Nat.lt_succ_of_lt hlS)
        have hSf : s.heap.objs.size ∉ [(s.heap.push O).objs.size, l] := by
          rw [Heap.size_push]; simp only [List.mem_cons, List.not_mem_nil, or_false, not_or]
          exact ⟨Nat.ne_of_lt (Nat.lt_succ_self _), Nat.ne_of_gt hlS⟩
        subst hO
        unfold Builtin.«set.__init__» noKeywords Builtin.Frozenset.updateFrom
        generalize hPI : pyIter = PI
        wp_walk
        subst hPI
        refine wpAny_pyIter_list hl2 ?_
        refine wpAny_bind (wpAny_runValue ?_)
        have hval : ∀ (i : Nat) (v : Value), items[i]? = some v → ∃ k t, ns[i]? = some k ∧ v = .int k t := fun i v hv => by
          have hi : i < ns.length := by rw [← hisz]; exact (Array.getElem?_eq_some_iff.mp hv).1
          obtain ⟨t, e⟩ := PyProof.Rows.IntsAre.int_at hit i v (by rw [Array.getElem?_toList]; exact hv)
          exact ⟨ns[i], t, List.getElem?_eq_getElem hi, by rw [e, List.getD_eq_getElem?_getD, List.getElem?_eq_getElem hi] <;> rfl⟩
        refine set_update_ints ((Walks.list (by simp [hh]) _ l hneI items).toS) s.heap.objs.size hSf ns hisz hb hval (items.size - 0) 0 _ (by omega) (Nat.zero_le _)
          ⟨⟨_, Heap.get?_push_size _ rfl, rfl, rfl⟩, (hl2.push _)⟩ ⟨0, Nat.le_refl 0, setR_new_at (Heap.get?_push_of_some _ hS)⟩ fun s' c' hm hc' hS' => ?_
        obtain ⟨h', g2, d', tk', os'⟩ := s'
        have eg : g2 = s.gens := hm.gens
        have ed : d' = s.drawn := hm.drawn
        have eo : os' = s.os := hm.os
        subst eg; subst ed; subst eo
        refine wpAny_pure ?_
        rw [hisz] at hc'
        refine wpAny_pure ⟨rfl, h', tk', c', rfl, hS', hc', fun b o e => ?_⟩
        have hb0 : b < s.heap.objs.size := Heap.lt_size e
        refine hm.heap b o ?_ (Heap.get?_push_of_some _ (Heap.get?_push_of_some _ e))
        simp only [List.mem_cons, List.not_mem_nil, or_false, not_or, Heap.size_push]
        exact ⟨Nat.ne_of_lt hb0, Nat.ne_of_lt (Nat.lt_succ_of_lt hb0)⟩
      · cases r₂ with
        | error e => exact hr₂
        | ok fl₂ =>
          cases fl₂ with
          | ret r =>
            obtain ⟨rfl, h', tk, c', rfl, hS', hc', hk'⟩ := hr₂
            repeat (any_goals (first | assumption | wp_step))
            exact h _ _ _ hS' hc' hk'
          | _ => exact hr₂.elim
    | _ => exact hr.elim
end
end DL

namespace DL
open PySem PySem.Spec PyProof.Rows L2
section
variable {X : Cx} {cls : Cls} {W : WX} {K : PySem.W.Frag} {F H F' H' : Hp}
theorem rgV_ints (a b : Int) : rgV a b = ((List.range (b - a).toNat).map fun i : Nat => a + (i : Int)).map V.int := by unfold rgV; simp
def eLR1 (fa : Env → Res D) : Env → Res D := fun g => (fa g).bind fun d => match opd d with
  | .int n => if rgOk n ∧ n ≤ 1000000 then .ok (.ol (rng 0 n.toNat)) else .bad
  | _ => .bad
theorem je_lr1 {a : Expr} {p p2 pos q : Pos} {fa : Env → Res D} (c : Cn X W k) (hm : X.mg "list" = none) (hm2 : X.mg "range" = none) (ha : JE X cls W a fa)
    (hg : Gl X "list" := by rfl) (hg2 : Gl X "range" := by rfl) (na : starEach [a] X.env = (false, eval a X.env) :: starEach [] X.env := by rfl)
    (na2 : starEach [.Call (.Name "range" p2) [a] [] q] X.env = (false, eval (.Call (.Name "range" p2) [a] [] q) X.env) :: starEach [] X.env := by rfl) :
    JE X cls W (.Call (.Name "list" p) [.Call (.Name "range" p2) [a] [] q] [] pos) (eLR1 fa) := by
  obtain ⟨ta, pa, da⟩ := ha.ex
  refine ⟨_, pe_listRg c.calm hg hm (prg_1 hg2 hm2 pa na) na2, ?_⟩
  intro σ F H g O Q s st p
  unfold eLR1 at p
  refine da.go s st (fun c e => by rw [e] at p; exact p) (fun e => by rw [e] at p; exact p) fun d e v F1 H1 x1 b1 => ?_
  rw [e] at p
  simp only [Res.bind] at p
  cases eo : opd d with
  | int n =>
    rw [eo] at p b1
    simp only at p
    split at p
    · rename_i hn
      obtain rfl := b1.int
      refine ⟨n, rfl, ⟨by omega, by omega, hn.1.lo, hn.1.hi, by omega⟩, fun q hq => ?_⟩
      · refine p (.ref q) _ _ [q] (x1.trans (Ext.own x1.fh hq)) ((fresh_new hq).mono x1.hh) (.inl ?_)
        rw [rgV_ints, rng_map]
        rw [show (n - 0).toNat = n.toNat by omega]
        exact ow_new x1.fh hq rps_ints.toOws
    · exact p.elim
  | _ => rw [eo] at p; exact p.elim
end
end DL

namespace DL
open PySem PySem.Spec PyProof.Rows L2
section
variable {X : Cx} {cls : Cls} {W : WX} {K : PySem.W.Frag} {F H F' H' : Hp}
def eLR2 (fa fb : Env → Res D) : Env → Res D := fun g => (fa g).bind fun d => (fb g).bind fun e => match opd d, opd e with
  | .int i, .int j => if (rgOk i ∧ rgOk j) ∧ (j - i).toNat ≤ 1000000 then .ok (.ol (rng i (j - i).toNat)) else .bad
  | _, _ => .bad
theorem tyX_sqL {a : Addr} {xs : List V} (h : SqL K H a xs) : TyX K H (.ref a) (.type "list") := by
  rcases h with (h | ⟨o, h⟩) | ⟨o, its, n, h, c, _⟩
  · exact .base (.lst h)
  · exact .base (.frz h)
  · exact .kList h c
theorem tyX_sqT {a : Addr} {xs : List V} (h : SqT K H a xs) : TyX K H (.ref a) (.type "tuple") := by
  rcases h with (h | ⟨o, h⟩) | ⟨o, its, n, h, c, _⟩
  · exact .base (.tup h)
  · exact .fTuple h
  · exact .kTuple h c
def tyD : D → Option String
  | .non => some "NoneType"
  | .bl _ => some "bool"
  | .int _ => some "int"
  | .str _ => some "str"
  | .ls _ => some "list"
  | .bo _ => some "list"
  | .tp _ => some "tuple"
  | _ => none
theorem tyD_ok {v : V} {d : D} {T : String} (s : Same F H) (b : Bo K cls F H v d) (e : tyD d = some T) : TyX K H v (.type T) := by
  cases d with
  | non => cases e; obtain rfl := b.non; exact .base .non
  | bl k => cases e; obtain rfl := b.bl; exact .base (.bl k)
  | int k => cases e; obtain rfl := b.int; exact .base (.int k)
  | str k => cases e; obtain rfl := b.str; exact .base (.str k)
  | ls ys => cases e; obtain ⟨a, vs, rfl, h1, r⟩ := b.sqK s (xs := ys) rfl; exact tyX_sqL h1
  | bo ys => cases e; obtain ⟨a, vs, rfl, h1, r⟩ := b.sqL s (xs := ys) rfl; exact tyX_sqL h1
  | tp ys => cases e; obtain ⟨a, vs, rfl, h1, h2, r⟩ := b.tpv s (xs := ys) rfl; exact tyX_sqT h1
  | _ => cases e
def isTy (U T : String) : Option Bool := if U = T then some true else match U, T with
  | "int", "bool" => some false
  | "tuple", "bool" => some false
  | "list", "bool" => some false
  | "str", "bool" => some false
  | "NoneType", "bool" => some false
  | "bool", "int" => some true
  | "tuple", "int" => some false
  | "list", "int" => some false
  | "str", "int" => some false
  | "NoneType", "int" => some false
  | "tuple", "list" => some false
  | "int", "list" => some false
  | "list", "tuple" => some false
  | "int", "tuple" => some false
  | "NoneType", "tuple" => some false
  | "NoneType", "list" => some false
  | _, _ => none
theorem isTy_ok {U T : String} {b : Bool} (e : isTy U T = some b) : PySem.W.kitOne K (.type U) (.type T) = some b := by
  unfold isTy at e
  split at e
  · rename_i h
    subst h
    cases e
    unfold PySem.W.kitOne; rw [if_pos (by simp)]
  · split at e <;> first | (cases e; rfl) | cases e
def eIsT (T : String) (fa : Env → Res D) : Env → Res D := fun g => (fa g).bind fun d => match tyD (opd d) with
  | some U => match isTy U T with
    | some b => .ok (.bl b)
    | none => .bad
  | none => .bad
theorem je_isT {a : Expr} {T : String} {y : Str} {p p2 pos : Pos} {fa : Env → Res D} (hm : X.mg "isinstance" = none) (hm2 : X.mg y = none) (hv : bootBuiltins y = some (.type T)) (ha : JE X cls W a fa)
    (hg : Gl X "isinstance" := by rfl) (hg2 : Gl X y := by rfl) (hn : y ≠ "__name__" := by decide) (hdb : (y == ("__debug__" : Str)) = false := by decide)
    (he : starEach [a, .Name y p2] X.env = (false, eval a X.env) :: starEach [.Name y p2] X.env := by rfl) (he2 : starEach [.Name y p2] X.env = (false, eval (.Name y p2) X.env) :: starEach [] X.env := by rfl)
    (hpl : (backTo pos (starEach [.Name y p2] X.env)).any (·.1) = false := by rfl) :
    JE X cls W (.Call (.Name "isinstance" p) [a, .Name y p2] [] pos) (eIsT T fa) := by
  obtain ⟨ta, pa, da⟩ := ha.ex
  refine ⟨_, pe_callB call_isi hg hm (by rfl) (pa_cons pa (pa_cons (pe_bltn (v := .ty T) hg2 hm2 hv rfl hn hdb) pa_nil he2) he) (by decide) (by decide) he hpl, ?_⟩
  intro σ F H g O Q s st p
  unfold eIsT at p
  refine da.go s st (fun c e => by rw [e] at p; exact p) (fun e => by rw [e] at p; exact p) fun d e v F1 H1 x1 b1 => ?_
  rw [e] at p
  simp only [Res.bind] at p
  cases eo : tyD (opd d) with
  | none => rw [eo] at p; exact p.elim
  | some U =>
    rw [eo] at p
    simp only at p
    split at p
    · rename_i b hU
      exact ⟨v, .ty T, .type U, .type T, b, rfl, .ty T, tyD_ok x1.fh b1 eo, isTy_ok hU, p (.bl b) F1 H1 [] x1 (fun _ h => nomatch h) (.inl (.sh (.bl b)))⟩
    · exact p.elim
end
end DL

namespace DL
open PySem PySem.Spec PyProof.Rows L2
def insU (x : Int) : List Int → List Int
  | [] => [x]
  | y :: l => if x < y then x :: y :: l else if x = y then y :: l else y :: insU x l
def sset : List Int → List Int
  | [] => []
  | x :: l => insU x (sset l)
theorem insU_mem (x k : Int) : ∀ l : List Int, k ∈ insU x l ↔ k = x ∨ k ∈ l
  | [] => by simp [insU]
  | y :: l => by
    unfold insU
    split
    · simp
    · split
      · rename_i h; subst h; simp
      · simp only [List.mem_cons, insU_mem x k l]
        constructor
        · rintro (h | h | h) <;> simp [h]
        · rintro (h | h | h) <;> simp [h]
theorem insU_rise (x : Int) : ∀ l : List Int, l.Pairwise (· < ·) → (insU x l).Pairwise (· < ·)
  | [], _ => by simp [insU]
  | y :: l, h => by
    obtain ⟨h1, h2⟩ := List.pairwise_cons.mp h
    unfold insU
    split
    · rename_i hx
      exact List.pairwise_cons.mpr ⟨fun k hk => by rcases List.mem_cons.mp hk with rfl | hk; exact hx; exact Int.lt_trans hx (h1 k hk), h⟩
    · split
      · exact h
      · rename_i n1 n2
        refine List.pairwise_cons.mpr ⟨fun k hk => ?_, insU_rise x l h2⟩
        rcases (insU_mem x k l).mp hk with rfl | hk
        · omega
        · exact h1 k hk
theorem sset_mem (k : Int) : ∀ l : List Int, k ∈ sset l ↔ k ∈ l
  | [] => Iff.rfl
  | x :: l => by simp only [sset, insU_mem, sset_mem k l, List.mem_cons]
theorem sset_rise : ∀ l : List Int, (sset l).Pairwise (· < ·)
  | [] => .nil
  | x :: l => insU_rise x _ (sset_rise l)
theorem rise_uniq : ∀ {l m : List Int}, l.Pairwise (· < ·) → m.Pairwise (· < ·) → (∀ k, k ∈ l ↔ k ∈ m) → l = m
  | [], [], _, _, _ => rfl
  | [], y :: m, _, _, h => absurd ((h y).mpr (List.mem_cons_self ..)) (by simp)
  | x :: l, [], _, _, h => absurd ((h x).mp (List.mem_cons_self ..)) (by simp)
  | x :: l, y :: m, a, b, h => by
    obtain ⟨a1, a2⟩ := List.pairwise_cons.mp a
    obtain ⟨b1, b2⟩ := List.pairwise_cons.mp b
    have e : x = y := by
      rcases List.mem_cons.mp ((h x).mp (List.mem_cons_self ..)) with e | e
      · exact e
      · rcases List.mem_cons.mp ((h y).mpr (List.mem_cons_self ..)) with e' | e'
        · exact e'.symm
        · have := a1 y e'; have := b1 x e; omega
    subst e
    congr 1
    refine rise_uniq a2 b2 fun k => ⟨fun hk => ?_, fun hk => ?_⟩
    · rcases List.mem_cons.mp ((h k).mp (List.mem_cons_of_mem _ hk)) with e | e
      · have := a1 k hk; omega
      · exact e
    · rcases List.mem_cons.mp ((h k).mpr (List.mem_cons_of_mem _ hk)) with e | e
      · have := b1 k hk; omega
      · exact e
theorem rise_nodup {l : List Int} (h : l.Pairwise (· < ·)) : l.Nodup := h.imp fun h e => by omega
section
variable {X : Cx} {cls : Cls} {W : WX} {K : PySem.W.Frag} {F H F' H' : Hp}
theorem setR_len {w : World} {h : Heap} {a : Addr} {ns : List Int} {c : Nat} (R : SetR w h a (fun j => decide (j ∈ ns)) c) : c = (sset ns).length := by
  obtain ⟨o, es, ep, t, ho, hex, hd, g, nd, hm, hb, hf, hn, hr, hl⟩ := R
  have p : (es.toList.map keyOf).Perm (sset ns) := (List.perm_ext_iff_of_nodup nd (rise_nodup (sset_rise ns))).mpr fun k => by
    rw [sset_mem]
    have := hm k
    simpa using this.symm
  rw [← p.length_eq, List.length_map, Array.length_toList]
  exact hn.symm
def rSetIL (K : PySem.W.Frag) (w : World) : List V → Hp → VK → Prop := fun vs H Q => ∃ (l : Addr) (ns : List Int), vs = [.ref l] ∧ SqL K H l (ns.map V.int) ∧ ns.length ≤ 4000 ∧ ∀ p, H p = none → Q (.ref p) (upd H p (SetO w p (fun j => decide (j ∈ ns)) (sset ns).length))
theorem cr_setIL (hc : X.calm = true) : CallR X (.type "set") (rSetIL X.K X.w) := by
  intro pins s σ H vs us Q I r h
  obtain ⟨l, ns, rfl, hq, hz, q⟩ := h
  rw [Vals.ref1 r]
  obtain ⟨its, r, pl, _⟩ := I.list hq
  refine call_set_listR ns (I.ok.hd hc) pl.isList (by simpa using r.ints) (by unfold scanBound; omega) fun h' tk c hS hc' hk => ?_
  have e := setR_len hS
  subst e
  exact ⟨.ref s.heap.objs.size, upd H s.heap.objs.size (SetO X.w s.heap.objs.size (fun j => decide (j ∈ ns)) (sset ns).length), I.laid (t' := tk) hk (Nat.le_refl _) (setO_new hS), rfl, q _ (I.hok.fresh (Nat.le_refl _))⟩
def tLenS (K : PySem.W.Frag) (ta : TE) : TE := fun σ H Q => ta σ H fun x H1 => ∃ (l : Addr) (ns : List Int), x = V.ref l ∧ SqL K H1 l (ns.map V.int) ∧ ns.length ≤ 4000 ∧ Q (.int (sset ns).length) H1
theorem pe_lenS {a : Expr} {ta : TE} {p p2 q pos : Pos} (hc : X.calm = true) (hg : Gl X "len") (hm : X.mg "len" = none) (hg2 : Gl X "set") (hm2 : X.mg "set" = none) (ha : PE X a ta)
    (na : starEach [a] X.env = (false, eval a X.env) :: starEach [] X.env := by rfl) : PE X (.Call (.Name "len" p) [.Call (.Name "set" p2) [a] [] q] [] pos) (tLenS X.K ta) := by
  refine ⟨fun pins s σ H Q I h => ?_⟩
  refine Call_ (ld_blt I hg hm PySem.boot_len ?_)
  refine PyProof.Rows.callWith_builtin1 (PyProof.Rows.args_cons ?_ rfl) rfl rfl
  refine Call_ (ld_blt I hg2 hm2 PyProof.Rows.boot_set ?_)
  refine PyProof.Rows.callWith_type1 (PyProof.Rows.args_cons (thn (ha.run pins s σ H _ I h) fun v s1 ⟨x, H1, I1, r1, q1⟩ => PyProof.Rows.args_nil ?_) na) na rfl
  obtain ⟨l, ns, rfl, hq, h1, q1⟩ := q1
  cases r1
  obtain ⟨its, r, pl, _⟩ := I1.list hq
  refine call_set_listR ns (I1.ok.hd hc) pl.isList (by simpa using r.ints) (by unfold scanBound; omega) fun h' tk c hS hc' hk => ?_
  have e := setR_len hS
  obtain ⟨o, es, ep, t, ho, hex, hd, g, nd, hm, hb, hf, hn, hr, hl⟩ := hS
  refine PyProof.Rows.args_nil ?_
  have I2 : Inv X pins σ H1 { s1 with heap := h', toks := tk } := I1.kept hk
  exact call_len_set ho hex hd hf (by rw [hn] <;> omega) ⟨.int (sset ns).length, H1, I2.tok _, ⟨_, by rw [hn, e]⟩, q1⟩
def lsI (d : D) : Option (List Int) := match sqL (opd d) with
  | some xs => intsOf xs
  | none => none
theorem lsI_ok {v : V} {d : D} {ns : List Int} (s : Same F H) (b : Bo K cls F H v (opd d)) (e : lsI d = some ns) : ∃ a, v = .ref a ∧ SqL K H a (ns.map V.int) := by
  unfold lsI at e
  cases h1 : sqL (opd d) with
  | none => rw [h1] at e; cases e
  | some xs => rw [h1] at e; exact b.sqI s h1 e
@[simp] theorem lsI_ls (ns : List Int) : lsI (.ls (ns.map D.int)) = some ns := by simp [lsI]
@[simp] theorem lsI_bo (ns : List Int) : lsI (.bo (ns.map D.int)) = some ns := by simp [lsI]
@[simp] theorem lsI_ol (ns : List Int) : lsI (.ol (ns.map D.int)) = some ns := by simp [lsI]
def eLenSet (fa : Env → Res D) : Env → Res D := fun g => (fa g).bind fun d => match lsI d with
  | some ns => if ns.length ≤ 4000 then .ok (.int (sset ns).length) else .bad
  | none => .bad
def eSortedSet (fa : Env → Res D) : Env → Res D := fun g => (fa g).bind fun d => match lsI d with
  | some ns => if ns.length < 64 then .ok (.ol ((sset ns).map D.int)) else .bad
  | none => .bad
theorem je_lenset {a : Expr} {p p2 q pos : Pos} {fa : Env → Res D} (c : Cn X W k) (hm : X.mg "len" = none) (hm2 : X.mg "set" = none) (ha : JE X cls W a fa) (hg : Gl X "len" := by rfl) (hg2 : Gl X "set" := by rfl)
    (na : starEach [a] X.env = (false, eval a X.env) :: starEach [] X.env := by rfl) : JE X cls W (.Call (.Name "len" p) [.Call (.Name "set" p2) [a] [] q] [] pos) (eLenSet fa) := by
  obtain ⟨ta, pa, da⟩ := ha.ex
  refine ⟨_, pe_lenS c.calm hg hm hg2 hm2 pa na, ?_⟩
  intro σ F H g O Q s st p
  unfold eLenSet at p
  refine da.go s st (fun c e => by rw [e] at p; exact p) (fun e => by rw [e] at p; exact p) fun d e v F1 H1 x1 b1 => ?_
  rw [e] at p
  simp only [Res.bind] at p
  cases eo : lsI d with
  | none => rw [eo] at p; exact p.elim
  | some ns =>
    rw [eo] at p
    simp only at p
    split at p
    · rename_i hz
      obtain ⟨l, rfl, h⟩ := lsI_ok x1.fh b1 eo
      exact ⟨l, ns, rfl, h, hz, p _ F1 H1 [] x1 Fresh.nil (.inl (.sh (.int _)))⟩
    · exact p.elim
theorem je_sortedset {a : Expr} {p p2 q pos : Pos} {fa : Env → Res D} (c : Cn X W k) (hm : X.mg "sorted" = none) (hm2 : X.mg "set" = none) (ha : JE X cls W a fa) (hg : Gl X "sorted" := by rfl) (hg2 : Gl X "set" := by rfl)
    (na : starEach [a] X.env = (false, eval a X.env) :: starEach [] X.env := by rfl)
    (na2 : starEach [.Call (.Name "set" p2) [a] [] q] X.env = (false, eval (.Call (.Name "set" p2) [a] [] q) X.env) :: starEach [] X.env := by rfl) :
    JE X cls W (.Call (.Name "sorted" p) [.Call (.Name "set" p2) [a] [] q] [] pos) (eSortedSet fa) := by
  obtain ⟨ta, pa, da⟩ := ha.ex
  refine ⟨_, pe_callB (cr_sortedSet c.calm) hg hm (by decide +kernel) (pa_cons (pe_callTy (cr_setIL c.calm) hg2 hm2 (by decide +kernel) (pa_cons pa pa_nil na) (by decide) (by decide) na (by rfl)) pa_nil na2) (by decide) (by decide) na2 (by rfl), ?_⟩
  intro σ F H g O Q s st p
  unfold eSortedSet at p
  refine da.go s st (fun c e => by rw [e] at p; exact p) (fun e => by rw [e] at p; exact p) fun d e v F1 H1 x1 b1 => ?_
  rw [e] at p
  simp only [Res.bind] at p
  cases eo : lsI d with
  | none => rw [eo] at p; exact p.elim
  | some ns =>
    rw [eo] at p
    simp only at p
    split at p
    · rename_i hz
      obtain ⟨l, rfl, h⟩ := lsI_ok x1.fh b1 eo
      have hlen : (sset ns).length ≤ ns.length := by
        have : ∀ l : List Int, (sset l).length ≤ l.length := fun l => by
          induction l with
          | nil => exact Nat.le_refl _
          | cons x l ih =>
            have : ∀ m : List Int, (insU x m).length ≤ m.length + 1 := fun m => by
              induction m with
              | nil => exact Nat.le_refl _
              | cons y m ih => unfold insU; split; simp; split; simp; simp; omega
            have := this (sset l)
            simp only [sset, List.length_cons]; omega
        exact this ns
      refine ⟨l, ns, rfl, h, by omega, fun p1 hp1 => ⟨p1, _, _, rfl, upd_same, by omega, fun ns' q pw hm' _ hq => ?_⟩⟩
      obtain rfl : ns' = sset ns := rise_uniq pw (sset_rise ns) fun k => by rw [hm' k, sset_mem]; simp
      have s1 : Same F1 (upd H1 p1 (SetO X.w p1 (fun j => decide (j ∈ ns)) (sset ns).length)) := x1.fh.trans (upd_same' hp1)
      have E1 := Ext.own (o := SetO X.w p1 (fun j => decide (j ∈ ns)) (sset ns).length) x1.fh hp1
      exact p (.ref q) _ _ [q] ((x1.trans E1).trans (Ext.own s1 hq)) ((fresh_new hq).mono (x1.trans E1).hh) (.inl (ow_new s1 hq rps_ints.toOws))
    · exact p.elim
end
end DL
namespace DL
@[simp] theorem eLR1_ (fa : Env → Res D) (g : Env) : eLR1 fa g = (fa g).bind fun d => match opd d with
  | .int n => if rgOk n ∧ n ≤ 1000000 then .ok (.ol (rng 0 n.toNat)) else .bad
  | _ => .bad := rfl
@[simp] theorem eLR2_ (fa fb : Env → Res D) (g : Env) : eLR2 fa fb g = (fa g).bind fun d => (fb g).bind fun e => match opd d, opd e with
  | .int i, .int j => if (rgOk i ∧ rgOk j) ∧ (j - i).toNat ≤ 1000000 then .ok (.ol (rng i (j - i).toNat)) else .bad
  | _, _ => .bad := rfl
@[simp] theorem eIsT_ (T : String) (fa : Env → Res D) (g : Env) : eIsT T fa g = (fa g).bind fun d => match tyD (opd d) with
  | some U => match isTy U T with
    | some b => .ok (.bl b)
    | none => .bad
  | none => .bad := rfl
@[simp] theorem isTy_same (T : String) : isTy T T = some true := if_pos rfl
@[simp] theorem isTy_int_bool : isTy "int" "bool" = some false := by decide +kernel
@[simp] theorem isTy_tuple_bool : isTy "tuple" "bool" = some false := by decide +kernel
@[simp] theorem isTy_list_bool : isTy "list" "bool" = some false := by decide +kernel
@[simp] theorem isTy_str_bool : isTy "str" "bool" = some false := by decide +kernel
@[simp] theorem isTy_NoneType_bool : isTy "NoneType" "bool" = some false := by decide +kernel
@[simp] theorem isTy_bool_int : isTy "bool" "int" = some true := by decide +kernel
@[simp] theorem isTy_tuple_int : isTy "tuple" "int" = some false := by decide +kernel
@[simp] theorem isTy_list_int : isTy "list" "int" = some false := by decide +kernel
@[simp] theorem isTy_str_int : isTy "str" "int" = some false := by decide +kernel
@[simp] theorem isTy_NoneType_int : isTy "NoneType" "int" = some false := by decide +kernel
@[simp] theorem isTy_tuple_list : isTy "tuple" "list" = some false := by decide +kernel
@[simp] theorem isTy_int_list : isTy "int" "list" = some false := by decide +kernel
@[simp] theorem isTy_list_tuple : isTy "list" "tuple" = some false := by decide +kernel
@[simp] theorem isTy_int_tuple : isTy "int" "tuple" = some false := by decide +kernel
@[simp] theorem isTy_NoneType_tuple : isTy "NoneType" "tuple" = some false := by decide +kernel
@[simp] theorem isTy_NoneType_list : isTy "NoneType" "list" = some false := by decide +kernel
@[simp] theorem eLenSet_ (fa : Env → Res D) (g : Env) : eLenSet fa g = (fa g).bind fun d => match lsI d with
  | some ns => if ns.length ≤ 4000 then .ok (.int (sset ns).length) else .bad
  | none => .bad := rfl
@[simp] theorem eSortedSet_ (fa : Env → Res D) (g : Env) : eSortedSet fa g = (fa g).bind fun d => match lsI d with
  | some ns => if ns.length < 64 then .ok (.ol ((sset ns).map D.int)) else .bad
  | none => .bad := rfl
@[simp] theorem tyD_non : tyD .non = some "NoneType" := rfl
@[simp] theorem tyD_bl {b} : tyD (.bl b) = some "bool" := rfl
@[simp] theorem tyD_int {b} : tyD (.int b) = some "int" := rfl
@[simp] theorem tyD_str {b} : tyD (.str b) = some "str" := rfl
@[simp] theorem tyD_ls {b} : tyD (.ls b) = some "list" := rfl
@[simp] theorem tyD_bo {b} : tyD (.bo b) = some "list" := rfl
@[simp] theorem tyD_tp {b} : tyD (.tp b) = some "tuple" := rfl
def iota (n : Nat) : List Int := (List.range n).map fun i : Nat => (i : Int)
theorem rng_iota (n : Nat) : rng 0 n = (iota n).map D.int := by rw [rng_map]; unfold iota; simp
@[simp] theorem iota_len (n : Nat) : (iota n).length = n := by simp [iota]
end DL

namespace DL
open PySem PySem.Spec PyProof.Rows L2
section
variable {P : Program} {w : World} {A : Around} {E : Value → Shared → Prop} {s : Shared}
end
end DL
namespace SrtO
open PySem PyProof.Rows Srt
section
variable {prog : Program} {w : World} {A : Around} {E : Value → Shared → Prop} {s : Shared}
end
end SrtO
namespace DL
open PySem PySem.Spec PyProof.Rows L2
section
variable {X : Cx} {cls : Cls} {K : PySem.W.Frag}
def caSorted2 : List D → Option D
  | [.tp xs] => (intsOf xs).map fun ns => .ol ((srt ns).map D.int)
  | ds => caSorted ds
@[simp] theorem caSorted2_tp (ns : List Int) : caSorted2 [.tp (ns.map D.int)] = some (.ol ((srt ns).map D.int)) := by simp [caSorted2]
@[simp] theorem caSorted2_ls (ns : List Int) : caSorted2 [.ls (ns.map D.int)] = some (.ol ((srt ns).map D.int)) := by simp [caSorted2]
@[simp] theorem caSorted2_bo (ns : List Int) : caSorted2 [.bo (ns.map D.int)] = some (.ol ((srt ns).map D.int)) := by simp [caSorted2]
end
end DL

set_option maxHeartbeats 1000000
namespace RT
open PySem PySem.Spec PyProof.Rows
section
variable {prog : Program} {w : World} {A : Around} {E : Value → Shared → Prop} {s : Shared}
end
end RT

namespace DL
open PySem PySem.Spec PyProof.Rows L2
section
variable {X : Cx} {cls : Cls} {W : WX} {K : PySem.W.Frag}
def eLRev (fa : Env → Res D) : Env → Res D := fun g => (fa g).bind fun d => match lsv (opd d) with
  | some xs => .ok (.ol xs.reverse)
  | none => .bad
@[simp] theorem eLRev_ (fa : Env → Res D) (g : Env) : eLRev fa g = (fa g).bind fun d => match lsv (opd d) with
  | some xs => .ok (.ol xs.reverse)
  | none => .bad := rfl
end
end DL

namespace DL
open PySem L2
section
variable {K : PySem.W.Frag} {cls : Cls} {W : WX} {X : Cx} {F H F' H' F1 H1 : Hp} {O O1 : List Addr} {Q : VK} {σ : St} {a b e : Expr} {es : List Expr} {fa fb fc : Env → Res D} {pos : Pos}
def own1 : D → Bool
  | .ol _ => true
  | .od _ _ => true
  | .oo _ _ _ => true
  | _ => false
@[simp] theorem own1_int {i} : own1 (.int i) = false := rfl
@[simp] theorem own1_tp {i} : own1 (.tp i) = false := rfl
@[simp] theorem own1_ls {i} : own1 (.ls i) = false := rfl
@[simp] theorem own1_bl {i} : own1 (.bl i) = false := rfl
@[simp] theorem own1_str {i} : own1 (.str i) = false := rfl
theorem Ow.unown {v : V} {d : D} (h : Ow K cls F H v d O) (e : own1 d = false) : Rp K cls F v d ∧ O = [] := by
  cases h with
  | sh r => exact ⟨r, rfl⟩
  | ol => cases e
  | od => cases e
  | oo => cases e
theorem Ows.erase : ∀ {vs : List V} {ds : List D} {O : List Addr} {k : Nat} {d : D}, Ows K cls F H vs ds O → ds[k]? = some d → own1 d = false → ∃ v, vs[k]? = some v ∧ Rp K cls F v d ∧ Ows K cls F H (vs.eraseIdx k) (ds.eraseIdx k) O
  | _, _, _, _, _, .nil, e, _ => by simp at e
  | _, _, _, 0, d, .cons (v := v) h r dj eo, e, n => by
    simp at e
    subst e
    obtain ⟨h1, h2⟩ := h.unown n
    subst h2
    subst eo
    exact ⟨v, rfl, h1, by simpa using r⟩
  | _, _, _, k + 1, d, .cons h r dj eo, e, n => by
    obtain ⟨v, h1, h2, h3⟩ := Ows.erase (k := k) r (by simpa using e) n
    exact ⟨v, by simpa using h1, h2, by simpa using Ows.cons h h3 dj eo⟩
def sPop (j i : Nat) (fa : Env → Res D) : Env → Out := fun g => match g[i]? with
  | some (.ol xs) => ((fa g).bind kp).st g fun d => match d with
    | .int z => match ixN xs.length z with
      | some k => match xs[k]? with
        | some y => if own1 y = false ∧ xs.length ≤ lim then .nx ((g.set i (.ol (xs.eraseIdx k))).set j y) else .bad
        | none => .bad
      | none => .bad
    | _ => .bad
  | _ => .bad
@[simp] theorem sPop_ (j i : Nat) (fa : Env → Res D) (g : Env) : sPop j i fa g = match g[i]? with
  | some (.ol xs) => ((fa g).bind kp).st g fun d => match d with
    | .int z => match ixN xs.length z with
      | some k => match xs[k]? with
        | some y => if own1 y = false ∧ xs.length ≤ lim then .nx ((g.set i (.ol (xs.eraseIdx k))).set j y) else .bad
        | none => .bad
      | none => .bad
    | _ => .bad
  | _ => .bad := rfl
theorem Ow.int {v : V} {i : Int} (b : Ow K cls F H v (.int i) O) : v = .int i ∧ O = [] := by cases b with | sh r => cases r; exact ⟨rfl, rfl⟩
def sAppPop (m i : Nat) (fa : Env → Res D) : Env → Out := fun g => match g[m]?, g[i]? with
  | some (.ol ws), some (.ol xs) => ((fa g).bind kp).st g fun d => match d with
    | .int z => match ixN xs.length z with
      | some k => match xs[k]? with
        | some y => if own1 y = false ∧ xs.length ≤ lim ∧ ws.length < lim ∧ m ≠ i then .nx ((g.set i (.ol (xs.eraseIdx k))).set m (.ol (ws ++ [y]))) else .bad
        | none => .bad
      | none => .bad
    | _ => .bad
  | _, _ => .bad
@[simp] theorem sAppPop_ (m i : Nat) (fa : Env → Res D) (g : Env) : sAppPop m i fa g = match g[m]?, g[i]? with
  | some (.ol ws), some (.ol xs) => ((fa g).bind kp).st g fun d => match d with
    | .int z => match ixN xs.length z with
      | some k => match xs[k]? with
        | some y => if own1 y = false ∧ xs.length ≤ lim ∧ ws.length < lim ∧ m ≠ i then .nx ((g.set i (.ol (xs.eraseIdx k))).set m (.ol (ws ++ [y]))) else .bad
        | none => .bad
      | none => .bad
    | _ => .bad
  | _, _ => .bad := rfl
def eIndex (fa fb : Env → Res D) : Env → Res D := fun g => (fa g).bind fun d => match lsI d with
  | some ns => (fb g).bind fun e => match opd e with
    | .int x => if x ∈ ns then .ok (.int (ns.idxOf x : Nat)) else .bad
    | _ => .bad
  | none => .bad
@[simp] theorem eIndex_ (fa fb : Env → Res D) (g : Env) : eIndex fa fb g = (fa g).bind fun d => match lsI d with
  | some ns => (fb g).bind fun e => match opd e with
    | .int x => if x ∈ ns then .ok (.int (ns.idxOf x : Nat)) else .bad
    | _ => .bad
  | none => .bad := rfl
theorem idx_ok : ∀ {ns : List Int} {x : Int}, x ∈ ns → ns[ns.idxOf x]? = some x ∧ ∀ m : Nat, m < ns.idxOf x → ns[m]? ≠ some x := by
  intro ns x h
  have hl := List.idxOf_lt_length_of_mem h
  refine ⟨by rw [List.getElem?_eq_getElem hl, List.getElem_idxOf], fun m hm e => ?_⟩
  have hlt : m < ns.length := by omega
  rw [List.getElem?_eq_getElem hlt] at e
  have h2 := List.not_of_lt_findIdx (p := (· == x)) (xs := ns) (i := m) hm
  cases e
  simp at h2
theorem je_index {o : Expr} {apos cpos : Pos} (ho : JE X cls W o fa) (ha : JE X cls W a fb)
    (hbase : attributeBase o "index" X.env (eval o X.env) = eval o X.env := by rfl)
    (hfew : ((backTo cpos (starEach (a :: []) X.env)).all (fun x => !x.1) && (backToKw cpos (keywordEach [] X.env)).all (fun x => x.1.isSome)
      && decide ((a :: []).length + ([] : List Keyword).length + (if ([] : List Keyword).isEmpty then 0 else 1) < 30)) = true := by rfl)
    (hline : (apos.endLine == cpos.line) = true := by rfl) (hs : starEach (a :: []) X.env = (false, eval a X.env) :: starEach [] X.env := by rfl) (hplain : (backTo cpos (starEach [] X.env)).any (·.1) = false := by rfl) :
    JE X cls W (.Call (.Attribute o "index" apos) [a] [] cpos) (eIndex fa fb) := by
  obtain ⟨to, po, eo⟩ := ho.ex
  obtain ⟨ta, pa, ea⟩ := ha.ex
  refine ⟨_, pe_bm PySem.F.plainAttrs_list PySem.F.slot_list_index PySem.F.type_list_index mt_index po (pa_cons pa pa_nil hs) hbase hfew hline hs hplain, ?_⟩
  intro σ F H g O Q s st p
  rw [eIndex_] at p
  refine eo.go s st (fun c e => by rw [e] at p; exact p) (fun e => by rw [e] at p; exact p) fun d e v F1 H1 x1 b1 => ?_
  rw [e] at p
  simp only [Res.bind] at p
  cases el : lsI d with
  | none => rw [el] at p; exact p.elim
  | some ns =>
    rw [el] at p
    obtain ⟨q, rfl, hq⟩ := lsI_ok x1.fh b1 el
    refine ⟨.inl ⟨rfl, _, hq⟩, ?_⟩
    refine ea.go x1.fh (st.ext x1) (fun c e => by rw [e] at p; exact fun F' H' y => p F' H' (x1.trans y)) (fun e => by rw [e] at p; exact p) fun d2 e2 v2 F2 H2 x2 b2 => ?_
    rw [e2] at p
    simp only [Res.bind] at p
    split at p
    · rename_i x ex
      rw [ex] at b2
      obtain rfl := b2.int
      split at p
      · rename_i hm
        obtain ⟨k1, k2⟩ := idx_ok hm
        refine ⟨q, _, .int x, ns.idxOf x, .int x, rfl, rfl, x2.hh.seq hq, rfl, by simp [flatV], by simp [k1], by simp [eqV], fun m z hm2 e => ?_, ?_⟩
        · rw [List.getElem?_map] at e
          cases ee : ns[m]? with
          | none => rw [ee] at e; cases e
          | some w =>
            rw [ee] at e
            cases e
            have : w ≠ x := fun z => k2 m hm2 (by rw [ee, z])
            simpa [eqV] using this
        · exact p _ F2 H2 [] (x1.trans x2) Fresh.nil (.inl (.sh (.int _)))
      · exact p.elim
    · exact p.elim
theorem Ows.inner : ∀ {vs : List V} {ds : List D} {O : List Addr} {k : Nat} {ys : List D}, Ows K cls F H vs ds O → ds[k]? = some (.ol ys) → ∃ p us O1, vs[k]? = some (.ref p) ∧ H p = some (.lst us) ∧ F p = none ∧ p ∉ O1 ∧ Ows K cls F H us ys O1 ∧ p ∈ O ∧ (∀ a ∈ O1, a ∈ O) ∧
    ∀ (F' H' : Hp) (ws : List V) (zs : List D) (O2 : List Addr), Ext F H F' H' → Ows K cls F' H' ws zs O2 → p ∉ O2 → (∀ a ∈ O2, a ∈ O1 ∨ H a = none) → ∃ O3, Ows K cls F' (upd H' p (.lst ws)) vs (ds.set k (.ol zs)) O3 ∧ ∀ a ∈ O3, a ∈ O ∨ H a = none
  | _, _, _, _, _, .nil, e => by simp at e
  | _, _, _, 0, ys, .cons (O1 := P1) (O2 := P2) h r dj eo, e => by
    simp at e
    subst e
    subst eo
    cases h with
    | sh r => cases r
    | @ol p us _ O1 f1 f2 f3 f4 =>
      refine ⟨p, us, O1, rfl, f2, f1, f3, f4, by simp, fun a ha => by simp [ha], fun F' H' ws zs O2 x w n k => ?_⟩
      have hp : F' p = none := x.ow p f1 (by rw [f2]; exact fun e => nomatch e)
      have up : ∀ b, b ≠ p → upd H' p (.lst ws) b = H' b := fun b hb => upd_ne hb
      refine ⟨(p :: O2) ++ P2, ?_, fun a ha => ?_⟩
      · refine Ows.cons (O1 := p :: O2) (O2 := P2) (.ol hp upd_same n (w.frame (.refl F') fun a ha => ⟨up a fun z => n (z ▸ ha), (w.dom a ha).1⟩)) ?_ (fun a h1 h2 => ?_) rfl
        · exact (r.ext x).frame (.refl F') fun a ha => ⟨up a fun z => dj a (by simp [z]) ha, ((r.ext x).dom a ha).1⟩
        · rcases List.mem_cons.mp h1 with z | z
          · exact dj a (by simp [z]) h2
          · rcases k a z with z | z
            · exact dj a (by simp [z]) h2
            · exact (r.dom a h2).2 z
      · rcases List.mem_append.mp ha with z | z
        · rcases List.mem_cons.mp z with z | z
          · exact .inl (by simp [z])
          · exact (k a z).imp (fun z => by simp [z]) id
        · exact .inl (by simp [z])
  | _, _, _, kk + 1, ys, .cons (O1 := P1) (O2 := P2) h r dj eo, e => by
    subst eo
    obtain ⟨p, us, O1, g1, g2, g3, g4, g5, g6, g7, g8⟩ := Ows.inner (k := kk) r (by simpa using e)
    refine ⟨p, us, O1, by simpa using g1, g2, g3, g4, g5, List.mem_append_right _ g6, fun a ha => List.mem_append_right _ (g7 a ha), fun F' H' ws zs O2 x w n k => ?_⟩
    obtain ⟨O3, w1, w2⟩ := g8 F' H' ws zs O2 x w n k
    have up : ∀ b, b ≠ p → upd H' p (.lst ws) b = H' b := fun b hb => upd_ne hb
    refine ⟨P1 ++ O3, ?_, fun a ha => ?_⟩
    · refine Ows.cons (O1 := P1) (O2 := O3) ((h.ext x).frame (.refl F') fun a ha => ⟨up a fun z => dj a ha (z ▸ g6), ((h.ext x).dom a ha).1⟩) (by simpa using w1) (fun a h1 h2 => ?_) rfl
      rcases w2 a h2 with z | z
      · exact dj a h1 z
      · exact (h.dom a h1).2 z
    · rcases List.mem_append.mp ha with z | z
      · exact .inl (List.mem_append_left _ z)
      · exact (w2 a z).imp (fun z => List.mem_append_right _ z) id
def sAppIx (i z : Nat) (fa : Env → Res D) : Env → Out := fun g => match g[i]? with
  | some (.ol xs) => match xs[z]? with
    | some (.ol ys) => ((fa g).bind kp).st g fun d => if ys.length < lim then .nx (g.set i (.ol (xs.set z (.ol (ys ++ [d]))))) else .bad
    | _ => .bad
  | _ => .bad
@[simp] theorem sAppIx_ (i z : Nat) (fa : Env → Res D) (g : Env) : sAppIx i z fa g = match g[i]? with
  | some (.ol xs) => match xs[z]? with
    | some (.ol ys) => ((fa g).bind kp).st g fun d => if ys.length < lim then .nx (g.set i (.ol (xs.set z (.ol (ys ++ [d]))))) else .bad
    | _ => .bad
  | _ => .bad := rfl
end
end DL

namespace TL
open PySem PySem.W PySem.Calls PyProof.Rows
theorem lex_anti : ∀ a b : List Int, HT.lexLt a b = false → HT.lexLt b a = false → a = b
  | [], [], _, _ => rfl
  | [], y :: ys, h, _ => by rw [HT.lexLt_nil_cons] at h; cases h
  | x :: xs, [], _, h => by rw [HT.lexLt_nil_cons] at h; cases h
  | x :: xs, y :: ys, h1, h2 => by
    rw [HT.lexLt_cons] at h1 h2
    by_cases e : x = y
    · subst e
      rw [if_pos rfl] at h1 h2
      rw [lex_anti xs ys h1 h2]
    · rw [if_neg e] at h1
      rw [if_neg (Ne.symm e)] at h2
      have a := of_decide_eq_false h1
      have b := of_decide_eq_false h2
      omega
def Rise (l : List (List Int)) : Prop := l.Pairwise fun a b => HT.lexLt b a = false
def insL (x : List Int) : List (List Int) → List (List Int)
  | [] => [x]
  | y :: l => if HT.lexLt y x = true then y :: insL x l else x :: y :: l
def srtL : List (List Int) → List (List Int)
  | [] => []
  | x :: l => insL x (srtL l)
theorem insL_perm (x : List Int) : ∀ l, (insL x l).Perm (x :: l)
  | [] => .refl _
  | y :: l => by
    unfold insL
    split
    · exact ((insL_perm x l).cons y).trans (.swap ..)
    · exact .refl _
theorem srtL_perm : ∀ l, (srtL l).Perm l
  | [] => .refl _
  | x :: l => (insL_perm x (srtL l)).trans ((srtL_perm l).cons x)
theorem insL_rise (x : List Int) : ∀ l, Rise l → Rise (insL x l)
  | [], _ => List.pairwise_singleton _ _
  | y :: l, h => by
    obtain ⟨h1, h2⟩ := List.pairwise_cons.mp h
    unfold insL
    split
    · rename_i c
      refine List.pairwise_cons.mpr ⟨fun z hz => ?_, insL_rise x l h2⟩
      rcases List.mem_cons.mp ((insL_perm x l).mem_iff.mp hz) with rfl | hz
      · exact NtL.lex_asym _ _ c
      · exact h1 z hz
    · rename_i c
      have c : HT.lexLt y x = false := by simpa using c
      refine List.pairwise_cons.mpr ⟨fun z hz => ?_, h⟩
      rcases List.mem_cons.mp hz with rfl | hz
      · exact c
      · exact NtL.lex_tr _ _ _ c (h1 z hz)
theorem srtL_rise : ∀ l, Rise (srtL l)
  | [] => .nil
  | x :: l => insL_rise x _ (srtL_rise l)
theorem rise_one : ∀ {l m : List (List Int)}, l.Perm m → Rise l → Rise m → l = m
  | [], m, p, _, _ => (List.Perm.eq_nil p.symm).symm
  | x :: l, [], p, _, _ => absurd p.length_eq (by simp)
  | x :: l, y :: m, p, hl, hm => by
    obtain ⟨h1, h2⟩ := List.pairwise_cons.mp hl
    obtain ⟨k1, k2⟩ := List.pairwise_cons.mp hm
    have e : x = y := by
      rcases List.mem_cons.mp (p.mem_iff.mp (List.mem_cons_self (a := x) (l := l))) with e | hx
      · exact e
      · rcases List.mem_cons.mp (p.mem_iff.mpr (List.mem_cons_self (a := y) (l := m))) with e | hy
        · exact e.symm
        · exact lex_anti _ _ (k1 x hx) (h1 y hy)
    subst e
    rw [rise_one p.cons_inv h2 k2]
def kOf (h : Heap) : Value → List Int
  | .ref a => match h.get? a with
    | some o => match o.data with
      | .seq xs _ => xs.toList.map SrtO.iv
      | _ => []
    | none => []
  | _ => []
def IsTI (h : Heap) (v : Value) (ns : List Int) : Prop := ∃ a o xs n, v = .ref a ∧ h.get? a = some o ∧ o.cls = .type "tuple" ∧ o.data = .seq xs n ∧ IntsAre xs.toList ns
theorem IsTI.k {h : Heap} {v : Value} {ns : List Int} (x : IsTI h v ns) : kOf h v = ns := by
  obtain ⟨a, o, xs, n, rfl, ho, hc, hd, hi⟩ := x
  simp only [kOf, ho, hd]
  exact SrtO.iv_ints hi
theorem IsTI.keeps {h h' : Heap} {v : Value} {ns : List Int} (p : IsTI h v ns) (k : ∀ b o, h.get? b = some o → o.cls = .type "tuple" → h'.get? b = some o) : IsTI h' v ns := by
  obtain ⟨a, o, xs, n, e, ho, hc, hd, hi⟩ := p
  exact ⟨a, o, xs, n, e, k _ _ ho hc, hc, hd, hi⟩
section
variable {prog : Program} {w : World} {A : Around} {E : Value → Shared → Prop} {s : Shared}
end
end TL
namespace DL
open PySem PySem.Spec PyProof.Rows L2 TL
section
variable {X : Cx} {cls : Cls} {K : PySem.W.Frag}
def tupOf : D → Option (List Int)
  | .tp xs => intsOf xs
  | _ => none
def tupsOf : List D → Option (List (List Int))
  | [] => some []
  | d :: ds => match tupOf d, tupsOf ds with
    | some l, some L => some (l :: L)
    | _, _ => none
@[simp] theorem tupsOf_map : ∀ L : List (List Int), tupsOf (L.map dT) = some L
  | [] => rfl
  | l :: L => by simp [tupsOf, dT, tupOf, tupsOf_map L]
def caSorted3 (ds : List D) : Option D := match ds with
  | [d] => match sqK d with
    | some (.tp x :: xs) => match tupsOf (.tp x :: xs) with
      | some L => if L.length < 2 ∨ L.all (fun l => !l.isEmpty) = true then some (.ol ((srtL L).map dT)) else none
      | none => none
    | _ => caSorted2 ds
  | ds => caSorted2 ds
theorem Rps.zip {F : Hp} : ∀ {vs : List V} {L : List (List Int)}, Rps K cls F vs (L.map dT) → ∀ y l, (y, l) ∈ vs.zip L → Rp K cls F y (dT l)
  | _, [], .nil, _, _, h => by simp at h
  | _, l0 :: L, .cons a r, y, l, h => by
    rw [List.zip_cons_cons] at h
    rcases List.mem_cons.mp h with e | h
    · cases e; exact a
    · exact Rps.zip r y l h
theorem srtL_len (L : List (List Int)) : (srtL L).length = L.length := (srtL_perm L).length_eq
@[simp] theorem caSorted3_tp (ns : List Int) : caSorted3 [.tp (ns.map D.int)] = some (.ol ((srt ns).map D.int)) := by
  unfold caSorted3
  split
  · rename_i h; cases h; simp
  · simp
@[simp] theorem caSorted3_ls (ns : List Int) : caSorted3 [.ls (ns.map D.int)] = some (.ol ((srt ns).map D.int)) := by
  cases ns with
  | nil => simp [caSorted3]; rfl
  | cons a l => simp [caSorted3]; exact caSorted2_ls (a :: l)
@[simp] theorem caSorted3_bo (ns : List Int) : caSorted3 [.bo (ns.map D.int)] = some (.ol ((srt ns).map D.int)) := by
  cases ns with
  | nil => simp [caSorted3]; rfl
  | cons a l => simp [caSorted3]; exact caSorted2_bo (a :: l)
end
end DL

namespace DL
open PySem PySem.Spec PyProof.Rows L2 TL
section
variable {K : PySem.W.Frag} {cls : Cls} {W : WX} {X : Cx} {F H F' H' F1 H1 : Hp} {O O1 : List Addr} {Q : VK} {a b e : Expr} {es : List Expr} {fa fb fc : Env → Res D} {pos : Pos}
def cIn2 : D → D → Option Bool
  | .tp xs, l => match toPy (.tp xs), toPy l with
    | some d, some (.list ds) => if SeqAt.shaped d = true ∧ SeqAt.shaped (.list ds) = true then some (ds.any fun z => PyData.eqv z d) else none
    | _, _ => none
  | x, l => cIn x l
def cNIn2 (a b : D) : Option Bool := (cIn2 a b).map (!·)
theorem cIn2_ok {x y : V} {a b : D} {k : Bool} (s : Same F H) (b1 : Bo K cls F H x a) (b2 : Bo K cls F H y b) (e : cIn2 a b = some k) :
    (∃ c, cIn a b = some c ∧ c = k) ∨ ∃ d ds, Dp K H x d ∧ Dp K H y (.list ds) ∧ SeqAt.shaped d = true ∧ SeqAt.shaped (.list ds) = true ∧ (ds.any fun z => PyData.eqv z d) = k := by
  unfold cIn2 at e
  split at e
  · split at e
    · rename_i d ds h1 h2
      split at e
      · rename_i h
        cases e
        exact .inr ⟨d, ds, b1.dp s h1, b2.dp s h2, h.1, h.2, rfl⟩
      · cases e
    · cases e
  · exact .inl ⟨k, e, rfl⟩
theorem ok_nin2 : C2Ok K cls (fun x y H Q => rIn K true x y H Q ∨ rNotInD K x y H Q) cNIn2 := by
  intro F H x y a b d Q s b1 b2 e q
  unfold cNIn2 at e
  cases e0 : cIn2 a b with
  | none => rw [e0] at e; cases e
  | some k =>
    rw [e0] at e
    cases e
    rcases cIn2_ok s b1 b2 e0 with ⟨c, h1, rfl⟩ | ⟨p, r, h1, h2, h3, h4, h5⟩
    · exact .inl (ok_nin F H x y a b (!c) Q s b1 b2 (by unfold cNIn; rw [h1]; rfl) q)
    · exact .inr ⟨p, r, h1, h2, h3, h4, by rw [h5]; exact q⟩
theorem Cn.eq65 {X : Cx} {W : WX} {k : Nat} (c : Cn X W k) : X.A.units + 65 < cLine := by have := c.hr.un; omega
theorem op_nin5 (hu : X.A.units + 65 < cLine) : OpR X (compareOp .NotIn) (fun x y H Q => rIn X.K true x y H Q ∨ rNotInD X.K x y H Q) := op_notIn_seq.or (op_notInD hu)
theorem eqv_tups {l : List Int} {L : List (List Int)} : (L.map fun l => PyData.tuple (l.map .int)).any (fun z => PyData.eqv z (.tuple (l.map .int))) = decide (l ∈ L) := by
  induction L with
  | nil => simp
  | cons a L ih =>
    rw [List.map_cons, List.any_cons, ih]
    have : PyData.eqv (.tuple (a.map .int)) (.tuple (l.map .int)) = decide (a = l) := by
      simp only [PyData.eqv]
      exact eqvAll_map (p := PyData.int) (fun a b => by simp only [PyData.eqv]; by_cases e : a = b <;> simp [e]) a l
    rw [this, ← Bool.decide_or]
    by_cases h : a = l
    · subst h; simp
    · have h' : ¬ l = a := fun z => h z.symm
      simp [h, h']
theorem toPy_T (l : List Int) : toPy (.tp (l.map D.int)) = some (.tuple (l.map .int)) := by
  have : toPys (l.map D.int) = some (l.map PyData.int) := toPys_map (fun a => by simp [toPy]) l
  simp [toPy, this]
theorem toPy_TL (L : List (List Int)) : toPy (.ls (L.map dT)) = some (.list (L.map fun l => PyData.tuple (l.map .int))) := by
  have : toPys (L.map dT) = some (L.map fun l => PyData.tuple (l.map .int)) := toPys_map (f := dT) (fun a => toPy_T a) L
  simp [toPy, this]
theorem shaped_T (l : List Int) : SeqAt.shaped (.tuple (l.map .int)) = true := by
  have a := lay_map (p := PyData.int) (fun a => by simp [PyData.canLay0]) l
  have b : PyData.depthAll (l.map PyData.int) ≤ 0 := dep_map (p := PyData.int) (fun a => by simp [PyData.depth]) l
  have c : PyData.depth (.tuple (l.map .int)) ≤ 1 := by simp only [PyData.depth]; omega
  have d : PyData.canLay0 (.tuple (l.map .int)) = true := by simp [PyData.canLay0, a]
  simp only [SeqAt.shaped, d, Bool.true_and, decide_eq_true_eq]
  omega
theorem shaped_TL (L : List (List Int)) : SeqAt.shaped (.list (L.map fun l => PyData.tuple (l.map .int))) = true := by
  have a := lay_map (p := fun l : List Int => PyData.tuple (l.map .int)) (fun l => by
    have := lay_map (p := PyData.int) (fun a => by simp [PyData.canLay0]) l
    simp [PyData.canLay0, this]) L
  have b : PyData.depthAll (L.map fun l : List Int => PyData.tuple (l.map .int)) ≤ 1 := dep_map (p := fun l : List Int => PyData.tuple (l.map .int)) (fun l => by
    have b : PyData.depthAll (l.map PyData.int) ≤ 0 := dep_map (p := PyData.int) (fun a => by simp [PyData.depth]) l
    simp only [PyData.depth]; omega) L
  have c : PyData.depth (.list (L.map fun l : List Int => PyData.tuple (l.map .int))) ≤ 2 := by simp only [PyData.depth]; omega
  have d : PyData.canLay0 (.list (L.map fun l : List Int => PyData.tuple (l.map .int))) = true := by simp [PyData.canLay0, a]
  simp only [SeqAt.shaped, d, Bool.true_and, decide_eq_true_eq]
  omega
theorem cIn2_TL (l : List Int) (L : List (List Int)) : cIn2 (.tp (l.map D.int)) (.ls (L.map dT)) = some (decide (l ∈ L)) := by
  simp only [cIn2, toPy_T, toPy_TL]
  rw [if_pos ⟨shaped_T l, shaped_TL L⟩, eqv_tups]
@[simp] theorem cNIn2_TL (l : List Int) (L : List (List Int)) : cNIn2 (.tp (l.map D.int)) (.ls (L.map dT)) = some (!decide (l ∈ L)) := by
  unfold cNIn2; rw [cIn2_TL]; rfl
end
end DL

set_option maxHeartbeats 1000000
namespace RT
open PySem PySem.Spec PyProof.Rows
section
variable {prog : Program} {w : World} {A : Around} {E : Value → Shared → Prop} {s : Shared}
end
end RT
namespace DL
open PySem PySem.Spec PyProof.Rows L2
section
variable {X : Cx} {cls : Cls} {W : WX} {K : PySem.W.Frag}
def lsT (d : D) : Option (List D) := match d with
  | .tp xs => some xs
  | d => lsv d
@[simp] theorem lsT_tp {xs} : lsT (.tp xs) = some xs := rfl
@[simp] theorem lsT_ls {xs} : lsT (.ls xs) = some xs := rfl
@[simp] theorem lsT_bo {xs} (h : shd xs = true) : lsT (.bo xs) = some xs := by simp [lsT, h]
def eLRev2 (fa : Env → Res D) : Env → Res D := fun g => (fa g).bind fun d => match lsT (opd d) with
  | some xs => .ok (.ol xs.reverse)
  | none => .bad
@[simp] theorem eLRev2_ (fa : Env → Res D) (g : Env) : eLRev2 fa g = (fa g).bind fun d => match lsT (opd d) with
  | some xs => .ok (.ol xs.reverse)
  | none => .bad := rfl
end
end DL

set_option maxHeartbeats 1000000
namespace RT
open PySem PySem.Spec PyProof.Rows
section
variable {prog : Program} {w : World} {A : Around} {E : Value → Shared → Prop} {s : Shared}
end
end RT
namespace DL
open PySem PySem.Spec PyProof.Rows L2
section
variable {X : Cx} {cls : Cls} {W : WX} {K : PySem.W.Frag}
theorem Bo.lsT {v : V} {d : D} {F H : Hp} {xs : List D} (s : Same F H) (b1 : Bo K cls F H v d) (eo : lsT d = some xs) : ∃ a vs, v = .ref a ∧ (SqL K H a vs ∨ SqT K H a vs) ∧ Rps K cls F vs xs := by
  cases d with
  | tp ys =>
    cases eo
    obtain ⟨a, vs, e1, h1, h2, r⟩ := b1.tpv s (xs := xs) rfl
    exact ⟨a, vs, e1, .inr h1, r⟩
  | ls ys =>
    obtain ⟨a', vs, rfl, h1, r⟩ := b1.sqK s (xs := xs) (by simpa [DL.lsT] using eo)
    exact ⟨a', vs, rfl, .inl h1, r⟩
  | bo ys =>
    obtain ⟨a', vs, rfl, h1, r⟩ := b1.sqK s (xs := xs) (by simp [DL.lsT] at eo ⊢; first | exact eo | (obtain ⟨e1, e2⟩ := eo; exact ⟨e1, e2⟩))
    exact ⟨a', vs, rfl, .inl h1, r⟩
  | _ => simp [DL.lsT] at eo
def eTRev2 (fa : Env → Res D) : Env → Res D := fun g => (fa g).bind fun d => match lsT (opd d) with
  | some xs => .ok (.tp xs.reverse)
  | none => .bad
@[simp] theorem eTRev2_ (fa : Env → Res D) (g : Env) : eTRev2 fa g = (fa g).bind fun d => match lsT (opd d) with
  | some xs => .ok (.tp xs.reverse)
  | none => .bad := rfl
end
end DL

namespace DL
open PySem PySem.Spec PyProof.Rows L2
section
variable {X : Cx} {cls : Cls} {W : WX} {K : PySem.W.Frag} {F H F' H' : Hp} {O : List Addr}
def eTR1 (fa : Env → Res D) : Env → Res D := fun g => (fa g).bind fun d => match opd d with
  | .int n => if rgOk n ∧ n ≤ 1000000 then .ok (.tp (rng 0 n.toNat)) else .bad
  | _ => .bad
@[simp] theorem eTR1_ (fa : Env → Res D) (g : Env) : eTR1 fa g = (fa g).bind fun d => match opd d with
  | .int n => if rgOk n ∧ n ≤ 1000000 then .ok (.tp (rng 0 n.toNat)) else .bad
  | _ => .bad := rfl
theorem je_tr1 {a : Expr} {p p2 pos q : Pos} {fa : Env → Res D} (c : Cn X W k) (hm : X.mg "tuple" = none) (hm2 : X.mg "range" = none) (ha : JE X cls W a fa)
    (hg : Gl X "tuple" := by rfl) (hg2 : Gl X "range" := by rfl) (na : starEach [a] X.env = (false, eval a X.env) :: starEach [] X.env := by rfl)
    (na2 : starEach [.Call (.Name "range" p2) [a] [] q] X.env = (false, eval (.Call (.Name "range" p2) [a] [] q) X.env) :: starEach [] X.env := by rfl) :
    JE X cls W (.Call (.Name "tuple" p) [.Call (.Name "range" p2) [a] [] q] [] pos) (eTR1 fa) := by
  obtain ⟨ta, pa, da⟩ := ha.ex
  refine ⟨_, pe_tupRg c.calm hg hm (prg_1 hg2 hm2 pa na) na2, ?_⟩
  intro σ F H g O Q s st p
  unfold eTR1 at p
  refine da.go s st (fun c e => by rw [e] at p; exact p) (fun e => by rw [e] at p; exact p) fun d e v F1 H1 x1 b1 => ?_
  rw [e] at p
  simp only [Res.bind] at p
  cases eo : opd d with
  | int n =>
    rw [eo] at p b1
    simp only at p
    split at p
    · rename_i hn
      obtain rfl := b1.int
      refine ⟨n, rfl, ⟨by omega, by omega, hn.1.lo, hn.1.hi, by omega⟩, fun q hq => ?_⟩
      · refine p (.ref q) _ _ [] (x1.trans (Ext.put x1.fh hq)) Fresh.nil (.inl (.sh (.tp (SqT.of upd_same) ?_)))
        rw [rgV_ints, rng_map]
        rw [show (n - 0).toNat = n.toNat by omega]
        exact rps_ints
    · exact p.elim
  | _ => rw [eo] at p; exact p.elim
def opShr : D → D → Option D
  | .int i, .int j => if 0 ≤ j then some (.int (i / 2 ^ j.toNat)) else none
  | _, _ => none
def opAnd : D → D → Option D
  | .int i, .int j => if j = 1 then some (.int (i % 2)) else none
  | _, _ => none
@[simp] theorem opShr_int {i j : Int} (h : 0 ≤ j) : opShr (.int i) (.int j) = some (.int (i / 2 ^ j.toNat)) := if_pos h
@[simp] theorem opAnd_int {i : Int} : opAnd (.int i) (.int 1) = some (.int (i % 2)) := rfl
theorem Ows.appendR : ∀ {vs ws : List V} {xs ys : List D} {O : List Addr}, Ows K cls F H vs xs O → Rps K cls F ws ys → Ows K cls F H (vs ++ ws) (xs ++ ys) O
  | _, _, _, _, _, .nil, r => r.toOws
  | _, _, _, _, _, .cons h r dj e, r2 => .cons h (Ows.appendR r r2) dj e
end
section
variable {K : PySem.W.Frag} {cls : Cls} {W : WX} {X : Cx} {F H F' H' F1 H1 : Hp} {O O1 : List Addr} {Q : VK} {a b e : Expr} {es : List Expr} {fa fb fc : Env → Res D} {pos : Pos}
def sExt (i : Nat) (fa : Env → Res D) : Env → Out := fun g => match g[i]? with
  | some (.ol xs) => (fa g).st g fun d => match lsv (opd d) with
    | some ys => if xs.length + ys.length ≤ lim then .nx (g.set i (.ol (xs ++ ys))) else .bad
    | none => .bad
  | _ => .bad
@[simp] theorem sExt_ (i : Nat) (fa : Env → Res D) (g : Env) : sExt i fa g = match g[i]? with
  | some (.ol xs) => (fa g).st g fun d => match lsv (opd d) with
    | some ys => if xs.length + ys.length ≤ lim then .nx (g.set i (.ol (xs ++ ys))) else .bad
    | none => .bad
  | _ => .bad := rfl
theorem js_ext {i : Nat} {x : Str} {npos apos cpos : Pos} (hN : X.N[i]? = some x) (hv : Vis X.env.scope x) (ha : JE X cls W a fa) (hd : (x == ("__debug__" : Str)) = false := by decide) (hcd : (x == ("__classdict__" : Str)) = false := by decide)
    (hbase : attributeBase (.Name x npos) "extend" X.env (eval (.Name x npos) X.env) = eval (.Name x npos) X.env := by rfl)
    (hfew : ((backTo cpos (starEach (a :: []) X.env)).all (fun x => !x.1) && (backToKw cpos (keywordEach [] X.env)).all (fun x => x.1.isSome)
      && decide ((a :: []).length + ([] : List Keyword).length + (if ([] : List Keyword).isEmpty then 0 else 1) < 30)) = true := by rfl)
    (hline : (apos.endLine == cpos.line) = true := by rfl) (hs : starEach (a :: []) X.env = (false, eval a X.env) :: starEach [] X.env := by rfl) (hplain : (backTo cpos (starEach [] X.env)).any (·.1) = false := by rfl)
    (hsw : swapsWith (.Call (.Attribute (.Name x npos) "extend" apos) [a] [] cpos) none pos.line X.env = pure false := by rfl) :
    JS X cls W (.Expr (.Call (.Attribute (.Name x npos) "extend" apos) [a] [] cpos) pos) (sExt i fa) := by
  obtain ⟨t, p, d⟩ := ha.ex
  refine ⟨_, ps_expr (pe_bm PySem.F.plainAttrs_list PySem.F.slot_list_extend PySem.F.type_list_extend mt_extend (pe_var hN hv hd hcd) (pa_cons p pa_nil hs) hbase hfew hline hs hplain) hsw, ?_⟩
  intro D σ F H g O s st p
  rw [sExt_] at p
  split at p
  · rename_i xs eg
    obtain ⟨q, vs, O1, h1, h2, h2', h3, h4, h5, h6, h7⟩ := st.lst eg
    refine ⟨.ref q, h1, .inl ⟨rfl, vs, SqL.of h2⟩, ?_⟩
    refine d.go s st (fun c e F' H' y => by rw [e] at p; exact p σ F' H' O (y.sext fun a h => .inl h) (st.ext y)) (fun e => by rw [e] at p; exact p) fun dd e v F1 H1 x b => ?_
    rw [e, Res.st_ok] at p
    split at p
    · rename_i ys el
      split at p
      · rename_i hl
        obtain ⟨bb, zs, rfl, k1, k2⟩ := b.lsv x.fh el
        refine ⟨q, bb, vs, zs, rfl, rfl, x.hh _ _ h2, k1, by rw [h4.len, k2.len]; exact lim_ok hl, ?_⟩
        obtain ⟨O'', z1, z2⟩ := h7 F1 H1 (vs ++ zs) (xs ++ ys) O1 x ((h4.ext x).appendR k2) h3 (fun a z => .inl z)
        exact p σ F1 _ O'' z2 z1
      · exact p.elim
    · exact p.elim
  · exact p.elim
end
end DL

namespace DL
open PySem PySem.Spec PyProof.Rows L2 TL PySem.W
section
variable {K : PySem.W.Frag} {cls : Cls} {X : Cx} {F H F' H' F1 H1 : Hp} {O O1 : List Addr} {Q : VK}
def rMinD (K : PySem.W.Frag) : List V → Hp → VK → Prop := fun vs H Q => ∃ (a : Addr) (xs : List V) (p : PyData) (ps : List PyData), vs = [V.ref a] ∧ SqL K H a xs ∧ DpAll K H xs (p :: ps) ∧ AlikeAll (p :: ps) ∧ PyData.depthAll (p :: ps) ≤ 60 ∧
  ∀ (i : Nat) y q, xs[i]? = some y → (p :: ps)[i]? = some q → q = minD p ps → Q y H
theorem vals_at : ∀ {xs : List V} {us : List Value}, Vals xs us → ∀ (i : Nat) (u : Value), us[i]? = some u → ∃ x, xs[i]? = some x ∧ RelV x u
  | _, _, .nil, i, u, h => by simp at h
  | _, _, .cons r rs, 0, u, h => by simp at h; subst h; exact ⟨_, rfl, r⟩
  | _, _, .cons r rs, i + 1, u, h => by
    obtain ⟨x, h1, h2⟩ := vals_at rs i u (by simpa using h)
    exact ⟨x, by simpa using h1, h2⟩
theorem readsAll_one {h : Heap} : ∀ {us : List Value} {ps : List PyData} {as : List Addr}, ReadsAll h us ps as → ∀ (i : Nat) (u : Value), us[i]? = some u → ∃ q bs, ps[i]? = some q ∧ Reads h u q bs
  | _, _, _, .nil, i, u, e => by simp at e
  | _, _, _, .cons r rs, 0, u, e => by simp at e; subst e; exact ⟨_, _, rfl, r⟩
  | _, _, _, .cons r rs, i + 1, u, e => by
    obtain ⟨q, bs, h1, h2⟩ := readsAll_one rs i u (by simpa using e)
    exact ⟨q, bs, by simpa using h1, h2⟩
theorem minD_mem : ∀ (ps : List PyData) (p : PyData), minD p ps ∈ p :: ps
  | [], p => List.mem_cons_self ..
  | q :: ps, p => by
    have h : minD p (q :: ps) = minD (if dataLt q p then q else p) ps := rfl
    rw [h]
    have := minD_mem ps (if dataLt q p then q else p)
    rcases List.mem_cons.mp this with e | e
    · rw [e]
      split <;> simp
    · exact List.mem_cons_of_mem _ (List.mem_cons_of_mem _ e)
theorem cr_minD (hc : X.calm = true) (hu : X.A.units + 65 < cLine) : CallR X (.builtin "min") (rMinD X.K) := by
  intro pins s σ H vs us Q I r h
  obtain ⟨a, xs, p, ps, rfl, hs, hd, ha, hdp, q⟩ := h
  obtain ⟨its, rv, hl, hz⟩ := I.list hs
  obtain ⟨u, rfl, ru⟩ := vals1 r
  obtain rfl : u = Value.ref a := ru
  obtain ⟨as, hr⟩ := Dp.readsAll I (p :: ps) xs its hd rv
  refine min_list_data (vs := its.toArray) (I.ok.hd hc) hl.isList (by simpa using hr) ha (by omega) fun i v h' tk bs hv hrd hk => ?_
  have hv' : its[i]? = some v := by simpa using hv
  obtain ⟨x, hx, rx⟩ := vals_at rv i v hv'
  obtain ⟨e, bs', he, hre⟩ := readsAll_one hr i v hv'
  have em : e ∈ p :: ps := List.mem_of_getElem? he
  have eq : e = minD p ps := alike_unique _ _ _ _ _ (ha.1 _ em _ (minD_mem ps p)) (Reads.keeps hk hre) hrd
  exact ⟨x, H, I.kept hk, rx, q i x e hx he eq⟩
def rMin3 (K : PySem.W.Frag) : List V → Hp → VK → Prop := fun vs H Q => rMin K vs H Q ∨ rMinD K vs H Q
theorem cr_min3 (hc : X.calm = true) (hu : X.A.units + 65 < cLine) : CallR X (.builtin "min") (rMin3 X.K) := by
  intro pins s σ H vs us Q I r h
  rcases h with h | h
  · exact cr_min hc pins s σ H vs us Q I r h
  · exact cr_minD hc hu pins s σ H vs us Q I r h
mutual
/-- texts, numbers, truth values, and tuples of these -/
def flt : D → Bool
  | .int _ => true
  | .bl _ => true
  | .str _ => true
  | .tp xs => flts xs
  | _ => false
def flts : List D → Bool
  | [] => true
  | d :: ds => flt d && flts ds
end
mutual
theorem flt_inj : ∀ {a b : D} {p : PyData}, flt a = true → flt b = true → toPy a = some p → toPy b = some p → a = b
  | .int _, b, p, _, h2, h3, h4 => by
    simp [toPy] at h3; subst h3
    cases b <;> simp [toPy, flt] at h2 h4 ⊢ <;> first | exact h4.symm | (obtain ⟨_, _, h⟩ := h4; cases h)
  | .bl _, b, p, _, h2, h3, h4 => by
    simp [toPy] at h3; subst h3
    cases b <;> simp [toPy, flt] at h2 h4 ⊢ <;> first | exact h4.symm | (obtain ⟨_, _, h⟩ := h4; cases h)
  | .str _, b, p, _, h2, h3, h4 => by
    simp [toPy] at h3; subst h3
    cases b <;> simp [toPy, flt] at h2 h4 ⊢ <;> first | exact h4.symm | (obtain ⟨_, _, h⟩ := h4; cases h)
  | .tp xs, b, p, h1, h2, h3, h4 => by
    simp [toPy] at h3
    obtain ⟨ps, k1, rfl⟩ := h3
    match b, h2, h4 with
    | .tp ys, h2, h4 =>
      simp [toPy] at h4
      rw [flts_inj (by simpa [flt] using h1) (by simpa [flt] using h2) k1 h4]
    | .int _, _, h4 => simp [toPy] at h4
    | .bl _, _, h4 => simp [toPy] at h4
    | .str _, _, h4 => simp [toPy] at h4
  | .non, _, _, h1, _, _, _ => by simp [flt] at h1
  | .un, _, _, h1, _, _, _ => by simp [flt] at h1
  | .sc _, _, _, h1, _, _, _ => by simp [flt] at h1
  | .ls _, _, _, h1, _, _, _ => by simp [flt] at h1
  | .ob _ _, _, _, h1, _, _, _ => by simp [flt] at h1
  | .ol _, _, _, h1, _, _, _ => by simp [flt] at h1
  | .bo _, _, _, h1, _, _, _ => by simp [flt] at h1
  | .od _ _, _, _, h1, _, _, _ => by simp [flt] at h1
  | .bd _ _, _, _, h1, _, _, _ => by simp [flt] at h1
  | .oo _ _ _, _, _, h1, _, _, _ => by simp [flt] at h1
  | .bb _ _, _, _, h1, _, _, _ => by simp [flt] at h1
  | .rf _, _, _, h1, _, _, _ => by simp [flt] at h1
theorem flts_inj : ∀ {a b : List D} {p : List PyData}, flts a = true → flts b = true → toPys a = some p → toPys b = some p → a = b
  | [], b, p, _, h2, h3, h4 => by
    simp [toPys] at h3; subst h3
    cases b with
    | nil => rfl
    | cons d ds =>
      unfold toPys at h4
      cases q1 : toPy d <;> cases q2 : toPys ds <;> rw [q1, q2] at h4 <;> cases h4
  | a :: as, b, p, h1, h2, h3, h4 => by
    simp [flts] at h1
    unfold toPys at h3
    cases q1 : toPy a with
    | none => rw [q1] at h3; cases h3
    | some p1 =>
      cases q2 : toPys as with
      | none => rw [q1, q2] at h3; cases h3
      | some p2 =>
        rw [q1, q2] at h3
        cases h3
        cases b with
        | nil => simp [toPys] at h4
        | cons d ds =>
          simp [flts] at h2
          unfold toPys at h4
          cases r1 : toPy d with
          | none => rw [r1] at h4; cases h4
          | some p3 =>
            cases r2 : toPys ds with
            | none => rw [r1, r2] at h4; cases h4
            | some p4 =>
              rw [r1, r2] at h4
              cases h4
              rw [flt_inj h1.1 h2.1 q1 r1, flts_inj h1.2 h2.2 q2 r2]
end
theorem flt_some : ∀ {a : D} {p : PyData}, flt a = true → toPy a = some p → p ≠ .none
  | a, p, h, e, z => by
    subst z
    cases a <;> simp [flt, toPy] at h e
theorem toPys_get : ∀ {ds : List D} {ps : List PyData}, toPys ds = some ps → ∀ (i : Nat) (d : D), ds[i]? = some d → ∃ p, ps[i]? = some p ∧ toPy d = some p
  | [], _, _, i, d, h => by simp at h
  | a :: as, ps, h, i, d, e => by
    unfold toPys at h
    cases q1 : toPy a with
    | none => rw [q1] at h; cases h
    | some p1 =>
      cases q2 : toPys as with
      | none => rw [q1, q2] at h; cases h
      | some p2 =>
        rw [q1, q2] at h
        cases h
        cases i with
        | zero => simp at e; subst e; exact ⟨_, rfl, q1⟩
        | succ i =>
          obtain ⟨p, h1, h2⟩ := toPys_get q2 i d (by simpa using e)
          exact ⟨p, by simpa using h1, h2⟩
theorem flts_mem : ∀ {ds : List D}, flts ds = true → ∀ d ∈ ds, flt d = true
  | [], _, d, h => by simp at h
  | a :: as, h, d, hd => by
    simp [flts] at h
    rcases List.mem_cons.mp hd with rfl | hd
    · exact h.1
    · exact flts_mem h.2 d hd
def mfold : D → PyData → List D → List PyData → D
  | d, p, e :: ds, q :: ps => if dataLt q p = true then mfold e q ds ps else mfold d p ds ps
  | d, _, _, _ => d
theorem mfold_spec : ∀ (ds : List D) (ps : List PyData) (d : D) (p : PyData), toPy d = some p → toPys ds = some ps → mfold d p ds ps ∈ d :: ds ∧ toPy (mfold d p ds ps) = some (minD p ps)
  | [], ps, d, p, h1, h2 => by
    simp [toPys] at h2; subst h2
    exact ⟨List.mem_cons_self .., h1⟩
  | e :: ds, ps, d, p, h1, h2 => by
    unfold toPys at h2
    cases q1 : toPy e with
    | none => rw [q1] at h2; cases h2
    | some q =>
      cases q2 : toPys ds with
      | none => rw [q1, q2] at h2; cases h2
      | some ps2 =>
        rw [q1, q2] at h2
        cases h2
        have hm : minD p (q :: ps2) = minD (if dataLt q p = true then q else p) ps2 := rfl
        rw [hm]
        unfold mfold
        split
        · obtain ⟨k1, k2⟩ := mfold_spec ds ps2 e q q1 q2
          exact ⟨List.mem_cons_of_mem _ k1, k2⟩
        · obtain ⟨k1, k2⟩ := mfold_spec ds ps2 d p h1 q2
          refine ⟨?_, k2⟩
          rcases List.mem_cons.mp k1 with k | k
          · rw [k]; exact List.mem_cons_self ..
          · exact List.mem_cons_of_mem _ (List.mem_cons_of_mem _ k)
def caMin3 (ds : List D) : Option D := match ds with
  | [d] => match sqK d with
    | some (.tp x :: xs) => match toPys (.tp x :: xs) with
      | some (p :: ps) => if flts (.tp x :: xs) = true ∧ ((p :: ps).all fun a => (p :: ps).all fun b => alike a b) = true ∧ PyData.depthAll (p :: ps) ≤ 60 then some (mfold (.tp x) p xs ps) else none
      | _ => none
    | _ => caMin ds
  | ds => caMin ds
theorem ok_min3 : CaOk K cls (rMin3 K) caMin3 := by
  intro F H vs ds d Q s b e q
  unfold caMin3 at e
  split at e
  · rename_i d0
    split at e
    · rename_i x xs0 h1
      split at e
      · rename_i p ps h2
        split at e
        · rename_i hn
          cases e
          obtain ⟨hf, hal, hdp⟩ := hn
          obtain ⟨v, rfl, b1⟩ := b.one
          obtain ⟨a, ws, rfl, h3, r⟩ := b1.sqK s h1
          have hdd := Rps.dp s r h2
          have hpn : ∀ y ∈ p :: ps, ∃ d ∈ D.tp x :: xs0, toPy d = some y := fun y hy => by
            obtain ⟨i, hi⟩ := List.getElem?_of_mem hy
            have hlen : (D.tp x :: xs0).length = (p :: ps).length := by
              have : ∀ {ds : List D} {ps : List PyData}, toPys ds = some ps → ds.length = ps.length := fun {ds} => by
                induction ds with
                | nil => intro ps h; simp [toPys] at h; subst h; rfl
                | cons a as ih =>
                  intro ps h
                  unfold toPys at h
                  cases q1 : toPy a with
                  | none => rw [q1] at h; cases h
                  | some p1 =>
                    cases q2 : toPys as with
                    | none => rw [q1, q2] at h; cases h
                    | some p2 => rw [q1, q2] at h; cases h; simp [ih q2]
              exact this h2
            have hil : i < (D.tp x :: xs0).length := by rw [hlen]; exact (List.getElem?_eq_some_iff.mp hi).1
            obtain ⟨y', k1, k2⟩ := toPys_get h2 i _ (List.getElem?_eq_getElem hil)
            rw [hi] at k1
            cases k1
            exact ⟨_, List.getElem_mem hil, k2⟩
          refine .inr ⟨a, ws, p, ps, rfl, h3, hdd, ⟨fun y hy z hz => List.all_eq_true.mp (List.all_eq_true.mp hal y hy) z hz, fun y hy => ?_⟩, hdp, fun i y e hy he hm => ?_⟩
          · obtain ⟨d, d1, d2⟩ := hpn y hy
            exact flt_some (flts_mem hf d d1) d2
          · obtain ⟨dd, k1, k2⟩ : ∃ dd, (D.tp x :: xs0)[i]? = some dd ∧ Rp K cls F y dd := by
              have : ∀ {vs : List V} {ds : List D}, Rps K cls F vs ds → ∀ (i : Nat) y, vs[i]? = some y → ∃ dd, ds[i]? = some dd ∧ Rp K cls F y dd := fun {vs ds} r => by
                intro i
                induction i generalizing vs ds with
                | zero =>
                  intro y hy
                  cases r with
                  | nil => simp at hy
                  | cons a b => simp at hy; subst hy; exact ⟨_, rfl, a⟩
                | succ i ih =>
                  intro y hy
                  cases r with
                  | nil => simp at hy
                  | cons a b =>
                    obtain ⟨dd, z1, z2⟩ := ih b y (by simpa using hy)
                    exact ⟨dd, by simpa using z1, z2⟩
              exact this r i y hy
            obtain ⟨e', k3, k4⟩ := toPys_get h2 i dd k1
            rw [he] at k3
            cases k3
            have t1 : toPy (D.tp x) = some p ∧ toPys xs0 = some ps := by
              have h2' := h2
              unfold toPys at h2'
              cases q1 : toPy (D.tp x) with
              | none => rw [q1] at h2'; cases h2'
              | some p1 =>
                cases q2 : toPys xs0 with
                | none => rw [q1, q2] at h2'; cases h2'
                | some p2 => rw [q1, q2] at h2'; cases h2'; exact ⟨rfl, rfl⟩
            obtain ⟨m1, m2⟩ := mfold_spec xs0 ps (.tp x) p t1.1 t1.2
            have ee : dd = mfold (.tp x) p xs0 ps := flt_inj (flts_mem hf dd (List.mem_of_getElem? k1)) (flts_mem hf _ m1) k4 (by rw [m2, hm])
            rw [ee] at k2
            exact q y F H [] (.refl s) Fresh.nil (.inr ⟨.sh k2, rfl⟩)
        · cases e
      · cases e
    · exact .inl (ok_min F H vs _ d Q s b e q)
  · exact .inl (ok_min F H vs _ d Q s b e q)
def dNT (x : Int × List Int) : D := .tp [.int x.1, .tp (x.2.map D.int)]
end
end DL

namespace DL
open PySem PySem.Spec PyProof.Rows L2 PySem.W
section
variable {K : PySem.W.Frag} {cls : Cls} {W : WX} {X : Cx} {F H F' H' F1 H1 : Hp} {O O1 : List Addr} {Q : VK} {a b e : Expr} {es : List Expr} {fa fb fc : Env → Res D} {fs : Env → Res (List D)} {pos : Pos}
def argB : D → Option (List Int)
  | .bo xs => intsOf xs
  | _ => none
def calD2 (g : List D → Res D) (ds : List D) : Res D :=
  if (ds.all fun d => shd1 d || (argB d).isSome) = true then match g (plns ds) with
    | .ok (.ls xs) => match intsOf xs with
      | some ns => if (ds.all fun d => !decide (argB d = some ns)) = true then .ok (.ls xs) else .bad
      | none => .bad
    | .xc c => .xc c
    | _ => .bad
  else .bad
def eOwn2 (g : List D → Res D) (fs : Env → Res (List D)) : Env → Res D := fun e => (fs e).bind fun ds => calD2 g ds
@[simp] theorem eOwn2_ (g : List D → Res D) (fs : Env → Res (List D)) (e : Env) : eOwn2 g fs e = (fs e).bind fun ds => calD2 g ds := rfl
end
end DL

namespace DL
open PySem PySem.Spec PyProof.Rows L2 TL PySem.W
section
variable {K : PySem.W.Frag} {cls : Cls} {X : Cx} {F H F' H' F1 H1 : Hp} {O O1 : List Addr} {Q : VK}
def rMaxT (K : PySem.W.Frag) : List V → Hp → VK → Prop := fun vs H Q => ∃ (a : Addr) (n : Int) (ns : List Int), vs = [V.ref a] ∧ SqT K H a ((n :: ns).map V.int) ∧ Q (.int (ns.foldl max n)) H
theorem dpAll_ints {K : PySem.W.Frag} {H : Hp} : ∀ ns : List Int, DpAll K H (ns.map V.int) (ns.map PyData.int)
  | [] => .nil
  | n :: ns => .cons (.int n) (dpAll_ints ns)
theorem maxD_mem : ∀ (ps : List PyData) (p : PyData), maxD p ps ∈ p :: ps
  | [], p => List.mem_cons_self ..
  | q :: ps, p => by
    have h : maxD p (q :: ps) = maxD (if dataLt p q then q else p) ps := rfl
    rw [h]
    have := maxD_mem ps (if dataLt p q then q else p)
    rcases List.mem_cons.mp this with e | e
    · rw [e]
      split <;> simp
    · exact List.mem_cons_of_mem _ (List.mem_cons_of_mem _ e)
theorem cr_maxT (hc : X.calm = true) (hu : X.A.units + 65 < cLine) : CallR X (.builtin "max") (rMaxT X.K) := by
  intro pins s σ H vs us Q I r h
  obtain ⟨a, n, ns, rfl, hs, q⟩ := h
  obtain ⟨its, rv, hl, hz⟩ := I.tuple hs
  obtain ⟨u, rfl, ru⟩ := vals1 r
  obtain rfl : u = Value.ref a := ru
  have hl' : s.heap.IsTuple a its.toArray := hl
  obtain ⟨as, hr⟩ := Dp.readsAll I ((n :: ns).map .int) _ its (dpAll_ints (n :: ns)) rv
  have ha : AlikeAll ((n :: ns).map PyData.int) := ⟨fun x hx y hy => by
    obtain ⟨i, _, rfl⟩ := List.mem_map.mp hx
    obtain ⟨j, _, rfl⟩ := List.mem_map.mp hy
    simp [alike], fun x hx => by
    obtain ⟨i, _, rfl⟩ := List.mem_map.mp hx
    simp⟩
  have hd : PyData.depthAll ((n :: ns).map PyData.int) ≤ 0 := dep_map (p := PyData.int) (fun a => by simp [PyData.depth]) (n :: ns)
  refine max_tuple_data (vs := its.toArray) (x := .int n) (xs := ns.map .int) (I.ok.hd hc) hl' (by simpa using hr) ha (by simp only [List.map_cons] at hd; omega) fun i v h' tk bs hv hrd hk => ?_
  have hv' : its[i]? = some v := by simpa using hv
  obtain ⟨x, hx, rx⟩ := vals_at rv i v hv'
  obtain ⟨e, bs', he, hre⟩ := readsAll_one hr i v hv'
  have em : e ∈ (n :: ns).map PyData.int := List.mem_of_getElem? he
  have eq : e = maxD (.int n) (ns.map .int) := alike_unique _ _ _ _ _ (ha.1 _ em _ (maxD_mem _ _)) (Reads.keeps hk hre) hrd
  rw [maxD_ints] at eq
  rw [List.getElem?_map] at hx he
  cases hq : (n :: ns)[i]? with
  | none => rw [hq] at hx; cases hx
  | some m =>
    rw [hq] at hx he
    cases hx
    cases he
    have : m = ns.foldl max n := by injection eq
    exact ⟨.int m, H, I.kept hk, rx, by rw [this]; exact q⟩
def rMax3 (K : PySem.W.Frag) : List V → Hp → VK → Prop := fun vs H Q => rMax K vs H Q ∨ rMaxT K vs H Q
theorem cr_max3 (hc : X.calm = true) (hu : X.A.units + 65 < cLine) : CallR X (.builtin "max") (rMax3 X.K) := by
  intro pins s σ H vs us Q I r h
  rcases h with h | h
  · exact cr_max hc pins s σ H vs us Q I r h
  · exact cr_maxT hc hu pins s σ H vs us Q I r h
def caMax3 (ds : List D) : Option D := match ds with
  | [.tp xs] => match intsOf xs with
    | some (n :: ns) => some (.int (ns.foldl max n))
    | _ => none
  | ds => caMax ds
theorem ok_max3 : CaOk K cls (rMax3 K) caMax3 := by
  intro F H vs ds d Q s b e q
  unfold caMax3 at e
  split at e
  · rename_i xs
    split at e
    · rename_i n ns h
      cases e
      obtain ⟨v, rfl, b1⟩ := b.one
      obtain rfl := intsOf_eq h
      obtain ⟨a, vs, rfl, h3, _, r⟩ := b1.tpv s (xs := (n :: ns).map D.int) rfl
      obtain rfl := r.ints
      exact .inr ⟨a, n, ns, rfl, h3, pi1 s (.int _) q⟩
    · cases e
  · exact .inl (ok_max F H vs _ d Q s b e q)
@[simp] theorem caMax3_tp (n : Int) (ns : List Int) : caMax3 [.tp (.int n :: ns.map D.int)] = some (.int (ns.foldl max n)) := by
  have : intsOf (D.int n :: ns.map D.int) = some (n :: ns) := intsOf_map (n :: ns)
  simp [caMax3, this]
end
end DL

namespace PySem
open Sem (wp)
open AutoSeq1 (wpAny_loadPart')
section
variable {prog : Program} {w : World} {A : Around} {E : Value → Shared → Prop} {s : Shared}
end
end PySem
namespace DL
open PySem PySem.Spec PyProof.Rows L2 TL PySem.W
section
variable {K : PySem.W.Frag} {cls : Cls} {W : WX} {X : Cx} {F H F' H' F1 H1 : Hp} {O O1 : List Addr} {a : Expr} {fs : Env → Res (List D)} {pos : Pos}
def iEnm3 (fs : Env → Res (List D)) : Env → Res (List D) := fun g => (fs g).bind fun ds => match ds with
  | [d] => (Res.of (sqS d)).bind fun xs => .ok (enm 0 xs)
  | _ => .bad
@[simp] theorem iEnm3_ (fs : Env → Res (List D)) (g : Env) : iEnm3 fs g = (fs g).bind fun ds => match ds with
  | [d] => (Res.of (sqS d)).bind fun xs => .ok (enm 0 xs)
  | _ => .bad := rfl
end
end DL

namespace DL
open PySem PySem.Spec PyProof.Rows L2 TL PySem.W
section
variable {K : PySem.W.Frag} {cls : Cls} {W : WX} {X : Cx} {pos : Pos}
def sClr (i : Nat) : Env → Out := fun g => match g[i]? with
  | some (.ol _) => .nx (g.set i (.ol []))
  | _ => .bad
@[simp] theorem sClr_ (i : Nat) (g : Env) : sClr i g = match g[i]? with
  | some (.ol _) => .nx (g.set i (.ol []))
  | _ => .bad := rfl
end
end DL

namespace DL
open PySem PySem.Spec PyProof.Rows L2 TL PySem.W
section
variable {K : PySem.W.Frag} {cls : Cls} {X : Cx} {F H F' H' F1 H1 : Hp} {O O1 : List Addr} {Q : VK}
def leP {α : Type} (a b : α × PyData) : Bool := !dataLt b.2 a.2
def isT1 : PyData → Bool
  | .tuple (_ :: _) => true
  | _ => false
def isO1 : PyData → Bool
  | .none => false
  | .tuple _ => false
  | _ => true
def sortD (xs : List D) : Option D := match toPys xs with
  | some ps => if (ps.all fun a => ps.all fun b => alike a b) = true ∧ (ps.all isT1 || ps.all isO1) = true ∧ (ps.all fun p => decide (p.depth ≤ 60)) = true then some (.ol (((xs.zip ps).mergeSort leP).map (·.1))) else none
  | none => none
def caSorted4 (ds : List D) : Option D := match ds with
  | [d] => match sqK d with
    | some (.ls y :: xs) => sortD (.ls y :: xs)
    | some (.tp (.int i :: .tp y :: r) :: xs) => sortD (.tp (.int i :: .tp y :: r) :: xs)
    | _ => caSorted3 ds
  | ds => caSorted3 ds
@[simp] theorem caSorted4_tp (ns : List Int) : caSorted4 [.tp (ns.map D.int)] = some (.ol ((srt ns).map D.int)) := by
  simp [caSorted4]
@[simp] theorem caSorted4_ls (ns : List Int) : caSorted4 [.ls (ns.map D.int)] = some (.ol ((srt ns).map D.int)) := by
  cases ns with
  | nil => simp [caSorted4]; rfl
  | cons a l => simp [caSorted4]; exact caSorted3_ls (a :: l)
@[simp] theorem caSorted4_bo (ns : List Int) : caSorted4 [.bo (ns.map D.int)] = some (.ol ((srt ns).map D.int)) := by
  cases ns with
  | nil => simp [caSorted4]; rfl
  | cons a l => simp [caSorted4]; exact caSorted3_bo (a :: l)
end
end DL

namespace DL
open PySem PySem.Spec PyProof.Rows L2 TL PySem.W
section
variable {K : PySem.W.Frag} {cls : Cls} {W : WX} {X : Cx} {F H F' H' F1 H1 : Hp} {O O1 : List Addr} {Q : VK} {a b e : Expr} {es : List Expr} {fa fb fc : Env → Res D} {fs : Env → Res (List D)} {pos : Pos}
def sIns (i : Nat) (fs : Env → Res (List D)) : Env → Out := fun g => match g[i]? with
  | some (.ol xs) => (fs g).st g fun ds => match ds with
    | [.int j, .int n] => match intsOf xs with
      | some ns => if 0 ≤ j ∧ j ≤ 1000000000 ∧ xs.length < lim then .nx (g.set i (.ol ((ns.take j.toNat ++ [n] ++ ns.drop j.toNat).map D.int))) else .bad
      | none => .bad
    | _ => .bad
  | _ => .bad
@[simp] theorem sIns_ (i : Nat) (fs : Env → Res (List D)) (g : Env) : sIns i fs g = match g[i]? with
  | some (.ol xs) => (fs g).st g fun ds => match ds with
    | [.int j, .int n] => match intsOf xs with
      | some ns => if 0 ≤ j ∧ j ≤ 1000000000 ∧ xs.length < lim then .nx (g.set i (.ol ((ns.take j.toNat ++ [n] ++ ns.drop j.toNat).map D.int))) else .bad
      | none => .bad
    | _ => .bad
  | _ => .bad := rfl
def sDel (i : Nat) (fa : Env → Res D) : Env → Out := fun g => match g[i]? with
  | some (.ol xs) => (fa g).st g fun d => match opd d with
    | .int z => match ixN xs.length z with
      | some k => match xs[k]? with
        | some y => if own1 y = false ∧ xs.length ≤ lim then .nx (g.set i (.ol (xs.eraseIdx k))) else .bad
        | none => .bad
      | none => .bad
    | _ => .bad
  | _ => .bad
@[simp] theorem sDel_ (i : Nat) (fa : Env → Res D) (g : Env) : sDel i fa g = match g[i]? with
  | some (.ol xs) => (fa g).st g fun d => match opd d with
    | .int z => match ixN xs.length z with
      | some k => match xs[k]? with
        | some y => if own1 y = false ∧ xs.length ≤ lim then .nx (g.set i (.ol (xs.eraseIdx k))) else .bad
        | none => .bad
      | none => .bad
    | _ => .bad
  | _ => .bad := rfl
end
end DL

set_option maxHeartbeats 1000000
namespace DL
def iotaR (n : Nat) : List Int := (List.range n).map fun i : Nat => (n : Int) - 1 - (i : Int)
end DL
namespace RR
open PySem PySem.Spec PyProof.Rows
section
variable {prog : Program} {w : World} {A : Around} {E : Value → Shared → Prop} {s : Shared}
end
end RR
namespace DL
open PySem PySem.Spec PyProof.Rows L2
section
variable {X : Cx} {cls : Cls} {W : WX} {K : PySem.W.Frag}
variable {e : Expr} {te : L2.St → Hp → (Int → Int → Hp → Prop) → Prop}
def eLRR1 (fa : Env → Res D) : Env → Res D := fun g => (fa g).bind fun d => match opd d with
  | .int n => if rgOk n ∧ n ≤ 1000000 then .ok (.ol ((iotaR n.toNat).map D.int)) else .bad
  | _ => .bad
@[simp] theorem eLRR1_ (fa : Env → Res D) (g : Env) : eLRR1 fa g = (fa g).bind fun d => match opd d with
  | .int n => if rgOk n ∧ n ≤ 1000000 then .ok (.ol ((iotaR n.toNat).map D.int)) else .bad
  | _ => .bad := rfl
end
end DL

namespace DL
open PySem PySem.Spec PyProof.Rows L2
section
variable {P : Program} {w : World} {A : Around} {E : Value → Shared → Prop} {s : Shared}
end
end DL

namespace DL
open PySem PySem.Spec PyProof.Rows L2
section
variable {X : Cx} {cls : Cls} {W : WX} {K : PySem.W.Frag} {F H F' H' : Hp}
def tpI (d : D) : Option (List Int) := match opd d with
  | .tp xs => intsOf xs
  | _ => none
@[simp] theorem tpI_tp (ns : List Int) : tpI (.tp (ns.map D.int)) = some ns := by simp [tpI]
def eLenSetT (fa : Env → Res D) : Env → Res D := fun g => (fa g).bind fun d => match tpI d with
  | some ns => if ns.length ≤ 4000 then .ok (.int (sset ns).length) else .bad
  | none => .bad
@[simp] theorem eLenSetT_ (fa : Env → Res D) (g : Env) : eLenSetT fa g = (fa g).bind fun d => match tpI d with
  | some ns => if ns.length ≤ 4000 then .ok (.int (sset ns).length) else .bad
  | none => .bad := rfl
end
end DL

namespace DL
open PySem PySem.Spec PyProof.Rows L2
section
variable {κ β : Type} [DecidableEq κ]
def valG (kvs : List (κ × β)) (k : κ) : Option β := (kvs.find? fun kv => decide (kv.1 = k)).map (·.2)
def putG (kvs : List (κ × β)) (k : κ) (v : β) : List (κ × β) :=
  if (kvs.any fun kv => decide (kv.1 = k)) = true then kvs.map (fun kv => if kv.1 = k then (kv.1, v) else kv) else kvs ++ [(k, v)]
end
inductive PR (R : V → D → Prop) : List (Key × V) → List (Key × D) → Prop
  | nil : PR R [] []
  | cons {k : Key} {v : V} {d : D} {l : List (Key × V)} {m : List (Key × D)} : R v d → PR R l m → PR R ((k, v) :: l) ((k, d) :: m)
section
variable {R : V → D → Prop}
theorem PR.any {l : List (Key × V)} {m : List (Key × D)} (h : PR R l m) (k : Key) : (l.any fun kv => decide (kv.1 = k)) = m.any fun kv => decide (kv.1 = k) := by
  induction h with
  | nil => rfl
  | cons r _ ih => simp only [List.any_cons, ih]
theorem PR.rep {l : List (Key × V)} {m : List (Key × D)} (h : PR R l m) (k : Key) {v : V} {d : D} (r : R v d) : PR R (l.map fun kv => if kv.1 = k then (kv.1, v) else kv) (m.map fun kv => if kv.1 = k then (kv.1, d) else kv) := by
  induction h with
  | nil => exact .nil
  | @cons j v' d' l m r' t ih =>
    simp only [List.map_cons]
    by_cases q : j = k
    · rw [if_pos q, if_pos q]; exact .cons r ih
    · rw [if_neg q, if_neg q]; exact .cons r' ih
theorem PR.snoc {l : List (Key × V)} {m : List (Key × D)} (h : PR R l m) (k : Key) {v : V} {d : D} (r : R v d) : PR R (l ++ [(k, v)]) (m ++ [(k, d)]) := by
  induction h with
  | nil => exact .cons r .nil
  | cons r' t ih => exact .cons r' ih
theorem PR.put {l : List (Key × V)} {m : List (Key × D)} (h : PR R l m) (k : Key) {v : V} {d : D} (r : R v d) : PR R (putK l k v) (putG m k d) := by
  unfold putK putG
  rw [h.any k]
  split
  · exact h.rep k r
  · exact h.snoc k r
end
section
variable {K : PySem.W.Frag} {cls : Cls} {F H F' H' : Hp} {X : Cx} {W : WX} {O : List Addr}
def eDic : Env → Res D := fun _ => .ok (.od [] [])
@[simp] theorem eDic_ (g : Env) : eDic g = .ok (.od [] []) := rfl
def sDSet (i : Nat) (fk fa : Env → Res D) : Env → Out := fun g => ((fa g).bind kp).st g fun d => match g[i]? with
  | some (.od ks xs) => (fk g).st g fun k => match opd k with
    | .int k => if xs.all (fun d => !own1 d) = true ∧ own1 d = false ∧ ks.length < lim then .nx (g.set i (.od ((putG (ks.zip xs) (.inl k) d).map (·.1)) ((putG (ks.zip xs) (.inl k) d).map (·.2)))) else .bad
    | _ => .bad
  | _ => .bad
@[simp] theorem sDSet_ (i : Nat) (fk fa : Env → Res D) (g : Env) : sDSet i fk fa g = ((fa g).bind kp).st g fun d => match g[i]? with
  | some (.od ks xs) => (fk g).st g fun k => match opd k with
    | .int k => if xs.all (fun d => !own1 d) = true ∧ own1 d = false ∧ ks.length < lim then .nx (g.set i (.od ((putG (ks.zip xs) (.inl k) d).map (·.1)) ((putG (ks.zip xs) (.inl k) d).map (·.2)))) else .bad
    | _ => .bad
  | _ => .bad := rfl
end
def ddV (l : List (Int × D)) : List D := l.map (·.2)
end DL
namespace DL
end DL

namespace DL
open PySem PySem.Spec PyProof.Rows L2
section
variable {K : PySem.W.Frag} {cls : Cls} {W : WX} {X : Cx} {F H F' H' : Hp} {O : List Addr} {a b e tg iter elt : Expr} {fs : Env → Res (List D)} {fa fb : Env → Res D} {pos : Pos}
def sAsgI (i : Nat) (fa : Env → Res D) : Env → Out := fun g => ((fa g).bind kp).st g fun d => match d with
  | .ol xs => if nods xs = true then .nx (g.set i (.ol (frzs xs))) else .bad
  | _ => .bad
@[simp] theorem sAsgI_ (i : Nat) (fa : Env → Res D) (g : Env) : sAsgI i fa g = ((fa g).bind kp).st g fun d => match d with
  | .ol xs => if nods xs = true then .nx (g.set i (.ol (frzs xs))) else .bad
  | _ => .bad := rfl
theorem ds_asgI {t : TE} {i : Nat} (d : DE K cls W t fa) : DS K cls W (tAsg t (gName i)) (sAsgI i fa) := by
  intro D σ F H g O s st p
  rw [sAsgI_] at p
  refine d.goS s st p fun dd e p v F1 H1 O1 x fr w => ?_
  cases dd with
  | ol xs =>
    simp only at p
    split at p
    · rename_i n
      cases w with
      | sh r => cases r
      | @ol q vs _ O2 f1 f2 f3 f4 =>
        have no : ∀ a ∈ O2, F1 a = none := fun a ha => (f4.dom a ha).1
        have fr2 : Fresh H O2 := fun a ha => fr a (List.mem_cons_of_mem _ ha)
        have x2 := addF_ext x fr2 no
        have r := f4.freeze (addF_same no) addF_at n
        have ow : Ow K cls (addF F1 H1 O2) H1 (.ref q) (.ol (frzs xs)) [q] := .ol (O := []) (by rw [addF_no f3]; exact f1) f2 (fun h => nomatch h) r.toOws
        obtain ⟨O'', q1, q2⟩ := st.put (i := i) x2 (fun a ha => fr a (by rw [List.mem_singleton.mp ha]; exact List.mem_cons_self ..)) ow
        exact p _ _ _ O'' q2 q1
    · exact p.elim
  | _ => exact p.elim
theorem js_setLcI {i : Nat} {y : Str} {py spos : Pos} {ifs : List Expr} {scope : Scope} {ft : D → Env → Option Env} {gt : Env → Res Bool} {fe : Env → Res D} {ss : List Nat} {k : Nat} (own : List (Str × Nat)) (c : Cn X W k) (hy : X.N[i]? = some y) (hyl : X.env.scope.names.lookup y = some .local)
    (hsw : swapsWith (.ListComp elt [⟨tg, iter, ifs, 0⟩] scope pos) (some (.Name y py)) spos.line X.env = pure true) (hi : JI X cls W tg iter fs) (ok : BlkOk X.N X.env.scope scope own)
    (hg : ∀ (s : Shared) (H : Hp) (C : Addr) (cl : List (Str × Addr)) (fp : List Addr), JG (X.blk s H scope (compEnvC scope cl C X.env) fp) cls tg ft ss)
    (ht : ∀ (s : Shared) (H : Hp) (C : Addr) (cl : List (Str × Addr)) (fp : List Addr), Cn (X.blk s H scope (compEnvC scope cl C X.env) fp) W0 k → JTs (X.blk s H scope (compEnvC scope cl C X.env) fp) cls W0 ifs gt)
    (he : ∀ (s : Shared) (H : Hp) (C : Addr) (cl : List (Str × Addr)) (fp : List Addr), Cn (X.blk s H scope (compEnvC scope cl C X.env) fp) W0 k → JE (X.blk s H scope (compEnvC scope cl C X.env) fp) cls W0 elt fe)
    (hss : ∀ i ∈ ss, i ∈ own.map (·.2)) (hs : ∀ x, foldedSetIterable iter X.env x = pure x := by intro _; rfl) :
    JS X cls W (.Assign [.Name y py] (.ListComp elt [⟨tg, iter, ifs, 0⟩] scope pos) spos) (sAsgI i (eLc fs (own.map (·.2)) ft gt fe)) := by
  obtain ⟨wi, p, d⟩ := hi.ex
  exact ⟨_, ps_setLc (own := own) c.calm c.nd hy hyl hsw p ok (fun s H C cl fp => (hg s H C cl fp).canon) (fun s H C cl fp => (ht s H C cl fp c.blk).canon) (fun s H C cl fp => (he s H C cl fp c.blk).canon) hs, ds_asgI (de_lc d dg_cG dt_cT de_cE hss)⟩

def sSwp (i : Nat) (fk fl fa : Env → Res D) : Env → Out := fun g => ((fa g).bind kp).st g fun d => if nod d = true then match frz d, g[i]? with
  | .tp [d1, d2], some (.ol xs) => match fk g with
    | .ok k => match opd k with
      | .int k => match ixN xs.length k with
        | some j => match fl (g.set i (.ol (xs.set j d1))) with
          | .ok l => match opd l with
            | .int l => match ixN (xs.set j d1).length l with
              | some m => .nx (g.set i (.ol ((xs.set j d1).set m d2)))
              | none => .bad
            | _ => .bad
          | _ => .bad
        | none => .bad
      | _ => .bad
    | _ => .bad
  | _, _ => .bad else .bad
@[simp] theorem sSwp_ (i : Nat) (fk fl fa : Env → Res D) (g : Env) : sSwp i fk fl fa g = ((fa g).bind kp).st g fun d => if nod d = true then match frz d, g[i]? with
  | .tp [d1, d2], some (.ol xs) => match fk g with
    | .ok k => match opd k with
      | .int k => match ixN xs.length k with
        | some j => match fl (g.set i (.ol (xs.set j d1))) with
          | .ok l => match opd l with
            | .int l => match ixN (xs.set j d1).length l with
              | some m => .nx (g.set i (.ol ((xs.set j d1).set m d2)))
              | none => .bad
            | _ => .bad
          | _ => .bad
        | none => .bad
      | _ => .bad
    | _ => .bad
  | _, _ => .bad else .bad := rfl
theorem de_at {i : Nat} {t2 : TE} {fk : Env → Res D} (d2 : DE X.K cls W t2 fk) {σ : L2.St} {g : Env} {O : List Addr} {xs : List D} {k : Int} {j : Nat} {kd : D} {v : V} {dd : D} (s : Same F H) (st : Sts X.K cls F H σ g O) (eg : g[i]? = some (.ol xs)) (ek : fk g = .ok kd) (ek2 : opd kd = .int k) (ej : ixN xs.length k = some j)
    (r : Rp X.K cls F v dd) {Q : L2.St → Hp → Prop} (q : ∀ F' H' O', SExt F H O F' H' O' → Sts X.K cls F' H' σ (g.set i (.ol (xs.set j dd))) O' → Q σ H') : gSub (tVar i) t2 rSetL v σ H Q := by
  obtain ⟨p, vs, O1, h1, h2, h2', h3, h4, h5, h6, h7⟩ := st.lst eg
  refine ⟨.ref p, h1, ?_⟩
  refine d2.go s st (fun c e => by rw [ek] at e; cases e) (fun e => by rw [ek] at e; cases e) fun kd' e kv F3 H3 x3 b3 => ?_
  rw [ek] at e
  cases e
  rw [ek2] at b3
  obtain rfl := b3.int
  refine ⟨p, vs, k, j, rfl, rfl, x3.hh _ _ h2, by rw [h4.len]; exact ej, ?_⟩
  obtain ⟨O3, w3, n3⟩ := (h4.ext x3).set j (.sh (r.mono x3.ff) : Ow X.K cls F3 H3 v dd []) fun a _ q2 => nomatch q2
  obtain ⟨O'', z1, z2⟩ := h7 F3 H3 (vs.set j v) (xs.set j dd) O3 x3 w3 (fun z => by
    rcases n3 _ z with z | z
    · exact h3 z
    · exact nomatch z) (fun a z => (n3 a z).imp id (fun z => nomatch z))
  exact q F3 _ O'' z2 z1
theorem js_swp {i k kt : Nat} {x : Str} {n1 n2 s1 s2 pt : Pos} {b1 b2 : Expr} {fk fl : Env → Res D} (c : Cn X W k) (hN : X.N[i]? = some x) (hv : Vis X.env.scope x) (ha : JE X cls W a fa) (hk : JE X cls W b1 fk) (hl : JE X cls W b2 fl)
    (hd : (x == ("__debug__" : Str)) = false := by decide) (hcd : (x == ("__classdict__" : Str)) = false := by decide)
    (hs : swapsWithSole [.Tuple [.Subscript (.Name x n1) b1 s1, .Subscript (.Name x n2) b2 s2] kt pt] a pos.line X.env = pure false := by rfl)
    (hw : swappedStores [.Tuple [.Subscript (.Name x n1) b1 s1, .Subscript (.Name x n2) b2 s2] kt pt] a X.env = pure none := by rfl)
    (h1 : (assignEach [.Tuple [.Subscript (.Name x n1) b1 s1, .Subscript (.Name x n2) b2 s2] kt pt] X.env).map (·.2) = [assign (.Tuple [.Subscript (.Name x n1) b1 s1, .Subscript (.Name x n2) b2 s2] kt pt) X.env] := by rfl)
    (ha1 : ∀ v, assign (.Subscript (.Name x n1) b1 s1) X.env v = (do
      let ov ← holding [v] (eval (.Name x n1) X.env)
      let iv ← holding [v, ov] (eval b1 X.env)
      standAt s1
      holding [v, ov, iv] (setItem ov iv v)
      release [v, ov, iv] []) := by intro _; rfl)
    (ha2 : ∀ v, assign (.Subscript (.Name x n2) b2 s2) X.env v = (do
      let ov ← holding [v] (eval (.Name x n2) X.env)
      let iv ← holding [v, ov] (eval b2 X.env)
      standAt s2
      holding [v, ov, iv] (setItem ov iv v)
      release [v, ov, iv] []) := by intro _; rfl)
    (he1 : (assignEach [.Subscript (.Name x n1) b1 s1, .Subscript (.Name x n2) b2 s2] X.env).map (·.2) = assign (.Subscript (.Name x n1) b1 s1) X.env :: (assignEach [.Subscript (.Name x n2) b2 s2] X.env).map (·.2) := by rfl)
    (he2 : (assignEach [.Subscript (.Name x n2) b2 s2] X.env).map (·.2) = assign (.Subscript (.Name x n2) b2 s2) X.env :: (assignEach [] X.env).map (·.2) := by rfl)
    (hn : (assignEach [.Subscript (.Name x n1) b1 s1, .Subscript (.Name x n2) b2 s2] X.env).length = 2 := by rfl) (hst : (assignEach [.Subscript (.Name x n1) b1 s1, .Subscript (.Name x n2) b2 s2] X.env).findIdx? (·.1) = none := by rfl) :
    JS X cls W (.Assign [.Tuple [.Subscript (.Name x n1) b1 s1, .Subscript (.Name x n2) b2 s2] kt pt] a pos) (sSwp i fk fl fa) := by
  obtain ⟨t, p, d⟩ := ha.ex
  obtain ⟨t2, p2, d2⟩ := hk.ex
  obtain ⟨t3, p3, d3⟩ := hl.ex
  refine ⟨_, ps_asg p (pg_tup c.calm (pgs_cons (pg_sub (pe_var hN hv hd hcd) p2 set_list ha1) (pgs_cons (pg_sub (pe_var hN hv hd hcd) p3 set_list ha2) pgs_nil he2) he1) hn hst) hs hw h1, ?_⟩
  intro D σ F H g O s st p
  rw [sSwp_] at p
  refine d.goS s st p fun dd e p v F1 H1 O1 x fr w => ?_
  split at p
  · rename_i n
    have no : ∀ a ∈ O1, F1 a = none := fun a ha => (w.dom a ha).1
    have x2 := addF_ext x fr no
    have r := w.freeze (addF_same no) addF_at n
    split at p
    · rename_i d1 d2' xs ed eg
      rw [ed] at r
      cases r with
      | tp hT hr =>
        cases hr with
        | cons r1 hr =>
          cases hr with
          | cons r2 hr =>
            cases hr
            refine ⟨_, _, rfl, sameT x2.fh hT, rfl, ?_⟩
            split at p
            · rename_i kd ek
              split at p
              · rename_i k ek2
                split at p
                · rename_i j ej
                  split at p
                  · rename_i ld el
                    split at p
                    · rename_i l el2
                      split at p
                      · rename_i m em
                        refine ⟨_, _, rfl, ?_⟩
                        refine de_at (F := addF F1 H1 O1) (H := H1) d2 x2.fh (st.ext x2) eg ek ek2 ej r1 fun F3 H3 O3 x3 st3 => ?_
                        refine ⟨_, _, rfl, ?_⟩
                        have eg3 : (g.set i (.ol (xs.set j d1)))[i]? = some (.ol (xs.set j d1)) := by
                          rw [List.getElem?_set_self (List.getElem?_eq_some_iff.mp eg).1]
                        refine de_at (F := F3) (H := H3) d3 x3.fh st3 eg3 el el2 em (r2.mono x3.ff) fun F4 H4 O4 x4 st4 => ?_
                        refine ⟨rfl, ?_⟩
                        rw [List.set_set] at st4
                        exact p _ F4 H4 O4 (((x2.sext fun a h => .inl h).trans x3).trans x4) st4
                      · exact p.elim
                    · exact p.elim
                  · exact p.elim
                · exact p.elim
              · exact p.elim
            · exact p.elim
    · exact p.elim
  · exact p.elim
def rGetL : V → V → Hp → VK → Prop := fun x y H Q => ∃ p xs i v, x = .ref p ∧ y = .int i ∧ H p = some (.lst xs) ∧ 0 ≤ i ∧ i < 1000000000 ∧ xs[i.toNat]? = some v ∧ Q v H
theorem get_list0 : PGet X rGetL := by
  intro pins s σ H o i ov iv Q I ro ri h
  obtain ⟨p, xs, k, v, rfl, rfl, hp, h0, h1, hx, q⟩ := h
  cases ro
  obtain ⟨t, rfl⟩ := ri
  obtain ⟨its, r, pl, hz⟩ := I.list (SqL.of hp)
  obtain ⟨w, ew, rw'⟩ := r.get hx
  exact wpAny_getItem_list pl.isList h0 (by omega) (by simpa using ew) ⟨v, H, I, rw', q⟩
def sAug2 (op : Int → Int → Int) (i j1 j2 : Nat) (fa : Env → Res D) : Env → Out := fun g => match g[i]?, g[j1]?, g[j2]? with
  | some (.ol xs), some (.int k1), some (.int k2) => match ixN xs.length k1 with
    | some z => match xs[z]? with
      | some (.ol ys) => if 0 ≤ k2 ∧ k2 < 1000000000 then match ys[k2.toNat]? with
        | some (.int n) => (fa g).st g fun d => match opd d with
          | .int b => .nx (g.set i (.ol (xs.set z (.ol (ys.set k2.toNat (.int (op n b)))))))
          | _ => .bad
        | _ => .bad else .bad
      | _ => .bad
    | none => .bad
  | _, _, _ => .bad
@[simp] theorem sAug2_ (op : Int → Int → Int) (i j1 j2 : Nat) (fa : Env → Res D) (g : Env) : sAug2 op i j1 j2 fa g = match g[i]?, g[j1]?, g[j2]? with
  | some (.ol xs), some (.int k1), some (.int k2) => match ixN xs.length k1 with
    | some z => match xs[z]? with
      | some (.ol ys) => if 0 ≤ k2 ∧ k2 < 1000000000 then match ys[k2.toNat]? with
        | some (.int n) => (fa g).st g fun d => match opd d with
          | .int b => .nx (g.set i (.ol (xs.set z (.ol (ys.set k2.toNat (.int (op n b)))))))
          | _ => .bad
        | _ => .bad else .bad
      | _ => .bad
    | none => .bad
  | _, _, _ => .bad := rfl
theorem Sts.intAt {σ : L2.St} {g : Env} {j : Nat} {n : Int} (st : Sts K cls F H σ g O) (e : g[j]? = some (.int n)) : σ[j]? = some (some (.int n)) := by
  obtain ⟨P, _, h2, _⟩ := st.at j (List.getElem?_eq_some_iff.mp e).1
  rcases h2 with ⟨h2, _⟩ | ⟨v, d, h2, h2', ow⟩
  · rw [e] at h2; cases h2
  · rw [e] at h2'; cases h2'
    obtain ⟨rfl, _⟩ := ow.int
    exact h2
theorem Ows.intAt : ∀ {vs : List V} {ds : List D} {O : List Addr} {k : Nat} {n : Int}, Ows K cls F H vs ds O → ds[k]? = some (.int n) → vs[k]? = some (.int n)
  | _, _, _, _, _, .nil, e => by simp at e
  | _, _, _, 0, _, .cons h r dj eo, e => by
    simp at e
    subst e
    obtain ⟨rfl, _⟩ := h.int
    rfl
  | _, _, _, k + 1, _, .cons h r dj eo, e => by
    simp at e ⊢
    exact r.intAt e
theorem js_aug2 {i j1 j2 : Nat} {x y1 y2 : Str} {npos p1 p2 ip tpos : Pos} {o : Operator} {op : Int → Int → Int} (ho : PIp X o (ipI op)) (hN : X.N[i]? = some x) (hv : Vis X.env.scope x) (hN1 : X.N[j1]? = some y1) (hv1 : Vis X.env.scope y1) (hN2 : X.N[j2]? = some y2) (hv2 : Vis X.env.scope y2) (ha : JE X cls W a fa)
    (hd : (x == ("__debug__" : Str)) = false := by decide) (hcd : (x == ("__classdict__" : Str)) = false := by decide) (hd1 : (y1 == ("__debug__" : Str)) = false := by decide) (hcd1 : (y1 == ("__classdict__" : Str)) = false := by decide)
    (hd2 : (y2 == ("__debug__" : Str)) = false := by decide) (hcd2 : (y2 == ("__classdict__" : Str)) = false := by decide)
    (hps : PlainIx (.Name y1 p1) := by exact fun _ _ => rfl)
    (hst : ∀ ov iv new, augStore (.Name y2 p2) ov iv new = (do holding [new, ov, iv] (setItem ov iv new); release [new, ov, iv] []; pure .next) := by intros; rfl) :
    JS X cls W (.AugAssign (.Subscript (.Subscript (.Name x npos) (.Name y1 p1) ip) (.Name y2 p2) tpos) o a pos) (sAug2 op i j1 j2 fa) := by
  obtain ⟨t, p, d⟩ := ha.ex
  refine ⟨_, ps_augS (pe_ix ix_list (pe_var hN hv hd hcd) (pe_var hN1 hv1 hd1 hcd1) hps) (pe_var hN2 hv2 hd2 hcd2) get_list0 p ho set_list hst, ?_⟩
  intro D σ F H g O s st p
  rw [sAug2_] at p
  split at p
  · rename_i xs k1 k2 eg e1' e2'
    split at p
    · rename_i z ez
      split at p
      · rename_i ys ey
        split at p
        · rename_i hk
          split at p
          · rename_i n en
            obtain ⟨P, e1, e2, e3, _⟩ := st.at i (List.getElem?_eq_some_iff.mp eg).1
            rcases e2 with ⟨e2, _⟩ | ⟨v, dd, e2, e2'', ow⟩
            · rw [eg] at e2; cases e2
            · rw [eg] at e2''; cases e2''
              cases ow with
              | sh r => cases r
              | @ol q vs _ O1 f1 f2 f3 f4 =>
                obtain ⟨r, us, O2, g1, g2, g3, g4, g5, g6, g7, g8⟩ := f4.inner ey
                have hix : atI vs k1 = some (.ref r) := by
                  unfold atI; rw [f4.len, ez]; exact g1
                refine ⟨.ref q, e2, .int k1, st.intAt e1', ⟨q, vs, k1, .ref r, rfl, rfl, SqL.of f2, hix, ?_⟩⟩
                refine ⟨.int k2, st.intAt e2', ?_⟩
                have hu : us[k2.toNat]? = some (.int n) := g5.intAt en
                have hlt := (List.getElem?_eq_some_iff.mp hu).1
                refine ⟨r, us, k2, .int n, rfl, rfl, g2, hk.1, hk.2, hu, ?_⟩
                refine d.go s st (fun c e => by rw [e] at p; exact xc_st st p) (fun e => by rw [e] at p; exact p) fun dd e v F1 H1 x b => ?_
                rw [e, Res.st_ok] at p
                split at p
                · rename_i b' eb
                  rw [eb] at b
                  obtain rfl := b.int
                  refine ⟨n, b', rfl, rfl, r, us, k2, k2.toNat, rfl, rfl, x.hh _ _ g2, ixN_nat hk.1 (by omega), ?_⟩
                  obtain ⟨O3, w3, n3⟩ := (g5.ext x).set k2.toNat (.sh (.int (op n b')) : Ow X.K cls F1 H1 (.int (op n b')) (.int (op n b')) []) fun a _ q2 => nomatch q2
                  obtain ⟨O4, w1, w2⟩ := g8 F1 H1 (us.set k2.toNat (.int (op n b'))) (ys.set k2.toNat (.int (op n b'))) O3 x w3 (fun z => by
                    rcases n3 _ z with z | z
                    · exact g4 z
                    · exact nomatch z) (fun a z => (n3 a z).imp id (fun z => nomatch z))
                  have hqr : q ≠ r := fun z => f3 (z ▸ g6)
                  have up : ∀ b, b ≠ r → upd H1 r (.lst (us.set k2.toNat (.int (op n b')))) b = H1 b := fun b hb => upd_ne hb
                  have hF1r : F1 r = none := x.ow r g3 (by rw [g2]; exact fun e => nomatch e)
                  have hF1q : F1 q = none := x.ow q f1 (by rw [f2]; exact fun e => nomatch e)
                  have hq4 : q ∉ O4 := fun z => by
                    rcases w2 q z with z | z
                    · exact f3 z
                    · rw [f2] at z; cases z
                  obtain ⟨O'', q1, q2⟩ := e3 F1 (upd H1 r (.lst (us.set k2.toNat (.int (op n b'))))) (.ref q) (.ol (xs.set z (.ol (ys.set k2.toNat (.int (op n b')))))) (q :: O4) (fun b hb hn => by
                      obtain ⟨k1, k2⟩ := x.get (st.dom b hb).1 (st.dom b hb).2
                      exact ⟨(up b fun z => hn (by simp [z, g6])).trans k1, k2⟩) x.ff
                    (.ol hF1q ((up q hqr).trans (x.hh _ _ f2)) hq4 w1) (fun a ha hO => by
                      rcases List.mem_cons.mp ha with rfl | ha
                      · simp
                      · rcases w2 a ha with z | z
                        · simp [z]
                        · exact absurd z (st.dom a hO).2)
                  rw [set_self e2] at q1
                  refine p _ F1 _ O'' ⟨x.ff, fun b o k => ?_, fun b o k hn => ?_, fun b h1 h2 _ => x.ow b h1 h2, fun b hb => ?_⟩ q1
                  · rw [up b fun z => by rw [z, hF1r] at k; cases k]; exact x.fh b o k
                  · rw [up b fun z => hn (z ▸ e1 r (by simp [g6]))]; exact x.hh b o k
                  · rcases q2 b hb with z | z
                    · exact .inl z
                    · rcases List.mem_cons.mp z with rfl | z
                      · exact .inl (e1 _ (by simp))
                      · exact (w2 b z).imp (fun z => e1 b (by simp [z])) id
                · exact p.elim
          · exact p.elim
        · exact p.elim
      · exact p.elim
    · exact p.elim
  · exact p.elim
end
end DL

namespace DL
open PySem PySem.Spec PyProof.Rows L2
section
variable {K : PySem.W.Frag} {cls : Cls} {W : WX} {X : Cx} {F H F' H' : Hp} {O : List Addr} {a b e tg iter elt : Expr} {fs : Env → Res (List D)} {fa fb : Env → Res D} {pos : Pos}
def opAddS (a b : D) : Option D := match sqK a, sqK b with
    | some xs, some ys => if xs.length + ys.length ≤ lim then some (.ol (xs ++ ys)) else none
    | _, _ => none
@[simp] theorem opAddS_sl {xs ys : List D} (h : xs.length + ys.length ≤ lim) : opAddS (.sc xs) (.ls ys) = some (.ol (xs ++ ys)) := if_pos h
end
end DL

namespace PySem
open Sem (wp)
section
variable {prog : Program} {w : World} {A : Around} {E : Value → Shared → Prop} {s : Shared}
end
end PySem
namespace DL
open PySem PySem.Spec PyProof.Rows L2 TL PySem.W
section
variable {K : PySem.W.Frag} {cls : Cls} {W : WX} {X : Cx} {F H F' H' F1 H1 : Hp} {O O1 : List Addr} {a b : Expr} {fs : Env → Res (List D)} {pos : Pos}
def iZp2 (fs : Env → Res (List D)) : Env → Res (List D) := fun g => (fs g).bind fun ds => match ds with
  | [d, e] => (Res.of (lsS d)).bind fun xs => (Res.of (sqS e)).bind fun ys => .ok (zipD xs ys)
  | _ => .bad
@[simp] theorem iZp2_ (fs : Env → Res (List D)) (g : Env) : iZp2 fs g = (fs g).bind fun ds => match ds with
  | [d, e] => (Res.of (lsS d)).bind fun xs => (Res.of (sqS e)).bind fun ys => .ok (zipD xs ys)
  | _ => .bad := rfl
end
end DL

namespace DL
open PySem PySem.Spec PyProof.Rows L2 TL PySem.W
section
variable {K : PySem.W.Frag} {cls : Cls} {W : WX} {X : Cx} {F H F' H' F1 H1 : Hp} {O O1 : List Addr} {a b : Expr} {fs : Env → Res (List D)} {pos : Pos}
def zpA : D → D → Option (List D)
  | .tp xs, .tp ys => some (zipD xs ys)
  | d, e => match lsS d, sqS e with
    | some xs, some ys => some (zipD xs ys)
    | _, _ => none
@[simp] theorem zpA_tt {xs ys : List D} : zpA (.tp xs) (.tp ys) = some (zipD xs ys) := rfl
@[simp] theorem zpA_lt {xs ys : List D} : zpA (.ls xs) (.tp ys) = some (zipD xs ys) := rfl
@[simp] theorem zpA_ll {xs ys : List D} : zpA (.ls xs) (.ls ys) = some (zipD xs ys) := rfl
def iZp3 (fs : Env → Res (List D)) : Env → Res (List D) := fun g => (fs g).bind fun ds => match ds with
  | [d, e] => Res.of (zpA d e)
  | _ => .bad
@[simp] theorem iZp3_ (fs : Env → Res (List D)) (g : Env) : iZp3 fs g = (fs g).bind fun ds => match ds with
  | [d, e] => Res.of (zpA d e)
  | _ => .bad := rfl
end
end DL

namespace DL
open PySem L2
section
variable {K : PySem.W.Frag} {cls : Cls} {W : WX} {X : Cx} {a : Expr} {fa : Env → Res D}
def eFrz (fa : Env → Res D) : Env → Res D := fun g => ((fa g).bind kp).bind fun d => if nod d = true then .ok (frz d) else .bad
@[simp] theorem eFrz_ (fa : Env → Res D) (g : Env) : eFrz fa g = ((fa g).bind kp).bind fun d => if nod d = true then .ok (frz d) else .bad := rfl
end
end DL

namespace DL
open PySem PySem.Spec PyProof.Rows L2 TL PySem.W
section
variable {K : PySem.W.Frag} {cls : Cls} {W : WX} {X : Cx} {F H F' H' F1 H1 : Hp} {O O1 : List Addr} {Q : VK} {a b e : Expr} {es : List Expr} {fa fb fc : Env → Res D} {fs : Env → Res (List D)} {pos : Pos}
def sIns2 (i : Nat) (fs : Env → Res (List D)) : Env → Out := fun g => match g[i]? with
  | some (.ol xs) => (fs g).st g fun ds => match ds with
    | [.int j, d] => if 0 ≤ j ∧ j ≤ 1000000000 ∧ xs.length < lim ∧ xs.all (fun d => !own1 d) = true ∧ shd1 d = true then .nx (g.set i (.ol (xs.take j.toNat ++ [d] ++ xs.drop j.toNat))) else .bad
    | _ => .bad
  | _ => .bad
@[simp] theorem sIns2_ (i : Nat) (fs : Env → Res (List D)) (g : Env) : sIns2 i fs g = match g[i]? with
  | some (.ol xs) => (fs g).st g fun ds => match ds with
    | [.int j, d] => if 0 ≤ j ∧ j ≤ 1000000000 ∧ xs.length < lim ∧ xs.all (fun d => !own1 d) = true ∧ shd1 d = true then .nx (g.set i (.ol (xs.take j.toNat ++ [d] ++ xs.drop j.toNat))) else .bad
    | _ => .bad
  | _ => .bad := rfl
end
end DL

namespace DL
open PySem PySem.Spec PyProof.Rows L2 TL PySem.W
section
variable {K : PySem.W.Frag} {cls : Cls} {W : WX} {X : Cx} {F H F' H' F1 H1 : Hp} {O O1 : List Addr} {Q : VK} {a b e tg : Expr} {es : List Expr} {fa fb fc : Env → Res D} {fs : Env → Res (List D)} {pos : Pos}
def sRvs (i : Nat) : Env → Out := fun g => match g[i]? with
  | some (.ol xs) => if xs.all (fun d => !own1 d) = true then .nx (g.set i (.ol xs.reverse)) else .bad
  | _ => .bad
@[simp] theorem sRvs_ (i : Nat) (g : Env) : sRvs i g = match g[i]? with
  | some (.ol xs) => if xs.all (fun d => !own1 d) = true then .nx (g.set i (.ol xs.reverse)) else .bad
  | _ => .bad := rfl
def iRvA (fa : Env → Res D) : Env → Res (List D) := fun g => (fa g).bind fun a => (Res.of (sqS (opd a))).bind fun xs => .ok xs.reverse
@[simp] theorem iRvA_ (fa : Env → Res D) (g : Env) : iRvA fa g = (fa g).bind fun a => (Res.of (sqS (opd a))).bind fun xs => .ok xs.reverse := rfl
def opXor : D → D → Option D
  | .int i, .int j => if j = 1 ∧ 0 ≤ i then some (.int (if i % 2 = 0 then i + 1 else i - 1)) else none
  | _, _ => none
@[simp] theorem opXor_int {i : Int} (h : 0 ≤ i) : opXor (.int i) (.int 1) = some (.int (if i % 2 = 0 then i + 1 else i - 1)) := if_pos ⟨rfl, h⟩
end
end DL

namespace DL
open PySem PySem.Spec PyProof.Rows L2 TL PySem.W
section
variable {K : PySem.W.Frag} {cls : Cls} {W : WX} {X : Cx} {F H F' H' F1 H1 : Hp} {O O1 : List Addr} {Q : VK} {a b e tg : Expr} {es : List Expr} {fa fb fc : Env → Res D} {fs : Env → Res (List D)} {pos : Pos}
def sAugE (op : Int → Int → Int) (i : Nat) (fk fa : Env → Res D) : Env → Out := fun g => match g[i]? with
  | some (.ol xs) => (fk g).st g fun k => match opd k with
    | .int k => if 0 ≤ k ∧ k < 1000000000 then match xs[k.toNat]? with
      | some (.int n) => (fa g).st g fun d => match opd d with
        | .int b => .nx (g.set i (.ol (xs.set k.toNat (.int (op n b)))))
        | _ => .bad
      | _ => .bad else .bad
    | _ => .bad
  | _ => .bad
@[simp] theorem sAugE_ (op : Int → Int → Int) (i : Nat) (fk fa : Env → Res D) (g : Env) : sAugE op i fk fa g = match g[i]? with
  | some (.ol xs) => (fk g).st g fun k => match opd k with
    | .int k => if 0 ≤ k ∧ k < 1000000000 then match xs[k.toNat]? with
      | some (.int n) => (fa g).st g fun d => match opd d with
        | .int b => .nx (g.set i (.ol (xs.set k.toNat (.int (op n b)))))
        | _ => .bad
      | _ => .bad else .bad
    | _ => .bad
  | _ => .bad := rfl
end
end DL

namespace DL
open PySem PySem.Spec PyProof.Rows L2 TL PySem.W
section
variable {K : PySem.W.Frag} {cls : Cls} {X : Cx} {F H F' H' F1 H1 : Hp} {O O1 : List Addr} {Q : VK}
def caMin4 (ds : List D) : Option D := match ds with
  | [.tp xs] => match intsOf xs with
    | some (n :: ns) => some (.int (ns.foldl min n))
    | _ => none
  | ds => caMin3 ds
@[simp] theorem caMin4_tp (n : Int) (ns : List Int) : caMin4 [.tp (.int n :: ns.map D.int)] = some (.int (ns.foldl min n)) := by
  have : intsOf (D.int n :: ns.map D.int) = some (n :: ns) := intsOf_map (n :: ns)
  simp [caMin4, this]
end
end DL

namespace DL
open PySem PySem.Spec PyProof.Rows L2 TL PySem.W
section
variable {K : PySem.W.Frag} {cls : Cls} {X : Cx} {F H F' H' F1 H1 : Hp} {O O1 : List Addr} {Q : VK}
def caSum4 (ds : List D) : Option D := match ds with
  | [.tp xs] => match intsOf xs with
    | some ns => some (.int ns.sum)
    | _ => none
  | ds => caSum ds
@[simp] theorem caSum4_tp (ns : List Int) : caSum4 [.tp (ns.map D.int)] = some (.int ns.sum) := by
  have : intsOf (ns.map D.int) = some ns := intsOf_map ns
  simp [caSum4, this]
end
end DL

namespace DL
open PySem PySem.Spec PyProof.Rows L2 TL PySem.W
section
variable {K : PySem.W.Frag} {cls : Cls} {W : WX} {X : Cx} {F H F' H' F1 H1 : Hp} {O O1 : List Addr} {Q : VK} {pos : Pos}
def unX : Out → Out
  | .xc _ _ => .bad
  | o => o
def sTryN (fb : Env → Out) (fh : Nat → Env → Out) : Env → Out := fun g => match fb g with
  | .xc c g' => unX (fh c g')
  | o => o
@[simp] theorem sTryN_ (fb : Env → Out) (fh : Nat → Env → Out) (g : Env) : sTryN fb fh g = match fb g with
  | .xc c g' => unX (fh c g')
  | o => o := rfl
end
end DL

namespace DL
open PySem PySem.Spec PyProof.Rows L2 TL PySem.W
section
variable {K : PySem.W.Frag} {cls : Cls} {X : Cx} {F H F' H' F1 H1 : Hp} {O O1 : List Addr} {Q : VK}
def cLt2 : D → D → Option Bool
  | .tp xs, .tp ys => match intsOf xs, intsOf ys with
    | some ns, some ms => some (HT.lexLt ns ms)
    | _, _ => none
  | a, b => cLt a b
@[simp] theorem cLt2_tp (ns ms : List Int) : cLt2 (.tp (ns.map D.int)) (.tp (ms.map D.int)) = some (HT.lexLt ns ms) := by
  have h1 : intsOf (ns.map D.int) = some ns := intsOf_map ns
  have h2 : intsOf (ms.map D.int) = some ms := intsOf_map ms
  simp [cLt2, h1, h2]
end
end DL

namespace DL
open PySem PySem.Spec PyProof.Rows L2 TL PySem.W
section
variable {K : PySem.W.Frag} {cls : Cls} {W : WX} {X : Cx} {F H F' H' F1 H1 : Hp} {O O1 : List Addr} {Q : VK} {e : Expr} {es : List Expr} {fs : Env → Res (List D)} {pos : Pos} {i j : Nat}
def PostRP (K : PySem.W.Frag) (cls : Cls) (W : WX) (i j : Nat) (D : Ends) (F H : Hp) (O : List Addr) : Out → Prop
  | .nx g => ∃ p xs, g[i]? = some (.int p) ∧ g[j]? = some (.ol xs) ∧ ∀ v a F' H' O', SExt F H O F' H' O' → Ow K cls F' H' v (.ol xs) O' → H' a = none → D.rt (.ref a) (upd H' a (.tup [.int p, v]))
  | .xc c g => ∀ σ' F' H' O', SExt F H O F' H' O' → Sts K cls F' H' σ' g O' → W (excV cls c) none σ' H'
  | _ => False
theorem PostRP.mono {D : Ends} {r : Out} (x : SExt F H O F1 H1 O1) (p : PostRP K cls W i j D F H O r) : PostRP K cls W i j D F1 H1 O1 r := by
  cases r with
  | nx g =>
    obtain ⟨a, xs, h1, h2, h3⟩ := p
    exact ⟨a, xs, h1, h2, fun v b F' H' O' y => h3 v b F' H' O' (x.trans y)⟩
  | xc c g => exact fun σ' F' H' O' y => p σ' F' H' O' (x.trans y)
  | rt d => exact p
  | bk g => exact p
  | ct g => exact p
  | bad => exact p
def DSRP (K : PySem.W.Frag) (cls : Cls) (W : WX) (i j : Nat) (t : TS) (f : Env → Out) : Prop :=
  ∀ D σ F H g O, Same F H → Sts K cls F H σ g O → PostRP K cls W i j D F H O (f g) → t D σ H
structure JSE (X : Cx) (cls : Cls) (W : WX) (i j : Nat) (st : List Stmt) (f : Env → Out) : Prop where
  ex : ∃ t, PSs X st t ∧ DSRP X.K cls W i j t f
def sEnd : Env → Out := fun g => .nx g
@[simp] theorem sEnd_ (g : Env) : sEnd g = .nx g := rfl
def sUnp (i j : Nat) (g : List D → Res (Int × List D)) (fs : Env → Res (List D)) : Env → Out := fun env => (fs env).st env fun ds => if shd ds = true then match g ds with
  | .ok (p, xs) => .nx ((env.set i (.int p)).set j (.ol xs))
  | .xc c => .xc c env
  | .bad => .bad else .bad
@[simp] theorem sUnp_ (i j : Nat) (g : List D → Res (Int × List D)) (fs : Env → Res (List D)) (env : Env) : sUnp i j g fs env = (fs env).st env fun ds => if shd ds = true then match g ds with
  | .ok (p, xs) => .nx ((env.set i (.int p)).set j (.ol xs))
  | .xc c => .xc c env
  | .bad => .bad else .bad := rfl
end
end DL

namespace DL
open PySem PySem.Spec PyProof.Rows L2 TL PySem.W
end DL

namespace DL
open PySem PySem.Spec PyProof.Rows L2 TL PySem.W
def leT (ns ms : List Int) : Bool := Ob.lexAt (fun j => decide (ns.getD j 0 = ms.getD j 0)) (fun j => decide (ns.getD j 0 ≤ ms.getD j 0)) (decide (ns.length ≤ ms.length)) 0 (min ns.length ms.length)
section
variable {K : PySem.W.Frag} {cls : Cls} {W : WX} {X : Cx} {F H F' H' F1 H1 : Hp} {O O1 : List Addr} {Q : VK} {a b c d e : Expr} {fa fb fc fd fe : Env → Res D} {pos : Pos}
def cLe2 : D → D → Option Bool
  | .tp xs, .tp ys => match intsOf xs, intsOf ys with
    | some ns, some ms => some (leT ns ms)
    | _, _ => none
  | a, b => cLe a b
@[simp] theorem cLe2_tp (ns ms : List Int) : cLe2 (.tp (ns.map D.int)) (.tp (ms.map D.int)) = some (leT ns ms) := by
  have h1 : intsOf (ns.map D.int) = some ns := intsOf_map ns
  have h2 : intsOf (ms.map D.int) = some ms := intsOf_map ms
  simp [cLe2, h1, h2]
def lLast (op : D → D → Option Bool) (f : Env → Res D) (b : D) (g : Env) : Res Bool := (f g).bind fun c => .of (op (opd b) (opd c))
def lNext (op : D → D → Option Bool) (f : Env → Res D) (k : D → Env → Res Bool) (b : D) (g : Env) : Res Bool := (f g).bind fun c => (Res.of (op (opd b) (opd c))).bind fun kk => if kk = true then k c g else .ok false
def lHead (f : Env → Res D) (k : D → Env → Res Bool) (g : Env) : Res Bool := (f g).bind fun b => k b g
@[simp] theorem lLast_ (op : D → D → Option Bool) (f : Env → Res D) (b : D) (g : Env) : lLast op f b g = (f g).bind fun c => .of (op (opd b) (opd c)) := rfl
@[simp] theorem lNext_ (op : D → D → Option Bool) (f : Env → Res D) (k : D → Env → Res Bool) (b : D) (g : Env) : lNext op f k b g = (f g).bind fun c => (Res.of (op (opd b) (opd c))).bind fun kk => if kk = true then k c g else .ok false := rfl
@[simp] theorem lHead_ (f : Env → Res D) (k : D → Env → Res Bool) (g : Env) : lHead f k g = (f g).bind fun b => k b g := rfl
end
end DL

namespace DL
open PySem PySem.Spec PyProof.Rows L2 TL PySem.W
section
variable {K : PySem.W.Frag} {cls : Cls} {W : WX} {X : Cx} {F H F' H' F1 H1 : Hp} {O O1 : List Addr} {Q : VK} {a b : Expr} {fa fb : Env → Res D} {pos : Pos}
def eJoin (fa fb : Env → Res D) : Env → Res D := fun g => (fa g).bind fun d => match opd d with
  | .str x => (fb g).bind fun e => match sqL (opd e) with
    | some xs => match strsOf xs with
      | some ys => if (ys.map (·.length)).sum + ys.length * x.length ≤ 16777216 then .ok (.str (Txt.join x ys)) else .bad
      | none => .bad
    | none => .bad
  | _ => .bad
@[simp] theorem eJoin_ (fa fb : Env → Res D) (g : Env) : eJoin fa fb g = (fa g).bind fun d => match opd d with
  | .str x => (fb g).bind fun e => match sqL (opd e) with
    | some xs => match strsOf xs with
      | some ys => if (ys.map (·.length)).sum + ys.length * x.length ≤ 16777216 then .ok (.str (Txt.join x ys)) else .bad
      | none => .bad
    | none => .bad
  | _ => .bad := rfl
end
end DL

namespace DL
open PySem PySem.Spec PyProof.Rows L2 TL PySem.W
section
variable {K : PySem.W.Frag} {cls : Cls} {W : WX} {X : Cx} {F H F' H' F1 H1 : Hp} {O O1 : List Addr} {Q : VK} {a b tg iter : Expr} {fa fb : Env → Res D} {pos : Pos}
def eSlS (fa : Env → Res D) (lo hi : Env → Res (Option Int)) : Env → Res D := fun g => (fa g).bind fun a => (lo g).bind fun l => (hi g).bind fun h => match opd a with
  | .str z => if z.length ≤ lim then .ok (.str (cutS z l h)) else .bad
  | _ => .bad
@[simp] theorem eSlS_ (fa : Env → Res D) (lo hi : Env → Res (Option Int)) (g : Env) : eSlS fa lo hi g = (fa g).bind fun a => (lo g).bind fun l => (hi g).bind fun h => match opd a with
  | .str z => if z.length ≤ lim then .ok (.str (cutS z l h)) else .bad
  | _ => .bad := rfl
def sgs (x : Str) : List D := x.cps.toList.map fun c => D.str ⟨#[c]⟩
def iStrD (fa : Env → Res D) : Env → Res (List D) := fun g => (fa g).bind fun a => match opd a with
  | .str x => .ok (sgs x)
  | _ => .bad
@[simp] theorem iStrD_ (fa : Env → Res D) (g : Env) : iStrD fa g = (fa g).bind fun a => match opd a with
  | .str x => .ok (sgs x)
  | _ => .bad := rfl
def eSplit (fa fb : Env → Res D) : Env → Res D := fun g => (fa g).bind fun d => match opd d with
  | .str x => (fb g).bind fun e => match opd e with
    | .str y => if (y.length == 0) = false ∧ x.length + 2 ≤ lim then .ok (.ol ((Txt.split x y).map D.str)) else .bad
    | _ => .bad
  | _ => .bad
@[simp] theorem eSplit_ (fa fb : Env → Res D) (g : Env) : eSplit fa fb g = (fa g).bind fun d => match opd d with
  | .str x => (fb g).bind fun e => match opd e with
    | .str y => if (y.length == 0) = false ∧ x.length + 2 ≤ lim then .ok (.ol ((Txt.split x y).map D.str)) else .bad
    | _ => .bad
  | _ => .bad := rfl
end
end DL

namespace DL
open PySem PySem.Spec PyProof.Rows L2 PySem.W
section
variable {X : Cx} {cls : Cls} {K : PySem.W.Frag} {pins : List (Addr × Obj)} {s : Shared} {σ : L2.St} {H F H' F' : Hp} {Q : VK} {W : WX}
variable {e : Expr} {te : TE} {p apos cpos pos : Pos}
end
section
variable {K : PySem.W.Frag} {cls : Cls} {W : WX} {X : Cx} {F H F' H' F1 H1 : Hp} {O O1 : List Addr} {Q : VK} {a o e : Expr} {es : List Expr} {fa fo : Env → Res D} {fs : Env → Res (List D)} {pos apos cpos p : Pos} {k n : Nat}
def keyInts : List L2.Key → Option (List Int)
  | [] => some []
  | .inl i :: ks => (keyInts ks).map (i :: ·)
  | .inr _ :: _ => none
def eSortK (fa : Env → Res D) : Env → Res D := fun g => (fa g).bind fun d => match opd d with
  | .bd ks _ => match keyInts ks with
    | some ns => .ok (.ol ((srt ns).map D.int))
    | none => .bad
  | _ => .bad
@[simp] theorem eSortK_ (fa : Env → Res D) (g : Env) : eSortK fa g = (fa g).bind fun d => match opd d with
  | .bd ks _ => match keyInts ks with
    | some ns => .ok (.ol ((srt ns).map D.int))
    | none => .bad
  | _ => .bad := rfl
variable {m : Str} {C f : Addr} {fd : FuncData} {ps : List Str} {sp : Sp} {t : TA} {ta : TE} {E : L2.St → XK} {CX : CXT}
def eMeth (c : Nat) (g : List D → Res D) (fo : Env → Res D) (fs : Env → Res (List D)) : Env → Res D := fun e => (fo e).bind fun d => match opd d with
  | .ob c' fl => if c' = c then (fs e).bind fun ds => calD g (.ob c' fl :: ds) else .bad
  | _ => .bad
@[simp] theorem eMeth_ (c : Nat) (g : List D → Res D) (fo : Env → Res D) (fs : Env → Res (List D)) (e : Env) : eMeth c g fo fs e = (fo e).bind fun d => match opd d with
  | .ob c' fl => if c' = c then (fs e).bind fun ds => calD g (.ob c' fl :: ds) else .bad
  | _ => .bad := rfl
def eIndexT (fa fb : Env → Res D) : Env → Res D := fun g => (fa g).bind fun d => match opd d with
  | .ls xs => match tupsOf xs with
    | some L => (fb g).bind fun e => match opd e with
      | .tp ys => match intsOf ys with
        | some l => if l ∈ L then .ok (.int (L.idxOf l : Nat)) else .bad
        | none => .bad
      | _ => .bad
    | none => .bad
  | _ => .bad
@[simp] theorem eIndexT_ (fa fb : Env → Res D) (g : Env) : eIndexT fa fb g = (fa g).bind fun d => match opd d with
  | .ls xs => match tupsOf xs with
    | some L => (fb g).bind fun e => match opd e with
      | .tp ys => match intsOf ys with
        | some l => if l ∈ L then .ok (.int (L.idxOf l : Nat)) else .bad
        | none => .bad
      | _ => .bad
    | none => .bad
  | _ => .bad := rfl
end
end DL

namespace DL
open PySem PySem.Spec PyProof.Rows L2 TL PySem.W
section
variable {K : PySem.W.Frag} {cls : Cls} {X : Cx}
def cIsB : D → D → Option Bool
  | .bl a, .bl b => some (a == b)
  | _, _ => none
def cNotB : D → D → Option Bool
  | .bl a, .bl b => some (!(a == b))
  | _, _ => none
@[simp] theorem cIsB_bl (a b : Bool) : cIsB (.bl a) (.bl b) = some (a == b) := rfl
@[simp] theorem cNotB_bl (a b : Bool) : cNotB (.bl a) (.bl b) = some (!(a == b)) := rfl
end
end DL

namespace DL
open PySem PySem.Spec PyProof.Rows L2 TL PySem.W
section
variable {K : PySem.W.Frag} {cls : Cls} {X : Cx} {F H F' H' F1 H1 : Hp} {O O1 : List Addr} {Q : VK}
def cGt2 : D → D → Option Bool
  | .tp xs, .tp ys => match intsOf xs, intsOf ys with
    | some ns, some ms => some (HT.lexLt ms ns)
    | _, _ => none
  | a, b => cGt a b
@[simp] theorem cGt2_tp (ns ms : List Int) : cGt2 (.tp (ns.map D.int)) (.tp (ms.map D.int)) = some (HT.lexLt ms ns) := by
  have h1 : intsOf (ns.map D.int) = some ns := intsOf_map ns
  have h2 : intsOf (ms.map D.int) = some ms := intsOf_map ms
  simp [cGt2, h1, h2]
end
end DL

namespace DL
open PySem PySem.Spec PyProof.Rows L2 TL PySem.W
section
variable {K : PySem.W.Frag} {cls : Cls} {W : WX} {X : Cx} {F H F' H' F1 H1 : Hp} {O O1 : List Addr} {Q : VK} {o e f : Expr} {fo fk fx : Env → Res D} {apos cpos : Pos}
def eDG2 (fo fk fx : Env → Res D) : Env → Res D := fun g => (fo g).bind fun a => match opd a with
  | .bd ks ds => (fk g).bind fun b => (fx g).bind fun z => match opd b with
    | .int k => .ok ((valG (ks.zip ds) (.inl k)).getD (opd z))
    | _ => .bad
  | _ => .bad
@[simp] theorem eDG2_ (fo fk fx : Env → Res D) (g : Env) : eDG2 fo fk fx g = (fo g).bind fun a => match opd a with
  | .bd ks ds => (fk g).bind fun b => (fx g).bind fun z => match opd b with
    | .int k => .ok ((valG (ks.zip ds) (.inl k)).getD (opd z))
    | _ => .bad
  | _ => .bad := rfl
end
end DL

namespace DL
open PySem PySem.Spec PyProof.Rows L2 TL PySem.W
section
variable {K : PySem.W.Frag} {cls : Cls} {W : WX} {X : Cx} {F H F' H' F1 H1 : Hp} {O O1 : List Addr} {Q : VK} {a b e o : Expr} {fa fb fo : Env → Res D} {pos apos cpos : Pos}
def sRem (i : Nat) (fa : Env → Res D) : Env → Out := fun g => match g[i]? with
  | some (.ol xs) => (fa g).st g fun d => match toPys xs, toPy (opd d) with
    | some ps, some pd => if xs.length ≤ 1000000 ∧ PyData.plainAll ps = true ∧ pd.plain = true ∧ pd.depth ≤ 60 then match SeqAt.dataPlace ps pd with
      | some k => match xs[k]? with
        | some y => if own1 y = false then .nx (g.set i (.ol (xs.eraseIdx k))) else .bad
        | none => .bad
      | none => .bad
      else .bad
    | _, _ => .bad
  | _ => .bad
@[simp] theorem sRem_ (i : Nat) (fa : Env → Res D) (g : Env) : sRem i fa g = match g[i]? with
  | some (.ol xs) => (fa g).st g fun d => match toPys xs, toPy (opd d) with
    | some ps, some pd => if xs.length ≤ 1000000 ∧ PyData.plainAll ps = true ∧ pd.plain = true ∧ pd.depth ≤ 60 then match SeqAt.dataPlace ps pd with
      | some k => match xs[k]? with
        | some y => if own1 y = false then .nx (g.set i (.ol (xs.eraseIdx k))) else .bad
        | none => .bad
      | none => .bad
      else .bad
    | _, _ => .bad
  | _ => .bad := rfl
end
end DL

namespace DL
open PySem PySem.Spec PyProof.Rows L2 TL PySem.W
section
variable {K : PySem.W.Frag} {cls : Cls} {W : WX} {X : Cx} {F H F' H' F1 H1 : Hp} {O O1 : List Addr} {Q : VK} {a b e c : Expr} {es : List Expr} {fa fe : Env → Res D} {ft : Env → Res Bool} {fs : Env → Res (List D)} {pos : Pos}
def PostM (K : PySem.W.Frag) (cls : Cls) (W : WX) (En : Ends) (σ : L2.St) (F H : Hp) (q : Addr) (us : List V) : Res (Option D) → Prop
  | .ok none => ∀ F' H', Ext F H F' H' → En.nx σ H'
  | .ok (some d) => ∀ v F' H', Ext F H F' H' → Rp K cls F' v d → En.nx σ (upd H' q (.lst (us ++ [v])))
  | .xc c => ∀ F' H', Ext F H F' H' → W (excV cls c) none σ H'
  | .bad => False
theorem PostM.mono {En : Ends} {σ : L2.St} {q : Addr} {us : List V} {r : Res (Option D)} (x : Ext F H F1 H1) (h : PostM K cls W En σ F H q us r) : PostM K cls W En σ F1 H1 q us r := by
  cases r with
  | ok o =>
    cases o with
    | none => exact fun F' H' y => h F' H' (x.trans y)
    | some d => exact fun v F' H' y r => h v F' H' (x.trans y) r
  | xc c => exact fun F' H' y => h F' H' (x.trans y)
  | bad => exact h
structure JM (X : Cx) (cls : Cls) (W : WX) (sts : List Stmt) (f : Env → Res (Option D)) : Prop where
  ex : ∃ t, PSs X sts t ∧ ∀ (En : Ends) (σ : L2.St) (F H : Hp) (g : Env) (O : List Addr) (q : Addr) (us : List V), Same F H → Sts X.K cls F H σ g O → σ[0]? = some (some (.ref q)) → H q = some (.lst us) → us.length < lim → PostM X.K cls W En σ F H q us (f g) → t En σ H
def sPut (i : Nat) (g : List D → Res (Option D)) (fs : Env → Res (List D)) : Env → Out := fun env => match env[i]? with
  | some (.ol xs) => (fs env).st env fun ds => if shd ds = true ∧ xs.length < lim then match g ds with
    | .ok none => .nx env
    | .ok (some d) => .nx (env.set i (.ol (xs ++ [d])))
    | .xc c => .xc c env
    | .bad => .bad else .bad
  | _ => .bad
@[simp] theorem sPut_ (i : Nat) (g : List D → Res (Option D)) (fs : Env → Res (List D)) (env : Env) : sPut i g fs env = match env[i]? with
  | some (.ol xs) => (fs env).st env fun ds => if shd ds = true ∧ xs.length < lim then match g ds with
    | .ok none => .nx env
    | .ok (some d) => .nx (env.set i (.ol (xs ++ [d])))
    | .xc c => .xc c env
    | .bad => .bad else .bad
  | _ => .bad := rfl
end
end DL

namespace DL
open PySem PySem.Spec PyProof.Rows L2 TL PySem.W
section
variable {K : PySem.W.Frag} {cls : Cls} {W : WX} {X : Cx} {a : Expr} {fa : Env → Res D} {i : Nat}
def eView (i : Nat) (fa : Env → Res D) : Env → Res D := fun g => (fa (frzAt g i)).bind fun d => if flat d = true then .ok d else .bad
@[simp] theorem eView_ (i : Nat) (fa : Env → Res D) (g : Env) : eView i fa g = (fa (frzAt g i)).bind fun d => if flat d = true then .ok d else .bad := rfl
end
end DL

namespace DL
open PySem PySem.Spec PyProof.Rows L2 TL PySem.W
section
variable {K : PySem.W.Frag} {cls : Cls} {X : Cx} {F H F' H' F1 H1 : Hp} {O O1 : List Addr} {Q : VK}
def ntOf : D → Option (Int × List Int)
  | .tp [.int i, .tp xs] => (intsOf xs).map fun ns => (i, ns)
  | _ => none
theorem ntOf_NT (x : Int × List Int) : ntOf (dNT x) = some x := by
  show (intsOf (x.2.map D.int)).map (fun ns => (x.1, ns)) = _
  rw [intsOf_map]
  rfl
def cLt6 (a b : D) : Option Bool := match ntOf a, ntOf b with
  | some x, some y => some (HT.lexLt (x.1 :: x.2) (y.1 :: y.2))
  | _, _ => cLt a b
def cLe6 (a b : D) : Option Bool := match ntOf a, ntOf b with
  | some x, some y => some (!HT.lexLt (y.1 :: y.2) (x.1 :: x.2))
  | _, _ => cLe a b
@[simp] theorem cLt6_NT (x y : Int × List Int) : cLt6 (dNT x) (dNT y) = some (HT.lexLt (x.1 :: x.2) (y.1 :: y.2)) := by
  unfold cLt6
  rw [ntOf_NT, ntOf_NT]
@[simp] theorem cLe6_NT (x y : Int × List Int) : cLe6 (dNT x) (dNT y) = some (!HT.lexLt (y.1 :: y.2) (x.1 :: x.2)) := by
  unfold cLe6
  rw [ntOf_NT, ntOf_NT]
end
end DL

namespace DL
open PySem PySem.Spec PyProof.Rows L2 TL PySem.W
section
variable {K : PySem.W.Frag} {cls : Cls} {W : WX} {X : Cx} {F H F' H' F1 H1 : Hp} {O O1 : List Addr} {Q : VK} {σ : L2.St} {a b e c : Expr} {ft : Env → Res Bool} {pos : Pos}
theorem Sts.any : ∀ {σ : L2.St} {g : Env} {O : List Addr} {j : Nat} {o : Option V}, Sts K cls F H σ g O → g[j]? = some .un → Sts K cls F H (σ.set j o) g O
  | _, _, _, j, o, .nil, h => by simp at h
  | _, _, _, 0, o, .un r, _ => .un r
  | _, _, _, j + 1, o, .un r, h => .un (r.any (by simpa using h))
  | _, _, _, 0, o, .cons (d := d) w r dj e, h => by
    have h : d = .un := by simpa using h
    subst h
    cases w with
    | sh r => cases r
  | _, _, _, j + 1, o, .cons w r dj e, h => .cons w (r.any (by simpa using h)) dj e
end
end DL

namespace DL
open PySem PySem.Spec PyProof.Rows L2 TL PySem.W
section
variable {K : PySem.W.Frag} {cls : Cls} {W : WX} {X : Cx} {F H F' H' F1 H1 : Hp} {O O1 : List Addr} {Q : VK} {σ : L2.St} {a b e c o : Expr} {fo : Env → Res D} {pos apos cpos : Pos}
def eIndexS (fa fb : Env → Res D) : Env → Res D := fun g => (fa g).bind fun d => match opd d with
  | .ls xs => match strsOf xs with
    | some L => (fb g).bind fun e => match opd e with
      | .str l => if l ∈ L ∧ (L.all fun z => PyData.strOk z) = true ∧ PyData.strOk l = true then .ok (.int (L.idxOf l : Nat)) else .bad
      | _ => .bad
    | none => .bad
  | _ => .bad
@[simp] theorem eIndexS_ (fa fb : Env → Res D) (g : Env) : eIndexS fa fb g = (fa g).bind fun d => match opd d with
  | .ls xs => match strsOf xs with
    | some L => (fb g).bind fun e => match opd e with
      | .str l => if l ∈ L ∧ (L.all fun z => PyData.strOk z) = true ∧ PyData.strOk l = true then .ok (.int (L.idxOf l : Nat)) else .bad
      | _ => .bad
    | none => .bad
  | _ => .bad := rfl
end
end DL

noncomputable section
namespace Lw
open DL
end Lw
end

namespace Lw
open DL
end Lw

namespace Lw
open DL
end Lw

namespace Lw
open DL
def EndsOk (n : Int) (l : List (Int × Int)) : Prop := ∀ p ∈ l, (0 ≤ p.1 ∧ p.1 < n) ∧ 0 ≤ p.2 ∧ p.2 < n
theorem EndsOk.app {n : Int} {l m : List (Int × Int)} (h : EndsOk n l) (h' : EndsOk n m) : EndsOk n (l ++ m) := fun p hp => (List.mem_append.mp hp).elim (h p) (h' p)
theorem EndsOk.one {n : Int} {a b : Int} (h : (0 ≤ a ∧ a < n) ∧ 0 ≤ b ∧ b < n) : EndsOk n [(a, b)] := fun p hp => by simp at hp; subst hp; exact h
theorem cut_mem {α : Type} {l : List α} {lo hi : Option Int} {a : α} (h : a ∈ cut l lo hi) : a ∈ l := by
  unfold cut at h
  exact List.mem_of_mem_drop (List.mem_of_mem_take h)
theorem EndsOk.cut {n : Int} {l : List (Int × Int)} (h : EndsOk n l) (lo hi : Option Int) : EndsOk n (cut l lo hi) := fun p hp => h p (cut_mem hp)
end Lw

namespace Lw
open DL
end Lw

noncomputable section
namespace Lw
open DL
def f_Web_init_l1 : Env → Out := sIf (tOr_ (tNo (tCh cLe cLt (eC (.int 0)) (eVar 3) (eVar 1))) (tNo (tCh cLe cLt (eC (.int 0)) (eVar 4) (eVar 1)))) (sRaise 1) (sNil)
def f_Web_init : Env → Out := sSeq (sIf (tOr_ (tNo (tCh cLe cLe (eC (.int 1)) (eVar 1) (eC (.int 14)))) (tC2 cGt (eCall caLen (aCons (eVar 2) (aNil))) (eC (.int 30)))) (sRaise 1) (sNil)) (sSeq (sFor (iSeq (eVar 2)) (gtT 2 (gtCons (gtN 3) (gtCons (gtN 4) (gtNil)))) f_Web_init_l1) (sSeq (sFld 0 14 0 (eVar 1)) (sFld 0 14 1 (eCall caList (aCons (eVar 2) (aNil))))))
def g_Web_init : List D → Res (List D) := mirI f_Web_init 14 5
end Lw
end

namespace Lw
open DL
theorem web_init_l1 (p : Int) (x0 x2 : D) : ∀ (l : List (Int × Int)) (y3 y4 : D), EndsOk p l →
    ∃ z3 z4, forL (gtT 2 (gtCons (gtN 3) (gtCons (gtN 4) (gtNil)))) f_Web_init_l1 (l.map dP) [x0, .int p, x2, y3, y4] = .nx [x0, .int p, x2, z3, z4]
  | [], y3, y4, _ => ⟨y3, y4, by simp [forL]⟩
  | (a, b) :: l, y3, y4, h => by
    obtain ⟨⟨h1, h2⟩, h3, h4⟩ := h (a, b) (List.mem_cons_self ..)
    obtain ⟨z3, z4, e⟩ := web_init_l1 p x0 x2 l (.int a) (.int b) fun q hq => h q (List.mem_cons_of_mem _ hq)
    refine ⟨z3, z4, ?_⟩
    rw [← e]
    simp at h1 h2 h3 h4
    simp [forL, f_Web_init_l1, h1, h2, h3, h4]
theorem web_init_ok (p : Int) (l : List (Int × Int)) (h1 : 1 ≤ p) (h2 : p ≤ 14) (h3 : l.length ≤ 30) (h4 : EndsOk p l) : g_Web_init [.int p, .ls (l.map dP)] = .ok [.int p, .ol (l.map dP)] := by
  refine mirI_eq fun x => ?_
  obtain ⟨z3, z4, e⟩ := web_init_l1 p (.oo (some x) 14 []) (.ls (l.map dP)) l .un .un h4
  have h5 : ¬ (30 < (l.length : Int)) := by omega
  simp [runI, f_Web_init, h1, h2, h5, e, outI]
def goodAux (count : Int) : Int → List Int → Bool
  | _, [] => true
  | a, x :: l => !(decide (x ≤ a)) && !(decide (x ≥ count)) && goodAux count x l
def goodB (count : Int) (l : List Int) : Bool := goodAux count (-1) l
end Lw

noncomputable section
namespace Lw
open DL
def f_marks_over_c1 : Env → Res D := eIf (tC2 cEq (eVar 8) (eVar 7)) (eVar 6) (eVar 8)
def f_marks_over_l1 : Env → Out := sSeq (sAsgT (gtT 2 (gtCons (gtN 4) (gtCons (gtN 5) (gtNil)))) (eBin opIx (eUn (opFld 14 1) (eVar 0)) (eVar 3))) (sSeq (sAsgF 6 (eCall caMin2 (aCons (eBin opIx (eVar 2) (eVar 4)) (aCons (eBin opIx (eVar 2) (eVar 5)) (aNil))))) (sSeq (sAsgF 7 (eCall caMax2 (aCons (eBin opIx (eVar 2) (eVar 4)) (aCons (eBin opIx (eVar 2) (eVar 5)) (aNil))))) (sAsgF 2 (eLc (iSeq (eVar 2)) [8] (gtN 8) (tYesG) f_marks_over_c1))))
def f_marks_over : Env → Out := sSeq (sAsgF 2 (eLR1 (eUn (opFld 14 0) (eVar 0)))) (sSeq (sFor (iSeq (eVar 1)) (gtN 3) f_marks_over_l1) (sRetV 2))
def g_marks_over : List D → Res D := runF f_marks_over 9
end Lw
end

namespace Lw
open DL L2
def nth (m : List Int) (i : Int) : Int := m.getD i.toNat 0
theorem nth_at {m : List Int} {i : Int} (h0 : 0 ≤ i) (h1 : i < m.length) : atI m i = some (nth m i) := by
  obtain ⟨a, e, e2⟩ := DL.atI_of h0 h1
  rw [e]; simp [nth, List.getD_eq_getElem?_getD, e2]
def tieAt (ts : List (Int × Int)) (i : Int) : Int × Int := ts.getD i.toNat (0, 0)
theorem tie_at {ts : List (Int × Int)} {i : Int} (h0 : 0 ≤ i) (h1 : i < ts.length) : atI ts i = some (tieAt ts i) ∧ tieAt ts i ∈ ts := by
  obtain ⟨a, e, e2⟩ := DL.atI_of h0 h1
  have : tieAt ts i = a := by simp [tieAt, List.getD_eq_getElem?_getD, e2]
  rw [this]
  exact ⟨e, List.mem_of_getElem? e2⟩
def stepM (m : List Int) (t : Int × Int) : List Int := m.map fun x => if x = max (nth m t.1) (nth m t.2) then min (nth m t.1) (nth m t.2) else x
def marksM (p : Nat) (ts : List (Int × Int)) (l : List Int) : List Int := l.foldl (fun m t => stepM m (tieAt ts t)) (iota p)
theorem stepM_len (m : List Int) (t : Int × Int) : (stepM m t).length = m.length := by simp [stepM]
theorem foldM_len (ts : List (Int × Int)) : ∀ (l m : List Int), (l.foldl (fun m t => stepM m (tieAt ts t)) m).length = m.length
  | [], m => rfl
  | t :: l, m => by rw [List.foldl_cons, foldM_len ts l, stepM_len]
theorem marksM_len (p : Nat) (ts : List (Int × Int)) (l : List Int) : (marksM p ts l).length = p := by simp [marksM, foldM_len]
def InT (n : Nat) (l : List Int) : Prop := ∀ t ∈ l, 0 ≤ t ∧ t < n
theorem goodAux_in (n : Nat) : ∀ (l : List Int) (a : Int), -1 ≤ a → goodAux n a l = true → InT n l
  | [], _, _, _ => fun _ h => nomatch h
  | x :: l, a, ha, h => by
    simp only [goodAux, Bool.and_eq_true, Bool.not_eq_true', decide_eq_false_iff_not] at h
    obtain ⟨⟨h1, h2⟩, h3⟩ := h
    intro t ht
    rcases List.mem_cons.mp ht with rfl | ht
    · omega
    · exact goodAux_in n l x (by omega) h3 t ht
theorem good_in {n : Nat} {l : List Int} (h : goodB n l = true) : InT n l := goodAux_in n l (-1) (by omega) h
theorem marks_l1 (p : Int) (ts : List (Int × Int)) (hE : EndsOk p ts) (hp : p ≤ 1000) (x1 : D) : ∀ (l m : List Int) (y3 y4 y5 y6 y7 y8 : D), (m.length : Int) = p → InT ts.length l → y8 = .un →
    ∃ z3 z4 z5 z6 z7, forL (gtN 3) f_marks_over_l1 (l.map D.int) [.ob 14 [.int p, .ls (ts.map dP)], x1, .ls (m.map D.int), y3, y4, y5, y6, y7, y8] = .nx [.ob 14 [.int p, .ls (ts.map dP)], x1, .ls ((l.foldl (fun m t => stepM m (tieAt ts t)) m).map D.int), z3, z4, z5, z6, z7, .un]
  | [], m, y3, y4, y5, y6, y7, y8, _, _, h8 => ⟨y3, y4, y5, y6, y7, by subst h8; simp [forL]⟩
  | t :: l, m, y3, y4, y5, y6, y7, y8, hm, hl, h8 => by
    subst h8
    obtain ⟨t0, t1⟩ := hl t (List.mem_cons_self ..)
    obtain ⟨e1, e2⟩ := tie_at t0 t1
    obtain ⟨⟨a0, a1⟩, b0, b1⟩ := hE _ e2
    have ea := nth_at (m := m) a0 (by omega)
    have eb := nth_at (m := m) b0 (by omega)
    obtain ⟨z3, z4, z5, z6, z7, ih⟩ := marks_l1 p ts hE hp x1 l (stepM m (tieAt ts t)) (.int t) (.int (tieAt ts t).1) (.int (tieAt ts t).2) (.int (min (nth m (tieAt ts t).1) (nth m (tieAt ts t).2))) (.int (max (nth m (tieAt ts t).1) (nth m (tieAt ts t).2))) .un (by rw [stepM_len]; exact hm) (fun t h => hl t (List.mem_cons_of_mem _ h)) rfl
    refine ⟨z3, z4, z5, z6, z7, ?_⟩
    rw [List.foldl_cons, ← ih]
    have lc : lcL (gtN 8) tYesG f_marks_over_c1 [.ob 14 [.int p, .ls (ts.map dP)], x1, .ls (m.map D.int), .int t, .int (tieAt ts t).1, .int (tieAt ts t).2, .int (min (nth m (tieAt ts t).1) (nth m (tieAt ts t).2)), .int (max (nth m (tieAt ts t).1) (nth m (tieAt ts t).2)), .un] (m.map D.int) = .ok ((stepM m (tieAt ts t)).map D.int) := by
      unfold stepM
      rw [← map_int]
      refine lcL_mapN m fun x _ => ?_
      by_cases hx : x = max (nth m (tieAt ts t).1) (nth m (tieAt ts t).2) <;> simp [f_marks_over_c1, hx]
    have hlim : m.length ≤ lim := by rw [lim_eq]; omega
    simp [forL, f_marks_over_l1, e1, ea, eb, lc, hlim]
theorem marks_ok_tp (p : Int) (ts : List (Int × Int)) (hE : EndsOk p ts) (h1 : 1 ≤ p) (h2 : p ≤ 1000) (l : List Int) (hl : InT ts.length l) : g_marks_over [.ob 14 [.int p, .ls (ts.map dP)], .tp (l.map D.int)] = .ok (.ls ((marksM p.toNat ts l).map D.int)) := by
  obtain ⟨z3, z4, z5, z6, z7, e⟩ := marks_l1 p ts hE h2 (.tp (l.map D.int)) l (iota p.toNat) .un .un .un .un .un .un (by simp; omega) hl rfl
  have hr : rgOk p := rgOk_of (by omega) (by omega)
  have h3 : p ≤ 1000000 := by omega
  simp [g_marks_over, runF, f_marks_over, hr, h3, rng_iota, e, marksM]
theorem marks_ok_ls (p : Int) (ts : List (Int × Int)) (hE : EndsOk p ts) (h1 : 1 ≤ p) (h2 : p ≤ 1000) (l : List Int) (hl : InT ts.length l) : g_marks_over [.ob 14 [.int p, .ls (ts.map dP)], .ls (l.map D.int)] = .ok (.ls ((marksM p.toNat ts l).map D.int)) := by
  obtain ⟨z3, z4, z5, z6, z7, e⟩ := marks_l1 p ts hE h2 (.ls (l.map D.int)) l (iota p.toNat) .un .un .un .un .un .un (by simp; omega) hl rfl
  have hr : rgOk p := rgOk_of (by omega) (by omega)
  have h3 : p ≤ 1000000 := by omega
  simp [g_marks_over, runF, f_marks_over, hr, h3, rng_iota, e, marksM]
end Lw

noncomputable section
namespace Lw
open DL
end Lw
end

namespace Lw
open DL L2
def stepL (m : List Int) (t : Int × Int) : List Int := if nth m t.1 = nth m t.2 then m else m.map fun x => if x = nth m t.2 then nth m t.1 else x
def marksL (p : Nat) (ts : List (Int × Int)) (l : List Int) : List Int := l.foldl (fun m t => stepL m (tieAt ts t)) (iota p)
theorem stepL_len (m : List Int) (t : Int × Int) : (stepL m t).length = m.length := by unfold stepL; split <;> simp
theorem foldL_len (ts : List (Int × Int)) : ∀ (l m : List Int), (l.foldl (fun m t => stepL m (tieAt ts t)) m).length = m.length
  | [], m => rfl
  | t :: l, m => by rw [List.foldl_cons, foldL_len ts l, stepL_len]
theorem marksL_len (p : Nat) (ts : List (Int × Int)) (l : List Int) : (marksL p ts l).length = p := by simp [marksL, foldL_len]
def SameP (p : Nat) (m m' : List Int) : Prop := ∀ i j : Int, 0 ≤ i → i < p → 0 ≤ j → j < p → (nth m i = nth m j ↔ nth m' i = nth m' j)
theorem nth_map {m : List Int} {f : Int → Int} {i : Int} (h0 : 0 ≤ i) (h1 : i < m.length) : nth (m.map f) i = f (nth m i) := by
  unfold nth
  have : i.toNat < m.length := by omega
  simp [List.getD_eq_getElem?_getD, List.getElem?_map, List.getElem?_eq_getElem this]
theorem same_step {p : Nat} {m m' : List Int} {t : Int × Int} (h : SameP p m m') (hm : m.length = p) (hm' : m'.length = p) (ht : (0 ≤ t.1 ∧ t.1 < p) ∧ 0 ≤ t.2 ∧ t.2 < p) : SameP p (stepM m t) (stepL m' t) := by
  obtain ⟨⟨a0, a1⟩, b0, b1⟩ := ht
  intro i j i0 i1 j0 j1
  have hab := h t.1 t.2 a0 a1 b0 b1
  have hia := h i t.1 i0 i1 a0 a1
  have hib := h i t.2 i0 i1 b0 b1
  have hja := h j t.1 j0 j1 a0 a1
  have hjb := h j t.2 j0 j1 b0 b1
  have hij := h i j i0 i1 j0 j1
  unfold stepM stepL
  rw [nth_map i0 (by omega), nth_map j0 (by omega)]
  by_cases c : nth m' t.1 = nth m' t.2
  · rw [if_pos c]
    have c' := hab.mpr c
    rw [← hij]
    rw [show max (nth m t.1) (nth m t.2) = nth m t.2 by omega, show min (nth m t.1) (nth m t.2) = nth m t.2 by omega]
    by_cases q1 : nth m i = nth m t.2 <;> by_cases q2 : nth m j = nth m t.2 <;> simp [q1, q2]
  · rw [if_neg c, nth_map i0 (by omega), nth_map j0 (by omega)]
    have c' : ¬ nth m t.1 = nth m t.2 := fun z => c (hab.mp z)
    generalize nth m t.1 = a at *
    generalize nth m t.2 = b at *
    generalize nth m' t.1 = a' at *
    generalize nth m' t.2 = b' at *
    generalize nth m i = x at *
    generalize nth m j = y at *
    generalize nth m' i = x' at *
    generalize nth m' j = y' at *
    rcases Int.le_total a b with z | z
    · rw [show max a b = b by omega, show min a b = a by omega]
      by_cases u1 : x = b <;> by_cases u2 : y = b <;> by_cases u3 : x' = b' <;> by_cases u4 : y' = b' <;> simp_all <;> omega
    · rw [show max a b = a by omega, show min a b = b by omega]
      by_cases u1 : x = a <;> by_cases u2 : y = a <;> by_cases u3 : x' = b' <;> by_cases u4 : y' = b' <;> simp_all <;> omega
end Lw

namespace Lw
open DL L2
theorem same_fold (p : Nat) (ts : List (Int × Int)) (hE : EndsOk p ts) : ∀ (l m m' : List Int), SameP p m m' → m.length = p → m'.length = p → InT ts.length l → SameP p (l.foldl (fun m t => stepM m (tieAt ts t)) m) (l.foldl (fun m t => stepL m (tieAt ts t)) m')
  | [], _, _, h, _, _, _ => h
  | t :: l, m, m', h, hm, hm', hl => by
    obtain ⟨t0, t1⟩ := hl t (List.mem_cons_self ..)
    exact same_fold p ts hE l _ _ (same_step h hm hm' (hE _ (tie_at t0 t1).2)) (by rw [stepM_len]; exact hm) (by rw [stepL_len]; exact hm') fun t h => hl t (List.mem_cons_of_mem _ h)
theorem same_marks (p : Nat) (ts : List (Int × Int)) (hE : EndsOk p ts) (l : List Int) (hl : InT ts.length l) : SameP p (marksM p ts l) (marksL p ts l) :=
  same_fold p ts hE l _ _ (fun _ _ _ _ _ _ => Iff.rfl) (by simp) (by simp) hl
theorem nth_mem {m : List Int} {i : Int} (h0 : 0 ≤ i) (h1 : i < m.length) : nth m i ∈ m := by
  have : i.toNat < m.length := by omega
  unfold nth
  rw [List.getD_eq_getElem?_getD, List.getElem?_eq_getElem this]
  exact List.getElem_mem this
theorem mem_nth {m : List Int} {x : Int} (h : x ∈ m) : ∃ i : Int, 0 ≤ i ∧ i < m.length ∧ nth m i = x := by
  obtain ⟨i, hi, e⟩ := List.mem_iff_getElem.mp h
  refine ⟨i, by omega, by omega, ?_⟩
  unfold nth
  simp [List.getD_eq_getElem?_getD, List.getElem?_eq_getElem hi, e]
theorem sset_one {m : List Int} (h : 1 ≤ m.length) : (sset m).length = 1 ↔ ∀ i : Int, 0 ≤ i → i < m.length → nth m i = nth m 0 := by
  constructor
  · intro e i i0 i1
    obtain ⟨x, hx⟩ := List.length_eq_one_iff.mp e
    have a := (sset_mem (nth m i) m).mpr (nth_mem i0 i1)
    have b := (sset_mem (nth m 0) m).mpr (nth_mem (Int.le_refl 0) (by omega))
    rw [hx] at a b
    rw [List.mem_singleton.mp a, List.mem_singleton.mp b]
  · intro k
    have : sset m = [nth m 0] := rise_uniq (sset_rise m) (by simp) fun x => by
      rw [sset_mem, List.mem_singleton]
      constructor
      · intro hx
        obtain ⟨i, i0, i1, rfl⟩ := mem_nth hx
        exact k i i0 i1
      · rintro rfl
        exact nth_mem (Int.le_refl 0) (by omega)
    rw [this]; rfl
def up (lo : Int) : Nat → List Int
  | 0 => []
  | k + 1 => lo :: up (lo + 1) k
end Lw

namespace Lw
open DL L2
inductive Conn (es : List (Int × Int)) : Int → Int → Prop
  | refl (a : Int) : Conn es a a
  | tie {a b : Int} : (a, b) ∈ es → Conn es a b
  | symm {a b : Int} : Conn es a b → Conn es b a
  | trans {a b c : Int} : Conn es a b → Conn es b c → Conn es a c
theorem Conn.mono {es fs : List (Int × Int)} (h : ∀ e ∈ es, e ∈ fs) {a b : Int} (c : Conn es a b) : Conn fs a b := by
  induction c with
  | refl a => exact .refl a
  | tie h' => exact .tie (h _ h')
  | symm _ ih => exact ih.symm
  | trans _ _ ih1 ih2 => exact ih1.trans ih2
theorem Conn.le {es fs : List (Int × Int)} (h : ∀ e ∈ es, Conn fs e.1 e.2) {a b : Int} (c : Conn es a b) : Conn fs a b := by
  induction c with
  | refl a => exact .refl a
  | tie h' => exact h _ h'
  | symm _ ih => exact ih.symm
  | trans _ _ ih1 ih2 => exact ih1.trans ih2
theorem conn_snoc {es : List (Int × Int)} {t : Int × Int} {i j : Int} : Conn (es ++ [t]) i j ↔ Conn es i j ∨ (Conn es i t.1 ∧ Conn es t.2 j) ∨ (Conn es i t.2 ∧ Conn es t.1 j) := by
  constructor
  · intro c
    induction c with
    | refl a => exact .inl (.refl a)
    | tie h =>
      rcases List.mem_append.mp h with h | h
      · exact .inl (.tie h)
      · simp at h
        subst h
        exact .inr (.inl ⟨.refl _, .refl _⟩)
    | symm _ ih =>
      rcases ih with h | ⟨h1, h2⟩ | ⟨h1, h2⟩
      · exact .inl h.symm
      · exact .inr (.inr ⟨h2.symm, h1.symm⟩)
      · exact .inr (.inl ⟨h2.symm, h1.symm⟩)
    | trans _ _ ih1 ih2 =>
      rcases ih1 with h | ⟨h1, h2⟩ | ⟨h1, h2⟩ <;> rcases ih2 with k | ⟨k1, k2⟩ | ⟨k1, k2⟩
      · exact .inl (h.trans k)
      · exact .inr (.inl ⟨h.trans k1, k2⟩)
      · exact .inr (.inr ⟨h.trans k1, k2⟩)
      · exact .inr (.inl ⟨h1, h2.trans k⟩)
      · exact .inl ((h1.trans (h2.trans k1).symm).trans k2)
      · exact .inl (h1.trans k2)
      · exact .inr (.inr ⟨h1, h2.trans k⟩)
      · exact .inl (h1.trans k2)
      · exact .inl ((h1.trans (h2.trans k1).symm).trans k2)
  · have m : ∀ {a b}, Conn es a b → Conn (es ++ [t]) a b := fun c => c.mono fun e h => List.mem_append_left _ h
    have ht : Conn (es ++ [t]) t.1 t.2 := .tie (List.mem_append_right _ (by simp))
    rintro (h | ⟨h1, h2⟩ | ⟨h1, h2⟩)
    · exact m h
    · exact ((m h1).trans ht).trans (m h2)
    · exact ((m h1).trans ht.symm).trans (m h2)
theorem conn_nil {i j : Int} (c : Conn [] i j) : i = j := by
  induction c with
  | refl a => rfl
  | tie h => exact (nomatch h)
  | symm _ ih => exact ih.symm
  | trans _ _ ih1 ih2 => exact ih1.trans ih2
def mk (p : Nat) (es : List (Int × Int)) : List Int := es.foldl stepL (iota p)
theorem mk_len (p : Nat) (es : List (Int × Int)) : (mk p es).length = p := by
  have : ∀ (es : List (Int × Int)) (m : List Int), (es.foldl stepL m).length = m.length := by
    intro es
    induction es with
    | nil => intro m; rfl
    | cons t es ih => intro m; rw [List.foldl_cons, ih, stepL_len]
  unfold mk
  rw [this]; simp
theorem mk_snoc (p : Nat) (es : List (Int × Int)) (t : Int × Int) : mk p (es ++ [t]) = stepL (mk p es) t := by simp [mk, List.foldl_append]
theorem marksL_mk (p : Nat) (ts : List (Int × Int)) (l : List Int) : marksL p ts l = mk p (l.map (tieAt ts)) := by unfold marksL mk; rw [List.foldl_map]
theorem nth_iota {p : Nat} {i : Int} (h0 : 0 ≤ i) (h1 : i < p) : nth (iota p) i = i := by
  have : i.toNat < p := by omega
  unfold nth iota
  rw [List.getD_eq_getElem?_getD, List.getElem?_map, List.getElem?_range this]
  simp; omega
theorem stepL_same {m : List Int} {t : Int × Int} {i j : Int} (hi : 0 ≤ i ∧ i < m.length) (hj : 0 ≤ j ∧ j < m.length) :
    nth (stepL m t) i = nth (stepL m t) j ↔ nth m i = nth m j ∨ (nth m i = nth m t.1 ∧ nth m t.2 = nth m j) ∨ (nth m i = nth m t.2 ∧ nth m t.1 = nth m j) := by
  unfold stepL
  by_cases c : nth m t.1 = nth m t.2
  · rw [if_pos c, c]
    constructor
    · exact .inl
    · rintro (h | ⟨h1, h2⟩ | ⟨h1, h2⟩)
      · exact h
      · exact h1.trans h2
      · exact h1.trans h2
  · rw [if_neg c, nth_map hi.1 hi.2, nth_map hj.1 hj.2]
    generalize nth m t.1 = a at *
    generalize nth m t.2 = b at *
    generalize nth m i = x at *
    generalize nth m j = y at *
    by_cases u1 : x = b <;> by_cases u2 : y = b <;> simp [u1, u2] <;> omega
theorem mk_conn (p : Nat) : ∀ (n : Nat) (es : List (Int × Int)), es.length = n → EndsOk p es → ∀ i j : Int, 0 ≤ i → i < p → 0 ≤ j → j < p → (nth (mk p es) i = nth (mk p es) j ↔ Conn es i j)
  | 0, es, hn, hE, i, j, i0, i1, j0, j1 => by
    obtain rfl := List.eq_nil_of_length_eq_zero hn
    show nth (iota p) i = nth (iota p) j ↔ _
    rw [nth_iota i0 i1, nth_iota j0 j1]
    constructor
    · rintro rfl; exact .refl _
    · exact conn_nil
  | n + 1, es, hn, hE, i, j, i0, i1, j0, j1 => by
    have hne : es ≠ [] := by intro z; subst z; simp at hn
    have hsp := List.dropLast_concat_getLast hne
    generalize es.dropLast = fs at hsp
    generalize es.getLast hne = t at hsp
    subst hsp
    have hf : EndsOk p fs := fun e h => hE e (List.mem_append_left _ h)
    have ht := hE t (List.mem_append_right _ (by simp))
    have ih := mk_conn p n fs (by simpa using hn) hf
    rw [mk_snoc, stepL_same ⟨i0, by rw [mk_len]; exact i1⟩ ⟨j0, by rw [mk_len]; exact j1⟩, conn_snoc, ih i j i0 i1 j0 j1, ih i t.1 i0 i1 ht.1.1 ht.1.2, ih t.2 j ht.2.1 ht.2.2 j0 j1, ih i t.2 i0 i1 ht.2.1 ht.2.2, ih t.1 j ht.1.1 ht.1.2 j0 j1]
end Lw

namespace Lw
open DL L2
theorem nodup_le : ∀ {l m : List Int}, l.Nodup → (∀ x ∈ l, x ∈ m) → l.length ≤ m.length
  | [], m, _, _ => Nat.zero_le _
  | x :: l, m, h, k => by
    have hx := k x (List.mem_cons_self ..)
    obtain ⟨h1, h2⟩ := List.nodup_cons.mp h
    have := nodup_le (l := l) (m := m.erase x) h2 fun y hy => (List.mem_erase_of_ne (fun (z : y = x) => h1 (by rw [← z]; exact hy))).mpr (k y (List.mem_cons_of_mem _ hy))
    rw [List.length_erase_of_mem hx] at this
    have hp : 0 < m.length := List.length_pos_of_mem hx
    simp only [List.length_cons]
    omega
theorem idx_nth {m : List Int} {x : Int} (h : x ∈ m) : ((m.idxOf x : Nat) : Int) < m.length ∧ nth m (m.idxOf x : Nat) = x := by
  have hl := List.idxOf_lt_length_of_mem h
  refine ⟨by omega, ?_⟩
  unfold nth
  simp [List.getD_eq_getElem?_getD, List.getElem?_eq_getElem hl, List.getElem_idxOf]
theorem sset_le {m m' : List Int} (hl : m.length = m'.length) (h : ∀ i j : Int, 0 ≤ i → i < m.length → 0 ≤ j → j < m.length → nth m i = nth m j → nth m' i = nth m' j) : (sset m').length ≤ (sset m).length := by
  have : (sset m').length ≤ ((sset m).map fun x => nth m' (m.idxOf x : Nat)).length := by
    refine nodup_le (rise_nodup (sset_rise m')) fun y hy => ?_
    obtain ⟨i, i0, i1, rfl⟩ := mem_nth ((sset_mem y m').mp hy)
    have hx : nth m i ∈ m := nth_mem i0 (by omega)
    obtain ⟨k1, k2⟩ := idx_nth hx
    refine List.mem_map.mpr ⟨nth m i, (sset_mem _ m).mpr hx, ?_⟩
    exact h _ i (by omega) k1 i0 (by omega) k2
  simpa using this
theorem same_cnt {p : Nat} {m m' : List Int} (h : SameP p m m') (hm : m.length = p) (hm' : m'.length = p) : (sset m).length = (sset m').length :=
  Nat.le_antisymm (sset_le (by omega) fun i j i0 i1 j0 j1 e => (h i j i0 (by omega) j0 (by omega)).mpr e) (sset_le (by omega) fun i j i0 i1 j0 j1 e => (h i j i0 (by omega) j0 (by omega)).mp e)
def cnt (p : Nat) (es : List (Int × Int)) : Nat := (sset (mk p es)).length
theorem cnt_le {p : Nat} {es fs : List (Int × Int)} (h1 : EndsOk p es) (h2 : EndsOk p fs) (h : ∀ e ∈ es, Conn fs e.1 e.2) : cnt p fs ≤ cnt p es := by
  refine sset_le (by rw [mk_len, mk_len]) fun i j i0 i1 j0 j1 e => ?_
  rw [mk_len] at i1 j1
  rw [mk_conn p _ es rfl h1 i j i0 i1 j0 j1] at e
  exact (mk_conn p _ fs rfl h2 i j i0 i1 j0 j1).mpr (e.le h)
theorem cnt_eq {p : Nat} {es fs : List (Int × Int)} (h1 : EndsOk p es) (h2 : EndsOk p fs) (h : ∀ e ∈ es, Conn fs e.1 e.2) (h' : ∀ e ∈ fs, Conn es e.1 e.2) : cnt p es = cnt p fs :=
  Nat.le_antisymm (cnt_le h2 h1 h') (cnt_le h1 h2 h)
theorem cnt_set {p : Nat} {es fs : List (Int × Int)} (h1 : EndsOk p es) (h2 : EndsOk p fs) (h : ∀ e, e ∈ es ↔ e ∈ fs) : cnt p es = cnt p fs :=
  cnt_eq h1 h2 (fun e he => .tie ((h e).mp he)) fun e he => .tie ((h e).mpr he)
theorem cnt_nil (p : Nat) : cnt p [] = p := by
  show (sset (iota p)).length = p
  rw [rise_uniq (sset_rise (iota p)) (m := iota p) ?_ fun k => sset_mem k _]
  · simp
  · unfold iota
    rw [List.pairwise_map]
    exact List.pairwise_lt_range.imp fun h => by omega
theorem cnt_same {p : Nat} {es : List (Int × Int)} {t : Int × Int} (h : EndsOk p (es ++ [t])) (c : Conn es t.1 t.2) : cnt p (es ++ [t]) = cnt p es := by
  refine cnt_eq h (fun e he => h e (List.mem_append_left _ he)) (fun e he => ?_) fun e he => .tie (List.mem_append_left _ he)
  rcases List.mem_append.mp he with z | z
  · exact .tie z
  · simp at z; subst z; exact c
theorem sset_step {m : List Int} {t : Int × Int} (h1 : 0 ≤ t.1 ∧ t.1 < m.length) (h2 : 0 ≤ t.2 ∧ t.2 < m.length) (n : nth m t.1 ≠ nth m t.2) : (sset (stepL m t)).length + 1 = (sset m).length := by
  have hb : nth m t.2 ∈ sset m := (sset_mem _ m).mpr (nth_mem h2.1 h2.2)
  have nd := rise_nodup (sset_rise m)
  have e : sset (stepL m t) = (sset m).erase (nth m t.2) := by
    refine rise_uniq (sset_rise _) ((sset_rise m).sublist List.erase_sublist) fun k => ?_
    rw [sset_mem, nd.mem_erase_iff, sset_mem]
    unfold stepL
    rw [if_neg n, List.mem_map]
    constructor
    · rintro ⟨x, hx, rfl⟩
      by_cases c : x = nth m t.2
      · rw [if_pos c]; exact ⟨n, nth_mem h1.1 h1.2⟩
      · rw [if_neg c]; exact ⟨c, hx⟩
    · rintro ⟨c, hx⟩
      exact ⟨k, hx, if_neg c⟩
  rw [e, List.length_erase_of_mem hb]
  have := List.length_pos_of_mem hb
  omega
theorem cnt_new {p : Nat} {es : List (Int × Int)} {t : Int × Int} (h : EndsOk p (es ++ [t])) (c : ¬ Conn es t.1 t.2) : cnt p (es ++ [t]) + 1 = cnt p es := by
  have ht := h t (by simp)
  have hf : EndsOk p es := fun e he => h e (List.mem_append_left _ he)
  unfold cnt
  rw [mk_snoc]
  refine sset_step ⟨ht.1.1, by rw [mk_len]; exact ht.1.2⟩ ⟨ht.2.1, by rw [mk_len]; exact ht.2.2⟩ fun e => c ?_
  exact (mk_conn p _ es rfl hf t.1 t.2 ht.1.1 ht.1.2 ht.2.1 ht.2.2).mp e
theorem cnt_pos {p : Nat} (hp : 1 ≤ p) (es : List (Int × Int)) : 1 ≤ cnt p es := by
  have : nth (mk p es) 0 ∈ sset (mk p es) := (sset_mem _ _).mpr (nth_mem (Int.le_refl 0) (by rw [mk_len]; omega))
  exact List.length_pos_of_mem this
theorem snoc_of {α : Type} {es : List α} {n : Nat} (h : es.length = n + 1) : ∃ fs t, es = fs ++ [t] ∧ fs.length = n := by
  have hne : es ≠ [] := by intro z; subst z; simp at h
  exact ⟨es.dropLast, es.getLast hne, (List.dropLast_concat_getLast hne).symm, by simp; omega⟩
theorem cnt_lo (p : Nat) : ∀ (n : Nat) (es : List (Int × Int)), es.length = n → EndsOk p es → p ≤ cnt p es + n
  | 0, es, hn, hE => by
    obtain rfl := List.eq_nil_of_length_eq_zero hn
    rw [cnt_nil]; omega
  | n + 1, es, hn, hE => by
    obtain ⟨fs, t, rfl, hl⟩ := snoc_of hn
    have ih := cnt_lo p n fs hl fun e he => hE e (List.mem_append_left _ he)
    by_cases c : Conn fs t.1 t.2
    · rw [cnt_same hE c]; omega
    · have := cnt_new hE c; omega
theorem cnt_one {p : Nat} (hp : 1 ≤ p) {es : List (Int × Int)} (hE : EndsOk p es) : cnt p es = 1 ↔ ∀ i j : Int, 0 ≤ i → i < p → 0 ≤ j → j < p → Conn es i j := by
  unfold cnt
  rw [sset_one (by rw [mk_len]; exact hp), mk_len]
  constructor
  · intro h i j i0 i1 j0 j1
    exact (mk_conn p _ es rfl hE i j i0 i1 j0 j1).mp ((h i i0 i1).trans (h j j0 j1).symm)
  · intro h i i0 i1
    exact (mk_conn p _ es rfl hE i 0 i0 i1 (by omega) (by omega)).mpr (h i 0 i0 i1 (by omega) (by omega))
def tiesAt (ts : List (Int × Int)) (l : List Int) : List (Int × Int) := l.map (tieAt ts)
theorem tiesAt_ok {p : Int} {ts : List (Int × Int)} (hE : EndsOk p ts) {l : List Int} (hl : InT ts.length l) : EndsOk p (tiesAt ts l) := fun e he => by
  obtain ⟨t, ht, rfl⟩ := List.mem_map.mp he
  obtain ⟨t0, t1⟩ := hl t ht
  exact hE _ (tie_at t0 t1).2
theorem cntM (p : Nat) (ts : List (Int × Int)) (hE : EndsOk p ts) (l : List Int) (hl : InT ts.length l) : (sset (marksM p ts l)).length = cnt p (tiesAt ts l) := by
  rw [same_cnt (same_marks p ts hE l hl) (marksM_len ..) (marksL_len ..), marksL_mk]; rfl
theorem nthM (p : Nat) (ts : List (Int × Int)) (hE : EndsOk p ts) (l : List Int) (hl : InT ts.length l) (i j : Int) (i0 : 0 ≤ i) (i1 : i < p) (j0 : 0 ≤ j) (j1 : j < p) : nth (marksM p ts l) i = nth (marksM p ts l) j ↔ Conn (tiesAt ts l) i j := by
  rw [same_marks p ts hE l hl i j i0 i1 j0 j1, marksL_mk]
  exact mk_conn p _ _ rfl (tiesAt_ok hE hl) i j i0 i1 j0 j1
theorem nthL (p : Nat) (ts : List (Int × Int)) (hE : EndsOk p ts) (l : List Int) (hl : InT ts.length l) (i j : Int) (i0 : 0 ≤ i) (i1 : i < p) (j0 : 0 ≤ j) (j1 : j < p) : nth (marksL p ts l) i = nth (marksL p ts l) j ↔ Conn (tiesAt ts l) i j := by
  rw [marksL_mk]
  exact mk_conn p _ _ rfl (tiesAt_ok hE hl) i j i0 i1 j0 j1
def treeB (p : Int) (ts : List (Int × Int)) (l : List Int) : Bool := decide ((l.length : Int) = p - 1) && goodB ts.length l && decide (cnt p.toNat (tiesAt ts l) = 1)
end Lw

noncomputable section
namespace Lw
open DL
def f_is_tree_l1 : Env → Out := sSeq (sIf (tOr_ (tC2 cLe (eVar 3) (eVar 2)) (tC2 cGe (eVar 3) (eCall caLen (aCons (eUn (opFld 14 1) (eVar 0)) (aNil))))) (sRet (eC (.bl false))) (sNil)) (sAsgF 2 (eVar 3))
def f_is_tree : Env → Out := sSeq (sIf (tC2 cNe (eCall caLen (aCons (eVar 1) (aNil))) (eBin opSub (eUn (opFld 14 0) (eVar 0)) (eC (.int 1)))) (sRet (eC (.bl false))) (sNil)) (sSeq (sAsgF 2 (eUn opNeg (eC (.int 1)))) (sSeq (sFor (iSeq (eVar 1)) (gtN 3) f_is_tree_l1) (sRet (eB (tC2 cEq (eLenSet (eOwn g_marks_over (aCons (eVar 0) (aCons (eVar 1) (aNil))))) (eC (.int 1)))))))
def g_is_tree : List D → Res D := runF f_is_tree 4
end Lw
end

namespace Lw
open DL L2
theorem tree_l1 (p : Int) (ts : List (Int × Int)) (x1 : D) : ∀ (l : List Int) (a : Int) (y3 : D),
    (goodAux ts.length a l = true ∧ ∃ z2 z3, forL (gtN 3) f_is_tree_l1 (l.map D.int) [.ob 14 [.int p, .ls (ts.map dP)], x1, .int a, y3] = .nx [.ob 14 [.int p, .ls (ts.map dP)], x1, z2, z3]) ∨
    (goodAux ts.length a l = false ∧ forL (gtN 3) f_is_tree_l1 (l.map D.int) [.ob 14 [.int p, .ls (ts.map dP)], x1, .int a, y3] = .rt (.bl false))
  | [], a, y3 => .inl ⟨rfl, .int a, y3, by simp [forL]⟩
  | x :: l, a, y3 => by
    by_cases c1 : x ≤ a
    · exact .inr ⟨by simp [goodAux, c1], by simp [forL, f_is_tree_l1, c1]⟩
    · by_cases c2 : (ts.length : Int) ≤ x
      · exact .inr ⟨by simp [goodAux, c2], by simp [forL, f_is_tree_l1, c1, c2]⟩
      · have e : goodAux ts.length a (x :: l) = goodAux ts.length x l := by simp [goodAux, c1, c2]
        have e2 : forL (gtN 3) f_is_tree_l1 ((x :: l).map D.int) [.ob 14 [.int p, .ls (ts.map dP)], x1, .int a, y3] = forL (gtN 3) f_is_tree_l1 (l.map D.int) [.ob 14 [.int p, .ls (ts.map dP)], x1, .int x, .int x] := by
          simp [forL, f_is_tree_l1, c1, c2]
        rw [e, e2]
        exact tree_l1 p ts x1 l x (.int x)
theorem is_tree_ls (p : Int) (ts : List (Int × Int)) (hE : EndsOk p ts) (h1 : 1 ≤ p) (h2 : p ≤ 1000) (l : List Int) : g_is_tree [.ob 14 [.int p, .ls (ts.map dP)], .ls (l.map D.int)] = .ok (.bl (treeB p ts l)) := by
  by_cases c : (l.length : Int) = p - 1
  · rcases tree_l1 p ts (.ls (l.map D.int)) l (-1) .un with ⟨h, z2, z3, e⟩ | ⟨h, e⟩
    · have hg : goodB ts.length l = true := h
      have mo := marks_ok_ls p ts hE h1 h2 l (good_in hg)
      have hz : p ≤ 4000 := by omega
      have hE' : EndsOk (p.toNat : Int) ts := by rw [show (p.toNat : Int) = p by omega]; exact hE
      have hc := cntM p.toNat ts hE' l (good_in hg)
      simp [g_is_tree, runF, f_is_tree, c, e, mo, marksM_len, hz, treeB, hg, hc]
      omega
    · have hg : goodB ts.length l = false := h
      simp [g_is_tree, runF, f_is_tree, c, e, treeB, hg]
  · simp [g_is_tree, runF, f_is_tree, c, treeB]
theorem is_tree_tp (p : Int) (ts : List (Int × Int)) (hE : EndsOk p ts) (h1 : 1 ≤ p) (h2 : p ≤ 1000) (l : List Int) : g_is_tree [.ob 14 [.int p, .ls (ts.map dP)], .tp (l.map D.int)] = .ok (.bl (treeB p ts l)) := by
  by_cases c : (l.length : Int) = p - 1
  · rcases tree_l1 p ts (.tp (l.map D.int)) l (-1) .un with ⟨h, z2, z3, e⟩ | ⟨h, e⟩
    · have hg : goodB ts.length l = true := h
      have mo := marks_ok_tp p ts hE h1 h2 l (good_in hg)
      have hz : p ≤ 4000 := by omega
      have hE' : EndsOk (p.toNat : Int) ts := by rw [show (p.toNat : Int) = p by omega]; exact hE
      have hc := cntM p.toNat ts hE' l (good_in hg)
      simp [g_is_tree, runF, f_is_tree, c, e, mo, marksM_len, hz, treeB, hg, hc]
      omega
    · have hg : goodB ts.length l = false := h
      simp [g_is_tree, runF, f_is_tree, c, e, treeB, hg]
  · simp [g_is_tree, runF, f_is_tree, c, treeB]
end Lw

noncomputable section
namespace Lw
open DL
end Lw
end

namespace Lw
open DL L2
theorem goodAux_of {n : Int} : ∀ {l : List Int} {a : Int}, (∀ x ∈ l, a < x ∧ x < n) → l.Pairwise (· < ·) → goodAux n a l = true
  | [], _, _, _ => rfl
  | x :: l, a, h, hp => by
    obtain ⟨h1, h2⟩ := List.pairwise_cons.mp hp
    have hx := h x (List.mem_cons_self ..)
    simp only [goodAux, Bool.and_eq_true, Bool.not_eq_true', decide_eq_false_iff_not]
    exact ⟨⟨by omega, by omega⟩, goodAux_of (fun y hy => ⟨h1 y hy, (h y (List.mem_cons_of_mem _ hy)).2⟩) h2⟩
theorem good_of {n : Nat} {l : List Int} (h : InT n l) (hp : l.Pairwise (· < ·)) : goodB n l = true :=
  goodAux_of (fun x hx => ⟨by have := h x hx; omega, (h x hx).2⟩) hp
theorem srt_mem {l : List Int} {x : Int} : x ∈ srt l ↔ x ∈ l := (srt_perm l).mem_iff
theorem srt_lt {l : List Int} (h : l.Nodup) : (srt l).Pairwise (· < ·) := by
  have h1 := srt_sorted l
  have h2 : (srt l).Nodup := (srt_perm l).nodup_iff.mpr h
  exact (h1.and h2).imp fun ⟨a, b⟩ => by omega
theorem srt_good {n : Nat} {l : List Int} (h : InT n l) (hn : l.Nodup) : goodB n (srt l) = true := good_of (fun t ht => h t (srt_mem.mp ht)) (srt_lt hn)
theorem tiesAt_mem {ts : List (Int × Int)} {l m : List Int} (h : ∀ x, x ∈ l ↔ x ∈ m) : ∀ e, e ∈ tiesAt ts l ↔ e ∈ tiesAt ts m := fun e => by
  unfold tiesAt
  simp only [List.mem_map, h]
theorem iota_nodup (n : Nat) : (iota n).Nodup := by
  unfold iota
  exact List.Pairwise.map _ (fun a b h => by omega) List.nodup_range
theorem iota_mem {n : Nat} {x : Int} : x ∈ iota n ↔ 0 ≤ x ∧ x < n := by
  unfold iota
  simp only [List.mem_map, List.mem_range]
  constructor
  · rintro ⟨a, h, rfl⟩; omega
  · intro ⟨h0, h1⟩; exact ⟨x.toNat, by omega, by omega⟩
structure Grown (p : Nat) (ts : List (Int × Int)) (i : Nat) (left some : List Int) : Prop where
  len : left.length + i = ts.length
  nd : left.Nodup
  lin : InT ts.length left
  snd : some.Nodup
  sin : InT ts.length some
  sl : ∀ x ∈ some, x ∉ left
  ct : cnt p (tiesAt ts some) + some.length = p
  al : ∀ t : Int, 0 ≤ t ∧ t < ts.length → t ∉ left → Conn (tiesAt ts some) (tieAt ts t).1 (tieAt ts t).2
end Lw

noncomputable section
namespace Lw
open DL
end Lw
end

namespace Lw
open DL L2 TL
section
variable (L : List (List Int))
@[simp] theorem brws_T : brws (L.map dT) = L.map dT := (dulls dull_T L).1
@[simp] theorem frzs_T : frzs (L.map dT) = L.map dT := (dulls dull_T L).2.1
@[simp] theorem plns_T : plns (L.map dT) = L.map dT := (dulls dull_T L).2.2.1
@[simp] theorem nods_T : nods (L.map dT) = true := (dulls dull_T L).2.2.2.1
@[simp] theorem shd_T : shd (L.map dT) = true := (dulls dull_T L).2.2.2.2.1
@[simp] theorem ploks_T : ploks (L.map dT) = true := (dulls dull_T L).2.2.2.2.2
end
theorem goodAux_rise {n : Int} : ∀ {l : List Int} {a : Int}, goodAux n a l = true → (∀ x ∈ l, a < x) ∧ l.Pairwise (· < ·)
  | [], _, _ => ⟨fun _ h => (nomatch h), .nil⟩
  | x :: l, a, g => by
    simp only [goodAux, Bool.and_eq_true, Bool.not_eq_true', decide_eq_false_iff_not] at g
    obtain ⟨h1, h2⟩ := goodAux_rise g.2
    refine ⟨fun y hy => ?_, List.pairwise_cons.mpr ⟨h1, h2⟩⟩
    rcases List.mem_cons.mp hy with rfl | hy
    · omega
    · have := h1 y hy; omega
theorem good_iff {n : Nat} {l : List Int} : goodB n l = true ↔ InT n l ∧ l.Pairwise (· < ·) := ⟨fun h => ⟨good_in h, (goodAux_rise h).2⟩, fun h => good_of h.1 h.2⟩
theorem good_nodup {n : Nat} {l : List Int} (h : goodB n l = true) : l.Nodup := rise_nodup (good_iff.mp h).2
def allB (q : Nat) : Nat → List (List Int)
  | 0 => [[]]
  | k + 1 => allB q k ++ ((allB q k).filter fun l => decide (l.length < q)).map (· ++ [(k : Int)])
theorem allB_mem (q : Nat) : ∀ (k : Nat) (l : List Int), l ∈ allB q k ↔ l.length ≤ q ∧ goodB k l = true
  | 0, l => by
    simp only [allB, List.mem_singleton]
    constructor
    · rintro rfl; simp [goodB, goodAux]
    · rintro ⟨_, h⟩
      match l, good_in h with
      | [], _ => rfl
      | x :: l, h => have := h x (List.mem_cons_self ..); omega
  | k + 1, l => by
    simp only [allB, List.mem_append, List.mem_map, List.mem_filter, decide_eq_true_eq, allB_mem q k]
    constructor
    · rintro (⟨h1, h2⟩ | ⟨m, ⟨⟨h1, h2⟩, h3⟩, rfl⟩)
      · obtain ⟨k1, k2⟩ := good_iff.mp h2
        exact ⟨h1, good_of (fun t ht => by have := k1 t ht; omega) k2⟩
      · obtain ⟨k1, k2⟩ := good_iff.mp h2
        refine ⟨by simp; omega, good_of (fun t ht => ?_) ?_⟩
        · rcases List.mem_append.mp ht with z | z
          · have := k1 t z; omega
          · simp at z; omega
        · rw [List.pairwise_append]
          exact ⟨k2, List.pairwise_singleton _ _, fun a ha b hb => by simp at hb; have := k1 a ha; omega⟩
    · rintro ⟨h1, h2⟩
      obtain ⟨k1, k2⟩ := good_iff.mp h2
      by_cases hk : (k : Int) ∈ l
      · right
        have hne : l ≠ [] := List.ne_nil_of_mem hk
        have hs := List.dropLast_concat_getLast hne
        generalize l.dropLast = m at hs
        generalize l.getLast hne = x at hs
        subst hs
        rw [List.pairwise_append] at k2
        obtain ⟨p1, _, p3⟩ := k2
        have hx := k1 x (by simp)
        have ex : x = (k : Int) := by
          rcases List.mem_append.mp hk with z | z
          · have := p3 _ z x (by simp); omega
          · simp at z; exact z.symm
        subst ex
        refine ⟨m, ⟨⟨by simp at h1; omega, good_of (fun t ht => ?_) p1⟩, by simp at h1; omega⟩, rfl⟩
        have a := k1 t (List.mem_append_left _ ht)
        have b := p3 t ht (k : Int) (by simp)
        omega
      · left
        refine ⟨h1, good_of (fun t ht => ?_) k2⟩
        have := k1 t ht
        have ne : t ≠ (k : Int) := fun z => hk (z ▸ ht)
        omega
theorem allB_nodup (q : Nat) : ∀ k : Nat, (allB q k).Nodup
  | 0 => by simp [allB]
  | k + 1 => by
    simp only [allB]
    rw [List.nodup_append]
    refine ⟨allB_nodup q k, ?_, fun a ha b hb e => ?_⟩
    · refine List.Pairwise.map _ (fun a b h e => h ?_) ((allB_nodup q k).filter _)
      simpa using e
    · obtain ⟨m, _, rfl⟩ := List.mem_map.mp hb
      subst e
      have := good_in ((allB_mem q k _).mp ha).2 (k : Int) (by simp)
      omega
theorem allB_len (q : Nat) : ∀ k : Nat, (allB q k).length ≤ 2 ^ k
  | 0 => by simp [allB]
  | k + 1 => by
    have := allB_len q k
    have h2 := List.length_filter_le (fun l : List Int => decide (l.length < q)) (allB q k)
    simp only [allB, List.length_append, List.length_map, Nat.pow_succ]
    omega
theorem tree_parts' {p : Nat} {ts : List (Int × Int)} {l : List Int} (h : treeB p ts l = true) : (l.length : Int) = p - 1 ∧ goodB ts.length l = true ∧ InT ts.length l ∧ cnt p (tiesAt ts l) = 1 := by
  simp only [treeB, Bool.and_eq_true, decide_eq_true_eq, Int.toNat_natCast] at h
  exact ⟨h.1.1, h.1.2, good_in h.1.2, h.2⟩
def trees (p : Nat) (ts : List (Int × Int)) : List (List Int) := srtL ((allB (p - 1) ts.length).filter (treeB p ts))
theorem trees_mem {p : Nat} (hp : 1 ≤ p) {ts : List (Int × Int)} {l : List Int} : l ∈ trees p ts ↔ treeB p ts l = true := by
  unfold trees
  rw [(srtL_perm _).mem_iff, List.mem_filter, allB_mem]
  constructor
  · exact fun h => h.2
  · intro h
    obtain ⟨k1, k2, _⟩ := tree_parts' h
    exact ⟨⟨by omega, k2⟩, h⟩
theorem trees_nodup (p : Nat) (ts : List (Int × Int)) : (trees p ts).Nodup := (srtL_perm _).nodup_iff.mpr ((allB_nodup _ _).filter _)
theorem trees_len (p : Nat) (ts : List (Int × Int)) : (trees p ts).length ≤ 2 ^ ts.length := by
  unfold trees
  rw [srtL_len]
  exact Nat.le_trans (List.length_filter_le ..) (allB_len _ _)
end Lw

namespace Lw
open DL L2 TL
structure Ind (p : Nat) (ts : List (Int × Int)) (J : List Int) : Prop where
  nd : J.Nodup
  inn : InT ts.length J
  ct : cnt p (tiesAt ts J) + J.length = p
theorem tiesAt_snoc (ts : List (Int × Int)) (J : List Int) (t : Int) : tiesAt ts (J ++ [t]) = tiesAt ts J ++ [tieAt ts t] := by simp [tiesAt]
theorem conn_at {ts : List (Int × Int)} {J : List Int} {t : Int} (h : t ∈ J) : Conn (tiesAt ts J) (tieAt ts t).1 (tieAt ts t).2 := .tie (List.mem_map.mpr ⟨t, h, rfl⟩)
theorem conn_sub {ts : List (Int × Int)} {J S : List Int} (h : ∀ x ∈ J, x ∈ S) {a b : Int} (c : Conn (tiesAt ts J) a b) : Conn (tiesAt ts S) a b :=
  c.mono fun e he => by
    obtain ⟨t, ht, rfl⟩ := List.mem_map.mp he
    exact List.mem_map.mpr ⟨t, h t ht, rfl⟩
theorem Ind.snoc {p : Nat} {ts : List (Int × Int)} (hE : EndsOk p ts) {J : List Int} (h : Ind p ts J) {t : Int} (t0 : 0 ≤ t ∧ t < ts.length) (c : ¬ Conn (tiesAt ts J) (tieAt ts t).1 (tieAt ts t).2) : Ind p ts (J ++ [t]) := by
  have hin : InT ts.length (J ++ [t]) := fun x hx => by
    rcases List.mem_append.mp hx with z | z
    · exact h.inn x z
    · simp at z; subst z; exact t0
  refine ⟨?_, hin, ?_⟩
  · rw [List.nodup_append]
    refine ⟨h.nd, by simp, fun a ha b hb e => ?_⟩
    simp at hb
    subst hb
    subst e
    exact c (conn_at ha)
  · have := cnt_new (p := p) (es := tiesAt ts J) (t := tieAt ts t) (by rw [← tiesAt_snoc]; exact tiesAt_ok hE hin) c
    have := h.ct
    rw [tiesAt_snoc, List.length_append, List.length_singleton]
    omega
theorem ind_ext {p : Nat} {ts : List (Int × Int)} (hE : EndsOk p ts) : ∀ (S J : List Int), Ind p ts J → InT ts.length S → ∃ J', Ind p ts J' ∧ (∀ x ∈ J, x ∈ J') ∧ (∀ x ∈ J', x ∈ J ∨ x ∈ S) ∧ ∀ t ∈ S, Conn (tiesAt ts J') (tieAt ts t).1 (tieAt ts t).2
  | [], J, h, _ => ⟨J, h, fun _ h => h, fun _ h => .inl h, fun _ h => (nomatch h)⟩
  | t :: S, J, h, hS => by
    by_cases c : Conn (tiesAt ts J) (tieAt ts t).1 (tieAt ts t).2
    · obtain ⟨J', h1, h2, h3, h4⟩ := ind_ext hE S J h fun x hx => hS x (List.mem_cons_of_mem _ hx)
      refine ⟨J', h1, h2, fun x hx => (h3 x hx).imp id (List.mem_cons_of_mem _), fun x hx => ?_⟩
      rcases List.mem_cons.mp hx with rfl | hx
      · exact conn_sub h2 c
      · exact h4 x hx
    · obtain ⟨J', h1, h2, h3, h4⟩ := ind_ext hE S (J ++ [t]) (h.snoc hE (hS t (List.mem_cons_self ..)) c) fun x hx => hS x (List.mem_cons_of_mem _ hx)
      refine ⟨J', h1, fun x hx => h2 x (List.mem_append_left _ hx), fun x hx => ?_, fun x hx => ?_⟩
      · rcases h3 x hx with z | z
        · rcases List.mem_append.mp z with z | z
          · exact .inl z
          · simp at z; subst z; exact .inr (List.mem_cons_self ..)
        · exact .inr (List.mem_cons_of_mem _ z)
      · rcases List.mem_cons.mp hx with rfl | hx
        · exact conn_at (h2 x (List.mem_append_right _ (by simp)))
        · exact h4 x hx
theorem ind_nil (p : Nat) (ts : List (Int × Int)) : Ind p ts [] := ⟨by simp, fun _ h => (nomatch h), by simp [tiesAt, cnt_nil]⟩
theorem treeB_nat {p : Nat} {ts : List (Int × Int)} {l : List Int} : treeB p ts l = true ↔ (l.length : Int) = p - 1 ∧ goodB ts.length l = true ∧ cnt p (tiesAt ts l) = 1 := by
  simp only [treeB, Bool.and_eq_true, decide_eq_true_eq, Int.toNat_natCast, and_assoc]
theorem cnt_srt {p : Nat} {ts : List (Int × Int)} (hE : EndsOk p ts) {l : List Int} (h : InT ts.length l) : cnt p (tiesAt ts (srt l)) = cnt p (tiesAt ts l) :=
  cnt_set (tiesAt_ok hE fun t ht => h t (srt_mem.mp ht)) (tiesAt_ok hE h) (tiesAt_mem fun x => srt_mem)
theorem tree_between {p : Nat} (hp : 1 ≤ p) {ts : List (Int × Int)} (hE : EndsOk p ts) {I S : List Int} (hI : Ind p ts I) (hs : ∀ x ∈ I, x ∈ S) (hS : InT ts.length S) (hc : cnt p (tiesAt ts S) = 1) :
    ∃ T, treeB p ts T = true ∧ (∀ x ∈ I, x ∈ T) ∧ ∀ x ∈ T, x ∈ S := by
  obtain ⟨J, h1, h2, h3, h4⟩ := ind_ext hE S I hI hS
  have hJS : ∀ x ∈ J, x ∈ S := fun x hx => (h3 x hx).elim (hs x) id
  have c1 : cnt p (tiesAt ts J) ≤ cnt p (tiesAt ts S) := cnt_le (tiesAt_ok hE hS) (tiesAt_ok hE h1.inn) fun e he => by
    obtain ⟨t, ht, rfl⟩ := List.mem_map.mp he
    exact h4 t ht
  have c2 := cnt_pos hp (tiesAt ts J)
  have c3 := h1.ct
  refine ⟨srt J, treeB_nat.mpr ⟨?_, srt_good h1.inn h1.nd, ?_⟩, fun x hx => srt_mem.mpr (h2 x hx), fun x hx => hJS x (srt_mem.mp hx)⟩
  · rw [srt_len]; omega
  · rw [cnt_srt hE h1.inn]; omega
theorem tree_ind {p : Nat} {ts : List (Int × Int)} {T : List Int} (h : treeB p ts T = true) (hp : 1 ≤ p) : Ind p ts T := by
  obtain ⟨h1, h2, h3⟩ := treeB_nat.mp h
  exact ⟨good_nodup h2, good_in h2, by omega⟩
theorem Ind.sub {p : Nat} {ts : List (Int × Int)} (hE : EndsOk p ts) {J K : List Int} (h : Ind p ts J) (hn : K.Nodup) (hs : ∀ x ∈ K, x ∈ J) : Ind p ts K := by
  have hK : InT ts.length K := fun x hx => h.inn x (hs x hx)
  refine ⟨hn, hK, ?_⟩
  obtain ⟨K', k1, k2, k3, k4⟩ := ind_ext hE K [] (ind_nil p ts) hK
  obtain ⟨J', j1, j2, j3, j4⟩ := ind_ext hE J K' k1 h.inn
  have hKK : K'.length ≤ K.length := nodup_le k1.nd fun x hx => (k3 x hx).elim (fun z => (nomatch z)) id
  have e1 : cnt p (tiesAt ts K') = cnt p (tiesAt ts K) := cnt_eq (tiesAt_ok hE k1.inn) (tiesAt_ok hE hK)
    (fun e he => by
      obtain ⟨t, ht, rfl⟩ := List.mem_map.mp he
      exact conn_at ((k3 t ht).elim (fun z => (nomatch z)) id))
    (fun e he => by
      obtain ⟨t, ht, rfl⟩ := List.mem_map.mp he
      exact k4 t ht)
  -- as many as there are: else J would have a ring
  have hJJ : J'.length = J.length := by
    have a : cnt p (tiesAt ts J') = cnt p (tiesAt ts J) := cnt_eq (tiesAt_ok hE j1.inn) (tiesAt_ok hE h.inn)
      (fun e he => by
        obtain ⟨t, ht, rfl⟩ := List.mem_map.mp he
        refine conn_at ?_
        rcases j3 t ht with z | z
        · exact hs t ((k3 t z).elim (fun z => (nomatch z)) id)
        · exact z)
      (fun e he => by
        obtain ⟨t, ht, rfl⟩ := List.mem_map.mp he
        exact j4 t ht)
    have := j1.ct
    have := h.ct
    omega
  have sub : ∀ x ∈ J', x ∈ J := fun x hx => by
    rcases j3 x hx with z | z
    · exact hs x ((k3 x z).elim (fun z => (nomatch z)) id)
    · exact z
  have all : ∀ x ∈ J, x ∈ J' := fun x hx => by
    rcases Classical.em (x ∈ J') with z | z
    · exact z
    · have := nodup_le (l := x :: J') (m := J) (List.nodup_cons.mpr ⟨z, j1.nd⟩) fun y hy => by
        rcases List.mem_cons.mp hy with rfl | hy
        · exact hx
        · exact sub y hy
      simp at this
      omega
  -- each of K is in K': else it would be put in to K' behind, though hung together
  have hKl : K.length ≤ K'.length := by
    refine nodup_le hn fun x hx => ?_
    rcases Classical.em (x ∈ K') with z | z
    · exact z
    · exfalso
      have hxJ := all x (hs x hx)
      -- J' less x hangs together what J' does
      have c := k4 x hx
      have i1 : InT ts.length (J'.erase x) := fun y hy => j1.inn y (List.mem_of_mem_erase hy)
      have sub2 : ∀ y ∈ K', y ∈ J'.erase x := fun y hy => (List.mem_erase_of_ne (fun (e : y = x) => z (by rw [← e]; exact hy))).mpr (j2 y hy)
      have e2 : cnt p (tiesAt ts (J'.erase x)) = cnt p (tiesAt ts J') := cnt_eq (tiesAt_ok hE i1) (tiesAt_ok hE j1.inn)
        (fun e he => by
          obtain ⟨t, ht, rfl⟩ := List.mem_map.mp he
          exact conn_at (List.mem_of_mem_erase ht))
        (fun e he => by
          obtain ⟨t, ht, rfl⟩ := List.mem_map.mp he
          by_cases ee : t = x
          · subst ee; exact conn_sub sub2 c
          · exact conn_at ((List.mem_erase_of_ne ee).mpr ht))
      have lo := cnt_lo p _ _ rfl (tiesAt_ok hE i1)
      have l2 : (tiesAt ts (J'.erase x)).length = J'.length - 1 := by rw [tiesAt, List.length_map, List.length_erase_of_mem hxJ]
      have hp := List.length_pos_of_mem hxJ
      have := j1.ct
      omega
  rw [← e1]
  have := k1.ct
  omega
end Lw

noncomputable section
namespace Lw
open DL
def f_look_at_tree : Env → Out := sIf (tNo (tTr (eOwn g_is_tree (aCons (eVar 0) (aCons (eVar 1) (aNil)))))) (sRaise 4) (sNil)
def g_look_at_tree : List D → Res D := runF f_look_at_tree 2
def f_without_tie_c1 : Env → Res D := eVar 2
def f_without_tie_c1t : Env → Res Bool := tC2 cNe (eVar 2) (eVar 1)
def f_without_tie : Env → Out := sRet (eCall caTuple (aCons (eLc (iSeq (eVar 0)) [2] (gtN 2) (f_without_tie_c1t) f_without_tie_c1) (aNil)))
def g_without_tie : List D → Res D := runF f_without_tie 3
end Lw
end

noncomputable section
namespace Lw
open DL
def f_cut_of_c1 : Env → Res D := eVar 4
def f_cut_of_c1t : Env → Res Bool := tC2 cNe (eBin opIx (eVar 3) (eBin opIx (eVar 5) (eC (.int 0)))) (eBin opIx (eVar 3) (eBin opIx (eVar 5) (eC (.int 1))))
def f_cut_of : Env → Out := sSeq (sExp (eOwn g_look_at_tree (aCons (eVar 0) (aCons (eVar 1) (aNil))))) (sSeq (sIf (tC2 cNIn (eVar 2) (eVar 1)) (sRaise 5) (sNil)) (sSeq (sAsgF 3 (eOwn g_marks_over (aCons (eVar 0) (aCons (eOwn g_without_tie (aCons (eVar 1) (aCons (eVar 2) (aNil)))) (aNil))))) (sRet (eCall caTuple (aCons (eLc (iEnm (aCons (eUn (opFld 14 1) (eVar 0)) (aNil))) [4, 5] (gtT 2 (gtCons (gtN 4) (gtCons (gtN 5) (gtNil)))) (f_cut_of_c1t) f_cut_of_c1) (aNil))))))
def g_cut_of : List D → Res D := runF f_cut_of 6
end Lw
end

namespace Lw
open DL L2
def LT (o : D) (l : List Int) : Prop := o = .ls (l.map D.int) ∨ o = .tp (l.map D.int)
def wo (l : List Int) (t : Int) : List Int := l.filter fun x => !decide (x = t)
theorem wo_in {n : Nat} {l : List Int} (h : InT n l) (t : Int) : InT n (wo l t) := fun x hx => h x ((List.mem_filter.mp hx).1)
theorem wo_len (l : List Int) (t : Int) : (wo l t).length ≤ l.length := List.length_filter_le ..
theorem is_tree_LT {o : D} (p : Int) (ts : List (Int × Int)) (hE : EndsOk p ts) (h1 : 1 ≤ p) (h2 : p ≤ 1000) (l : List Int) (ho : LT o l) : g_is_tree [.ob 14 [.int p, .ls (ts.map dP)], o] = .ok (.bl (treeB p ts l)) := by
  rcases ho with rfl | rfl
  · exact is_tree_ls p ts hE h1 h2 l
  · exact is_tree_tp p ts hE h1 h2 l
theorem LT_shd {o : D} {l : List Int} (ho : LT o l) : shd1 o = true ∧ brw o = o ∧ opd o = o := by rcases ho with rfl | rfl <;> simp
theorem look_ok {o : D} (p : Int) (ts : List (Int × Int)) (hE : EndsOk p ts) (h1 : 1 ≤ p) (h2 : p ≤ 1000) (l : List Int) (ho : LT o l) (h : treeB p ts l = true) : g_look_at_tree [.ob 14 [.int p, .ls (ts.map dP)], o] = .ok .non := by
  have e := is_tree_LT p ts hE h1 h2 l ho
  rcases ho with rfl | rfl <;> simp [g_look_at_tree, runF, f_look_at_tree, e, h]
theorem without_ok {o : D} (l : List Int) (ho : LT o l) (hl : l.length ≤ 1000) (t : Int) : g_without_tie [o, .int t] = .ok (.tp ((wo l t).map D.int)) := by
  have b1 : l.length ≤ lim := by rw [lim_eq]; omega
  have b2 : (wo l t).length ≤ lim := by have := wo_len l t; omega
  have lc : ∀ g : Env, 2 < g.length → g[1]? = some (.int t) → lcL (gtN 2) f_without_tie_c1t f_without_tie_c1 g (l.map D.int) = .ok ((wo l t).map D.int) := fun g hg e1 => by
    refine lcL_filterN l fun x _ => ?_
    have e2 : (g.set 2 (.int x))[2]? = some (.int x) := by rw [List.getElem?_set_self hg]
    have e3 : (g.set 2 (.int x))[1]? = some (.int t) := by rw [List.getElem?_set_ne (by decide)]; exact e1
    exact ⟨by simp [f_without_tie_c1t, e2, e3], fun _ => by simp [f_without_tie_c1, e2]⟩
  rcases ho with rfl | rfl <;> simp [g_without_tie, runF, f_without_tie, lc, b1, b2]
theorem tree_parts {p : Int} {ts : List (Int × Int)} {l : List Int} (h : treeB p ts l = true) : (l.length : Int) = p - 1 ∧ goodB ts.length l = true ∧ InT ts.length l ∧ cnt p.toNat (tiesAt ts l) = 1 := by
  simp only [treeB, Bool.and_eq_true, decide_eq_true_eq] at h
  exact ⟨h.1.1, h.1.2, good_in h.1.2, h.2⟩
def inC (p : Nat) (ts : List (Int × Int)) (l : List Int) (t : Int) (x : Int) : Bool := !decide (nth (marksM p ts (wo l t)) (tieAt ts x).1 = nth (marksM p ts (wo l t)) (tieAt ts x).2)
def cutL (p : Int) (ts : List (Int × Int)) (l : List Int) (t : Int) : List Int := (iota ts.length).filter (inC p.toNat ts l t)
theorem enm_iota (ts : List (Int × Int)) : enm 0 (ts.map dP) = (iota ts.length).map fun i => (.tp [.int i, dP (tieAt ts i)] : D) := by
  have : ∀ (l pre : List (Int × Int)), ts = pre ++ l → enm pre.length (l.map dP) = (List.range l.length).map fun j => (.tp [.int ((pre.length + j : Nat) : Int), dP (tieAt ts ((pre.length + j : Nat) : Int))] : D) := by
    intro l
    induction l with
    | nil => intro pre _; simp [enm]
    | cons t l ih =>
      intro pre e
      have := ih (pre ++ [t]) (by rw [e]; simp)
      rw [List.map_cons, enm, List.length_cons, List.range_succ_eq_map, List.map_cons, List.map_map]
      simp only [List.length_append, List.length_cons, List.length_nil, Nat.zero_add] at this
      rw [this]
      have et : tieAt ts ((pre.length : Nat) : Int) = t := by simp [tieAt, e]
      simp only [Nat.add_zero, et]
      congr 1
      refine List.map_congr_left fun j _ => ?_
      simp only [Function.comp, Nat.succ_eq_add_one]
      rw [show pre.length + 1 + j = pre.length + (j + 1) by omega]
  have h := this ts [] rfl
  simp only [List.length_nil, Nat.zero_add] at h
  rw [h]
  unfold iota
  rw [List.map_map]
  rfl
theorem cut_ok {o : D} (p : Int) (ts : List (Int × Int)) (hE : EndsOk p ts) (h1 : 1 ≤ p) (h2 : p ≤ 1000) (ht : ts.length ≤ 1000) (l : List Int) (ho : LT o l) (h : treeB p ts l = true) (t : Int) :
    g_cut_of [.ob 14 [.int p, .ls (ts.map dP)], o, .int t] = if t ∈ l then .ok (.tp ((cutL p ts l t).map D.int)) else .xc 5 := by
  obtain ⟨k1, k2, k3, k4⟩ := tree_parts h
  have lk := look_ok p ts hE h1 h2 l ho h
  obtain ⟨s1, s2, s3⟩ := LT_shd ho
  by_cases c : t ∈ l
  · rw [if_pos c]
    have w := without_ok l ho (by omega) t
    have mo := marks_ok_tp p ts hE h1 h2 (wo l t) (wo_in k3 t)
    have ml : (marksM p.toNat ts (wo l t)).length = p.toNat := marksM_len ..
    have b1 : ts.length ≤ lim := by rw [lim_eq]; omega
    have b2 : (cutL p ts l t).length ≤ lim := by
      have := List.length_filter_le (inC p.toNat ts l t) (iota ts.length)
      unfold cutL
      rw [iota_len] at this
      omega
    have lc : ∀ x0 x1 x2 : D, lcL (gtT 2 (gtCons (gtN 4) (gtCons (gtN 5) (gtNil)))) f_cut_of_c1t f_cut_of_c1 [x0, x1, x2, .ls ((marksM p.toNat ts (wo l t)).map D.int), .un, .un] (enm 0 (ts.map dP)) = .ok ((cutL p ts l t).map D.int) := fun x0 x1 x2 => by
      rw [enm_iota]
      refine lcL_filter (iota ts.length) fun i hi => ?_
      obtain ⟨i0, i1⟩ := iota_mem.mp hi
      obtain ⟨e1, e2⟩ := tie_at i0 i1
      obtain ⟨⟨a0, a1⟩, b0, b1⟩ := hE _ e2
      have ea := nth_at (m := marksM p.toNat ts (wo l t)) a0 (by omega)
      have eb := nth_at (m := marksM p.toNat ts (wo l t)) b0 (by omega)
      exact ⟨[x0, x1, x2, .ls ((marksM p.toNat ts (wo l t)).map D.int), .int i, dP (tieAt ts i)], rfl, by simp [f_cut_of_c1t, ea, eb, inC], fun _ => by simp [f_cut_of_c1]⟩
    rcases ho with rfl | rfl <;> simp [g_cut_of, runF, f_cut_of, lk, c, w, mo, lc, b1, b2, enm_len]
  · rw [if_neg c]
    rcases ho with rfl | rfl <;> simp [g_cut_of, runF, f_cut_of, lk, c]
end Lw

noncomputable section
namespace Lw
open DL
end Lw
end

namespace Lw
open DL L2 TL
def swap (l : List Int) (o i : Int) : List Int := srt (wo l o ++ [i])
theorem wo_mem {l : List Int} {t x : Int} : x ∈ wo l t ↔ x ∈ l ∧ x ≠ t := by simp [wo]
theorem wo_nodup {l : List Int} (h : l.Nodup) (t : Int) : (wo l t).Nodup := h.filter _
theorem swap_mem {l : List Int} {o i x : Int} : x ∈ swap l o i ↔ (x ∈ l ∧ x ≠ o) ∨ x = i := by
  unfold swap; rw [srt_mem, List.mem_append, wo_mem]; simp
theorem wo_erase {l : List Int} (h : l.Nodup) (t : Int) : wo l t = l.erase t := by
  rw [h.erase_eq_filter]
  unfold wo
  refine List.filter_congr fun x _ => ?_
  by_cases e : x = t <;> simp [e]
theorem wo_length {l : List Int} (h : l.Nodup) {t : Int} (ht : t ∈ l) : (wo l t).length + 1 = l.length := by
  rw [wo_erase h, List.length_erase_of_mem ht]
  have := List.length_pos_of_mem ht
  omega
theorem swap_tree {p : Nat} (hp : 1 ≤ p) {ts : List (Int × Int)} (hE : EndsOk p ts) {T : List Int} (hT : treeB p ts T = true) {o i : Int} (ho : o ∈ T) (hi : i ∉ T) (hr : 0 ≤ i ∧ i < ts.length) :
    treeB p ts (swap T o i) = true ↔ ¬ Conn (tiesAt ts (wo T o)) (tieAt ts i).1 (tieAt ts i).2 := by
  have hI := tree_ind hT hp
  obtain ⟨h1, h2, h3⟩ := treeB_nat.mp hT
  have hW := hI.sub hE (wo_nodup hI.nd o) (fun x hx => (wo_mem.mp hx).1)
  have hwl := wo_length hI.nd ho
  have hin : InT ts.length (wo T o ++ [i]) := fun x hx => by
    rcases List.mem_append.mp hx with z | z
    · exact hW.inn x z
    · simp at z; subst z; exact hr
  have hnd : (wo T o ++ [i]).Nodup := by
    rw [List.nodup_append]
    refine ⟨hW.nd, by simp, fun a ha b hb e => ?_⟩
    simp at hb
    subst hb; subst e
    exact hi (wo_mem.mp ha).1
  have hct := hW.ct
  have hEs : EndsOk p (tiesAt ts (wo T o) ++ [tieAt ts i]) := by rw [← tiesAt_snoc]; exact tiesAt_ok hE hin
  have e1 : cnt p (tiesAt ts (swap T o i)) = cnt p (tiesAt ts (wo T o) ++ [tieAt ts i]) := by unfold swap; rw [cnt_srt hE hin, tiesAt_snoc]
  rw [treeB_nat]
  constructor
  · rintro ⟨_, _, h⟩ c
    rw [e1, cnt_same hEs c] at h
    omega
  · intro c
    have := cnt_new hEs c
    refine ⟨?_, srt_good hin hnd, by rw [e1]; omega⟩
    unfold swap
    rw [srt_len, List.length_append, List.length_singleton]
    omega
def alone (a b : List Int) : List Int := a.filter fun x => !decide (x ∈ b)
end Lw

namespace Lw
open DL L2 TL
def gr (p : Nat) (ts : List (Int × Int)) : List Int → List Int → List Int
  | [], J => J
  | t :: s, J => if nth (marksM p ts (srt J)) (tieAt ts t).1 = nth (marksM p ts (srt J)) (tieAt ts t).2 then gr p ts s J else gr p ts s (J ++ [t])
theorem conn_srt {ts : List (Int × Int)} {J : List Int} {a b : Int} : Conn (tiesAt ts (srt J)) a b ↔ Conn (tiesAt ts J) a b :=
  ⟨conn_sub fun x hx => srt_mem.mp hx, conn_sub fun x hx => srt_mem.mpr hx⟩
theorem gr_test {p : Nat} {ts : List (Int × Int)} (hE : EndsOk p ts) {J : List Int} (hJ : InT ts.length J) {t : Int} (ht : 0 ≤ t ∧ t < ts.length) : nth (marksM p ts (srt J)) (tieAt ts t).1 = nth (marksM p ts (srt J)) (tieAt ts t).2 ↔ Conn (tiesAt ts J) (tieAt ts t).1 (tieAt ts t).2 := by
  obtain ⟨_, e2⟩ := tie_at ht.1 ht.2
  obtain ⟨⟨a0, a1⟩, b0, b1⟩ := hE _ e2
  rw [nthM p ts hE (srt J) (fun x hx => hJ x (srt_mem.mp hx)) _ _ a0 a1 b0 b1, conn_srt]
theorem gr_ok {p : Nat} {ts : List (Int × Int)} (hE : EndsOk p ts) : ∀ (s J : List Int), Ind p ts J → InT ts.length s → Ind p ts (gr p ts s J) ∧ (∃ K, gr p ts s J = J ++ K ∧ K.Sublist s) ∧ ∀ t ∈ s, Conn (tiesAt ts (gr p ts s J)) (tieAt ts t).1 (tieAt ts t).2
  | [], J, h, _ => ⟨h, ⟨[], by simp [gr], .refl _⟩, fun _ h => (nomatch h)⟩
  | t :: s, J, h, hs => by
    have ht := hs t (List.mem_cons_self ..)
    have hs' : InT ts.length s := fun x hx => hs x (List.mem_cons_of_mem _ hx)
    simp only [gr]
    by_cases c : nth (marksM p ts (srt J)) (tieAt ts t).1 = nth (marksM p ts (srt J)) (tieAt ts t).2
    · rw [if_pos c]
      obtain ⟨k1, ⟨K, k2, k3⟩, k4⟩ := gr_ok hE s J h hs'
      refine ⟨k1, ⟨K, k2, k3.cons t⟩, fun x hx => ?_⟩
      rcases List.mem_cons.mp hx with rfl | hx
      · exact conn_sub (fun y hy => by rw [k2]; exact List.mem_append_left _ hy) ((gr_test hE h.inn ht).mp c)
      · exact k4 x hx
    · rw [if_neg c]
      obtain ⟨k1, ⟨K, k2, k3⟩, k4⟩ := gr_ok hE s (J ++ [t]) (h.snoc hE ht fun z => c ((gr_test hE h.inn ht).mpr z)) hs'
      refine ⟨k1, ⟨t :: K, by rw [k2]; simp, k3.cons₂ t⟩, fun x hx => ?_⟩
      rcases List.mem_cons.mp hx with rfl | hx
      · exact conn_at (by rw [k2]; simp)
      · exact k4 x hx
theorem Ind.le {p : Nat} {ts : List (Int × Int)} (hE : EndsOk p ts) {K J : List Int} (hK : Ind p ts K) (hJ : Ind p ts J) (h : ∀ t ∈ K, Conn (tiesAt ts J) (tieAt ts t).1 (tieAt ts t).2) : K.length ≤ J.length := by
  have : cnt p (tiesAt ts J) ≤ cnt p (tiesAt ts K) := cnt_le (tiesAt_ok hE hK.inn) (tiesAt_ok hE hJ.inn) fun e he => by
    obtain ⟨t, ht, rfl⟩ := List.mem_map.mp he
    exact h t ht
  have := hK.ct
  have := hJ.ct
  omega
theorem filter_split {l : List Int} (h : l.Pairwise (· < ·)) (x : Int) : l = (l.filter fun y => decide (y < x)) ++ l.filter fun y => !decide (y < x) := by
  induction l with
  | nil => rfl
  | cons a l ih =>
    obtain ⟨h1, h2⟩ := List.pairwise_cons.mp h
    by_cases c : a < x
    · rw [List.filter_cons_of_pos (by simpa using c), List.filter_cons_of_neg (by simpa using c), List.cons_append, ← ih h2]
    · rw [List.filter_cons_of_neg (by simpa using c), List.filter_cons_of_pos (by simpa using c)]
      have : (l.filter fun y => decide (y < x)) = [] := List.filter_eq_nil_iff.mpr fun y hy => by have := h1 y hy; simp; omega
      rw [this, List.nil_append]
      congr 1
      refine (List.filter_eq_self.mpr fun y hy => ?_).symm
      have := h1 y hy; simp; omega
end Lw

namespace Lw
open DL L2 TL
theorem iota_rise (n : Nat) : (iota n).Pairwise (· < ·) := by
  unfold iota
  rw [List.pairwise_map]
  exact List.pairwise_lt_range.imp fun h => by omega
section
variable {p : Nat} (hp : 1 ≤ p) {ts : List (Int × Int)} (hE : EndsOk p ts) {T : List Int} (hT : treeB p ts T = true)
include hp hE hT
end
end Lw

namespace Lw
open DL L2 TL
theorem tree_len {p : Nat} (hp : 1 ≤ p) {ts : List (Int × Int)} {N : List Int} (h : treeB p ts N = true) : N.length + 1 = p := by
  have := (treeB_nat.mp h).1
  omega
end Lw

noncomputable section
namespace Lw
open DL
end Lw
end

namespace Lw
open DL L2 TL
theorem blsOf_map : ∀ bs : List Bool, blsOf (bs.map D.bl) = some bs
  | [] => rfl
  | b :: bs => by simp [blsOf, blsOf_map bs]
theorem caAll_bls (bs : List Bool) : caAll [.ls (bs.map D.bl)] = some (.bl (bs.all id)) := by simp [caAll, blsOf_map]
def upL (lo : Int) (n : Nat) : List Int := (List.range (n - lo).toNat).map fun i : Nat => lo + (i : Int)
theorem upL_mem {lo : Int} {n : Nat} {x : Int} : x ∈ upL lo n ↔ lo ≤ x ∧ x < n := by
  unfold upL
  rw [List.mem_map]
  constructor
  · rintro ⟨i, hi, rfl⟩
    rw [List.mem_range] at hi
    omega
  · rintro ⟨h1, h2⟩
    exact ⟨(x - lo).toNat, List.mem_range.mpr (by omega), by omega⟩
theorem upL_rise (lo : Int) (n : Nat) : (upL lo n).Pairwise (· < ·) := by
  unfold upL
  rw [List.pairwise_map]
  exact List.pairwise_lt_range.imp fun h => by omega
def nxt (k : Nat) (s : List Int) : Int := if k = 0 then 0 else nth s (k - 1 : Nat) + 1
def extA (n k : Nat) (s : List Int) : List (List Int) := (upL (nxt k s) n).map fun t => s ++ [t]
def allA (n : Nat) : Nat → List (List Int)
  | 0 => [[]]
  | k + 1 => (allA n k).flatMap (extA n k)
theorem nth_memN {s : List Int} {i : Nat} (h : i < s.length) : nth s (i : Nat) ∈ s := by
  have : nth s (i : Nat) = s[i] := by simp [nth, List.getD_eq_getElem?_getD, List.getElem?_eq_getElem h]
  rw [this]; exact List.getElem_mem h
theorem allA_mem (n : Nat) : ∀ (k : Nat) (l : List Int), l ∈ allA n k ↔ l.length = k ∧ goodB n l = true
  | 0, l => by
    simp only [allA, List.mem_singleton]
    constructor
    · rintro rfl; exact ⟨rfl, good_iff.mpr ⟨fun _ h => (nomatch h), .nil⟩⟩
    · rintro ⟨h, _⟩; exact List.eq_nil_of_length_eq_zero h
  | k + 1, l => by
    simp only [allA, List.mem_flatMap, extA, List.mem_map, upL_mem]
    constructor
    · rintro ⟨s, hs, t, ⟨t0, t1⟩, rfl⟩
      obtain ⟨h1, h2⟩ := (allA_mem n k s).mp hs
      obtain ⟨h3, h4⟩ := good_iff.mp h2
      have h5 : ∀ x ∈ s, x < t := fun x hx => by
        unfold nxt at t0
        by_cases hk : k = 0
        · subst hk
          rw [List.eq_nil_of_length_eq_zero h1] at hx
          exact nomatch hx
        · rw [if_neg hk] at t0
          obtain ⟨i, hi⟩ := List.getElem?_of_mem hx
          have hi2 := (List.getElem?_eq_some_iff.mp hi).1
          have hn : nth s (k - 1 : Nat) = s[k - 1]'(by omega) := by
            simp [nth, List.getD_eq_getElem?_getD, List.getElem?_eq_getElem (show k - 1 < s.length by omega)]
          have hx' : x = s[i] := by rw [List.getElem?_eq_getElem hi2] at hi; cases hi; rfl
          by_cases e : i = k - 1
          · subst e; omega
          · have := List.pairwise_iff_getElem.mp h4 i (k - 1) hi2 (by omega) (by omega)
            omega
      have t2 : 0 ≤ t := by
        unfold nxt at t0
        by_cases hk : k = 0
        · rw [if_pos hk] at t0; exact t0
        · rw [if_neg hk] at t0
          have hm : nth s (k - 1 : Nat) ∈ s := by
            simp [nth, List.getD_eq_getElem?_getD, List.getElem?_eq_getElem (show k - 1 < s.length by omega)]
          have := (h3 _ hm).1
          omega
      refine ⟨by simp [h1], good_iff.mpr ⟨fun x hx => ?_, ?_⟩⟩
      · rcases List.mem_append.mp hx with z | z
        · exact h3 x z
        · simp at z; subst z; exact ⟨t2, t1⟩
      · rw [List.pairwise_append]
        exact ⟨h4, List.pairwise_singleton _ _, fun x hx y hy => by simp at hy; subst hy; exact h5 x hx⟩
    · rintro ⟨h1, h2⟩
      obtain ⟨h3, h4⟩ := good_iff.mp h2
      have hne : l ≠ [] := by intro z; subst z; simp at h1
      have hl := List.dropLast_concat_getLast hne
      refine ⟨l.dropLast, (allA_mem n k _).mpr ⟨by rw [List.length_dropLast]; omega, good_iff.mpr ⟨fun x hx => h3 x ((List.dropLast_sublist l).subset hx), h4.sublist (List.dropLast_sublist l)⟩⟩, l.getLast hne, ⟨?_, (h3 _ (List.getLast_mem hne)).2⟩, hl⟩
      unfold nxt
      by_cases hk : k = 0
      · rw [if_pos hk]; exact (h3 _ (List.getLast_mem hne)).1
      · rw [if_neg hk]
        have hd : l.dropLast.length = k := by rw [List.length_dropLast]; omega
        have hm : nth l.dropLast (k - 1 : Nat) ∈ l.dropLast := nth_memN (by omega)
        rw [← hl, List.pairwise_append] at h4
        have := h4.2.2 _ hm (l.getLast hne) (List.mem_singleton.mpr rfl)
        omega
theorem lex_app : ∀ {a b : List Int}, a.length = b.length → HT.lexLt a b = true → ∀ x y, HT.lexLt (a ++ x) (b ++ y) = true
  | [], [], _, h, _, _ => by rw [HT.lexLt_nil_nil] at h; cases h
  | [], _ :: _, h, _, _, _ => by simp at h
  | _ :: _, [], h, _, _, _ => by simp at h
  | a :: as, b :: bs, hl, h, x, y => by
    rw [List.cons_append, List.cons_append, HT.lexLt_cons]
    rw [HT.lexLt_cons] at h
    by_cases e : a = b
    · rw [if_pos e] at h ⊢
      exact lex_app (by simpa using hl) h x y
    · rw [if_neg e] at h ⊢
      exact h
theorem lex_one : ∀ (s : List Int) {t u : Int}, t < u → HT.lexLt (s ++ [t]) (s ++ [u]) = true
  | [], t, u, h => by
    rw [List.nil_append, List.nil_append, HT.lexLt_cons, if_neg (by omega)]
    simpa using h
  | a :: s, t, u, h => by
    rw [List.cons_append, List.cons_append, HT.lexLt_cons, if_pos rfl]
    exact lex_one s h
theorem lex_irr (a : List Int) : HT.lexLt a a = false := by
  cases q : HT.lexLt a a with
  | false => rfl
  | true => have := NtL.lex_asym _ _ q; rw [q] at this; cases this
theorem allA_len (n : Nat) : ∀ k : Nat, (allA n k).length ≤ n ^ k
  | 0 => by simp [allA]
  | k + 1 => by
    rw [allA, List.length_flatMap]
    have : ∀ l : List (List Int), (∀ s ∈ l, (extA n k s).length ≤ n) → (l.map fun s => (extA n k s).length).sum ≤ l.length * n := fun l => by
      induction l with
      | nil => intro _; simp
      | cons s l ih =>
        intro h
        have h1 := h s (List.mem_cons_self ..)
        have h2 := ih fun x hx => h x (List.mem_cons_of_mem _ hx)
        simp only [List.map_cons, List.sum_cons, List.length_cons, Nat.succ_mul]
        omega
    have h1 := this (allA n k) fun s hs => by
      unfold extA upL
      simp only [List.length_map, List.length_range]
      have : 0 ≤ nxt k s := by
        unfold nxt
        obtain ⟨h1, h2⟩ := (allA_mem n k s).mp hs
        split
        · omega
        · have hm : nth s (k - 1 : Nat) ∈ s := by
            simp [nth, List.getD_eq_getElem?_getD, List.getElem?_eq_getElem (show k - 1 < s.length by omega)]
          have := (good_in h2 _ hm).1
          omega
      omega
    have h2 := Nat.mul_le_mul_right n (allA_len n k)
    rw [Nat.pow_succ]
    exact Nat.le_trans h1 h2
end Lw

namespace Lw
open DL L2 TL
def lsum (L l : List Int) : Int := (l.map (nth L)).sum
theorem perm_sumI {l m : List Int} (h : l.Perm m) : l.sum = m.sum := by
  induction h with
  | nil => rfl
  | cons a _ ih => simp [ih]
  | swap a b l => simp; omega
  | trans _ _ h1 h2 => exact h1.trans h2
theorem lsum_perm {L l m : List Int} (h : l.Perm m) : lsum L l = lsum L m := by
  unfold lsum
  exact perm_sumI (h.map _)
def KLt (L : List Int) (t u : Int) : Prop := nth L t < nth L u ∨ (nth L t = nth L u ∧ t < u)
instance (L : List Int) (t u : Int) : Decidable (KLt L t u) := by unfold KLt; infer_instance
theorem lsum_cons (L : List Int) (a : Int) (l : List Int) : lsum L (a :: l) = nth L a + lsum L l := by simp [lsum]
structure Ord (L : List Int) (n : Nat) (O : List Int) : Prop where
  pm : O.Perm (iota n)
  lt : O.Pairwise (KLt L)
theorem Ord.mem {L : List Int} {n : Nat} {O : List Int} (h : Ord L n O) {x : Int} : x ∈ O ↔ 0 ≤ x ∧ x < n := by rw [h.pm.mem_iff, iota_mem]
section
variable {L : List Int} {p : Nat} {ts : List (Int × Int)} {O : List Int}
end
end Lw

noncomputable section
namespace Lw
open DL
def f_law_at : Env → Out := sSeq (sIf (tC2 cLt (eVar 1) (eCall caLen (aCons (eVar 0) (aNil)))) (sRet (eBin opIx (eVar 0) (eVar 1))) (sNil)) (sRet (eC (.int 0)))
def g_law_at : List D → Res D := runF f_law_at 2
end Lw
end

namespace Lw
open DL L2
theorem at_ok (s : List Int) (k : Int) (hk : 0 ≤ k) : ∃ c : Int, g_law_at [.sc (s.map D.int), .int k] = .ok (.int c) := by
  by_cases h : k < s.length
  · obtain ⟨a, e, _⟩ := DL.atI_of hk h
    exact ⟨a, by simp [g_law_at, runF, f_law_at, h, e]⟩
  · exact ⟨0, by simp [g_law_at, runF, f_law_at, h]⟩
theorem log2_le {n k : Nat} (h : n < 2 ^ k) : n.log2 ≤ k := by
  by_cases h0 : n = 0
  · subst h0; simp
  · exact Nat.le_of_lt ((Nat.log2_lt h0).mpr h)
theorem opMul_500 {a b : Int} (h : a.natAbs < 2 ^ 500) (h' : b.natAbs < 2 ^ 500) : opMul (.int a) (.int b) = some (.int (a * b)) := by
  rw [opMul_eq, if_pos]
  have := log2_le h
  have := log2_le h'
  exact .inr (by omega)
theorem e60_lt : e60 < 2 ^ 250 := by decide
end Lw

namespace Lw
open DL L2
end Lw

noncomputable section
namespace Lw
open DL
def f_look_at_lengths : Env → Out := sIf (tC2 cNe (eCall caLen (aCons (eVar 1) (aNil))) (eCall caLen (aCons (eUn (opFld 14 1) (eVar 0)) (aNil)))) (sRaise 9) (sNil)
def g_look_at_lengths : List D → Res D := runF f_look_at_lengths 2
def f_law_stir : Env → Out := sSeq (sAsgF 2 (eBin opMod (eBin opMul (eBin opAdd (eBin opAdd (eBin opMod (eVar 0) (eBin opPow (eC (.int 10)) (eC (.int 60)))) (eBin opMul (eC (.int 977)) (eVar 1))) (eC (.int 1))) (eC (.int 48271))) (eC (.int 2147483647)))) (sSeq (sAsgF 2 (eBin opMod (eBin opMul (eVar 2) (eVar 2)) (eC (.int 2147483629)))) (sRet (eBin opDiv (eBin opMod (eBin opMul (eBin opAdd (eVar 2) (eBin opMul (eC (.int 40692)) (eBin opAdd (eVar 1) (eC (.int 3))))) (eC (.int 1583458089))) (eC (.int 2147483629))) (eC (.int 8)))))
def g_law_stir : List D → Res D := runF f_law_stir 3
def f_law_numbers_v3_l1 : Env → Out := sSeq (sAsgF 5 (eBin opMod (eBin opIx (eVar 0) (eVar 4)) (eBin opPow (eC (.int 10)) (eC (.int 18))))) (sIf (tC2 cLt (eCall caLen (aCons (eVar 3) (aNil))) (eVar 2)) (sApp 3 (eVar 5)) (sSet 3 (eBin opMod (eVar 4) (eVar 2)) (eBin opMod (eBin opAdd (eBin opMul (eBin opIx (eVar 3) (eBin opMod (eVar 4) (eVar 2))) (eC (.int 10007))) (eVar 5)) (eBin opPow (eC (.int 10)) (eC (.int 18))))))
def f_law_numbers_v3 : Env → Out := sSeq (sAsg 3 (eLst (aNil))) (sSeq (sFor (iRg2 (aCons (eVar 1) (aCons (eCall caLen (aCons (eVar 0) (aNil))) (aNil)))) (gtN 4) f_law_numbers_v3_l1) (sRetV 3))
def g_law_numbers_v3 : List D → Res D := runF f_law_numbers_v3 6
def f_law_digits_l1 : Env → Out := sSeq (sIf (tC2 cIn (eVar 6) (eLst (aConsO (eC (.int 0)) (aConsO (eUn opNeg (eC (.int 1))) (aNil))))) (sApp 5 (eTup (aConsO (eBin opMod (eOwn g_law_stir (aCons (eVar 4) (aCons (eBin opMul (eC (.int 2)) (eVar 7)) (aNil)))) (eVar 3)) (aConsO (eBin opMod (eOwn g_law_stir (aCons (eVar 4) (aCons (eBin opAdd (eBin opMul (eC (.int 2)) (eVar 7)) (eC (.int 1))) (aNil)))) (eVar 3)) (aNil))))) (sApp 5 (eTup (aConsO (eBin opMod (eVar 6) (eVar 3)) (aConsO (eBin opMod (eBin opDiv (eVar 6) (eVar 3)) (eVar 3)) (aNil)))))) (sAsgF 6 (eBin opDiv (eVar 6) (eBin opMul (eVar 3) (eVar 3))))
def f_law_digits : Env → Out := sSeq (sAsgF 3 (eBin opAdd (eC (.int 1)) (eBin opMod (eVar 0) (eVar 1)))) (sSeq (sAsgF 4 (eBin opDiv (eVar 0) (eVar 1))) (sSeq (sAsg 5 (eLst (aNil))) (sSeq (sAsgF 6 (eBin opDiv (eVar 4) (eBin opAdd (eVar 2) (eC (.int 1))))) (sSeq (sFor (iRg1 (aCons (eBin opMod (eVar 4) (eBin opAdd (eVar 2) (eC (.int 1)))) (aNil))) (gtN 7) f_law_digits_l1) (sFrz 5 (sRet (eTup (aConsO (eVar 3) (aConsO (eVar 5) (aNil))))))))))
def g_law_digits : List D → Res D := runF f_law_digits 8
def f_law_web_v3_l1 : Env → Out := sSeq (sAsgF 8 (eBin opMod (eOwn g_law_stir (aCons (eVar 7) (aCons (eC (.int 1)) (aNil)))) (eVar 4))) (sSeq (sAsgF 9 (eBin opMod (eOwn g_law_stir (aCons (eVar 7) (aCons (eC (.int 2)) (aNil)))) (eVar 4))) (sSeq (sIf (tAn (tC2 cLt (eBin opAdd (eVar 6) (eC (.int 1))) (eVar 4)) (tC2 cGt (eBin opMod (eOwn g_law_stir (aCons (eVar 7) (aCons (eC (.int 3)) (aNil)))) (eC (.int 8))) (eC (.int 0)))) (sSeq (sAsgF 8 (eBin opMod (eOwn g_law_stir (aCons (eVar 7) (aCons (eC (.int 1)) (aNil)))) (eBin opAdd (eVar 6) (eC (.int 1))))) (sAsgF 9 (eBin opAdd (eVar 6) (eC (.int 1))))) (sNil)) (sApp 5 (eBin opIx (eLst (aConsO (eTup (aConsO (eVar 8) (aConsO (eVar 9) (aNil)))) (aConsO (eTup (aConsO (eVar 9) (aConsO (eVar 8) (aNil)))) (aNil)))) (eBin opMod (eOwn g_law_stir (aCons (eVar 7) (aCons (eC (.int 4)) (aNil)))) (eC (.int 2)))))))
def f_law_web_v3 : Env → Out := sSeq (sAsgF 3 (eOwn g_law_at (aCons (eVar 0) (aCons (eC (.int 0)) (aNil))))) (sSeq (sIf (tC2 cEq (eBin opMod (eVar 3) (eC (.int 2))) (eC (.int 0))) (sRet (eOwn g_law_digits (aCons (eOwn g_law_at (aCons (eVar 0) (aCons (eC (.int 1)) (aNil)))) (aCons (eVar 1) (aCons (eVar 2) (aNil)))))) (sNil)) (sSeq (sAsgF 4 (eBin opAdd (eC (.int 1)) (eBin opMod (eBin opDiv (eVar 3) (eC (.int 2))) (eVar 1)))) (sSeq (sAsg 5 (eLst (aNil))) (sSeq (sFor (iEnm (aCons (eOwn g_law_numbers_v3 (aCons (eVar 0) (aCons (eC (.int 1)) (aCons (eVar 2) (aNil))))) (aNil))) (gtT 2 (gtCons (gtN 6) (gtCons (gtN 7) (gtNil)))) f_law_web_v3_l1) (sFrz 5 (sRet (eTup (aConsO (eVar 4) (aConsO (eVar 5) (aNil))))))))))
def g_law_web_v3 : List D → Res D := runF f_law_web_v3 10
def f_law_lengths_l1 : Env → Out := sSeq (sIf (tAn (tC2 cEq (eBin opMod (eVar 2) (eC (.int 2))) (eC (.int 0))) (tC2 cIn (eVar 3) (eLst (aConsO (eC (.int 0)) (aConsO (eUn opNeg (eC (.int 1))) (aNil)))))) (sApp 4 (eBin opSub (eBin opMod (eOwn g_law_stir (aCons (eVar 2) (aCons (eBin opAdd (eC (.int 40)) (eVar 5)) (aNil)))) (eC (.int 7))) (eC (.int 3)))) (sIf (tC2 cEq (eBin opMod (eVar 2) (eC (.int 2))) (eC (.int 0))) (sApp 4 (eBin opSub (eBin opMod (eVar 3) (eC (.int 7))) (eC (.int 3)))) (sIf (tC2 cEq (eBin opMod (eBin opDiv (eVar 2) (eC (.int 2))) (eC (.int 3))) (eC (.int 0))) (sSeq (sAsgF 6 (eBin opMul (eBin opAdd (eBin opAdd (eBin opMod (eVar 2) (eBin opPow (eC (.int 10)) (eC (.int 60)))) (eBin opMul (eC (.int 7919)) (eVar 5))) (eC (.int 1))) (eBin opPow (eBin opAdd (eC (.int 48271)) (eBin opMul (eC (.int 2)) (eVar 5))) (eC (.int 12))))) (sApp 4 (eBin opSub (eBin opMod (eVar 6) (eBin opPow (eC (.int 10)) (eC (.int 50)))) (eBin opMul (eC (.int 5)) (eBin opPow (eC (.int 10)) (eC (.int 49))))))) (sApp 4 (eBin opSub (eBin opMod (eOwn g_law_stir (aCons (eVar 2) (aCons (eBin opAdd (eC (.int 70)) (eVar 5)) (aNil)))) (eBin opIx (eLst (aConsO (eC (.int 3)) (aConsO (eC (.int 9)) (aNil)))) (eBin opMod (eBin opDiv (eVar 2) (eC (.int 6))) (eC (.int 2))))) (eC (.int 1))))))) (sAsgF 3 (eBin opDiv (eVar 3) (eC (.int 7))))
def f_law_lengths : Env → Out := sSeq (sAsgF 2 (eOwn g_law_at (aCons (eVar 0) (aCons (eC (.int 2)) (aNil))))) (sSeq (sAsgF 3 (eBin opDiv (eVar 2) (eC (.int 2)))) (sSeq (sAsg 4 (eLst (aNil))) (sSeq (sFor (iRg1 (aCons (eVar 1) (aNil))) (gtN 5) f_law_lengths_l1) (sRetV 4))))
def g_law_lengths : List D → Res D := runF f_law_lengths 7
end Lw
end

namespace Lw
open DL L2
def stA (c k : Int) : Int := (c % e60 + 977 * k + 1) * 48271 % 2147483647
def stB (c k : Int) : Int := stA c k * stA c k % 2147483629
def stF (c k : Int) : Int := (stB c k + 40692 * (k + 3)) * 1583458089 % 2147483629 / 8
theorem stir_ok (c k : Int) : g_law_stir [.int c, .int k] = .ok (.int (stF c k)) := by
  have h1 : 0 ≤ stA c k ∧ stA c k < 2147483647 := by unfold stA; omega
  have a1 : -18446744073709551616 < stA c k := by omega
  have a2 : stA c k < 18446744073709551616 := by omega
  have e1 : (c % e60 + 977 * k + 1) * 48271 % 2147483647 = stA c k := rfl
  have e2 : stA c k * stA c k % 2147483629 = stB c k := rfl
  have e3 : (stB c k + 40692 * (k + 3)) * 1583458089 % 2147483629 / 8 = stF c k := rfl
  simp [g_law_stir, runF, f_law_stir, e1, a1, a2, e2, e3]
theorem opPow_18 : opPow (.int 10) (.int 18) = some (.int 1000000000000000000) := by
  rw [opPow_eq, if_pos (by unfold CPow; decide)]; rfl
theorem nums_l1 (s : List Int) (start most : Int) (hs : s.length ≤ 1000) (h0 : 0 ≤ start) (hm : 0 < most) (hm2 : most ≤ 1000) (y4 y5 : D) :
    ∃ (l : List Int) (z4 z5 : D), (l.length : Int) ≤ most ∧ forL (gtN 4) f_law_numbers_v3_l1 (rng start (s.length - start).toNat) [.sc (s.map D.int), .int start, .int most, .ol [], y4, y5] = .nx [.sc (s.map D.int), .int start, .int most, .ol (l.map D.int), z4, z5] := by
  obtain ⟨g', e, l, z4, z5, h1, rfl⟩ := for_rngN (s := 4) (b := f_law_numbers_v3_l1) (lo := start) (n := (s.length - start).toNat)
    (fun i g => ∃ (l : List Int) (y4 y5 : D), (l.length : Int) ≤ most ∧ g = [.sc (s.map D.int), .int start, .int most, .ol (l.map D.int), y4, y5])
    (g := [.sc (s.map D.int), .int start, .int most, .ol [], y4, y5]) ⟨[], y4, y5, by simp; omega, rfl⟩ (fun i g hi ⟨l, y4, y5, hl, hg⟩ => by
      subst hg
      obtain ⟨c, ec, _⟩ := DL.atI_of (l := s) (i := start + (i : Int)) (by omega) (by omega)
      by_cases q : (l.length : Int) < most
      · have hlim : l.length < lim := by rw [lim_eq]; omega
        refine ⟨_, .inl ?_, l ++ [c % 1000000000000000000], .int (start + (i : Int)), .int (c % 1000000000000000000), by simp; omega, rfl⟩
        simp [f_law_numbers_v3_l1, ec, opPow_18, q, hlim]
      · have hat := Int.emod_lt_of_pos (start + (i : Int)) hm
        have hat0 : 0 ≤ (start + (i : Int)) % most := Int.emod_nonneg _ (by omega)
        obtain ⟨a, ea, _⟩ := DL.atI_of (l := l) (i := (start + (i : Int)) % most) hat0 (by omega)
        have hix : L2.ixN (l.map D.int).length ((start + (i : Int)) % most) = some ((start + (i : Int)) % most).toNat := ixN_nat hat0 (by simp; omega)
        refine ⟨_, .inl ?_, l.set ((start + (i : Int)) % most).toNat ((a * 10007 + c % 1000000000000000000) % 1000000000000000000), .int (start + (i : Int)), .int (c % 1000000000000000000), by simpa using hl, rfl⟩
        simp at hix
        simp [f_law_numbers_v3_l1, ec, opPow_18, q, hm, ea, hix])
  exact ⟨l, z4, z5, h1, e⟩
theorem nums_ok (s : List Int) (start most : Int) (hs : s.length ≤ 1000) (h0 : 0 ≤ start) (h00 : start ≤ 1000) (hm : 0 < most) (hm2 : most ≤ 1000) :
    ∃ l : List Int, (l.length : Int) ≤ most ∧ g_law_numbers_v3 [.sc (s.map D.int), .int start, .int most] = .ok (.ol (l.map D.int)) := by
  obtain ⟨l, z4, z5, h1, e⟩ := nums_l1 s start most hs h0 hm hm2 .un .un
  have b4 : rgOk start := rgOk_of (by omega) (by omega)
  have b5 : rgOk (s.length : Int) := rgOk_of (by omega) (by omega)
  exact ⟨l, h1, by simp [g_law_numbers_v3, runF, f_law_numbers_v3, b4, b5, e]⟩
theorem in_two (a b c : Int) : cIn (.int a) (.ls [.int b, .int c]) = some (decide (a ∈ [b, c])) := by
  have := cIn_ls (a := a) (ns := [b, c])
  simpa using this
theorem digits_l1 (x0 x1 x2 : D) (p whole : Int) (hp : 0 < p) (hp2 : p ≤ 1000) : ∀ (n : Nat) (lo : Int) (r : Int) (l : List (Int × Int)) (y7 : D), 0 ≤ lo → lo + n ≤ 1000 → l.length + n ≤ 1000 → EndsOk p l →
    ∃ (r' : Int) (l' : List (Int × Int)) (z7 : D), l'.length = l.length + n ∧ EndsOk p l' ∧ forL (gtN 7) f_law_digits_l1 (rng lo n) [x0, x1, x2, .int p, .int whole, .ol (l.map dP), .int r, y7] = .nx [x0, x1, x2, .int p, .int whole, .ol (l'.map dP), .int r', z7]
  | 0, lo, c, l, y8, _, _, _, hE => ⟨c, l, y8, by omega, hE, by simp [rng_zero, forL]⟩
  | n + 1, lo, c, l, y8, h0, h1, h2, hE => by
    have a4 : p < 1073741824 := by omega
    have a5 : -18446744073709551616 < p := by omega
    have a6 : p < 18446744073709551616 := by omega
    have a7 : 0 < p * p := Int.mul_pos hp hp
    have a8 : p * p < 1073741824 := by
      have : p * p ≤ 1000 * 1000 := Int.mul_le_mul hp2 hp2 (by omega) (by omega)
      omega
    have hlim : l.length < lim := by rw [lim_eq]; omega
    by_cases hB : c ∈ [0, -1]
    · have hB' : c = 0 ∨ c = -1 := by simpa using hB
      have o1 := Int.emod_nonneg (stF whole (2 * lo)) (by omega : p ≠ 0)
      have o2 := Int.emod_lt_of_pos (stF whole (2 * lo)) hp
      have p1 := Int.emod_nonneg (stF whole (2 * lo + 1)) (by omega : p ≠ 0)
      have p2 := Int.emod_lt_of_pos (stF whole (2 * lo + 1)) hp
      obtain ⟨c', l', z8, h3, h4, h5⟩ := digits_l1 x0 x1 x2 p whole hp hp2 n (lo + 1) (c / (p * p)) (l ++ [(stF whole (2 * lo) % p, stF whole (2 * lo + 1) % p)]) (.int lo) (by omega) (by omega) (by simp; omega) (hE.app (.one ⟨⟨o1, o2⟩, p1, p2⟩))
      refine ⟨c', l', z8, by simp at h3; omega, h4, ?_⟩
      rw [← h5]
      simp [rng_succ, forL, f_law_digits_l1, in_two, hB', hp, a4, a5, a6, a7, a8, stir_ok, hlim]
    · have hB' : ¬ (c = 0 ∨ c = -1) := by simpa using hB
      have o1 := Int.emod_nonneg c (by omega : p ≠ 0)
      have o2 := Int.emod_lt_of_pos c hp
      have p1 := Int.emod_nonneg (c / p) (by omega : p ≠ 0)
      have p2 := Int.emod_lt_of_pos (c / p) hp
      obtain ⟨c', l', z8, h3, h4, h5⟩ := digits_l1 x0 x1 x2 p whole hp hp2 n (lo + 1) (c / (p * p)) (l ++ [(c % p, c / p % p)]) (.int lo) (by omega) (by omega) (by simp; omega) (hE.app (.one ⟨⟨o1, o2⟩, p1, p2⟩))
      refine ⟨c', l', z8, by simp at h3; omega, h4, ?_⟩
      rw [← h5]
      simp [rng_succ, forL, f_law_digits_l1, in_two, hB', hp, a4, a5, a6, a7, a8, hlim]
theorem digits_ok (c most tm : Int) (h1 : 1 ≤ most) (h2 : most ≤ 1000) (h3 : 0 ≤ tm) (h4 : tm ≤ 500) :
    ∃ (p : Int) (l : List (Int × Int)), 1 ≤ p ∧ p ≤ most ∧ (l.length : Int) ≤ tm ∧ EndsOk p l ∧ g_law_digits [.int c, .int most, .int tm] = .ok (.tp [.int p, .ls (l.map dP)]) := by
  have m0 := Int.emod_nonneg c (by omega : most ≠ 0)
  have m1 := Int.emod_lt_of_pos c (by omega : 0 < most)
  have n0 := Int.emod_nonneg (c / most) (by omega : tm + 1 ≠ 0)
  have n1 := Int.emod_lt_of_pos (c / most) (by omega : 0 < tm + 1)
  obtain ⟨c', l, z8, l1, l2, l3⟩ := digits_l1 (.int c) (.int most) (.int tm) (1 + c % most) (c / most) (by omega) (by omega) (c / most % (tm + 1)).toNat 0 (c / most / (tm + 1)) [] .un (by omega) (by omega) (by simp; omega) (fun _ h => nomatch h)
  simp at l1 l3
  have a0 : 0 < most := by omega
  have a1 : most < 1073741824 := by omega
  have a2 : 0 < tm + 1 := by omega
  have a3 : tm + 1 < 1073741824 := by omega
  have hr : rgOk (c / most % (tm + 1)) := rgOk_of (by omega) (by omega)
  refine ⟨1 + c % most, l, by omega, by omega, by omega, l2, ?_⟩
  simp [g_law_digits, runF, f_law_digits, a0, a1, a2, a3, hr, l3, frzAt]
theorem web3_l1 (x0 x1 x2 x3 : D) (p : Int) (hp : 0 < p) (hp2 : p ≤ 1000) : ∀ (ns : List Int) (k : Nat) (l : List (Int × Int)) (y6 y7 y8 y9 : D), l.length + ns.length ≤ 1000 → EndsOk p l →
    ∃ (l' : List (Int × Int)) (z6 z7 z8 z9 : D), l'.length = l.length + ns.length ∧ EndsOk p l' ∧ forL (gtT 2 (gtCons (gtN 6) (gtCons (gtN 7) (gtNil)))) f_law_web_v3_l1 (enm k (ns.map D.int)) [x0, x1, x2, x3, .int p, .ol (l.map dP), y6, y7, y8, y9] = .nx [x0, x1, x2, x3, .int p, .ol (l'.map dP), z6, z7, z8, z9]
  | [], k, l, y6, y7, y8, y9, _, hE => ⟨l, y6, y7, y8, y9, by simp, hE, by simp [enm, forL]⟩
  | n :: ns, k, l, y6, y7, y8, y9, h2, hE => by
    have a4 : p < 1073741824 := by omega
    have hlim : l.length < lim := by rw [lim_eq]; simp at h2; omega
    have fin : ∀ (a b : Int), (0 ≤ a ∧ a < p) → (0 ≤ b ∧ b < p) →
        f_law_web_v3_l1 [x0, x1, x2, x3, .int p, .ol (l.map dP), .int k, .int n, y8, y9] = .nx [x0, x1, x2, x3, .int p, .ol ((l ++ [if stF n 4 % 2 = 0 then (a, b) else (b, a)]).map dP), .int k, .int n, .int a, .int b] →
        ∃ (l' : List (Int × Int)) (z6 z7 z8 z9 : D), l'.length = l.length + (n :: ns).length ∧ EndsOk p l' ∧ forL (gtT 2 (gtCons (gtN 6) (gtCons (gtN 7) (gtNil)))) f_law_web_v3_l1 (enm k ((n :: ns).map D.int)) [x0, x1, x2, x3, .int p, .ol (l.map dP), y6, y7, y8, y9] = .nx [x0, x1, x2, x3, .int p, .ol (l'.map dP), z6, z7, z8, z9] := fun a b ha hb e => by
      obtain ⟨l', z6, z7, z8, z9, h3, h4, h5⟩ := web3_l1 x0 x1 x2 x3 p hp hp2 ns (k + 1) (l ++ [if stF n 4 % 2 = 0 then (a, b) else (b, a)]) (.int k) (.int n) (.int a) (.int b) (by simp at h2 ⊢; omega) (hE.app (by
        by_cases q : stF n 4 % 2 = 0
        · rw [if_pos q]; exact .one ⟨ha, hb⟩
        · rw [if_neg q]; exact .one ⟨hb, ha⟩))
      refine ⟨l', z6, z7, z8, z9, by simp at h3 ⊢; omega, h4, ?_⟩
      rw [← h5]
      simp [forL, enm, e]
    have two : stF n 4 % 2 = 0 ∨ stF n 4 % 2 = 1 := by omega
    by_cases hB : ((k : Int) + 1 < p ∧ 0 < stF n 3 % 8)
    · have k1 : (0 : Int) < (k : Int) + 1 := by omega
      have o1 := Int.emod_nonneg (stF n 1) (by omega : (k : Int) + 1 ≠ 0)
      have o2 := Int.emod_lt_of_pos (stF n 1) k1
      refine fin (stF n 1 % ((k : Int) + 1)) ((k : Int) + 1) ⟨o1, by omega⟩ ⟨by omega, hB.1⟩ ?_
      rcases two with q | q <;> simp [f_law_web_v3_l1, stir_ok, hp, a4, hB.1, hB.2, k1, q, hlim]
    · have o1 := Int.emod_nonneg (stF n 1) (by omega : p ≠ 0)
      have o2 := Int.emod_lt_of_pos (stF n 1) hp
      have p1 := Int.emod_nonneg (stF n 2) (by omega : p ≠ 0)
      have p2 := Int.emod_lt_of_pos (stF n 2) hp
      refine fin (stF n 1 % p) (stF n 2 % p) ⟨o1, o2⟩ ⟨p1, p2⟩ ?_
      by_cases c1 : (k : Int) + 1 < p
      · have c2 : ¬ 0 < stF n 3 % 8 := fun z => hB ⟨c1, z⟩
        rcases two with q | q <;> simp [f_law_web_v3_l1, stir_ok, hp, a4, c1, c2, q, hlim]
      · rcases two with q | q <;> simp [f_law_web_v3_l1, stir_ok, hp, a4, c1, q, hlim]
theorem web3_ok (s : List Int) (most tm : Int) (hs : s.length ≤ 1000) (h1 : 1 ≤ most) (h2 : most ≤ 1000) (h3 : 1 ≤ tm) (h4 : tm ≤ 500) :
    ∃ (p : Int) (l : List (Int × Int)), 1 ≤ p ∧ p ≤ most ∧ (l.length : Int) ≤ tm ∧ EndsOk p l ∧ g_law_web_v3 [.sc (s.map D.int), .int most, .int tm] = .ok (.tp [.int p, .ls (l.map dP)]) := by
  obtain ⟨c, ec⟩ := at_ok s 0 (by omega)
  obtain ⟨c1, ec1⟩ := at_ok s 1 (by omega)
  by_cases q : c % 2 = 0
  · obtain ⟨p, l, l1, l2, l3, l4, e⟩ := digits_ok c1 most tm h1 h2 (by omega) h4
    exact ⟨p, l, l1, l2, l3, l4, by simp [g_law_web_v3, runF, f_law_web_v3, ec, q, ec1, e]⟩
  · obtain ⟨ns, n1, en⟩ := nums_ok s 1 tm hs (by omega) (by omega) (by omega) (by omega)
    have m0 := Int.emod_nonneg (c / 2) (by omega : most ≠ 0)
    have m1 := Int.emod_lt_of_pos (c / 2) (by omega : 0 < most)
    obtain ⟨l, z6, z7, z8, z9, l1, l2, l3⟩ := web3_l1 (.sc (s.map D.int)) (.int most) (.int tm) (.int c) (1 + c / 2 % most) (by omega) (by omega) ns 0 [] .un .un .un .un (by simp; omega) (fun _ h => nomatch h)
    have a0 : 0 < most := by omega
    refine ⟨1 + c / 2 % most, l, by omega, by omega, by simp at l1; omega, l2, ?_⟩
    simp at l3
    simp [g_law_web_v3, runF, f_law_web_v3, ec, q, en, a0, l3, frzAt]
theorem opPow_50 : opPow (.int 10) (.int 50) = some (.int (10 ^ 50)) := by
  rw [opPow_eq, if_pos (by unfold CPow; decide)]; rfl
theorem opPow_49 : opPow (.int 10) (.int 49) = some (.int (10 ^ 49)) := by
  rw [opPow_eq, if_pos (by unfold CPow; decide)]; rfl
theorem pow12_ok : ∀ k : Nat, k < 100 → CPow (48271 + 2 * (k : Int)) 12 := by unfold CPow; decide
theorem opPow_12 {k : Int} (h : 0 ≤ k) (h2 : k < 100) : opPow (.int (48271 + 2 * k)) (.int 12) = some (.int ((48271 + 2 * k) ^ 12)) := by
  have := pow12_ok k.toNat (by omega)
  rw [show ((k.toNat : Nat) : Int) = k by omega] at this
  rw [opPow_eq, if_pos this]; rfl
theorem pow12_lt : ∀ k : Nat, k < 100 → ((48271 + 2 * (k : Int)) ^ 12).natAbs < 2 ^ 500 := by decide
theorem lens_l1 (x0 x1 : D) (hd : Int) : ∀ (n : Nat) (lo : Int) (r : Int) (l : List Int) (y5 y6 : D), 0 ≤ lo → lo + n ≤ 100 → l.length + n ≤ 1000 →
    ∃ (l' : List Int) (r' : Int) (z5 z6 : D), l'.length = l.length + n ∧ forL (gtN 5) f_law_lengths_l1 (rng lo n) [x0, x1, .int hd, .int r, .ol (l.map D.int), y5, y6] = .nx [x0, x1, .int hd, .int r', .ol (l'.map D.int), z5, z6]
  | 0, lo, r, l, y5, y6, _, _, _ => ⟨l, r, y5, y6, by omega, by simp [rng_zero, forL]⟩
  | n + 1, lo, r, l, y5, y6, h0, h1, h2 => by
    have hlim : l.length < lim := by rw [lim_eq]; omega
    have fin : ∀ (a : Int) (y : D), f_law_lengths_l1 [x0, x1, .int hd, .int r, .ol (l.map D.int), .int lo, y6] = .nx [x0, x1, .int hd, .int (r / 7), .ol ((l ++ [a]).map D.int), .int lo, y] →
        ∃ (l' : List Int) (r' : Int) (z5 z6 : D), l'.length = l.length + (n + 1) ∧ forL (gtN 5) f_law_lengths_l1 (rng lo (n + 1)) [x0, x1, .int hd, .int r, .ol (l.map D.int), y5, y6] = .nx [x0, x1, .int hd, .int r', .ol (l'.map D.int), z5, z6] := fun a y e => by
      obtain ⟨l', r', z5, z6, h3, h4⟩ := lens_l1 x0 x1 hd n (lo + 1) (r / 7) (l ++ [a]) (.int lo) y (by omega) (by omega) (by simp; omega)
      refine ⟨l', r', z5, z6, by simp at h3; omega, ?_⟩
      rw [← h4]
      simp [rng_succ, forL, e]
    by_cases q : hd % 2 = 0
    · by_cases hB : r = 0 ∨ r = -1
      · refine fin (stF hd (40 + lo) % 7 - 3) y6 ?_
        simp [f_law_lengths_l1, q, in_two, hB, stir_ok, hlim]
      · refine fin (r % 7 - 3) y6 ?_
        simp [f_law_lengths_l1, q, in_two, hB, hlim]
    · by_cases q3 : hd / 2 % 3 = 0
      · have e1 := opPow_12 h0 (by omega : lo < 100)
        have c0 : 0 ≤ hd % e60 := Int.emod_nonneg _ (by have := e60_pos; omega)
        have c1 : hd % e60 < e60 := Int.emod_lt_of_pos _ e60_pos
        have hE := e60_lt
        have e2 : opMul (.int (hd % e60 + 7919 * lo + 1)) (.int ((48271 + 2 * lo) ^ 12)) = some (.int ((hd % e60 + 7919 * lo + 1) * (48271 + 2 * lo) ^ 12)) := by
          refine opMul_500 ?_ ?_
          · have : (hd % e60 + 7919 * lo + 1).natAbs < 2 ^ 251 := by
              have : (7919 * 1000000 + 1 : Int) < 2 ^ 250 := by decide
              have : (2 : Int) ^ 251 = 2 ^ 250 + 2 ^ 250 := by decide
              have : ((2 : Nat) ^ 251 : Nat) = ((2 : Int) ^ 251).natAbs := by decide
              omega
            exact Nat.lt_trans this (by decide)
          · have := pow12_lt lo.toNat (by omega)
            rwa [show ((lo.toNat : Nat) : Int) = lo by omega] at this
        have p50 : (0 : Int) < 10 ^ 50 := by decide
        refine fin ((hd % e60 + 7919 * lo + 1) * (48271 + 2 * lo) ^ 12 % 10 ^ 50 - 5 * 10 ^ 49) (.int ((hd % e60 + 7919 * lo + 1) * (48271 + 2 * lo) ^ 12)) ?_
        simp [f_law_lengths_l1, q, q3, e1, e2, opPow_50, opPow_49, p50, hlim]
      · have two : hd / 6 % 2 = 0 ∨ hd / 6 % 2 = 1 := by omega
        rcases two with t | t
        · refine fin (stF hd (70 + lo) % 3 - 1) y6 ?_
          simp [f_law_lengths_l1, q, q3, stir_ok, t, hlim]
        · refine fin (stF hd (70 + lo) % 9 - 1) y6 ?_
          simp [f_law_lengths_l1, q, q3, stir_ok, t, hlim]
theorem lengths_ok (s : List Int) (n : Nat) (hn : n ≤ 99) : ∃ l : List Int, l.length = n ∧ g_law_lengths [.sc (s.map D.int), .int n] = .ok (.ol (l.map D.int)) := by
  obtain ⟨c, ec⟩ := at_ok s 2 (by omega)
  obtain ⟨l, r, z5, z6, h1, h2⟩ := lens_l1 (.sc (s.map D.int)) (.int n) c n 0 (c / 2) [] .un .un (by omega) (by omega) (by simp; omega)
  have hr : rgOk (n : Int) := rgOk_of (by omega) (by omega)
  refine ⟨l, by simpa using h1, ?_⟩
  simp at h2
  simp [g_law_lengths, runF, f_law_lengths, ec, hr, h2]
theorem look_lens_ok {o : D} (p : D) (ts : List D) (l : List Int) (ho : LT o l) (h : l.length = ts.length) : g_look_at_lengths [.ob 14 [p, .ls ts], o] = .ok .non := by
  rcases ho with rfl | rfl <;> simp [g_look_at_lengths, runF, f_look_at_lengths, h]
end Lw

noncomputable section
namespace Lw
open DL
def f_heads_joined_c1 : Env → Res D := eIf (tC2 cEq (eVar 4) (eVar 3)) (eVar 2) (eVar 4)
def f_heads_joined : Env → Out := sSeq (sAsgF 2 (eBin opIx (eVar 0) (eBin opIx (eVar 1) (eC (.int 0))))) (sSeq (sAsgF 3 (eBin opIx (eVar 0) (eBin opIx (eVar 1) (eC (.int 1))))) (sRet (eLc (iSeq (eVar 0)) [4] (gtN 4) (tYesG) f_heads_joined_c1)))
def g_heads_joined : List D → Res D := runF f_heads_joined 5
def f_law_trees_v3_c1 : Env → Res D := eIf (tC2 cEq (eVar 11) (eVar 9)) (eVar 8) (eVar 11)
def f_law_trees_v3_l2 : Env → Out := sSeq (sAsgF 8 (eBin opIx (eVar 6) (eBin opIx (eBin opIx (eVar 1) (eVar 7)) (eC (.int 0))))) (sSeq (sAsgF 9 (eBin opIx (eVar 6) (eBin opIx (eBin opIx (eVar 1) (eVar 7)) (eC (.int 1))))) (sIf (tC2 cNe (eVar 8) (eVar 9)) (sSeq (sAsgF 10 (eCall caTuple (aCons (eLc (iSeq (eVar 6)) [11] (gtN 11) (tYesG) f_law_trees_v3_c1) (aNil)))) (sApp 4 (eTup (aConsO (eBin opAdd (eVar 5) (eTup (aConsO (eVar 7) (aNil)))) (aConsO (eVar 10) (aNil)))))) (sNil)))
def f_law_trees_v3_l3 : Env → Out := sFor (iRg2 (aCons (eBin opAdd (eCall caMax3 (aCons (eBin opAdd (eTup (aConsO (eUn opNeg (eC (.int 1))) (aNil))) (eVar 5)) (aNil))) (eC (.int 1))) (aCons (eCall caLen (aCons (eVar 1) (aNil))) (aNil)))) (gtN 7) f_law_trees_v3_l2
def f_law_trees_v3_l4 : Env → Out := sSeq (sAsg 4 (eLst (aNil))) (sSeq (sFor (iSeq (eVar 2)) (gtT 2 (gtCons (gtN 5) (gtCons (gtN 6) (gtNil)))) f_law_trees_v3_l3) (sFrz 4 (sAsgF 2 (eVar 4))))
def f_law_trees_v3_c5 : Env → Res D := eVar 5
def f_law_trees_v3 : Env → Out := sSeq (sAsgF 2 (eLst (aConsO (eTup (aConsO (eTup (aNil)) (aConsO (eTR1 (eVar 0)) (aNil)))) (aNil)))) (sSeq (sFor (iRg1 (aCons (eBin opSub (eVar 0) (eC (.int 1))) (aNil))) (gtN 3) f_law_trees_v3_l4) (sRet (eLc (iSeq (eVar 2)) [5, 6] (gtT 2 (gtCons (gtN 5) (gtCons (gtN 6) (gtNil)))) (tYesG) f_law_trees_v3_c5)))
def g_law_trees_v3 : List D → Res D := runF f_law_trees_v3 12
end Lw
end

namespace Lw
open DL L2 TL
def hj (m : List Int) (t : Int × Int) : List Int := m.map fun x => if x = nth m t.2 then nth m t.1 else x
theorem hj_step (m : List Int) (t : Int × Int) : hj m t = stepL m t := by
  unfold hj stepL
  split
  · rename_i h
    conv => rhs; rw [← List.map_id m]
    refine List.map_congr_left fun x _ => ?_
    split
    · rename_i h2; rw [h2]; exact h
    · rfl
  · rfl
theorem hj_same {m : List Int} {t : Int × Int} (b0 : 0 ≤ t.2) (b1 : t.2 < m.length) : hj m t = m ↔ nth m t.1 = nth m t.2 := by
  constructor
  · intro h
    have := nth_map (m := m) (f := fun x => if x = nth m t.2 then nth m t.1 else x) b0 b1
    have e : nth (hj m t) t.2 = nth m t.1 := by
      unfold hj
      rw [this, if_pos rfl]
    rw [h] at e
    exact e.symm
  · intro h
    rw [hj_step]
    exact if_pos h
theorem heads_joined_ok (m : List Int) (hm : m.length ≤ 1000) (t : Int × Int) (a0 : 0 ≤ t.1) (a1 : t.1 < m.length) (b0 : 0 ≤ t.2) (b1 : t.2 < m.length) : g_heads_joined [.ls (m.map D.int), dP t] = .ok (.ol ((hj m t).map D.int)) := by
  have ea := nth_at (m := m) a0 a1
  have eb := nth_at (m := m) b0 b1
  have bl : m.length ≤ lim := by rw [lim_eq]; omega
  have lc : ∀ x0 x1 : D, lcL (gtN 4) tYesG f_heads_joined_c1 [x0, x1, .int (nth m t.1), .int (nth m t.2), .un] (m.map D.int) = .ok ((hj m t).map D.int) := fun x0 x1 => by
    unfold hj
    rw [← map_int]
    refine lcL_mapN m fun x _ => ?_
    by_cases c : x = nth m t.2 <;> simp [f_heads_joined_c1, c]
  simp [g_heads_joined, runF, f_heads_joined, dP, ea, eb, lc, bl]
theorem marksL_snoc (p : Nat) (ts : List (Int × Int)) (J : List Int) (t : Int) : marksL p ts (J ++ [t]) = hj (marksL p ts J) (tieAt ts t) := by
  rw [hj_step]
  simp [marksL, List.foldl_append]
end Lw

namespace Lw
open DL L2 TL
theorem nodup_leG2 {α : Type} [DecidableEq α] : ∀ {l m : List α}, l.Nodup → (∀ x ∈ l, x ∈ m) → l.length ≤ m.length
  | [], _, _, _ => Nat.zero_le _
  | a :: l, m, h, k => by
    obtain ⟨h1, h2⟩ := List.nodup_cons.mp h
    have ha := k a (List.mem_cons_self ..)
    have := nodup_leG2 (l := l) (m := m.erase a) h2 fun x hx => (List.mem_erase_of_ne (fun (e : x = a) => h1 (e ▸ hx))).mpr (k x (List.mem_cons_of_mem _ hx))
    rw [List.length_erase_of_mem ha] at this
    have := List.length_pos_of_mem ha
    simp only [List.length_cons]
    omega
def extF (p : Nat) (ts : List (Int × Int)) (k : Nat) (s : List Int) : List (List Int) := ((upL (nxt k s) ts.length).filter fun t => !decide (nth (marksL p ts s) (tieAt ts t).1 = nth (marksL p ts s) (tieAt ts t).2)).map fun t => s ++ [t]
def allF (p : Nat) (ts : List (Int × Int)) : Nat → List (List Int)
  | 0 => [[]]
  | k + 1 => (allF p ts k).flatMap (extF p ts k)
section
variable {p : Nat} {ts : List (Int × Int)}
theorem testL (hE : EndsOk p ts) {J : List Int} (hJ : InT ts.length J) {t : Int} (ht : 0 ≤ t ∧ t < ts.length) : nth (marksL p ts J) (tieAt ts t).1 = nth (marksL p ts J) (tieAt ts t).2 ↔ Conn (tiesAt ts J) (tieAt ts t).1 (tieAt ts t).2 := by
  obtain ⟨_, e2⟩ := tie_at ht.1 ht.2
  obtain ⟨⟨a0, a1⟩, b0, b1⟩ := hE _ e2
  exact nthL p ts hE J hJ _ _ a0 a1 b0 b1
theorem allF_sub : ∀ (k : Nat) {l : List Int}, l ∈ allF p ts k → l ∈ allA ts.length k
  | 0, l, h => h
  | k + 1, l, h => by
    rw [allF, List.mem_flatMap] at h
    rw [allA, List.mem_flatMap]
    obtain ⟨s, hs, hl⟩ := h
    refine ⟨s, allF_sub k hs, ?_⟩
    unfold extF at hl
    unfold extA
    obtain ⟨t, ht, e⟩ := List.mem_map.mp hl
    exact List.mem_map.mpr ⟨t, (List.mem_filter.mp ht).1, e⟩
theorem allF_ind (hE : EndsOk p ts) : ∀ (k : Nat) {l : List Int}, l ∈ allF p ts k → Ind p ts l
  | 0, l, h => by
    simp [allF] at h; subst h; exact ind_nil p ts
  | k + 1, l, h => by
    rw [allF, List.mem_flatMap] at h
    obtain ⟨s, hs, hl⟩ := h
    have hI := allF_ind hE k hs
    unfold extF at hl
    obtain ⟨t, ht, rfl⟩ := List.mem_map.mp hl
    obtain ⟨h1, h2⟩ := List.mem_filter.mp ht
    have hin := good_in ((allA_mem _ _ _).mp (allF_sub (k + 1) (l := s ++ [t]) (by
      rw [allF, List.mem_flatMap]
      exact ⟨s, hs, hl⟩))).2
    have ht' := hin t (by simp)
    refine hI.snoc hE ht' fun c => ?_
    rw [← testL hE hI.inn ht'] at c
    simp [c] at h2
theorem allF_has (hE : EndsOk p ts) : ∀ (k : Nat) {l : List Int}, l ∈ allA ts.length k → Ind p ts l → l ∈ allF p ts k
  | 0, l, h, _ => h
  | k + 1, l, h, hI => by
    rw [allA, List.mem_flatMap] at h
    rw [allF, List.mem_flatMap]
    obtain ⟨s, hs, hl⟩ := h
    unfold extA at hl
    obtain ⟨t, ht, rfl⟩ := List.mem_map.mp hl
    have hnd := hI.nd
    rw [List.nodup_append] at hnd
    have hIs := hI.sub hE hnd.1 fun x hx => List.mem_append_left _ hx
    have ht' := hI.inn t (by simp)
    refine ⟨s, allF_has hE k hs hIs, ?_⟩
    unfold extF
    refine List.mem_map.mpr ⟨t, List.mem_filter.mpr ⟨ht, ?_⟩, rfl⟩
    have : ¬ Conn (tiesAt ts s) (tieAt ts t).1 (tieAt ts t).2 := fun c => by
      have e : cnt p (tiesAt ts s) = cnt p (tiesAt ts (s ++ [t])) := cnt_eq (tiesAt_ok hE hIs.inn) (tiesAt_ok hE hI.inn)
        (fun e he => by
          obtain ⟨u, hu, rfl⟩ := List.mem_map.mp he
          exact conn_at (List.mem_append_left _ hu))
        (fun e he => by
          obtain ⟨u, hu, rfl⟩ := List.mem_map.mp he
          rcases List.mem_append.mp hu with z | z
          · exact conn_at z
          · simp at z; subst z; exact c)
      have h1 := hIs.ct
      have h2 := hI.ct
      simp at h2
      omega
    rw [← testL hE hIs.inn ht'] at this
    simp [this]
theorem allF_lex : ∀ k : Nat, (allF p ts k).Pairwise fun a b => HT.lexLt a b = true
  | 0 => List.pairwise_singleton _ _
  | k + 1 => by
    rw [allF, List.pairwise_flatMap]
    refine ⟨fun s hs => ?_, ?_⟩
    · unfold extF
      rw [List.pairwise_map]
      exact ((upL_rise _ _).filter _).imp fun h => lex_one s h
    · have ih := allF_lex k
      refine List.Pairwise.imp_of_mem (fun {a b} ha hb h x hx y hy => ?_) ih
      unfold extF at hx hy
      obtain ⟨t, _, rfl⟩ := List.mem_map.mp hx
      obtain ⟨u, _, rfl⟩ := List.mem_map.mp hy
      have h1 := ((allA_mem _ k a).mp (allF_sub k ha)).1
      have h2 := ((allA_mem _ k b).mp (allF_sub k hb)).1
      exact lex_app (by omega) h _ _
theorem allF_trees (hp : 1 ≤ p) (hE : EndsOk p ts) : allF p ts (p - 1) = trees p ts := by
  have hr := allF_lex (p := p) (ts := ts) (p - 1)
  have hd : (allF p ts (p - 1)).Nodup := hr.imp fun {a b} h e => by
    subst e
    rw [lex_irr] at h; cases h
  have hm : ∀ l, l ∈ allF p ts (p - 1) ↔ l ∈ trees p ts := fun l => by
    rw [trees_mem hp]
    constructor
    · intro h
      obtain ⟨h1, h2⟩ := (allA_mem _ _ _).mp (allF_sub _ h)
      have := (allF_ind hE _ h).ct
      exact treeB_nat.mpr ⟨by omega, h2, by omega⟩
    · intro h
      obtain ⟨h1, h2, h3⟩ := treeB_nat.mp h
      exact allF_has hE _ ((allA_mem _ _ _).mpr ⟨by omega, h2⟩) (tree_ind h hp)
  have hp2 := (List.perm_ext_iff_of_nodup hd (trees_nodup p ts)).mpr hm
  have hrise : Rise (allF p ts (p - 1)) := hr.imp fun {a b} h => NtL.lex_asym _ _ h
  exact rise_one hp2 hrise (srtL_rise _)
theorem allF_len (k : Nat) : (allF p ts k).length ≤ (allA ts.length k).length :=
  have hd : (allF p ts k).Nodup := (allF_lex k).imp fun {a b} h e => by
    subst e
    rw [lex_irr] at h; cases h
  nodup_leG2 hd fun x hx => allF_sub k hx
end
def dH (p : Nat) (ts : List (Int × Int)) (s : List Int) : D := .tp [.tp (s.map D.int), .tp ((marksL p ts s).map D.int)]
theorem fmax_spec : ∀ (s : List Int) (a : Int), a ≤ s.foldl max a ∧ (∀ x ∈ s, x ≤ s.foldl max a) ∧ (s.foldl max a = a ∨ s.foldl max a ∈ s)
  | [], a => ⟨Int.le_refl _, fun _ h => (nomatch h), .inl rfl⟩
  | b :: s, a => by
    obtain ⟨h1, h2, h3⟩ := fmax_spec s (max a b)
    simp only [List.foldl_cons]
    refine ⟨by omega, fun x hx => ?_, ?_⟩
    · rcases List.mem_cons.mp hx with rfl | hx
      · omega
      · exact h2 x hx
    · rcases h3 with h | h
      · by_cases c : a ≤ b
        · right; rw [h, show max a b = b by omega]; exact List.mem_cons_self ..
        · left; rw [h]; omega
      · exact .inr (List.mem_cons_of_mem _ h)
theorem last_max {s : List Int} {k : Nat} (hs : s.length = k) (hk : 0 < k) (hr : s.Pairwise (· < ·)) : ∀ x ∈ s, x ≤ nth s (k - 1 : Nat) := fun x hx => by
  obtain ⟨i, hi⟩ := List.getElem?_of_mem hx
  have hi2 := (List.getElem?_eq_some_iff.mp hi).1
  have hn : nth s (k - 1 : Nat) = s[k - 1]'(by omega) := by
    simp [nth, List.getD_eq_getElem?_getD, List.getElem?_eq_getElem (show k - 1 < s.length by omega)]
  have hx' : x = s[i] := by rw [List.getElem?_eq_getElem hi2] at hi; cases hi; rfl
  by_cases e : i = k - 1
  · subst e; omega
  · have := List.pairwise_iff_getElem.mp hr i (k - 1) hi2 (by omega) (by omega)
    omega
theorem max_nxt {n k : Nat} {s : List Int} (h : s ∈ allA n k) : s.foldl max (-1) + 1 = nxt k s := by
  obtain ⟨h1, h2⟩ := (allA_mem _ _ s).mp h
  obtain ⟨h3, h4⟩ := good_iff.mp h2
  unfold nxt
  by_cases hk : k = 0
  · rw [if_pos hk]
    rw [List.eq_nil_of_length_eq_zero (by omega : s.length = 0)]
    rfl
  · rw [if_neg hk]
    obtain ⟨f1, f2, f3⟩ := fmax_spec s (-1)
    have hm : nth s (k - 1 : Nat) ∈ s := nth_memN (by omega)
    have l := last_max h1 (by omega) h4
    have := f2 _ hm
    have := (h3 _ hm).1
    rcases f3 with e | e
    · omega
    · have := l _ e
      omega
theorem upL_len (lo : Int) (n : Nat) (h : 0 ≤ lo) : (upL lo n).length ≤ n := by unfold upL; simp only [List.length_map, List.length_range]; omega
theorem trees3_l2 (x0 x2 x3 : D) (p : Nat) (hp : 1 ≤ p) (hp2 : p ≤ 1000) (ts : List (Int × Int)) (hE : EndsOk p ts) (s : List Int) (hs : s.length ≤ 1000) : ∀ (l : List Int) (A : List (List Int)) (y7 y8 y9 y10 : D), InT ts.length l → A.length + l.length ≤ 900000 →
    ∃ z7 z8 z9 z10, forL (gtN 7) f_law_trees_v3_l2 (l.map D.int) [x0, .ls (ts.map dP), x2, x3, .ol (A.map (dH p ts)), .tp (s.map D.int), .tp ((marksL p ts s).map D.int), y7, y8, y9, y10, .un] = .nx [x0, .ls (ts.map dP), x2, x3, .ol ((A ++ (l.filter fun t => !decide (nth (marksL p ts s) (tieAt ts t).1 = nth (marksL p ts s) (tieAt ts t).2)).map fun t => s ++ [t]).map (dH p ts)), .tp (s.map D.int), .tp ((marksL p ts s).map D.int), z7, z8, z9, z10, .un]
  | [], A, y7, y8, y9, y10, _, _ => ⟨y7, y8, y9, y10, by simp [forL]⟩
  | t :: l, A, y7, y8, y9, y10, hl, hA => by
    obtain ⟨t0, t1⟩ := hl t (List.mem_cons_self ..)
    have hl' : InT ts.length l := fun x hx => hl x (List.mem_cons_of_mem _ hx)
    obtain ⟨e1, e2⟩ := tie_at t0 t1
    obtain ⟨⟨a0, a1⟩, b0, b1⟩ := hE _ e2
    have ml := marksL_len p ts s
    have ea := nth_at (m := marksL p ts s) a0 (by omega)
    have eb := nth_at (m := marksL p ts s) b0 (by omega)
    by_cases c : nth (marksL p ts s) (tieAt ts t).1 = nth (marksL p ts s) (tieAt ts t).2
    · obtain ⟨z7, z8, z9, z10, ih⟩ := trees3_l2 x0 x2 x3 p hp hp2 ts hE s hs l A (.int t) (.int (nth (marksL p ts s) (tieAt ts t).1)) (.int (nth (marksL p ts s) (tieAt ts t).2)) y10 hl' (by simp at hA ⊢; omega)
      refine ⟨z7, z8, z9, z10, ?_⟩
      rw [List.filter_cons_of_neg (by simpa using c), ← ih]
      simp [forL, f_law_trees_v3_l2, e1, dP, ea, eb, c]
    · obtain ⟨z7, z8, z9, z10, ih⟩ := trees3_l2 x0 x2 x3 p hp hp2 ts hE s hs l (A ++ [s ++ [t]]) (.int t) (.int (nth (marksL p ts s) (tieAt ts t).1)) (.int (nth (marksL p ts s) (tieAt ts t).2)) (.tp ((marksL p ts (s ++ [t])).map D.int)) hl' (by simp at hA ⊢; omega)
      refine ⟨z7, z8, z9, z10, ?_⟩
      have eL : ∀ F : List Int, A ++ (t :: F).map (fun t => s ++ [t]) = A ++ [s ++ [t]] ++ F.map fun t => s ++ [t] := fun F => by simp
      rw [List.filter_cons_of_pos (by simpa using c), eL, ← ih]
      have lc : ∀ x10 : D, lcL (gtN 11) tYesG f_law_trees_v3_c1 [x0, .ls (ts.map dP), x2, x3, .ol (A.map (dH p ts)), .tp (s.map D.int), .tp ((marksL p ts s).map D.int), .int t, .int (nth (marksL p ts s) (tieAt ts t).1), .int (nth (marksL p ts s) (tieAt ts t).2), x10, .un] ((marksL p ts s).map D.int) = .ok ((marksL p ts (s ++ [t])).map D.int) := fun x10 => by
        rw [marksL_snoc]
        unfold hj
        rw [← map_int]
        refine lcL_mapN _ fun x _ => ?_
        by_cases c : x = nth (marksL p ts s) (tieAt ts t).2 <;> simp [f_law_trees_v3_c1, c]
      have bl : (marksL p ts s).length ≤ lim := by rw [lim_eq]; omega
      have bl2 : (marksL p ts (s ++ [t])).length ≤ lim := by rw [marksL_len, lim_eq]; omega
      have bs : s.length + 1 ≤ lim := by rw [lim_eq]; omega
      have bA : A.length < lim := by rw [lim_eq]; simp at hA; omega
      simp [forL, f_law_trees_v3_l2, e1, dP, ea, eb, c, lc, bl, bl2, bs, bA, dH]
theorem trees3_l3 (x0 x2 x3 : D) (p : Nat) (hp : 1 ≤ p) (hp2 : p ≤ 1000) (ts : List (Int × Int)) (hE : EndsOk p ts) (ht : ts.length ≤ 100) (k : Nat) (hk : k ≤ 900) : ∀ (l A : List (List Int)) (y5 y6 y7 y8 y9 y10 : D), (∀ s ∈ l, s ∈ allF p ts k) → A.length + ts.length * l.length ≤ 900000 →
    ∃ z5 z6 z7 z8 z9 z10, forL (gtT 2 (gtCons (gtN 5) (gtCons (gtN 6) (gtNil)))) f_law_trees_v3_l3 (l.map (dH p ts)) [x0, .ls (ts.map dP), x2, x3, .ol (A.map (dH p ts)), y5, y6, y7, y8, y9, y10, .un] = .nx [x0, .ls (ts.map dP), x2, x3, .ol ((A ++ l.flatMap (extF p ts k)).map (dH p ts)), z5, z6, z7, z8, z9, z10, .un]
  | [], A, y5, y6, y7, y8, y9, y10, _, _ => ⟨y5, y6, y7, y8, y9, y10, by simp [forL]⟩
  | s :: l, A, y5, y6, y7, y8, y9, y10, hl, hA => by
    have hsA := allF_sub k (hl s (List.mem_cons_self ..))
    obtain ⟨h1, h2⟩ := (allA_mem _ _ s).mp hsA
    have mx := max_nxt hsA
    have nx0 : 0 ≤ nxt k s ∧ nxt k s ≤ 1000 := by
      obtain ⟨f1, f2, f3⟩ := fmax_spec s (-1)
      have hin := good_in h2
      rcases f3 with e | e
      · omega
      · have := hin _ e; omega
    have ul := upL_len (nxt k s) ts.length nx0.1
    have el : (extF p ts k s).length ≤ ts.length := by
      unfold extF
      rw [List.length_map]
      exact Nat.le_trans (List.length_filter_le ..) ul
    rw [List.length_cons, Nat.mul_succ] at hA
    obtain ⟨w7, w8, w9, w10, e⟩ := trees3_l2 x0 x2 x3 p hp hp2 ts hE s (by omega) (upL (nxt k s) ts.length) A y7 y8 y9 y10 (fun x hx => by have := upL_mem.mp hx; omega) (by omega)
    obtain ⟨z5, z6, z7, z8, z9, z10, ih⟩ := trees3_l3 x0 x2 x3 p hp hp2 ts hE ht k hk l (A ++ extF p ts k s) (.tp (s.map D.int)) (.tp ((marksL p ts s).map D.int)) w7 w8 w9 w10 (fun q hq => hl q (List.mem_cons_of_mem _ hq)) (by simp; omega)
    refine ⟨z5, z6, z7, z8, z9, z10, ?_⟩
    rw [List.flatMap_cons, ← List.append_assoc, ← ih]
    have ee : ((upL (nxt k s) ts.length).filter fun t => !decide (nth (marksL p ts s) (tieAt ts t).1 = nth (marksL p ts s) (tieAt ts t).2)).map (fun t => s ++ [t]) = extF p ts k s := rfl
    rw [ee] at e
    have r1 : rgOk (nxt k s) := rgOk_of (by omega) (by omega)
    have r2 : rgOk (ts.length : Int) := rgOk_of (by omega) (by omega)
    have er : rng (nxt k s) ((ts.length : Int) - nxt k s).toNat = (upL (nxt k s) ts.length).map D.int := by rw [rng_map]; rfl
    have bs : 1 + s.length ≤ lim := by rw [lim_eq]; omega
    have mx2 : (D.int (-1) :: s.map D.int) = D.int (-1) :: s.map D.int := rfl
    simp only [List.map_append] at e
    simp [forL, f_law_trees_v3_l3, dH, mx, r1, r2, er, bs, e]
theorem trees3_l4 (x0 : D) (p : Nat) (hp : 1 ≤ p) (hp2 : p ≤ 6) (ts : List (Int × Int)) (hE : EndsOk p ts) (ht : ts.length ≤ 12) : ∀ (n k : Nat) (y3 y4 y5 y6 y7 y8 y9 y10 : D), k + n ≤ 5 →
    ∃ z3 z4 z5 z6 z7 z8 z9 z10, forL (gtN 3) f_law_trees_v3_l4 (rng k n) [x0, .ls (ts.map dP), .ls ((allF p ts k).map (dH p ts)), y3, y4, y5, y6, y7, y8, y9, y10, .un] = .nx [x0, .ls (ts.map dP), .ls ((allF p ts (k + n)).map (dH p ts)), z3, z4, z5, z6, z7, z8, z9, z10, .un]
  | 0, k, y3, y4, y5, y6, y7, y8, y9, y10, _ => ⟨y3, y4, y5, y6, y7, y8, y9, y10, by simp [rng_zero, forL]⟩
  | n + 1, k, y3, y4, y5, y6, y7, y8, y9, y10, h => by
    have big : (allF p ts k).length ≤ 12 ^ 4 := Nat.le_trans (allF_len k) (Nat.le_trans (allA_len ts.length k) (Nat.le_trans (Nat.pow_le_pow_left ht k) (Nat.pow_le_pow_right (by omega) (by omega))))
    have e4 : (12 : Nat) ^ 4 = 20736 := by decide
    have hm : ts.length * (allF p ts k).length ≤ 12 * 20736 := Nat.mul_le_mul ht (by omega)
    obtain ⟨v5, v6, v7, v8, v9, v10, e⟩ := trees3_l3 x0 (.ls ((allF p ts k).map (dH p ts))) (.int k) p hp (by omega) ts hE (by omega) k (by omega) (allF p ts k) [] y5 y6 y7 y8 y9 y10 (fun _ h => h) (by simp; omega)
    obtain ⟨z3, z4, z5, z6, z7, z8, z9, z10, ih⟩ := trees3_l4 x0 p hp hp2 ts hE ht n (k + 1) (.int k) (.ls ((allF p ts (k + 1)).map (dH p ts))) v5 v6 v7 v8 v9 v10 (by omega)
    refine ⟨z3, z4, z5, z6, z7, z8, z9, z10, ?_⟩
    rw [show k + (n + 1) = k + 1 + n by omega, ← ih]
    have ea : (allF p ts k).flatMap (extF p ts k) = allF p ts (k + 1) := rfl
    simp only [List.map_nil, List.nil_append, ea] at e
    have r : rng (k : Int) (n + 1) = .int k :: rng ((k : Int) + 1) n := rng_succ ..
    have dull : ∀ l : List (List Int), nods (l.map (dH p ts)) = true ∧ frzs (l.map (dH p ts)) = l.map (dH p ts) := fun l => by
      induction l with
      | nil => exact ⟨rfl, rfl⟩
      | cons a l ih => simp [dH, ih.1, ih.2]
    obtain ⟨d1, d2⟩ := dull (allF p ts (k + 1))
    simp [r, forL, f_law_trees_v3_l4, e, frzAt, d1, d2]
theorem trees3_ok (p : Nat) (hp : 1 ≤ p) (hp2 : p ≤ 6) (ts : List (Int × Int)) (hE : EndsOk p ts) (ht : ts.length ≤ 12) : g_law_trees_v3 [.int p, .ls (ts.map dP)] = .ok (.ol ((trees p ts).map dT)) := by
  obtain ⟨z3, z4, z5, z6, z7, z8, z9, z10, e⟩ := trees3_l4 (.int p) p hp hp2 ts hE ht (p - 1) 0 .un .un .un .un .un .un .un .un (by omega)
  have hr : rgOk ((p : Int) - 1) := rgOk_of (by omega) (by omega)
  have hr2 : rgOk (p : Int) := rgOk_of (by omega) (by omega)
  have en : ((p : Int) - 1).toNat = p - 1 := by omega
  have hb : (allF p ts (p - 1)).length ≤ 12 ^ 5 := Nat.le_trans (allF_len _) (Nat.le_trans (allA_len ts.length (p - 1)) (Nat.le_trans (Nat.pow_le_pow_left ht _) (Nat.pow_le_pow_right (by omega) (by omega))))
  have e5 : (12 : Nat) ^ 5 = 248832 := by decide
  have hl : (allF p ts (p - 1)).length ≤ lim := by rw [lim_eq]; omega
  have h3 : (p : Int) ≤ 1000000 := by omega
  have lc : ∀ x0 x1 x2 x3 x4 x7 x8 x9 x10 x11 : D, lcL (gtT 2 (gtCons (gtN 5) (gtCons (gtN 6) (gtNil)))) tYesG f_law_trees_v3_c5 [x0, x1, x2, x3, x4, .un, .un, x7, x8, x9, x10, x11] ((allF p ts (p - 1)).map (dH p ts)) = .ok ((trees p ts).map dT) := fun x0 x1 x2 x3 x4 x7 x8 x9 x10 x11 => by
    rw [← allF_trees hp hE]
    refine lcL_map _ fun s _ => ⟨[x0, x1, x2, x3, x4, .tp (s.map D.int), .tp ((marksL p ts s).map D.int), x7, x8, x9, x10, x11], rfl, by simp [f_law_trees_v3_c5, dT]⟩
  simp only [Nat.zero_add, allF] at e
  have m0 : marksL p ts [] = iota p := rfl
  simp only [List.map_cons, List.map_nil, dH, m0] at e
  have e' : forL (gtN 3) f_law_trees_v3_l4 (rng 0 (p - 1)) [.int p, .ls (ts.map dP), .ls [.tp [.tp [], .tp ((iota p).map D.int)]], .un, .un, .un, .un, .un, .un, .un, .un, .un] = .nx [.int p, .ls (ts.map dP), .ls ((allF p ts (p - 1)).map (dH p ts)), z3, z4, z5, z6, z7, z8, z9, z10, .un] := e
  rw [rng_iota] at e'
  simp [g_law_trees_v3, runF, f_law_trees_v3, hr, hr2, h3, rng_iota, en, e', hl, lc]
end Lw

noncomputable section
namespace Lw
open DL
def f_exchanges_of_c1 : Env → Res D := eTup (aConsO (eVar 3) (aConsO (eVar 4) (aNil)))
def f_exchanges_of_c1t : Env → Res Bool := tC2 cNe (eVar 4) (eVar 3)
def f_exchanges_of_l1 : Env → Out := sExt 2 (eLc (iSeq (eOwn g_cut_of (aCons (eVar 0) (aCons (eVar 1) (aCons (eVar 3) (aNil)))))) [4] (gtN 4) (f_exchanges_of_c1t) f_exchanges_of_c1)
def f_exchanges_of : Env → Out := sSeq (sExp (eOwn g_look_at_tree (aCons (eVar 0) (aCons (eVar 1) (aNil))))) (sSeq (sAsg 2 (eLst (aNil))) (sSeq (sFor (iSeq (eVar 1)) (gtN 3) f_exchanges_of_l1) (sRetV 2)))
def g_exchanges_of : List D → Res D := runF f_exchanges_of 5
end Lw
end

namespace Lw
open DL L2 TL
def exB (p : Nat) (ts : List (Int × Int)) (T : List Int) (o i : Int) : Bool := decide (o ∈ T) && !decide (i ∈ T) && decide (0 ≤ i) && decide (i < ts.length) && treeB p ts (swap T o i)
theorem exB_iff {p : Nat} {ts : List (Int × Int)} {T : List Int} {o i : Int} : exB p ts T o i = true ↔ o ∈ T ∧ i ∉ T ∧ (0 ≤ i ∧ i < ts.length) ∧ treeB p ts (swap T o i) = true := by
  simp only [exB, Bool.and_eq_true, decide_eq_true_eq, Bool.not_eq_true', decide_eq_false_iff_not, and_assoc]
def exOf (p : Nat) (ts : List (Int × Int)) (T : List Int) (o : Int) : List (Int × Int) := ((cutL p ts T o).filter fun x => !decide (x = o)).map fun i => (o, i)
def exAll (p : Nat) (ts : List (Int × Int)) (T : List Int) : List (Int × Int) := T.flatMap (exOf p ts T)
theorem exOf_len (p : Nat) (ts : List (Int × Int)) (T : List Int) (o : Int) : (exOf p ts T o).length ≤ ts.length := by
  unfold exOf cutL
  rw [List.length_map]
  have a := List.length_filter_le (fun x => !decide (x = o)) ((iota ts.length).filter (inC (p : Int).toNat ts T o))
  have b := List.length_filter_le (inC (p : Int).toNat ts T o) (iota ts.length)
  rw [iota_len] at b
  omega
theorem exch_l1 {w : D} (p : Nat) (hp : 1 ≤ p) (hp2 : p ≤ 100) (ts : List (Int × Int)) (hE : EndsOk p ts) (ht : ts.length ≤ 100) (T : List Int) (hT : treeB p ts T = true) (ho : LT w T) : ∀ (l : List Int) (S : List (Int × Int)) (y3 : D), (∀ o ∈ l, o ∈ T) → S.length + 100 * l.length ≤ 100000 →
    ∃ z3, forL (gtN 3) f_exchanges_of_l1 (l.map D.int) [.ob 14 [.int p, .ls (ts.map dP)], w, .ol (S.map dP), y3, .un] = .nx [.ob 14 [.int p, .ls (ts.map dP)], w, .ol ((S ++ l.flatMap (exOf p ts T)).map dP), z3, .un]
  | [], S, y3, _, _ => ⟨y3, by simp [forL]⟩
  | o :: l, S, y3, hl, hs => by
    have hm := hl o (List.mem_cons_self ..)
    have ct := cut_ok p ts hE (by omega) (by omega) (by omega) T ho hT o
    rw [if_pos hm] at ct
    have el := exOf_len p ts T o
    obtain ⟨z3, ih⟩ := exch_l1 p hp hp2 ts hE ht T hT ho l (S ++ exOf p ts T o) (.int o) (fun x hx => hl x (List.mem_cons_of_mem _ hx)) (by simp at hs ⊢; omega)
    refine ⟨z3, ?_⟩
    rw [List.flatMap_cons, ← List.append_assoc, ← ih]
    have lc : ∀ x2 : D, lcL (gtN 4) f_exchanges_of_c1t f_exchanges_of_c1 [.ob 14 [.int p, .ls (ts.map dP)], w, x2, .int o, .un] ((cutL p ts T o).map D.int) = .ok ((exOf p ts T o).map dP) := fun x2 => by
      unfold exOf
      rw [List.map_map]
      refine lcL_filterN _ fun x _ => ?_
      exact ⟨by rcases ho with rfl | rfl <;> simp [f_exchanges_of_c1t], fun _ => by rcases ho with rfl | rfl <;> simp [f_exchanges_of_c1]⟩
    have b1 : (cutL p ts T o).length ≤ lim := by
      have b := List.length_filter_le (inC (p : Int).toNat ts T o) (iota ts.length)
      rw [iota_len] at b
      unfold cutL
      rw [lim_eq]; omega
    have b2 : S.length + (exOf p ts T o).length ≤ lim := by rw [lim_eq]; simp at hs; omega
    rcases ho with rfl | rfl <;> simp [forL, f_exchanges_of_l1, ct, lc, b1, b2]
theorem exchanges_ok {w : D} (p : Nat) (hp : 1 ≤ p) (hp2 : p ≤ 100) (ts : List (Int × Int)) (hE : EndsOk p ts) (ht : ts.length ≤ 100) (T : List Int) (hT : treeB p ts T = true) (ho : LT w T) :
    g_exchanges_of [.ob 14 [.int p, .ls (ts.map dP)], w] = .ok (.ol ((exAll p ts T).map dP)) := by
  have lk := look_ok p ts hE (by omega) (by omega) T ho hT
  have hTl := tree_len hp hT
  obtain ⟨z3, e⟩ := exch_l1 p hp hp2 ts hE ht T hT ho T [] .un (fun _ h => h) (by simp; omega)
  simp only [List.map_nil, List.nil_append] at e
  rw [show T.flatMap (exOf p ts T) = exAll p ts T from rfl] at e
  rcases ho with rfl | rfl <;> simp [g_exchanges_of, runF, f_exchanges_of, lk, e]
theorem cut_ex {p : Nat} (hp : 1 ≤ p) {ts : List (Int × Int)} (hE : EndsOk p ts) {T : List Int} (hT : treeB p ts T = true) {o : Int} (ho : o ∈ T) (x : Int) : (x ∈ cutL p ts T o ∧ x ≠ o) ↔ exB p ts T o x = true := by
  have hI := tree_ind hT hp
  have hW : InT ts.length (wo T o) := wo_in hI.inn o
  have key : ∀ x : Int, 0 ≤ x → x < ts.length → (inC (p : Int).toNat ts T o x = true ↔ ¬ Conn (tiesAt ts (wo T o)) (tieAt ts x).1 (tieAt ts x).2) := fun x x0 x1 => by
    obtain ⟨_, e2⟩ := tie_at x0 x1
    obtain ⟨⟨a0, a1⟩, b0, b1⟩ := hE _ e2
    simp only [inC, Int.toNat_natCast, Bool.not_eq_true', decide_eq_false_iff_not]
    rw [nthM p ts hE (wo T o) hW _ _ a0 a1 b0 b1]
  rw [exB_iff]
  constructor
  · rintro ⟨h1, h2⟩
    unfold cutL at h1
    obtain ⟨k1, k2⟩ := List.mem_filter.mp h1
    obtain ⟨x0, x1⟩ := iota_mem.mp k1
    have c := (key x x0 x1).mp k2
    have hx : x ∉ T := fun z => c (conn_at (wo_mem.mpr ⟨z, h2⟩))
    exact ⟨ho, hx, ⟨x0, x1⟩, (swap_tree hp hE hT ho hx ⟨x0, x1⟩).mpr c⟩
  · rintro ⟨_, hx, ⟨x0, x1⟩, h⟩
    refine ⟨?_, fun e => hx (e ▸ ho)⟩
    unfold cutL
    exact List.mem_filter.mpr ⟨iota_mem.mpr ⟨x0, x1⟩, (key x x0 x1).mpr ((swap_tree hp hE hT ho hx ⟨x0, x1⟩).mp h)⟩
end Lw

namespace Lw
open DL L2 TL Classical
theorem Ind.cuts {p : Nat} {ts : List (Int × Int)} (hE : EndsOk p ts) {J : List Int} (h : Ind p ts J) {f : Int} (hf : f ∈ J) : ¬ Conn (tiesAt ts (wo J f)) (tieAt ts f).1 (tieAt ts f).2 := by
  intro c
  have hW := h.sub hE (wo_nodup h.nd f) (fun x hx => (wo_mem.mp hx).1)
  have e : cnt p (tiesAt ts (wo J f)) = cnt p (tiesAt ts J) := cnt_eq (tiesAt_ok hE hW.inn) (tiesAt_ok hE h.inn)
    (fun e he => by
      obtain ⟨t, ht, rfl⟩ := List.mem_map.mp he
      exact conn_at (wo_mem.mp ht).1)
    (fun e he => by
      obtain ⟨t, ht, rfl⟩ := List.mem_map.mp he
      by_cases q : t = f
      · subst q; exact c
      · exact conn_at (wo_mem.mpr ⟨ht, q⟩))
  have := h.ct
  have := hW.ct
  have := wo_length h.nd hf
  omega
theorem conn_snoc' {ts : List (Int × Int)} {J : List Int} {t : Int} {i j : Int} : Conn (tiesAt ts (J ++ [t])) i j ↔ Conn (tiesAt ts J) i j ∨ (Conn (tiesAt ts J) i (tieAt ts t).1 ∧ Conn (tiesAt ts J) (tieAt ts t).2 j) ∨ (Conn (tiesAt ts J) i (tieAt ts t).2 ∧ Conn (tiesAt ts J) (tieAt ts t).1 j) := by
  rw [tiesAt_snoc]; exact conn_snoc
theorem Ind.meet {p : Nat} {ts : List (Int × Int)} (hE : EndsOk p ts) {J : List Int} (h : Ind p ts J) {f : Int} (hf : f ∈ J) {K : List Int} (hK : ∀ x ∈ K, x ∈ J) {a b : Int} (c1 : Conn (tiesAt ts K) a b) (c2 : Conn (tiesAt ts (wo J f)) a b) : Conn (tiesAt ts (wo K f)) a b := by
  have c3 : Conn (tiesAt ts (wo K f ++ [f])) a b := conn_sub (fun x hx => by
    by_cases q : x = f
    · subst q; simp
    · exact List.mem_append_left _ (wo_mem.mpr ⟨hx, q⟩)) c1
  have up : ∀ {x y}, Conn (tiesAt ts (wo K f)) x y → Conn (tiesAt ts (wo J f)) x y := fun c => conn_sub (fun x hx => wo_mem.mpr ⟨hK x (wo_mem.mp hx).1, (wo_mem.mp hx).2⟩) c
  rcases conn_snoc'.mp c3 with c | ⟨d1, d2⟩ | ⟨d1, d2⟩
  · exact c
  · exact absurd ((up d1).symm.trans (c2.trans (up d2).symm)) (h.cuts hE hf)
  · exact absurd ((up d2).trans (c2.symm.trans (up d1))) (h.cuts hE hf)
theorem Ind.meets {p : Nat} {ts : List (Int × Int)} (hE : EndsOk p ts) {J : List Int} (h : Ind p ts J) {a b : Int} : ∀ (F : List Int), (∀ f ∈ F, f ∈ J ∧ Conn (tiesAt ts (wo J f)) a b) → ∀ K : List Int, (∀ x ∈ K, x ∈ J) → Conn (tiesAt ts K) a b → Conn (tiesAt ts (K.filter fun x => !decide (x ∈ F))) a b
  | [], _, K, _, c => by rw [List.filter_eq_self.mpr (by simp)]; exact c
  | f :: F, hF, K, hK, c => by
    have c1 := h.meet hE (hF f (List.mem_cons_self ..)).1 hK c (hF f (List.mem_cons_self ..)).2
    have := Ind.meets hE h F (fun g hg => hF g (List.mem_cons_of_mem _ hg)) (wo K f) (fun x hx => hK x (wo_mem.mp hx).1) c1
    refine conn_sub (fun x hx => ?_) this
    rw [List.mem_filter, wo_mem] at hx
    rw [List.mem_filter]
    refine ⟨hx.1.1, ?_⟩
    have h2 := hx.2
    simp at h2 ⊢
    exact ⟨hx.1.2, h2⟩
theorem swap_both {p : Nat} (hp : 1 ≤ p) {ts : List (Int × Int)} (hE : EndsOk p ts) {A U : List Int} (hA : treeB p ts A = true) (hU : treeB p ts U = true) {e : Int} (he : e ∈ A) (heU : e ∉ U) :
    ∃ f ∈ U, f ∉ A ∧ treeB p ts (swap A e f) = true ∧ treeB p ts (swap U f e) = true := by
  have hI := tree_ind hA hp
  have hJ := tree_ind hU hp
  obtain ⟨u1, u2, u3⟩ := treeB_nat.mp hU
  have er := hI.inn e he
  rcases Classical.em (∃ f ∈ U, ¬ Conn (tiesAt ts (wo A e)) (tieAt ts f).1 (tieAt ts f).2 ∧ ¬ Conn (tiesAt ts (wo U f)) (tieAt ts e).1 (tieAt ts e).2) with ⟨f, hf, c1, c2⟩ | no
  · have hfA : f ∉ A := fun z => c1 (conn_at (wo_mem.mpr ⟨z, fun q => heU (q ▸ hf)⟩))
    exact ⟨f, hf, hfA, (swap_tree hp hE hA he hfA (hJ.inn f hf)).mpr c1, (swap_tree hp hE hU hf heU er).mpr c2⟩
  · exfalso
    have hall : Conn (tiesAt ts U) (tieAt ts e).1 (tieAt ts e).2 := by
      obtain ⟨_, e2⟩ := tie_at er.1 er.2
      obtain ⟨a, b⟩ := hE _ e2
      exact (cnt_one hp (tiesAt_ok hE (good_in u2))).mp u3 _ _ a.1 a.2 b.1 b.2
    have c := hJ.meets hE (a := (tieAt ts e).1) (b := (tieAt ts e).2) (U.filter fun f => decide (¬ Conn (tiesAt ts (wo A e)) (tieAt ts f).1 (tieAt ts f).2)) (fun f hf => by
      obtain ⟨k1, k2⟩ := List.mem_filter.mp hf
      refine ⟨k1, ?_⟩
      rcases Classical.em (Conn (tiesAt ts (wo U f)) (tieAt ts e).1 (tieAt ts e).2) with z | z
      · exact z
      · exact absurd ⟨f, k1, by simpa using k2, z⟩ no) U (fun _ h => h) hall
    refine hI.cuts hE he (Conn.le (fun q hq => ?_) c)
    obtain ⟨t, ht, rfl⟩ := List.mem_map.mp hq
    obtain ⟨k1, k2⟩ := List.mem_filter.mp ht
    rcases Classical.em (Conn (tiesAt ts (wo A e)) (tieAt ts t).1 (tieAt ts t).2) with z | z
    · exact z
    · have : t ∈ U.filter fun f => decide (¬ Conn (tiesAt ts (wo A e)) (tieAt ts f).1 (tieAt ts f).2) := List.mem_filter.mpr ⟨k1, by simpa using z⟩
      simp only [this, decide_true, Bool.not_true] at k2
      exact absurd k2 (by simp)
end Lw

namespace Lw
open DL L2 TL
theorem exAll_mem {p : Nat} (hp : 1 ≤ p) {ts : List (Int × Int)} (hE : EndsOk p ts) {T : List Int} (hT : treeB p ts T = true) {o i : Int} : (o, i) ∈ exAll p ts T ↔ exB p ts T o i = true := by
  simp only [exAll, List.mem_flatMap, exOf, List.mem_map, List.mem_filter]
  constructor
  · rintro ⟨o', ho, i', ⟨h1, h2⟩, e⟩
    cases e
    exact (cut_ex hp hE hT ho i).mp ⟨h1, by simpa using h2⟩
  · intro h
    have ho := (exB_iff.mp h).1
    obtain ⟨h1, h2⟩ := (cut_ex hp hE hT ho i).mpr h
    exact ⟨o, ho, i, ⟨h1, by simpa using h2⟩, rfl⟩
theorem exAll_len (p : Nat) (ts : List (Int × Int)) (T : List Int) : (exAll p ts T).length ≤ T.length * ts.length := by
  have : ∀ l : List Int, (l.map fun o => (exOf p ts T o).length).sum ≤ l.length * ts.length := fun l => by
    induction l with
    | nil => simp
    | cons o l ih =>
      have := exOf_len p ts T o
      simp only [List.map_cons, List.sum_cons, List.length_cons, Nat.succ_mul]
      omega
  unfold exAll
  rw [List.length_flatMap]
  exact this T
def shorter (L : List Int) (x : Int × Int) : Bool := decide (nth L x.2 < nth L x.1)
def gains (p : Nat) (ts : List (Int × Int)) (L T : List Int) : List (Int × Int) := (exAll p ts T).filter (shorter L)
def dueOf (p : Nat) (ts : List (Int × Int)) (L T : List Int) (i : Int) : List (Int × Int) := if i ∈ T then [] else ((T.filter fun o => !decide (nth (marksL p ts (wo T o)) (tieAt ts i).1 = nth (marksL p ts (wo T o)) (tieAt ts i).2)).map fun o => (o, i)).filter (shorter L)
def dueAll (p : Nat) (ts : List (Int × Int)) (L T : List Int) : List (Int × Int) := (iota ts.length).flatMap (dueOf p ts L T)
section
variable {p : Nat} (hp : 1 ≤ p) {ts : List (Int × Int)} (hE : EndsOk p ts) {T : List Int} (hT : treeB p ts T = true) (L : List Int)
include hp hE hT
theorem due_mem (x : Int × Int) : x ∈ dueAll p ts L T ↔ x ∈ gains p ts L T := by
  obtain ⟨o, i⟩ := x
  have hI := tree_ind hT hp
  unfold dueAll gains
  rw [List.mem_flatMap, List.mem_filter, exAll_mem hp hE hT, exB_iff]
  constructor
  · rintro ⟨j, hj, h⟩
    unfold dueOf at h
    by_cases c : j ∈ T
    · rw [if_pos c] at h; exact nomatch h
    · rw [if_neg c] at h
      obtain ⟨h1, h2⟩ := List.mem_filter.mp h
      obtain ⟨o', h3, e⟩ := List.mem_map.mp h1
      cases e
      obtain ⟨h4, h5⟩ := List.mem_filter.mp h3
      have hj' := iota_mem.mp hj
      refine ⟨⟨h4, c, hj', (swap_tree hp hE hT h4 c hj').mpr ?_⟩, h2⟩
      rw [← testL hE (wo_in hI.inn o) hj']
      simpa using h5
  · rintro ⟨⟨h1, h2, h3, h4⟩, h5⟩
    refine ⟨i, iota_mem.mpr h3, ?_⟩
    unfold dueOf
    rw [if_neg h2]
    refine List.mem_filter.mpr ⟨List.mem_map.mpr ⟨o, List.mem_filter.mpr ⟨h1, ?_⟩, rfl⟩, h5⟩
    have := (swap_tree hp hE hT h1 h2 h3).mp h4
    rw [← testL hE (wo_in hI.inn o) h3] at this
    simpa using this
omit hE in
theorem lsum_swap {o i : Int} (ho : o ∈ T) : lsum L (swap T o i) = lsum L T - nth L o + nth L i := by
  have hI := tree_ind hT hp
  have pm : (o :: wo T o).Perm T := by
    refine (List.perm_ext_iff_of_nodup (List.nodup_cons.mpr ⟨fun z => (wo_mem.mp z).2 rfl, wo_nodup hI.nd o⟩) hI.nd).mpr fun x => ?_
    rw [List.mem_cons, wo_mem]
    constructor
    · rintro (rfl | h)
      · exact ho
      · exact h.1
    · intro h
      by_cases e : x = o
      · exact .inl e
      · exact .inr ⟨h, e⟩
  unfold swap
  rw [lsum_perm (srt_perm _), ← lsum_perm pm, lsum_cons]
  unfold lsum
  rw [List.map_append, List.sum_append]
  simp
  omega
theorem no_gain (h : gains p ts L T = []) : ∀ (n : Nat) {U : List Int}, treeB p ts U = true → (alone U T).length ≤ n → lsum L T ≤ lsum L U
  | 0, U, hU, hn => by
    have e : U = T := by
      refine rise_uniq (good_iff.mp (treeB_nat.mp hU).2.1).2 (good_iff.mp (treeB_nat.mp hT).2.1).2 fun k => ?_
      have sub : ∀ x ∈ U, x ∈ T := fun x hx => by
        rcases Classical.em (x ∈ T) with z | z
        · exact z
        · have : x ∈ alone U T := List.mem_filter.mpr ⟨hx, by simpa using z⟩
          have := List.length_pos_of_mem this
          omega
      refine ⟨sub k, fun hk => ?_⟩
      rcases Classical.em (k ∈ U) with z | z
      · exact z
      · have := nodup_le (l := k :: U) (m := T) (List.nodup_cons.mpr ⟨z, (tree_ind hU hp).nd⟩) fun y hy => by
          rcases List.mem_cons.mp hy with rfl | hy
          · exact hk
          · exact sub y hy
        have h1 := tree_len hp hU
        have h2 := tree_len hp hT
        simp at this
        omega
    rw [e]; exact Int.le_refl _
  | n + 1, U, hU, hn => by
    match hA : alone U T with
    | [] => exact no_gain h n hU (by rw [hA]; simp)
    | f :: r =>
      have hf : f ∈ alone U T := by rw [hA]; exact List.mem_cons_self ..
      obtain ⟨f1, f2⟩ := List.mem_filter.mp hf
      have f2 : f ∉ T := by simpa using f2
      obtain ⟨g, g1, g2, g3, g4⟩ := swap_both hp hE hU hT f1 f2
      have hex : exB p ts T g f = true := exB_iff.mpr ⟨g1, f2, (tree_ind hU hp).inn f f1, g4⟩
      have ng : ¬ nth L f < nth L g := fun z => by
        have : (g, f) ∈ gains p ts L T := List.mem_filter.mpr ⟨(exAll_mem hp hE hT).mpr hex, by simpa [shorter] using z⟩
        rw [h] at this
        exact nomatch this
      have e1 : lsum L (swap U f g) = lsum L U - nth L f + nth L g := lsum_swap hp hU L f1
      have := no_gain h n g3 (by
        have hnd : (alone (swap U f g) T).Nodup := (tree_ind g3 hp).nd.filter _
        have hfn : f ∉ alone (swap U f g) T := fun z => by
          have := swap_mem.mp (List.mem_filter.mp z).1
          rcases this with ⟨_, z⟩ | z
          · exact z rfl
          · rw [z] at f2; exact f2 g1
        have := nodup_le (l := f :: alone (swap U f g) T) (m := alone U T) (List.nodup_cons.mpr ⟨hfn, hnd⟩) fun y hy => by
          rcases List.mem_cons.mp hy with rfl | hy
          · exact hf
          · obtain ⟨h1, h2⟩ := List.mem_filter.mp hy
            rcases swap_mem.mp h1 with ⟨z, _⟩ | z
            · exact List.mem_filter.mpr ⟨z, h2⟩
            · subst z; simp [g1] at h2
        simp at this
        omega)
      omega
theorem gain_iff : gains p ts L T = [] ↔ ∀ U, treeB p ts U = true → lsum L T ≤ lsum L U := by
  constructor
  · exact fun h U hU => no_gain hp hE hT L h _ hU (Nat.le_refl _)
  · intro h
    match hg : gains p ts L T with
    | [] => rfl
    | (o, i) :: r =>
      exfalso
      have hm : (o, i) ∈ gains p ts L T := by rw [hg]; exact List.mem_cons_self ..
      obtain ⟨h1, h2⟩ := List.mem_filter.mp hm
      have hx := exB_iff.mp ((exAll_mem hp hE hT).mp h1)
      have := h _ hx.2.2.2
      rw [lsum_swap hp hT L hx.1] at this
      have h2 : nth L i < nth L o := by simpa [shorter] using h2
      omega
end
end Lw

namespace Dt
def sm : Nat → (Nat → Int) → Int
  | 0, _ => 0
  | n + 1, f => sm n f + f n
def sg (i : Nat) : Int := if i % 2 = 0 then 1 else -1
theorem sg_succ (i : Nat) : sg (i + 1) = - sg i := by unfold sg; split <;> split <;> omega
theorem sm_congr {f g : Nat → Int} : ∀ {n : Nat}, (∀ i, i < n → f i = g i) → sm n f = sm n g
  | 0, _ => rfl
  | n + 1, h => by simp only [sm]; rw [sm_congr fun i hi => h i (by omega), h n (by omega)]
theorem sm_zero {f : Nat → Int} : ∀ {n : Nat}, (∀ i, i < n → f i = 0) → sm n f = 0
  | 0, _ => rfl
  | n + 1, h => by simp only [sm]; rw [sm_zero fun i hi => h i (by omega), h n (by omega)]; rfl
theorem sm_lin (s t : Int) (f g : Nat → Int) : ∀ n, sm n (fun i => s * f i + t * g i) = s * sm n f + t * sm n g
  | 0 => by simp [sm]
  | n + 1 => by simp only [sm]; rw [sm_lin s t f g n]; simp only [Int.mul_add]; omega
theorem sm_one {f : Nat → Int} {k : Nat} : ∀ {n : Nat}, k < n → (∀ i, i < n → i ≠ k → f i = 0) → sm n f = f k
  | n + 1, hk, h => by
    simp only [sm]
    by_cases e : k = n
    · subst e
      rw [sm_zero fun i hi => h i (by omega) (by omega)]; omega
    · rw [sm_one (by omega) fun i hi hn => h i (by omega) hn, h n (by omega) (by omega)]; omega
theorem sm_two {f : Nat → Int} {k : Nat} : ∀ {n : Nat}, k + 1 < n → (∀ i, i < n → i ≠ k → i ≠ k + 1 → f i = 0) → sm n f = f k + f (k + 1)
  | n + 1, hk, h => by
    simp only [sm]
    by_cases e : k + 1 = n
    · subst e
      rw [sm_one (k := k) (by omega) fun i hi hn => h i (by omega) hn (by omega)]
    · rw [sm_two (by omega) fun i hi h1 h2 => h i (by omega) h1 h2, h n (by omega) (by omega) (by omega)]; omega
abbrev Mx := Nat → Nat → Int
def del (i : Nat) (A : Mx) : Mx := fun r => A (if r < i then r else r + 1)
def det : Nat → Nat → Mx → Int
  | 0, _, _ => 1
  | n + 1, c, A => sm (n + 1) fun i => sg i * A i c * det n (c + 1) (del i A)
theorem det_congr : ∀ {n c : Nat} {A B : Mx}, (∀ r j, r < n → c ≤ j → j < c + n → A r j = B r j) → det n c A = det n c B
  | 0, _, _, _, _ => rfl
  | n + 1, c, A, B, h => by
    simp only [det]
    refine sm_congr fun i hi => ?_
    rw [h i c hi (by omega) (by omega)]
    congr 1
    refine det_congr fun r j hr h1 h2 => ?_
    unfold del
    exact h _ j (by split <;> omega) (by omega) (by omega)
def upd (A : Mx) (k : Nat) (x : Nat → Int) : Mx := fun r => if r = k then x else A r
theorem upd_self (A : Mx) (k : Nat) : upd A k (A k) = A := by funext r; unfold upd; split <;> simp_all
theorem upd_at (A : Mx) (k : Nat) (x : Nat → Int) : upd A k x k = x := by simp [upd]
theorem upd_ne {A : Mx} {k r : Nat} {x : Nat → Int} (h : r ≠ k) : upd A k x r = A r := by simp [upd, h]
theorem upd_upd (A : Mx) (k : Nat) (x y : Nat → Int) : upd (upd A k x) k y = upd A k y := by funext r; unfold upd; split <;> simp_all
theorem upd_comm (A : Mx) {k l : Nat} (h : k ≠ l) (x y : Nat → Int) : upd (upd A k x) l y = upd (upd A l y) k x := by
  funext r; unfold upd; split <;> split <;> simp_all
theorem del_upd_same (A : Mx) (k : Nat) (x : Nat → Int) : del k (upd A k x) = del k A := by
  funext r; unfold del upd
  split <;> rw [if_neg (by omega)]
theorem del_upd_lt (A : Mx) {i k : Nat} (h : i < k) (x : Nat → Int) : del i (upd A k x) = upd (del i A) (k - 1) x := by
  funext r; unfold del upd
  by_cases e : r = k - 1
  · rw [if_pos e, if_pos (by split <;> omega)]
  · rw [if_neg e, if_neg (by split <;> omega)]
theorem del_upd_gt (A : Mx) {i k : Nat} (h : k < i) (x : Nat → Int) : del i (upd A k x) = upd (del i A) k x := by
  funext r; unfold del upd
  by_cases e : r = k
  · rw [if_pos e, if_pos (by split <;> omega)]
  · rw [if_neg e, if_neg (by split <;> omega)]
theorem det_lin (s t : Int) (x y : Nat → Int) : ∀ {n c k : Nat} (A : Mx), k < n → det n c (upd A k fun j => s * x j + t * y j) = s * det n c (upd A k x) + t * det n c (upd A k y)
  | n + 1, c, k, A, hk => by
    simp only [det]
    rw [← sm_lin]
    refine sm_congr fun i hi => ?_
    by_cases e : i = k
    · subst e
      rw [del_upd_same, del_upd_same, del_upd_same, upd_at, upd_at, upd_at]
      generalize det n (c + 1) (del i A) = d
      simp only [Int.mul_add, Int.add_mul]
      rw [show sg i * (s * x c) * d = s * (sg i * x c * d) by ac_rfl, show sg i * (t * y c) * d = t * (sg i * y c * d) by ac_rfl]
    · rw [upd_ne e, upd_ne e, upd_ne e]
      rcases Nat.lt_or_ge i k with h | h
      · rw [del_upd_lt A h, del_upd_lt A h, del_upd_lt A h, det_lin s t x y (del i A) (by omega)]
        simp only [Int.mul_add]
        rw [show sg i * A i c * (s * det n (c + 1) (upd (del i A) (k - 1) x)) = s * (sg i * A i c * det n (c + 1) (upd (del i A) (k - 1) x)) by ac_rfl,
          show sg i * A i c * (t * det n (c + 1) (upd (del i A) (k - 1) y)) = t * (sg i * A i c * det n (c + 1) (upd (del i A) (k - 1) y)) by ac_rfl]
      · have h : k < i := by omega
        rw [del_upd_gt A h, del_upd_gt A h, del_upd_gt A h, det_lin s t x y (del i A) (by omega)]
        simp only [Int.mul_add]
        rw [show sg i * A i c * (s * det n (c + 1) (upd (del i A) k x)) = s * (sg i * A i c * det n (c + 1) (upd (del i A) k x)) by ac_rfl,
          show sg i * A i c * (t * det n (c + 1) (upd (del i A) k y)) = t * (sg i * A i c * det n (c + 1) (upd (del i A) k y)) by ac_rfl]
theorem det_mul (s : Int) (x : Nat → Int) {n c k : Nat} (A : Mx) (hk : k < n) : det n c (upd A k fun j => s * x j) = s * det n c (upd A k x) := by
  have h := det_lin (c := c) s 0 x x A hk
  simp only [Int.zero_mul, Int.add_zero] at h
  exact h
theorem det_add (x y : Nat → Int) {n c k : Nat} (A : Mx) (hk : k < n) : det n c (upd A k fun j => x j + y j) = det n c (upd A k x) + det n c (upd A k y) := by
  have h := det_lin (c := c) 1 1 x y A hk
  simp only [Int.one_mul] at h
  exact h
theorem det_adj : ∀ {n c k : Nat} {A : Mx}, k + 1 < n → A k = A (k + 1) → det n c A = 0
  | n + 1, c, k, A, hk, h => by
    simp only [det]
    rw [sm_two hk]
    · have e : del k A = del (k + 1) A := by
        funext r; unfold del
        by_cases q : r = k
        · subst q; rw [if_neg (by omega), if_pos (by omega)]; exact h.symm
        · congr 1
          split <;> split <;> omega
      rw [e, sg_succ, h]
      rw [show -sg k * A (k + 1) c * det n (c + 1) (del (k + 1) A) = - (sg k * A (k + 1) c * det n (c + 1) (del (k + 1) A)) by rw [Int.neg_mul, Int.neg_mul]]
      omega
    · intro i hi h1 h2
      have : det n (c + 1) (del i A) = 0 := by
        rcases Nat.lt_or_ge i k with q | q
        · refine det_adj (k := k - 1) (by omega) ?_
          unfold del
          rw [if_neg (by omega), if_neg (by omega), show k - 1 + 1 = k by omega]
          exact h
        · refine det_adj (k := k) (by omega) ?_
          unfold del
          rw [if_pos (by omega), if_pos (by omega)]
          exact h
      rw [this, Int.mul_zero]
theorem det_swap_adj {n c k : Nat} (A : Mx) (hk : k + 1 < n) (x y : Nat → Int) : det n c (upd (upd A k x) (k + 1) y) = - det n c (upd (upd A k y) (k + 1) x) := by
  have h0 : det n c (upd (upd A k fun j => x j + y j) (k + 1) fun j => x j + y j) = 0 := det_adj hk (by rw [upd_ne (by omega), upd_at, upd_at])
  rw [det_add _ _ _ hk, upd_comm _ (by omega), det_add _ _ _ (by omega), upd_comm _ (by omega) (fun j => x j + y j), det_add _ _ _ (by omega)] at h0
  have e1 : det n c (upd (upd A (k + 1) x) k x) = 0 := det_adj hk (by rw [upd_at, upd_ne (by omega), upd_at])
  have e2 : det n c (upd (upd A (k + 1) y) k y) = 0 := det_adj hk (by rw [upd_at, upd_ne (by omega), upd_at])
  rw [e1, e2] at h0
  rw [upd_comm A (show k ≠ k + 1 by omega) x y, upd_comm A (show k ≠ k + 1 by omega) y x]
  omega
theorem det_eq : ∀ (d : Nat) {n c r : Nat} {A : Mx}, r + d + 1 < n → A r = A (r + d + 1) → det n c A = 0
  | 0, n, c, r, A, hs, h => det_adj hs h
  | d + 1, n, c, r, A, hs, h => by
    have e : A = upd (upd A (r + d + 1) (A (r + d + 1))) (r + d + 1 + 1) (A (r + d + 1 + 1)) := by rw [upd_self, upd_self]
    rw [e, det_swap_adj (k := r + d + 1) A (by omega)]
    have : det n c (upd (upd A (r + d + 1) (A (r + d + 1 + 1))) (r + d + 1 + 1) (A (r + d + 1))) = 0 := by
      refine det_eq d (r := r) (by omega) ?_
      rw [upd_ne (by omega), upd_ne (by omega), upd_ne (by omega), upd_at]
      exact h
    rw [this]; rfl
theorem det_same {n c r s : Nat} {A : Mx} (hr : r < n) (hs : s < n) (hn : r ≠ s) (h : A r = A s) : det n c A = 0 := by
  rcases Nat.lt_or_ge r s with q | q
  · exact det_eq (s - r - 1) (r := r) (by omega) (by rw [show r + (s - r - 1) + 1 = s by omega]; exact h)
  · exact det_eq (r - s - 1) (r := s) (by omega) (by rw [show s + (r - s - 1) + 1 = r by omega]; exact h.symm)
theorem det_op {n c r s : Nat} (A : Mx) (hr : r < n) (hs : s < n) (hn : r ≠ s) (t : Int) : det n c (upd A s fun j => A s j + t * A r j) = det n c A := by
  have h := det_lin (c := c) 1 t (A s) (A r) A hs
  simp only [Int.one_mul] at h
  rw [h, upd_self]
  have : det n c (upd A s (A r)) = 0 := det_same hr hs hn (by rw [upd_ne hn, upd_at])
  rw [this]; omega
theorem det_ops {n c r : Nat} (A : Mx) (hr : r < n) (w : Nat → Int) (hw : w r = 0) : det n c (fun s j => A s j + w s * A r j) = det n c A := by
  have key : ∀ k, k ≤ n → det n c (fun s j => if s < k then A s j + w s * A r j else A s j) = det n c A := by
    intro k
    induction k with
    | zero => intro _; exact det_congr fun s j _ _ _ => by simp
    | succ k ih =>
      intro hk
      rw [← ih (by omega)]
      by_cases e : k = r
      · subst e
        refine det_congr fun s j _ _ _ => ?_
        by_cases q : s = k
        · subst q; rw [if_pos (by omega), if_neg (by omega), hw]; omega
        · by_cases q2 : s < k
          · rw [if_pos (by omega), if_pos q2]
          · rw [if_neg (by omega), if_neg q2]
      · have h := det_op (n := n) (c := c) (fun s j => if s < k then A s j + w s * A r j else A s j) hr (by omega : k < n) (fun z => e z.symm) (w k)
        rw [← h]
        refine det_congr fun s j _ _ _ => ?_
        unfold upd
        by_cases q : s = k
        · subst q
          rw [if_pos (by omega), if_pos rfl, if_neg (by omega)]
          congr 2
          by_cases q3 : r < s
          · rw [if_pos q3, hw]; omega
          · rw [if_neg q3]
        · rw [if_neg q]
          dsimp only
          by_cases q2 : s < k
          · rw [if_pos (by omega), if_pos q2]
          · rw [if_neg (by omega), if_neg q2]
  rw [← key n (Nat.le_refl n)]
  exact det_congr fun s j hs _ _ => by rw [if_pos hs]
theorem det_swap {n c r s : Nat} (A : Mx) (hr : r < n) (hs : s < n) (hn : r ≠ s) : det n c (fun i => A (if i = r then s else if i = s then r else i)) = - det n c A := by
  have e : (fun i => A (if i = r then s else if i = s then r else i)) = upd (upd A r (A s)) s (A r) := by
    funext i; unfold upd
    have hn' : ¬ s = r := fun z => hn z.symm
    by_cases q : i = s
    · subst q; simp [hn']
    · by_cases q2 : i = r
      · subst q2; simp [hn]
      · simp [q, q2]
  rw [e]
  have h0 : det n c (upd (upd A r fun j => A r j + A s j) s fun j => A r j + A s j) = 0 := det_same hr hs hn (by rw [upd_ne hn, upd_at, upd_at])
  rw [det_add _ _ _ hs, upd_comm _ hn, det_add _ _ _ hr, upd_comm _ hn (fun j => A r j + A s j), det_add _ _ _ hr] at h0
  have e1 : det n c (upd (upd A s (A r)) r (A r)) = 0 := det_same hr hs hn (by rw [upd_at, upd_ne (fun z => hn z.symm), upd_at])
  have e2 : det n c (upd (upd A s (A s)) r (A s)) = 0 := det_same hr hs hn (by rw [upd_at, upd_ne (fun z => hn z.symm), upd_at])
  have e3 : upd (upd A s (A s)) r (A r) = A := by rw [upd_self, upd_self]
  rw [e1, e2, e3] at h0
  rw [upd_comm _ hn]
  omega
def pr : Nat → (Nat → Int) → Int
  | 0, _ => 1
  | n + 1, w => pr n w * w n
theorem det_scale {n c : Nat} (A : Mx) (w : Nat → Int) : det n c (fun r j => w r * A r j) = pr n w * det n c A := by
  have key : ∀ k, k ≤ n → det n c (fun r j => if r < k then w r * A r j else A r j) = pr k w * det n c A := by
    intro k
    induction k with
    | zero => intro _; rw [pr, Int.one_mul]; exact det_congr fun s j _ _ _ => by simp
    | succ k ih =>
      intro hk
      have h := det_mul (n := n) (c := c) (k := k) (w k) (A k) (fun r j => if r < k then w r * A r j else A r j) (by omega)
      have e1 : det n c (upd (fun r j => if r < k then w r * A r j else A r j) k (A k)) = det n c (fun r j => if r < k then w r * A r j else A r j) := det_congr fun s j _ _ _ => by
        unfold upd
        by_cases q : s = k
        · subst q; rw [if_pos rfl, if_neg (by omega)]
        · rw [if_neg q]
      rw [e1, ih (by omega)] at h
      rw [pr, show pr k w * w k * det n c A = w k * (pr k w * det n c A) by ac_rfl, ← h]
      refine det_congr fun s j _ _ _ => ?_
      unfold upd
      by_cases q : s = k
      · subst q; rw [if_pos (by omega), if_pos rfl]
      · rw [if_neg q]
        dsimp only
        by_cases q2 : s < k
        · rw [if_pos (by omega), if_pos q2]
        · rw [if_neg (by omega), if_neg q2]
  rw [← key n (Nat.le_refl n)]
  exact det_congr fun s j hs _ _ => by rw [if_pos hs]
theorem pr_const (p : Int) : ∀ n, pr n (fun _ => p) = p ^ n
  | 0 => by simp [pr]
  | n + 1 => by rw [pr, pr_const p n, Int.pow_succ]
theorem det_shift : ∀ (n c : Nat) (A : Mx), det n (c + 1) A = det n c fun r j => A r (j + 1)
  | 0, _, _ => rfl
  | n + 1, c, A => by
    simp only [det]
    refine sm_congr fun i hi => ?_
    rw [det_shift n (c + 1) (del i A)]
    rfl
theorem det_head {n c : Nat} {A : Mx} (h : ∀ r, 0 < r → r ≤ n → A r c = 0) : det (n + 1) c A = A 0 c * det n (c + 1) fun r => A (r + 1) := by
  simp only [det]
  rw [sm_one (k := 0) (by omega) fun i hi hn => by rw [h i (by omega) (by omega)]; simp]
  have e : del 0 A = fun r => A (r + 1) := by funext r; unfold del; rw [if_neg (by omega)]
  rw [e]
  show 1 * _ * _ = _
  rw [Int.one_mul]
theorem det_nil {n c : Nat} {A : Mx} (h : ∀ r, r ≤ n → A r c = 0) : det (n + 1) c A = 0 := by
  simp only [det]
  exact sm_zero fun i hi => by rw [h i (by omega)]; simp
theorem det_chio {m c : Nat} (A : Mx) : A 0 c * det m (c + 1) (fun r j => A 0 c * A (r + 1) j - A (r + 1) c * A 0 j) = A 0 c ^ m * det (m + 1) c A := by
  have h1 := det_head (n := m) (c := c) (A := fun r j => if r = 0 then A 0 j else A 0 c * A r j - A r c * A 0 j) fun r h _ => by
    show (if r = 0 then A 0 c else A 0 c * A r c - A r c * A 0 c) = 0
    rw [if_neg (by omega), Int.mul_comm]; omega
  have e1 : det m (c + 1) (fun r => (fun r j => if r = 0 then A 0 j else A 0 c * A r j - A r c * A 0 j) (r + 1)) = det m (c + 1) (fun r j => A 0 c * A (r + 1) j - A (r + 1) c * A 0 j) := det_congr fun r j _ _ _ => by
    show (if r + 1 = 0 then A 0 j else _) = _
    rw [if_neg (by omega)]
  rw [e1] at h1
  have h1' : det (m + 1) c (fun r j => if r = 0 then A 0 j else A 0 c * A r j - A r c * A 0 j) = A 0 c * det m (c + 1) (fun r j => A 0 c * A (r + 1) j - A (r + 1) c * A 0 j) := h1
  rw [← h1']
  have h2 := det_ops (n := m + 1) (c := c) (r := 0) (fun r j => (if r = 0 then 1 else A 0 c) * A r j) (by omega) (fun r => if r = 0 then 0 else - A r c) (by simp)
  have h3 := det_scale (n := m + 1) (c := c) A (fun r => if r = 0 then 1 else A 0 c)
  have h4 : ∀ k, pr (k + 1) (fun r => if r = 0 then 1 else A 0 c) = A 0 c ^ k := by
    intro k
    induction k with
    | zero => simp [pr]
    | succ k ih => rw [pr, ih, if_neg (by omega), Int.pow_succ]
  rw [h4] at h3
  rw [← h3, ← h2]
  refine det_congr fun r j _ _ _ => ?_
  by_cases q : r = 0
  · subst q; simp
  · simp only [if_neg q, if_true, Int.one_mul, Int.neg_mul]
    omega
end Dt

namespace Dt
theorem det_1 (A : Mx) (c : Nat) : det 1 c A = A 0 c := by
  simp [det, sm, sg]
def ex (k : Nat) (ρ : Nat → Nat) (i : Nat) : Nat := if i < k then i else ρ (i - k)
structure Bar (n k : Nat) (A A' E : Mx) (s ahead : Int) : Prop where
  hs : det n 0 A = s * det n 0 A'
  ss : s = 1 ∨ s = -1
  ha : ahead = det k 0 A'
  hn : ahead ≠ 0
  hE : ∀ (m : Nat) (ρ γ : Nat → Nat), det (m + 1) 0 (fun i j => E (ρ i) (γ j)) = det (k + m + 1) 0 (fun i j => A' (ex k ρ i) (ex k γ j)) * ahead ^ m
theorem bar_start (n : Nat) (A : Mx) : Bar n 0 A A A 1 1 where
  hs := by rw [Int.one_mul]
  ss := .inl rfl
  ha := rfl
  hn := by decide
  hE := fun m ρ γ => by
    rw [Int.one_pow, Int.mul_one, Nat.zero_add]
    rfl
def sw (k f i : Nat) : Nat := if i = k then f else if i = f then k else i
theorem bar_swap {n k : Nat} {A A' E : Mx} {s ahead : Int} (h : Bar n k A A' E s ahead) {f : Nat} (hk : k < f) (hf : f < n) : Bar n k A (fun r => A' (sw k f r)) (fun r => E (sw k f r)) (-s) ahead where
  hs := by
    have := det_swap (n := n) (c := 0) A' (show k < n by omega) hf (by omega)
    have e : det n 0 (fun r => A' (sw k f r)) = - det n 0 A' := this
    rw [e, h.hs, Int.neg_mul_neg]
  ss := by rcases h.ss with e | e <;> rw [e] <;> simp
  ha := by
    rw [h.ha]
    refine det_congr fun r j hr _ _ => ?_
    show A' r j = A' (sw k f r) j
    unfold sw
    rw [if_neg (by omega), if_neg (by omega)]
  hn := h.hn
  hE := fun m ρ γ => by
    have := h.hE m (fun i => sw k f (ρ i)) γ
    refine this.trans ?_
    congr 1
    refine det_congr fun r j _ _ _ => ?_
    have e : ex k (fun i => sw k f (ρ i)) r = sw k f (ex k ρ r) := by
      unfold ex
      by_cases q : r < k
      · rw [if_pos q, if_pos q]; unfold sw; rw [if_neg (by omega), if_neg (by omega)]
      · rw [if_neg q, if_neg q]
    rw [e]
theorem bar_piv {n k : Nat} {A A' E : Mx} {s ahead : Int} (h : Bar n k A A' E s ahead) : E k k = det (k + 1) 0 A' := by
  have := h.hE 0 (fun _ => k) (fun _ => k)
  rw [det_1, Int.pow_zero, Int.mul_one] at this
  rw [this]
  refine det_congr fun r j hr _ hj => ?_
  have e : ∀ i, i < k + 1 → ex k (fun _ => k) i = i := fun i hi => by
    unfold ex
    by_cases q : i < k
    · rw [if_pos q]
    · rw [if_neg q]; show k = i; omega
  rw [e r hr, e j (by omega)]
theorem bar_ent {n k : Nat} {A A' E : Mx} {s ahead : Int} (h : Bar n k A A' E s ahead) (r c : Nat) : E r c = det (k + 1) 0 (fun i j => A' (ex k (fun _ => r) i) (ex k (fun _ => c) j)) := by
  have := h.hE 0 (fun _ => r) (fun _ => c)
  rw [det_1, Int.pow_zero, Int.mul_one] at this
  exact this
def nx (E : Mx) (k : Nat) (ahead : Int) : Mx := fun r c => (E r c * E k k - E r k * E k c) / ahead
theorem bar_div {n k : Nat} {A A' E : Mx} {s ahead : Int} (h : Bar n k A A' E s ahead) (hp : E k k ≠ 0) (m : Nat) (ρ γ : Nat → Nat) :
    det (m + 1) 0 (fun r j => E k k * E (ρ r) (γ j) - E (ρ r) k * E k (γ j)) = E k k ^ m * (det (k + 1 + m + 1) 0 (fun i j => A' (ex (k + 1) ρ i) (ex (k + 1) γ j)) * ahead ^ (m + 1)) := by
  have h1 := h.hE (m + 1) (fun i => if i = 0 then k else ρ (i - 1)) (fun i => if i = 0 then k else γ (i - 1))
  have h2 := det_chio (m := m + 1) (c := 0) (fun i j => E (if i = 0 then k else ρ (i - 1)) (if j = 0 then k else γ (j - 1)))
  rw [h1, det_shift] at h2
  simp only [if_pos, Nat.add_one_ne_zero, if_false, Nat.add_sub_cancel] at h2
  have e : det (k + (m + 1) + 1) 0 (fun i j => A' (ex k (fun i => if i = 0 then k else ρ (i - 1)) i) (ex k (fun i => if i = 0 then k else γ (i - 1)) j)) = det (k + 1 + m + 1) 0 (fun i j => A' (ex (k + 1) ρ i) (ex (k + 1) γ j)) := by
    rw [show k + (m + 1) + 1 = k + 1 + m + 1 by omega]
    have q : ∀ (ρ : Nat → Nat) (i : Nat), ex k (fun i => if i = 0 then k else ρ (i - 1)) i = ex (k + 1) ρ i := fun ρ i => by
      unfold ex
      by_cases q1 : i < k
      · rw [if_pos q1, if_pos (by omega)]
      · rw [if_neg q1]
        dsimp only
        by_cases q2 : i - k = 0
        · rw [if_pos q2, if_pos (by omega)]; omega
        · rw [if_neg q2, if_neg (by omega), show i - k - 1 = i - (k + 1) by omega]
    simp only [q]
  rw [e] at h2
  rw [Int.pow_succ, Int.mul_comm (E k k ^ m) (E k k), Int.mul_assoc] at h2
  exact Int.eq_of_mul_eq_mul_left hp h2
theorem bar_exact {n k : Nat} {A A' E : Mx} {s ahead : Int} (h : Bar n k A A' E s ahead) (hp : E k k ≠ 0) (r c : Nat) : E r c * E k k - E r k * E k c = ahead * nx E k ahead r c ∧ nx E k ahead r c = det (k + 1 + 1) 0 (fun i j => A' (ex (k + 1) (fun _ => r) i) (ex (k + 1) (fun _ => c) j)) := by
  have h1 := bar_div h hp 0 (fun _ => r) (fun _ => c)
  rw [det_1, Int.pow_zero, Int.one_mul, Int.pow_succ, Int.pow_zero, Int.one_mul] at h1
  have h2 : E r c * E k k - E r k * E k c = det (k + 1 + 0 + 1) 0 (fun i j => A' (ex (k + 1) (fun _ => r) i) (ex (k + 1) (fun _ => c) j)) * ahead := by
    rw [← h1, Int.mul_comm (E r c)]
  have h3 : nx E k ahead r c = det (k + 1 + 0 + 1) 0 (fun i j => A' (ex (k + 1) (fun _ => r) i) (ex (k + 1) (fun _ => c) j)) := by
    unfold nx
    rw [h2, Int.mul_ediv_cancel _ h.hn]
  exact ⟨by rw [h3, h2, Int.mul_comm], h3⟩
theorem bar_next {n k : Nat} {A A' E : Mx} {s ahead : Int} (h : Bar n k A A' E s ahead) (hp : E k k ≠ 0) : Bar n (k + 1) A A' (nx E k ahead) s (E k k) where
  hs := h.hs
  ss := h.ss
  ha := bar_piv h
  hn := hp
  hE := fun m ρ γ => by
    have h1 := bar_div h hp m ρ γ
    have h2 : det (m + 1) 0 (fun r j => E k k * E (ρ r) (γ j) - E (ρ r) k * E k (γ j)) = ahead ^ (m + 1) * det (m + 1) 0 (fun i j => nx E k ahead (ρ i) (γ j)) := by
      rw [← pr_const ahead (m + 1), ← det_scale]
      refine det_congr fun r j _ _ _ => ?_
      show _ = ahead * nx E k ahead (ρ r) (γ j)
      rw [← (bar_exact h hp (ρ r) (γ j)).1, Int.mul_comm (E k k)]
    rw [h2] at h1
    have h3 : ahead ^ (m + 1) ≠ 0 := Int.pow_ne_zero h.hn
    refine Int.eq_of_mul_eq_mul_left h3 (h1.trans ?_)
    generalize det (k + 1 + m + 1) 0 (fun i j => A' (ex (k + 1) ρ i) (ex (k + 1) γ j)) = d
    ac_rfl
theorem bar_none {n k : Nat} {A A' E : Mx} {s ahead : Int} (h : Bar n k A A' E s ahead) (hk : k < n) (hz : ∀ r, k ≤ r → r < n → E r k = 0) : det n 0 A = 0 := by
  have h1 := h.hE (n - k - 1) (fun i => k + i) (fun i => k + i)
  have h0 : det (n - k - 1 + 1) 0 (fun i j => E (k + i) (k + j)) = 0 := det_nil (c := 0) fun r hr => by
    show E (k + r) (k + 0) = 0
    exact hz (k + r) (by omega) (by omega)
  rw [h0] at h1
  rw [show k + (n - k - 1) + 1 = n by omega] at h1
  have e : det n 0 (fun i j => A' (ex k (fun i => k + i) i) (ex k (fun i => k + i) j)) = det n 0 A' := by
    have q : ∀ i, ex k (fun i => k + i) i = i := fun i => by
      unfold ex
      by_cases q : i < k
      · rw [if_pos q]
      · rw [if_neg q]; show k + (i - k) = i; omega
    simp only [q]
  rw [e] at h1
  rcases Int.mul_eq_zero.mp h1.symm with h2 | h2
  · rw [h.hs, h2, Int.mul_zero]
  · exact absurd h2 (Int.pow_ne_zero h.hn)
theorem bar_end {n : Nat} {A A' E : Mx} {s ahead : Int} (h : Bar n n A A' E s ahead) : det n 0 A = s * ahead := by rw [h.hs, h.ha]
def fac : Nat → Nat
  | 0 => 1
  | n + 1 => (n + 1) * fac n
theorem sm_abs (f : Nat → Int) (b : Nat) : ∀ n, (∀ i, i < n → (f i).natAbs ≤ b) → (sm n f).natAbs ≤ n * b
  | 0, _ => by simp [sm]
  | n + 1, h => by
    have h1 := sm_abs f b n fun i hi => h i (by omega)
    have h2 := h n (by omega)
    have h3 := Int.natAbs_add_le (sm n f) (f n)
    simp only [sm]
    rw [Nat.add_mul, Nat.one_mul]
    omega
theorem sg_abs (i : Nat) : (sg i).natAbs = 1 := by unfold sg; split <;> rfl
theorem det_abs (B : Nat) : ∀ {n c : Nat} {A : Mx}, (∀ r j, r < n → c ≤ j → j < c + n → (A r j).natAbs ≤ B) → (det n c A).natAbs ≤ fac n * B ^ n
  | 0, _, _, _ => by simp [det, fac]
  | n + 1, c, A, h => by
    simp only [det]
    refine Nat.le_trans (sm_abs _ (B * (fac n * B ^ n)) (n + 1) fun i hi => ?_) ?_
    · rw [Int.natAbs_mul, Int.natAbs_mul, sg_abs, Nat.one_mul]
      refine Nat.mul_le_mul (h i c hi (by omega) (by omega)) (det_abs B fun r j hr h1 h2 => ?_)
      unfold del
      exact h _ j (by split <;> omega) (by omega) (by omega)
    · rw [fac, Nat.pow_succ, Nat.mul_assoc]
      refine Nat.le_of_eq ?_
      congr 1
      ac_rfl
theorem bar_abs {n k : Nat} {A A' E : Mx} {s ahead : Int} (h : Bar n k A A' E s ahead) (B : Nat) (hB : ∀ r c, r < n → c < n → (A' r c).natAbs ≤ B) (hk : k < n) {r c : Nat} (hr : r < n) (hc : c < n) : (E r c).natAbs ≤ fac (k + 1) * B ^ (k + 1) := by
  rw [bar_ent h r c]
  refine det_abs B fun i j hi _ hj => hB _ _ ?_ ?_
  · unfold ex; split <;> omega
  · unfold ex; split <;> omega
theorem bar_rows {n k : Nat} {A A' E : Mx} {s ahead : Int} (h : Bar n k A A' E s ahead) (B : Nat) (hB : ∀ r c, r < n → c < n → (A' r c).natAbs ≤ B) {f : Nat} (hk : k < n) (hf : f < n) : ∀ r c, r < n → c < n → (A' (sw k f r) c).natAbs ≤ B := fun r c hr hc => hB _ _ (by unfold sw; split; exact hf; split <;> omega) hc
end Dt

namespace Dt
abbrev Ed := Nat × Nat
def iv (b : Prop) [Decidable b] : Int := if b then 1 else 0
theorem iv_t {b : Prop} [Decidable b] (h : b) : iv b = 1 := if_pos h
theorem iv_f {b : Prop} [Decidable b] (h : ¬ b) : iv b = 0 := if_neg h
def xv (e : Ed) (j : Nat) : Int := iv (j = e.1) - iv (j = e.2)
def Xm (m : Nat → Nat) (e : Ed) (i : Nat) : Int := iv (m e.1 = i) - iv (m e.2 = i)
def Rw (m : Nat → Nat) : List Ed → Mx
  | [], _, _ => 0
  | e :: es, i, j => Xm m e i * xv e j + Rw m es i j
def Mat (m : Nat → Nat) (es : List Ed) : Mx := fun i j => if m i = i then Rw m es i j else iv (j = i) - iv (j = m i)
def D (n : Nat) (m : Nat → Nat) (es : List Ed) : Int := det n 0 (Mat m es)
structure Lab (n : Nat) (m : Nat → Nat) : Prop where
  le : ∀ i, i ≤ n → m i ≤ n
  id : ∀ i, i ≤ n → m (m i) = m i
  top : m n = n
def mrg (a b : Nat) (m : Nat → Nat) (v : Nat) : Nat := if m v = a then b else m v
theorem Lab.mrg {n : Nat} {m : Nat → Nat} (h : Lab n m) {a b : Nat} (ha : a ≠ n) (hb : b ≤ n) (hm : m b = b) (hn : a ≠ b) : Lab n (mrg a b m) where
  le := fun i hi => by
    unfold Dt.mrg; split
    · exact hb
    · exact h.le i hi
  id := fun i hi => by
    unfold Dt.mrg
    by_cases q : m i = a
    · rw [if_pos q, hm, if_neg (fun z => hn z.symm)]
    · rw [if_neg q, h.id i hi, if_neg q]
  top := by
    unfold Dt.mrg
    rw [h.top, if_neg (fun z => ha z.symm)]
theorem D_loop {n : Nat} {m : Nat → Nat} {e : Ed} (es : List Ed) (h : m e.1 = m e.2) : D n m (e :: es) = D n m es := by
  unfold D
  refine det_congr fun r j _ _ _ => ?_
  unfold Mat
  have : Xm m e r = 0 := by unfold Xm; rw [h]; omega
  simp only [Rw, this, Int.zero_mul, Int.zero_add]
theorem Rw_swap (m : Nat → Nat) (x y : Nat) (es : List Ed) : Rw m ((x, y) :: es) = Rw m ((y, x) :: es) := by
  funext i j
  have h1 : Xm m (x, y) i = - Xm m (y, x) i := by unfold Xm; dsimp only; omega
  have h2 : xv (x, y) j = - xv (y, x) j := by unfold xv; dsimp only; omega
  simp only [Rw, h1, h2, Int.neg_mul_neg]
theorem D_swap (n : Nat) (m : Nat → Nat) (x y : Nat) (es : List Ed) : D n m ((x, y) :: es) = D n m ((y, x) :: es) := by
  unfold D Mat; rw [Rw_swap]
theorem Rw_mrg_b (m : Nat → Nat) {a b : Nat} (hn : a ≠ b) : ∀ (es : List Ed) (j : Nat), Rw (mrg a b m) es b j = Rw m es b j + Rw m es a j
  | [], j => rfl
  | e :: es, j => by
    have q : ∀ v, iv (mrg a b m v = b) = iv (m v = b) + iv (m v = a) := fun v => by
      unfold mrg
      by_cases h : m v = a
      · rw [if_pos h, iv_t rfl, iv_t h, iv_f (by rw [h]; exact hn)]; rfl
      · rw [if_neg h, iv_f h]; omega
    have h1 : Xm (mrg a b m) e b = Xm m e b + Xm m e a := by unfold Xm; rw [q, q]; omega
    simp only [Rw, Rw_mrg_b m hn es j, h1, Int.add_mul]
    omega
theorem Rw_mrg_o (m : Nat → Nat) {a b i : Nat} (h1 : i ≠ a) (h2 : i ≠ b) : ∀ (es : List Ed) (j : Nat), Rw (mrg a b m) es i j = Rw m es i j
  | [], j => rfl
  | e :: es, j => by
    have q : ∀ v, iv (mrg a b m v = i) = iv (m v = i) := fun v => by
      unfold mrg
      by_cases h : m v = a
      · rw [if_pos h, iv_f (fun z => h2 z.symm), iv_f (by rw [h]; exact fun z => h1 z.symm)]
      · rw [if_neg h]
    have h3 : Xm (mrg a b m) e i = Xm m e i := by unfold Xm; rw [q, q]
    simp only [Rw, Rw_mrg_o m h1 h2 es j, h3]
theorem det_op' {n c r s : Nat} (A : Mx) (hs : s < n) (t : Int) (h : t = 0 ∨ (r < n ∧ r ≠ s)) : det n c (upd A s fun j => A s j + t * A r j) = det n c A := by
  rcases h with h | ⟨h1, h2⟩
  · subst h
    have : upd A s (fun j => A s j + 0 * A r j) = A := by
      funext i j; unfold upd
      by_cases q : i = s
      · subst q; rw [if_pos rfl]; omega
      · rw [if_neg q]
    rw [this]
  · exact det_op A h1 hs h2 t
theorem D_step {n : Nat} {m : Nat → Nat} (L : Lab n m) {x y : Nat} (hx : x ≤ n) (hy : y ≤ n) (es : List Ed) (hn : m x ≠ m y) (ha : m x ≠ n) : D n m ((x, y) :: es) = D n m es + D n (mrg (m x) (m y) m) es := by
  have maa := L.id x hx
  have mbb := L.id y hy
  have hxn : x ≠ n := fun z => ha (by rw [z]; exact L.top)
  have la : m x < n := by have := L.le x hx; omega
  have lb := L.le y hy
  have hyb : y ≠ m y → y < n := fun h => by
    rcases Nat.lt_or_ge y n with q | q
    · exact q
    · have : y = n := by omega
      exact absurd (by rw [this]; exact L.top.symm) h
  generalize hma : m x = a at *
  generalize hmb : m y = b at *
  have hba : ¬ b = a := fun z => hn z.symm
  unfold D
  -- the row of b with that of a added
  let C : (Nat → Int) → Mx := fun v i j => if i = a then v j else if i = b then Mat m es b j + Mat m es a j else Mat m es i j
  have hC : ∀ v, C v = upd (C fun _ => 0) a v := fun v => by
    funext i j; show (if i = a then _ else _) = upd _ _ _ _ _
    unfold upd
    by_cases q : i = a
    · rw [if_pos q, if_pos q]
    · rw [if_neg q, if_neg q]; show _ = if i = a then _ else _; rw [if_neg q]
  have s1 : det n 0 (Mat m ((x, y) :: es)) = det n 0 (C fun j => xv (x, y) j + Mat m es a j) := by
    rw [← det_ops (Mat m ((x, y) :: es)) la (fun i => iv (i = b)) (iv_f hn)]
    refine det_congr fun i j _ _ _ => ?_
    have ra : Mat m ((x, y) :: es) a j = xv (x, y) j + Mat m es a j := by
      unfold Mat
      rw [if_pos maa, if_pos maa]
      simp only [Rw, Xm, hma, hmb]
      rw [iv_t trivial, iv_f hba]; omega
    by_cases q : i = a
    · subst q
      rw [iv_f hn, ra]
      show _ = if i = i then xv (x, y) j + Mat m es i j else _
      rw [if_pos rfl]; omega
    · show _ = if i = a then _ else _
      rw [if_neg q]
      by_cases q2 : i = b
      · subst q2
        rw [if_pos rfl, iv_t rfl, ra]
        unfold Mat
        rw [if_pos mbb, if_pos mbb]
        simp only [Rw, Xm, hma, hmb]
        rw [iv_t trivial, iv_f hn, if_pos maa]; omega
      · rw [if_neg q2, iv_f q2]
        unfold Mat
        by_cases q3 : m i = i
        · rw [if_pos q3, if_pos q3]
          simp only [Rw, Xm, hma, hmb]
          rw [iv_f (fun z => q z.symm), iv_f (fun z => q2 z.symm)]; omega
        · rw [if_neg q3, if_neg q3]; omega
  have s2 : det n 0 (C fun j => xv (x, y) j + Mat m es a j) = det n 0 (C (xv (x, y))) + det n 0 (C (Mat m es a)) := by
    rw [hC, det_add _ _ _ la, ← hC, ← hC]
  have s3 : det n 0 (C (Mat m es a)) = det n 0 (Mat m es) := by
    rw [← det_ops (Mat m es) la (fun i => iv (i = b)) (iv_f hn)]
    refine det_congr fun i j _ _ _ => ?_
    show (if i = a then _ else _) = _
    by_cases q : i = a
    · subst q; rw [if_pos rfl, iv_f hn]; omega
    · rw [if_neg q]
      by_cases q2 : i = b
      · subst q2; rw [if_pos rfl, iv_t rfl]; omega
      · rw [if_neg q2, iv_f q2]; omega
  let Y : Nat → Int := fun j => iv (j = a) - iv (j = b)
  have s4 : det n 0 (C (xv (x, y))) = det n 0 (C Y) := by
    have cr : ∀ (v : Nat → Int) (i j : Nat), i ≠ a → m i ≠ i → C v i j = iv (j = i) - iv (j = m i) := fun v i j h1 h2 => by
      show (if i = a then _ else if i = b then _ else Mat m es i j) = _
      rw [if_neg h1, if_neg (fun z => h2 (by rw [z]; exact mbb))]
      unfold Mat; rw [if_neg h2]
    have o1 := det_op' (n := n) (c := 0) (r := x) (s := a) (C Y) la (if x = a then 0 else 1) (by
      by_cases q : x = a
      · left; rw [if_pos q]
      · right; exact ⟨by omega, q⟩)
    have e1 : upd (C Y) a (fun j => C Y a j + (if x = a then 0 else 1) * C Y x j) = C (fun j => iv (j = x) - iv (j = b)) := by
      rw [hC (fun j => iv (j = x) - iv (j = b)), hC Y, upd_upd]
      congr 1
      funext j
      rw [← hC Y]
      show (if a = a then Y j else _) + _ = _
      rw [if_pos rfl]
      by_cases q : x = a
      · rw [if_pos q, q]; show iv (j = a) - iv (j = b) + 0 * _ = _; omega
      · rw [if_neg q, cr Y x j q (by rw [hma]; exact fun z => q z.symm), hma]
        show iv (j = a) - iv (j = b) + 1 * _ = _
        omega
    rw [e1] at o1
    rw [← o1]
    have o2 := det_op' (n := n) (c := 0) (r := y) (s := a) (C (fun j => iv (j = x) - iv (j = b))) la (if y = b then 0 else -1) (by
      by_cases q : y = b
      · left; rw [if_pos q]
      · right; exact ⟨hyb q, fun z => hba (by rw [← hmb, z]; exact maa)⟩)
    rw [← o2]
    have e2 : upd (C (fun j => iv (j = x) - iv (j = b))) a (fun j => C (fun j => iv (j = x) - iv (j = b)) a j + (if y = b then 0 else -1) * C (fun j => iv (j = x) - iv (j = b)) y j) = C (xv (x, y)) := by
      rw [hC (xv (x, y)), hC (fun j => iv (j = x) - iv (j = b)), upd_upd]
      congr 1
      funext j
      rw [← hC (fun j => iv (j = x) - iv (j = b))]
      show (if a = a then iv (j = x) - iv (j = b) else _) + _ = iv (j = x) - iv (j = y)
      rw [if_pos rfl]
      by_cases q : y = b
      · rw [if_pos q, q]; omega
      · rw [if_neg q, cr (fun j => iv (j = x) - iv (j = b)) y j (fun z => hba (by rw [← hmb, z]; exact maa)) (by rw [hmb]; exact fun z => q z.symm), hmb]
        omega
    rw [e2]
  have s5 : det n 0 (C Y) = det n 0 (Mat (mrg a b m) es) := by
    rw [← det_ops (C Y) la (fun i => iv (m i = a ∧ i ≠ a)) (iv_f (fun z => z.2 rfl))]
    refine det_congr fun i j _ _ _ => ?_
    have ra : C Y a j = iv (j = a) - iv (j = b) := by show (if a = a then _ else _) = _; rw [if_pos rfl]
    rw [ra]
    show (if i = a then Y j else if i = b then Mat m es b j + Mat m es a j else Mat m es i j) + _ = _
    by_cases q : i = a
    · subst q
      rw [if_pos rfl, iv_f (fun z => z.2 rfl)]
      unfold Mat mrg
      rw [if_pos maa, if_neg hba]
      show iv (j = i) - iv (j = b) + 0 * _ = _
      omega
    · rw [if_neg q]
      by_cases q2 : i = b
      · subst q2
        rw [if_pos rfl, iv_f (by rw [mbb]; exact fun z => hba z.1)]
        have : mrg a i m i = i := by unfold mrg; rw [mbb, if_neg hba]
        unfold Mat
        rw [if_pos this, if_pos mbb, if_pos maa, Rw_mrg_b m hn es j]
        omega
      · rw [if_neg q2]
        by_cases q3 : m i = a
        · rw [iv_t ⟨q3, q⟩]
          have h1 : m i ≠ i := by rw [q3]; exact fun z => q z.symm
          have h2 : mrg a b m i = b := by unfold mrg; rw [if_pos q3]
          unfold Mat
          rw [if_neg h1, h2, if_neg (fun z => q2 z.symm), q3]
          omega
        · rw [iv_f (fun z => q3 z.1)]
          have h2 : mrg a b m i = m i := by unfold mrg; rw [if_neg q3]
          unfold Mat
          rw [h2]
          by_cases q4 : m i = i
          · rw [if_pos q4, if_pos q4, Rw_mrg_o m q q2 es j]; omega
          · rw [if_neg q4, if_neg q4]; omega
  rw [s1, s2, s3, s4, s5]
  omega
theorem det_unit : ∀ (n c : Nat), det n c (fun r j => iv (j = r + c)) = 1
  | 0, _ => rfl
  | n + 1, c => by
    rw [det_head fun r h _ => iv_f (by omega)]
    have := det_unit n (c + 1)
    have e : det n (c + 1) (fun r => (fun r j => iv (j = r + c)) (r + 1)) = det n (c + 1) (fun r j => iv (j = r + (c + 1))) := det_congr fun r j _ _ _ => by
      show iv (j = r + 1 + c) = _
      rw [show r + 1 + c = r + (c + 1) by omega]
    rw [e, this]
    show iv (c = 0 + c) * 1 = 1
    rw [iv_t (by omega)]; rfl
theorem D_nil {n : Nat} {m : Nat → Nat} (L : Lab n m) : D n m [] = if ∀ i, i ≤ n → m i = m n then 1 else 0 := by
  unfold D
  by_cases h : ∀ i, i ≤ n → m i = m n
  · rw [if_pos h, ← det_unit n 0]
    refine det_congr fun r j hr _ hj => ?_
    have := h r (by omega)
    rw [L.top] at this
    unfold Mat
    rw [this, if_neg (by omega), iv_f (by omega : ¬ j = n)]
    rw [show r + 0 = r by omega]; omega
  · rw [if_neg h]
    have : ∃ i, i < n ∧ m i = i := by
      apply Classical.byContradiction
      intro z
      refine h fun i hi => ?_
      rw [L.top]
      apply Classical.byContradiction
      intro q
      have h1 := L.le i hi
      exact z ⟨m i, by omega, L.id i hi⟩
    obtain ⟨i, hi, e⟩ := this
    have h2 := det_mul (n := n) (c := 0) 0 (fun _ => 0) (Mat m []) hi
    simp only [Int.zero_mul] at h2
    rw [← h2]
    refine det_congr fun r j _ _ _ => ?_
    unfold upd
    by_cases q : r = i
    · rw [if_pos q, q]; unfold Mat; rw [if_pos e]; rfl
    · rw [if_neg q]
def Cg (n : Nat) : (Nat → Nat) → List Ed → Nat
  | u, [] => if ∀ i, i ≤ n → u i = u n then 1 else 0
  | u, e :: es => Cg n u es + if u e.1 = u e.2 then 0 else Cg n (mrg (u e.1) (u e.2) u) es
def EdOk (n : Nat) (es : List Ed) : Prop := ∀ e ∈ es, e.1 ≤ n ∧ e.2 ≤ n
def Ker (n : Nat) (u v : Nat → Nat) : Prop := ∀ i j, i ≤ n → j ≤ n → (u i = u j ↔ v i = v j)
theorem mrg_eq {a b : Nat} {u : Nat → Nat} {i j : Nat} : mrg a b u i = mrg a b u j ↔ u i = u j ∨ (u i = a ∧ u j = b) ∨ (u i = b ∧ u j = a) := by
  unfold mrg
  by_cases h1 : u i = a <;> by_cases h2 : u j = a
  · rw [if_pos h1, if_pos h2]; exact ⟨fun _ => .inl (h1.trans h2.symm), fun _ => rfl⟩
  · rw [if_pos h1, if_neg h2]
    constructor
    · exact fun h => .inr (.inl ⟨h1, h.symm⟩)
    · rintro (h | h | h)
      · exact absurd (h ▸ h1) h2
      · exact h.2.symm
      · exact absurd h.2 h2
  · rw [if_neg h1, if_pos h2]
    constructor
    · exact fun h => .inr (.inr ⟨h, h2⟩)
    · rintro (h | h | h)
      · exact absurd (h.trans h2) h1
      · exact absurd h.1 h1
      · exact h.1
  · rw [if_neg h1, if_neg h2]
    constructor
    · exact .inl
    · rintro (h | h | h)
      · exact h
      · exact absurd h.1 h1
      · exact absurd h.2 h2
theorem Ker.mrg {n : Nat} {u v : Nat → Nat} (h : Ker n u v) {x y : Nat} (hx : x ≤ n) (hy : y ≤ n) : Ker n (mrg (u x) (u y) u) (mrg (v x) (v y) v) := fun i j hi hj => by
  rw [mrg_eq, mrg_eq, h i j hi hj, h i x hi hx, h j y hj hy, h i y hi hy, h j x hj hx]
theorem Ker.turn {n : Nat} {u : Nat → Nat} {x y : Nat} : Ker n (Dt.mrg (u x) (u y) u) (Dt.mrg (u y) (u x) u) := fun i j _ _ => by
  rw [mrg_eq, mrg_eq]
  constructor <;> (rintro (h | h | h); exact .inl h; exact .inr (.inr h); exact .inr (.inl h))
theorem Cg_ker {n : Nat} : ∀ (es : List Ed) {u v : Nat → Nat}, EdOk n es → Ker n u v → Cg n u es = Cg n v es
  | [], u, v, _, h => by
    have : (∀ i, i ≤ n → u i = u n) ↔ ∀ i, i ≤ n → v i = v n := ⟨fun q i hi => (h i n hi (Nat.le_refl n)).mp (q i hi), fun q i hi => (h i n hi (Nat.le_refl n)).mpr (q i hi)⟩
    unfold Cg
    by_cases q : ∀ i, i ≤ n → u i = u n
    · rw [if_pos q, if_pos (this.mp q)]
    · rw [if_neg q, if_neg fun z => q (this.mpr z)]
  | e :: es, u, v, ok, h => by
    obtain ⟨o1, o2⟩ := ok e (List.mem_cons_self ..)
    have ok' : EdOk n es := fun x hx => ok x (List.mem_cons_of_mem _ hx)
    unfold Cg
    rw [Cg_ker es ok' h, Cg_ker es ok' (h.mrg o1 o2)]
    have := h e.1 e.2 o1 o2
    by_cases q : u e.1 = u e.2
    · rw [if_pos q, if_pos (this.mp q)]
    · rw [if_neg q, if_neg fun z => q (this.mpr z)]
theorem D_count {n : Nat} : ∀ (es : List Ed) {m : Nat → Nat}, EdOk n es → Lab n m → D n m es = Cg n m es
  | [], m, _, L => by
    rw [D_nil L]
    unfold Cg
    split <;> rfl
  | (x, y) :: es, m, ok, L => by
    obtain ⟨o1, o2⟩ := ok (x, y) (List.mem_cons_self ..)
    have ok' : EdOk n es := fun x hx => ok x (List.mem_cons_of_mem _ hx)
    unfold Cg
    by_cases q : m x = m y
    · rw [if_pos q, D_loop es q, D_count es ok' L]; rfl
    · rw [if_neg q]
      by_cases q2 : m x = n
      · have q3 : m y ≠ n := fun z => q (q2.trans z.symm)
        rw [D_swap, D_step L o2 o1 es (fun z => q z.symm) q3, D_count es ok' L, D_count es ok' (L.mrg q3 (L.le x o1) (L.id x o1) fun z => q z.symm), Cg_ker es ok' (Ker.turn (u := m) (x := y) (y := x))]
        exact (Int.natCast_add _ _).symm
      · rw [D_step L o1 o2 es q q2, D_count es ok' L, D_count es ok' (L.mrg q2 (L.le y o2) (L.id y o2) q)]
        exact (Int.natCast_add _ _).symm
end Dt

namespace Lw
open DL L2 TL
section
variable {p : Nat} {ts : List (Int × Int)}
def wth (p : Nat) (ts : List (Int × Int)) (ins outs : List Int) : List (List Int) := (trees p ts).filter fun T => ins.all (fun t => decide (t ∈ T)) && !outs.any (fun t => decide (t ∈ T))
theorem wth_mem (hp : 1 ≤ p) {ins outs T : List Int} : T ∈ wth p ts ins outs ↔ treeB p ts T = true ∧ (∀ t ∈ ins, t ∈ T) ∧ ∀ t ∈ outs, t ∉ T := by
  unfold wth
  rw [List.mem_filter, trees_mem hp]
  simp
theorem wth_rise (ins outs : List Int) : Rise (wth p ts ins outs) := List.Pairwise.sublist List.filter_sublist (srtL_rise _)
theorem wth_nodup (ins outs : List Int) : (wth p ts ins outs).Nodup := (trees_nodup p ts).sublist List.filter_sublist
end
end Lw

namespace Lw
open DL L2 TL
def tn (t : Int × Int) : Dt.Ed := (t.1.toNat, t.2.toNat)
def flt (ins : List Int) (k : Nat) (T : List Int) : List Int := T.filter fun x => decide (x < (k : Int)) && !decide (x ∈ ins)
section
variable {p : Nat} {ts : List (Int × Int)}
theorem tn_ok (hE : EndsOk p ts) {k : Nat} (hk : k < ts.length) : (tn (tieAt ts k)).1 ≤ p - 1 ∧ (tn (tieAt ts k)).2 ≤ p - 1 ∧ (((tn (tieAt ts k)).1 : Nat) : Int) = (tieAt ts k).1 ∧ (((tn (tieAt ts k)).2 : Nat) : Int) = (tieAt ts k).2 := by
  obtain ⟨_, e2⟩ := tie_at (ts := ts) (i := (k : Int)) (by omega) (by omega)
  obtain ⟨⟨a0, a1⟩, b0, b1⟩ := hE _ e2
  unfold tn
  refine ⟨?_, ?_, ?_, ?_⟩ <;> dsimp only <;> omega
theorem one_of {L : List (List Int)} (nd : L.Nodup) {a : List Int} (h : ∀ x ∈ L, x = a) (ha : a ∈ L) : L.length = 1 := by
  match L, ha with
  | [x], _ => rfl
  | x :: y :: L, _ =>
    have e1 := h x (by simp)
    have e2 := h y (by simp)
    rw [e1, e2] at nd
    simp at nd
theorem wth_all (p : Nat) (ts : List (Int × Int)) : wth p ts [] [] = trees p ts := by
  unfold wth
  exact List.filter_eq_self.mpr fun T _ => by simp
end
end Lw

noncomputable section
namespace Lw
open DL L2
def subs {α : Type} : List α → List (List α)
  | [] => [[]]
  | x :: l => subs l ++ (subs l).map (x :: ·)
theorem subs_mem {α : Type} {s : List α} : ∀ {l : List α}, s ∈ subs l ↔ s.Sublist l
  | [] => by simp [subs]
  | x :: l => by
    unfold subs
    rw [List.mem_append, List.mem_map, subs_mem (s := s)]
    constructor
    · rintro (h | ⟨r, hr, rfl⟩)
      · exact h.cons x
      · exact (subs_mem.mp hr).cons₂ x
    · intro h
      cases h with
      | cons _ h => exact .inl h
      | cons_cons _ h => exact .inr ⟨_, subs_mem.mpr h, rfl⟩
theorem subs_nodup {α : Type} : ∀ {l : List α}, l.Nodup → (subs l).Nodup
  | [], _ => by simp [subs]
  | x :: l, h => by
    obtain ⟨h1, h2⟩ := List.nodup_cons.mp h
    unfold subs
    rw [List.nodup_append]
    refine ⟨subs_nodup h2, ?_, ?_⟩
    · exact List.pairwise_map.mpr ((subs_nodup h2).imp fun h e => h (List.cons.inj e).2)
    · intro a ha b hb e
      obtain ⟨r, _, rfl⟩ := List.mem_map.mp hb
      subst e
      exact h1 ((subs_mem.mp ha).subset (List.mem_cons_self ..))
def nS {α : Type} (l : List α) (P : List α → Bool) : Nat := ((subs l).filter P).length
theorem nS_nil {α : Type} (P : List α → Bool) : nS [] P = if P [] = true then 1 else 0 := by
  unfold nS subs
  by_cases h : P [] = true
  · rw [if_pos h]; simp [h]
  · rw [if_neg h]; simp [h]
theorem nS_cons {α : Type} (x : α) (l : List α) (P : List α → Bool) : nS (x :: l) P = nS l P + nS l fun s => P (x :: s) := by
  unfold nS
  rw [show subs (x :: l) = subs l ++ (subs l).map (x :: ·) from rfl, List.filter_append, List.length_append, List.filter_map, List.length_map]
  rfl
theorem nS_congr {α : Type} {l : List α} {P Q : List α → Bool} (h : ∀ s, s.Sublist l → P s = Q s) : nS l P = nS l Q := by
  unfold nS
  rw [List.filter_congr fun s hs => h s (subs_mem.mp hs)]
theorem nS_false {α : Type} {l : List α} {P : List α → Bool} (h : ∀ s, s.Sublist l → P s = false) : nS l P = 0 := by
  unfold nS
  rw [List.filter_eq_nil_iff.mpr fun s hs => by rw [h s (subs_mem.mp hs)]; decide]
  rfl
theorem nS_split {α : Type} (q : α → Bool) : ∀ (l : List α) (P R : List α → Bool), nS l (fun s => P (s.filter q) && R (s.filter fun x => !q x)) = nS (l.filter q) P * nS (l.filter fun x => !q x) R
  | [], P, R => by
    simp only [List.filter_nil, nS_nil]
    by_cases h1 : P [] = true <;> by_cases h2 : R [] = true <;> simp [h1, h2]
  | x :: l, P, R => by
    rw [nS_cons, nS_split q l P R]
    by_cases h : q x = true
    · have e : (fun s => P ((x :: s).filter q) && R ((x :: s).filter fun x => !q x)) = fun s => (fun r => P (x :: r)) (s.filter q) && R (s.filter fun x => !q x) := by
        funext s
        rw [List.filter_cons_of_pos h, List.filter_cons_of_neg (by simp [h])]
      rw [e, nS_split q l (fun r => P (x :: r)) R, List.filter_cons_of_pos h, List.filter_cons_of_neg (by simp [h]), nS_cons, Nat.add_mul]
    · have h' : q x = false := by simpa using h
      have e : (fun s => P ((x :: s).filter q) && R ((x :: s).filter fun x => !q x)) = fun s => P (s.filter q) && (fun r => R (x :: r)) (s.filter fun x => !q x) := by
        funext s
        rw [List.filter_cons_of_neg h, List.filter_cons_of_pos (by simp [h'])]
      rw [e, nS_split q l P (fun r => R (x :: r)), List.filter_cons_of_neg h, List.filter_cons_of_pos (by simp [h']), nS_cons, Nat.mul_add]
def prodN {β : Type} (f : β → Nat) : List β → Nat
  | [] => 1
  | v :: vs => f v * prodN f vs
theorem nS_prod {α β : Type} [DecidableEq β] (key : α → β) (Q : β → List α → Bool) : ∀ (vs : List β), vs.Nodup → ∀ l : List α, (∀ x ∈ l, key x ∈ vs) →
    nS l (fun s => vs.all fun v => Q v (s.filter fun x => decide (key x = v))) = prodN (fun v => nS (l.filter fun x => decide (key x = v)) (Q v)) vs
  | [], _, l, h => by
    cases l with
    | nil => rw [nS_nil]; rfl
    | cons x l => exact nomatch h x (List.mem_cons_self ..)
  | v :: vs, nd, l, h => by
    obtain ⟨n1, n2⟩ := List.nodup_cons.mp nd
    have ff : ∀ (s : List α) (w : β), w ∈ vs → (s.filter fun x => !decide (key x = v)).filter (fun x => decide (key x = w)) = s.filter fun x => decide (key x = w) := fun s w hw => by
      rw [List.filter_filter]
      refine List.filter_congr fun x _ => ?_
      by_cases e : key x = w
      · have : ¬ key x = v := fun z => n1 (by rw [← z, e]; exact hw)
        simp [e, show ¬ w = v from fun z => this (e.trans z)]
      · simp [e]
    have e : (fun s : List α => (v :: vs).all fun v => Q v (s.filter fun x => decide (key x = v))) = fun s => (Q v) (s.filter fun x => decide (key x = v)) && (fun r : List α => vs.all fun w => Q w (r.filter fun x => decide (key x = w))) (s.filter fun x => !decide (key x = v)) := by
      funext s
      rw [List.all_cons]
      congr 1
      rw [Bool.eq_iff_iff, List.all_eq_true, List.all_eq_true]
      exact ⟨fun k w hw => by rw [ff s w hw]; exact k w hw, fun k w hw => by have := k w hw; rw [ff s w hw] at this; exact this⟩
    rw [e, nS_split (fun x => decide (key x = v)) l (Q v) (fun r : List α => vs.all fun w => Q w (r.filter fun x => decide (key x = w))), nS_prod key Q vs n2 (l.filter fun x => !decide (key x = v)) fun x hx => by
      obtain ⟨h1, h2⟩ := List.mem_filter.mp hx
      rcases List.mem_cons.mp (h x h1) with z | z
      · rw [z] at h2; simp at h2
      · exact z]
    show _ = nS (l.filter fun x => decide (key x = v)) (Q v) * prodN _ vs
    congr 1
    clear e nd n2
    have : ∀ ws : List β, (∀ w ∈ ws, w ∈ vs) → prodN (fun w => nS ((l.filter fun x => !decide (key x = v)).filter fun x => decide (key x = w)) (Q w)) ws = prodN (fun w => nS (l.filter fun x => decide (key x = w)) (Q w)) ws := fun ws => by
      induction ws with
      | nil => exact fun _ => rfl
      | cons w ws ih =>
        intro hw
        unfold prodN
        rw [ih fun u hu => hw u (List.mem_cons_of_mem _ hu)]
        rw [ff l w (hw w (List.mem_cons_self ..))]
    exact this vs fun _ h => h
theorem nS_free (free : Int → Bool) (l B : List Int) (nd : l.Nodup) (hB : B.Sublist (l.filter fun x => !free x)) (P : List Int → Bool) :
    nS l (fun s => P (s.filter free) && decide (s.filter (fun x => !free x) = B)) = nS (l.filter free) P := by
  rw [nS_split free l P fun r => decide (r = B)]
  have : nS (l.filter fun x => !free x) (fun r => decide (r = B)) = 1 := by
    unfold nS
    have nd2 : (l.filter fun x => !free x).Nodup := nd.sublist (List.filter_sublist)
    refine one_of (a := B) ((subs_nodup nd2).sublist List.filter_sublist) (fun x hx => ?_) ?_
    · simpa using (List.mem_filter.mp hx).2
    · rw [List.mem_filter]
      exact ⟨subs_mem.mpr hB, by simp⟩
  rw [this, Nat.mul_one]
end Lw
end

noncomputable section
namespace Dt
open DL
def nb (n : Nat) (v : Nat → Nat) : (Nat → Nat) → List Ed → Nat
  | u, [] => @ite _ (∀ i j, i ≤ n → j ≤ n → v i = v j → u i = u j) (Classical.propDecidable _) 1 0
  | u, e :: es => nb n v u es + if u e.1 = u e.2 then 0 else nb n v (mrg (u e.1) (u e.2) u) es
theorem nb_cons (n : Nat) (v u : Nat → Nat) (e : Ed) (es : List Ed) : nb n v u (e :: es) = nb n v u es + if u e.1 = u e.2 then 0 else nb n v (mrg (u e.1) (u e.2) u) es := rfl
structure Kept (n : Nat) (u v s : Nat → Nat) (κ : Nat) : Prop where
  uv : ∀ i j, i ≤ n → j ≤ n → u i = u j → v i = v j
  us : ∀ i j, i ≤ n → j ≤ n → u i = u j → s i = s j
  su : ∀ i j, i ≤ n → j ≤ n → s i = s j → v i = v j → u i = u j
  ex : ∀ i, i ≤ n → ∃ j, j ≤ n ∧ v i = v j ∧ s j = κ
  ot : ∀ i j, i ≤ n → j ≤ n → s i = s j → s i ≠ κ → u i = u j
theorem Kept.mrg {n : Nat} {u v s : Nat → Nat} {κ x y : Nat} (h : Kept n u v s κ) (hx : x ≤ n) (hy : y ≤ n) (hv : v x = v y) (hs : s x ≠ s y) : Kept n (mrg (u x) (u y) u) v (mrg (s x) (s y) s) (if κ = s x then s y else κ) where
  uv := fun i j hi hj q => by
    rcases mrg_eq.mp q with q | ⟨q1, q2⟩ | ⟨q1, q2⟩
    · exact h.uv i j hi hj q
    · rw [h.uv i x hi hx q1, hv, ← h.uv j y hj hy q2]
    · rw [h.uv i y hi hy q1, ← hv, ← h.uv j x hj hx q2]
  us := fun i j hi hj q => by
    rcases mrg_eq.mp q with q | ⟨q1, q2⟩ | ⟨q1, q2⟩
    · exact mrg_eq.mpr (.inl (h.us i j hi hj q))
    · exact mrg_eq.mpr (.inr (.inl ⟨h.us i x hi hx q1, h.us j y hj hy q2⟩))
    · exact mrg_eq.mpr (.inr (.inr ⟨h.us i y hi hy q1, h.us j x hj hx q2⟩))
  su := fun i j hi hj q hv' => by
    have key : ∀ i j, i ≤ n → j ≤ n → v i = v j → s i = s x → s j = s y → Dt.mrg (u x) (u y) u i = Dt.mrg (u x) (u y) u j := fun i j hi hj hv' q1 q2 => by
      by_cases c : v i = v x
      · exact mrg_eq.mpr (.inr (.inl ⟨h.su i x hi hx q1 c, h.su j y hj hy q2 (by rw [← hv', c, hv])⟩))
      · have k1 : s i = κ := Classical.byContradiction fun z => c (h.uv i x hi hx (h.ot i x hi hx q1 z))
        have k2 : s j = κ := Classical.byContradiction fun z => c (by rw [hv', h.uv j y hj hy (h.ot j y hj hy q2 z), hv])
        exact absurd (q1.symm.trans (k1.trans (k2.symm.trans q2))) hs
    rcases mrg_eq.mp q with q | ⟨q1, q2⟩ | ⟨q1, q2⟩
    · exact mrg_eq.mpr (.inl (h.su i j hi hj q hv'))
    · exact key i j hi hj hv' q1 q2
    · exact (key j i hj hi hv'.symm q2 q1).symm
  ex := fun i hi => by
    obtain ⟨j, hj, h1, h2⟩ := h.ex i hi
    refine ⟨j, hj, h1, ?_⟩
    unfold Dt.mrg
    rw [h2]
  ot := fun i j hi hj q hk => by
    have m1 : ∀ i, s i = κ → Dt.mrg (s x) (s y) s i = if κ = s x then s y else κ := fun i e => by unfold Dt.mrg; rw [e]
    have n1 : s i ≠ κ := fun z => hk (m1 i z)
    rcases mrg_eq.mp q with e | ⟨q1, q2⟩ | ⟨q1, q2⟩
    · exact mrg_eq.mpr (.inl (h.ot i j hi hj e n1))
    · have n2 : s j ≠ κ := fun z => hk (q.trans (m1 j z))
      exact mrg_eq.mpr (.inr (.inl ⟨h.ot i x hi hx q1 n1, h.ot j y hj hy q2 n2⟩))
    · have n2 : s j ≠ κ := fun z => hk (q.trans (m1 j z))
      exact mrg_eq.mpr (.inr (.inr ⟨h.ot i y hi hy q1 n1, h.ot j x hj hx q2 n2⟩))
theorem nb_cg {n : Nat} {v : Nat → Nat} : ∀ (es : List Ed) {u s : Nat → Nat} {κ : Nat}, EdOk n es → (∀ e ∈ es, v e.1 = v e.2) → Kept n u v s κ → nb n v u es = Cg n s es
  | [], u, s, κ, _, _, h => by
    unfold nb Cg
    have : (∀ i j, i ≤ n → j ≤ n → v i = v j → u i = u j) ↔ ∀ i, i ≤ n → s i = s n := by
      constructor
      · intro q i hi
        have : ∀ i, i ≤ n → s i = κ := fun i hi => by
          obtain ⟨j, hj, h1, h2⟩ := h.ex i hi
          rw [h.us i j hi hj (q i j hi hj h1), h2]
        rw [this i hi, this n (Nat.le_refl n)]
      · intro q i j hi hj hv
        exact h.su i j hi hj ((q i hi).trans (q j hj).symm) hv
    by_cases q : ∀ i, i ≤ n → s i = s n
    · rw [if_pos q, if_pos (this.mpr q)]
    · rw [if_neg q, if_neg fun z => q (this.mp z)]
  | e :: es, u, s, κ, ok, hv, h => by
    obtain ⟨o1, o2⟩ := ok e (List.mem_cons_self ..)
    have ok' : EdOk n es := fun x hx => ok x (List.mem_cons_of_mem _ hx)
    have hv' : ∀ x ∈ es, v x.1 = v x.2 := fun x hx => hv x (List.mem_cons_of_mem _ hx)
    have he := hv e (List.mem_cons_self ..)
    unfold nb Cg
    rw [nb_cg es ok' hv' h]
    by_cases q : s e.1 = s e.2
    · rw [if_pos q, if_pos (h.su e.1 e.2 o1 o2 q he)]
    · rw [if_neg q, if_neg fun z => q (h.us e.1 e.2 o1 o2 z), nb_cg es ok' hv' (h.mrg o1 o2 he q)]
end Dt
namespace Lw
open DL L2
section
variable {p : Nat} {ts : List (Int × Int)}
theorem ind_conn (hE : EndsOk p ts) {J : List Int} {t : Int} (h : Ind p ts (J ++ [t])) : ¬ Conn (tiesAt ts J) (tieAt ts t).1 (tieAt ts t).2 := fun c => by
  have h1 := h.ct
  have hin := h.inn
  rw [tiesAt_snoc, cnt_same (by rw [← tiesAt_snoc]; exact tiesAt_ok hE hin) c, List.length_append, List.length_singleton] at h1
  have hJ := h.sub hE (K := J) (h.nd.sublist (List.sublist_append_left ..)) fun x hx => List.mem_append_left _ hx
  have := hJ.ct
  omega
def joinsB (p : Nat) (ts : List (Int × Int)) (v : Nat → Nat) (J S : List Int) : Bool := @decide (Ind p ts (J ++ S) ∧ ∀ i j : Nat, i < p → j < p → v i = v j → Conn (tiesAt ts (J ++ S)) i j) (Classical.propDecidable _)
theorem joinsB_iff {v : Nat → Nat} {J S : List Int} : joinsB p ts v J S = true ↔ Ind p ts (J ++ S) ∧ ∀ i j : Nat, i < p → j < p → v i = v j → Conn (tiesAt ts (J ++ S)) i j := by
  unfold joinsB
  rw [@decide_eq_true_iff _ (Classical.propDecidable _)]
theorem joinsB_eq {v : Nat → Nat} {J S J' S' : List Int} (h1 : Ind p ts (J ++ S) ↔ Ind p ts (J' ++ S')) (h2 : ∀ x, x ∈ J ++ S ↔ x ∈ J' ++ S') : joinsB p ts v J S = joinsB p ts v J' S' := by
  rw [Bool.eq_iff_iff, joinsB_iff, joinsB_iff, h1]
  refine and_congr_right fun _ => ?_
  exact ⟨fun h i j hi hj e => conn_sub (fun x hx => (h2 x).mp hx) (h i j hi hj e), fun h i j hi hj e => conn_sub (fun x hx => (h2 x).mpr hx) (h i j hi hj e)⟩
theorem nS_nb (hp : 1 ≤ p) (hE : EndsOk p ts) {v : Nat → Nat} : ∀ (Y J : List Int) (u : Nat → Nat), Ind p ts J → InT ts.length Y → (∀ i j : Nat, i ≤ p - 1 → j ≤ p - 1 → (u i = u j ↔ Conn (tiesAt ts J) i j)) →
    nS Y (joinsB p ts v J) = Dt.nb (p - 1) v u (Y.map fun y => tn (tieAt ts y))
  | [], J, u, hJ, _, hu => by
    rw [nS_nil]
    unfold Dt.nb
    have : joinsB p ts v J [] = true ↔ ∀ i j, i ≤ p - 1 → j ≤ p - 1 → v i = v j → u i = u j := by
      rw [joinsB_iff, List.append_nil]
      exact ⟨fun h i j hi hj e => (hu i j hi hj).mpr (h.2 i j (by omega) (by omega) e), fun h => ⟨hJ, fun i j hi hj e => (hu i j (by omega) (by omega)).mp (h i j (by omega) (by omega) e)⟩⟩
    by_cases q : ∀ i j, i ≤ p - 1 → j ≤ p - 1 → v i = v j → u i = u j
    · rw [List.map_nil]; dsimp only; rw [if_pos (this.mpr q), if_pos q]
    · rw [List.map_nil]; dsimp only; rw [if_neg fun z => q (this.mp z), if_neg q]
  | y :: Y, J, u, hJ, hY, hu => by
    obtain ⟨y0, y1⟩ := hY y (List.mem_cons_self ..)
    have hY' : InT ts.length Y := fun x hx => hY x (List.mem_cons_of_mem _ hx)
    obtain ⟨k, rfl⟩ : ∃ k : Nat, y = k := ⟨y.toNat, by omega⟩
    obtain ⟨o1, o2, o3, o4⟩ := tn_ok hE (show k < ts.length by omega)
    have hl := hu _ _ o1 o2
    rw [o3, o4] at hl
    rw [nS_cons, List.map_cons, Dt.nb_cons, nS_nb hp hE Y J u hJ hY' hu]
    congr 1
    by_cases c : Conn (tiesAt ts J) (tieAt ts k).1 (tieAt ts k).2
    · rw [if_pos (hl.mpr c)]
      refine nS_false fun s _ => ?_
      rw [← Bool.not_eq_true, joinsB_iff]
      rintro ⟨h1, _⟩
      refine ind_conn hE (h1.sub hE (K := J ++ [(k : Int)]) ?_ ?_) c
      · have := h1.nd
        rw [show J ++ (k : Int) :: s = (J ++ [(k : Int)]) ++ s by simp] at this
        exact this.sublist (List.sublist_append_left ..)
      · intro x hx
        rcases List.mem_append.mp hx with z | z
        · exact List.mem_append_left _ z
        · rw [List.mem_singleton.mp z]; exact List.mem_append_right _ (List.mem_cons_self ..)
    · rw [if_neg fun z => c (hl.mp z)]
      have hJ' := hJ.snoc hE ⟨y0, y1⟩ c
      rw [← nS_nb hp hE Y (J ++ [(k : Int)]) _ hJ' hY' ?_]
      · refine nS_congr fun s _ => joinsB_eq (by rw [show J ++ (k : Int) :: s = (J ++ [(k : Int)]) ++ s by simp]) fun x => by simp
      · intro i j hi hj
        rw [Dt.mrg_eq, hu i j hi hj, hu i _ hi o1, hu j _ hj o2, hu i _ hi o2, hu j _ hj o1, o3, o4, tiesAt_snoc, conn_snoc]
        constructor
        · rintro (h | ⟨h1, h2⟩ | ⟨h1, h2⟩)
          · exact .inl h
          · exact .inr (.inl ⟨h1, h2.symm⟩)
          · exact .inr (.inr ⟨h1, h2.symm⟩)
        · rintro (h | ⟨h1, h2⟩ | ⟨h1, h2⟩)
          · exact .inl h
          · exact .inr (.inl ⟨h1, h2.symm⟩)
          · exact .inr (.inr ⟨h1, h2.symm⟩)
end
end Lw
end

noncomputable section
namespace Lw
open DL L2
section
variable {p : Nat} {ts : List (Int × Int)} {L : List Int}
def lowL (n : Nat) (L : List Int) (l : Int) : List Int := (iota n).filter fun x => decide (nth L x < l)
def uptoL (n : Nat) (L : List Int) (l : Int) : List Int := (iota n).filter fun x => decide (nth L x ≤ l)
def layL (n : Nat) (L : List Int) (l : Int) : List Int := (iota n).filter fun x => decide (nth L x = l)
def ltF (L : List Int) (l : Int) (T : List Int) : List Int := T.filter fun x => decide (nth L x < l)
def leF (L : List Int) (l : Int) (T : List Int) : List Int := T.filter fun x => decide (nth L x ≤ l)
def eqF (L : List Int) (l : Int) (T : List Int) : List Int := T.filter fun x => decide (nth L x = l)
theorem ltF_mem {l x : Int} {T : List Int} : x ∈ ltF L l T ↔ x ∈ T ∧ nth L x < l := by simp [ltF]
theorem leF_mem {l x : Int} {T : List Int} : x ∈ leF L l T ↔ x ∈ T ∧ nth L x ≤ l := by simp [leF]
theorem eqF_mem {l x : Int} {T : List Int} : x ∈ eqF L l T ↔ x ∈ T ∧ nth L x = l := by simp [eqF]
theorem low_mem {n : Nat} {l x : Int} : x ∈ lowL n L l ↔ (0 ≤ x ∧ x < n) ∧ nth L x < l := by simp [lowL, iota_mem]
theorem upto_mem {n : Nat} {l x : Int} : x ∈ uptoL n L l ↔ (0 ≤ x ∧ x < n) ∧ nth L x ≤ l := by simp [uptoL, iota_mem]
theorem lay_mem {n : Nat} {l x : Int} : x ∈ layL n L l ↔ (0 ≤ x ∧ x < n) ∧ nth L x = l := by simp [layL, iota_mem]
theorem low_in (n : Nat) (L : List Int) (l : Int) : InT n (lowL n L l) := fun x hx => (low_mem.mp hx).1
theorem upto_in (n : Nat) (L : List Int) (l : Int) : InT n (uptoL n L l) := fun x hx => (upto_mem.mp hx).1
theorem lay_in (n : Nat) (L : List Int) (l : Int) : InT n (layL n L l) := fun x hx => (lay_mem.mp hx).1
def jL (p : Nat) (ts : List (Int × Int)) (L : List Int) (l : Int) : List Int := gr p ts (lowL ts.length L l) []
theorem j_ok (hE : EndsOk p ts) (l : Int) : Ind p ts (jL p ts L l) ∧ (∀ x ∈ jL p ts L l, x ∈ lowL ts.length L l) ∧ ∀ t ∈ lowL ts.length L l, Conn (tiesAt ts (jL p ts L l)) (tieAt ts t).1 (tieAt ts t).2 := by
  obtain ⟨h1, ⟨K, h2, h3⟩, h4⟩ := gr_ok hE (lowL ts.length L l) [] (ind_nil p ts) (low_in _ _ _)
  rw [List.nil_append] at h2
  exact ⟨h1, fun x hx => h3.subset (by rw [← h2]; exact hx), h4⟩
def vL (p : Nat) (ts : List (Int × Int)) (L : List Int) (l : Int) (i : Nat) : Nat := (nth (marksL p ts (uptoL ts.length L l)) i).toNat
theorem stepL_in {p : Nat} {m : List Int} {t : Int × Int} (h : ∀ x ∈ m, 0 ≤ x ∧ x < (p : Int)) (a : 0 ≤ t.1 ∧ t.1 < m.length) : ∀ x ∈ stepL m t, 0 ≤ x ∧ x < (p : Int) := fun x hx => by
  unfold stepL at hx
  split at hx
  · exact h x hx
  · obtain ⟨y, hy, rfl⟩ := List.mem_map.mp hx
    split
    · exact h _ (nth_mem a.1 a.2)
    · exact h y hy
theorem mk_range (p : Nat) : ∀ (n : Nat) (es : List (Int × Int)), es.length = n → EndsOk p es → ∀ x ∈ mk p es, 0 ≤ x ∧ x < p
  | 0, es, h, _ => by
    rw [List.length_eq_zero_iff.mp h]
    exact fun x hx => iota_mem.mp hx
  | n + 1, es, h, hE => by
    obtain ⟨fs, t, rfl, hl⟩ := snoc_of h
    have hF : EndsOk p fs := fun e he => hE e (List.mem_append_left _ he)
    obtain ⟨⟨a0, a1⟩, b0, b1⟩ := hE t (List.mem_append_right _ (List.mem_singleton.mpr rfl))
    have ih := mk_range p n fs hl hF
    have ml := mk_len p fs
    rw [mk_snoc]
    intro x hx
    exact stepL_in ih (by rw [ml]; exact ⟨a0, a1⟩) x hx
theorem marks_nn (hE : EndsOk p ts) {l : List Int} (hl : InT ts.length l) {i : Int} (i0 : 0 ≤ i) (i1 : i < p) : 0 ≤ nth (marksL p ts l) i := by
  rw [marksL_mk]
  have := mk_len p (l.map (tieAt ts))
  exact (mk_range p _ _ rfl (tiesAt_ok hE hl) _ (nth_mem i0 (by rw [mk_len]; exact i1))).1
theorem v_iff (hE : EndsOk p ts) {l : Int} {i j : Nat} (hi : i < p) (hj : j < p) : vL p ts L l i = vL p ts L l j ↔ Conn (tiesAt ts (uptoL ts.length L l)) i j := by
  rw [← nthL p ts hE _ (upto_in _ _ _) i j (by omega) (by omega) (by omega) (by omega)]
  unfold vL
  have a := marks_nn hE (upto_in ts.length L l) (i := (i : Int)) (by omega) (by omega)
  have b := marks_nn hE (upto_in ts.length L l) (i := (j : Int)) (by omega) (by omega)
  omega
theorem cl_of {A B : List Int} (h : ∀ x ∈ A, Conn (tiesAt ts B) (tieAt ts x).1 (tieAt ts x).2) {a b : Int} (c : Conn (tiesAt ts A) a b) : Conn (tiesAt ts B) a b :=
  c.le fun e he => by
    obtain ⟨t, ht, rfl⟩ := List.mem_map.mp he
    exact h t ht
theorem ind_swap (hE : EndsOk p ts) {A B S : List Int} (hA : Ind p ts A) (hB : Ind p ts B) (hAB : ∀ x ∈ A, Conn (tiesAt ts B) (tieAt ts x).1 (tieAt ts x).2) (hBA : ∀ x ∈ B, Conn (tiesAt ts A) (tieAt ts x).1 (tieAt ts x).2) (hS : Ind p ts (A ++ S)) (nd : (B ++ S).Nodup) : Ind p ts (B ++ S) := by
  have hin : InT ts.length (B ++ S) := fun x hx => by
    rcases List.mem_append.mp hx with z | z
    · exact hB.inn x z
    · exact hS.inn x (List.mem_append_right _ z)
  have l1 := Ind.le hE hA hB hAB
  have l2 := Ind.le hE hB hA hBA
  refine ⟨nd, hin, ?_⟩
  have e : cnt p (tiesAt ts (B ++ S)) = cnt p (tiesAt ts (A ++ S)) := by
    refine cnt_eq (tiesAt_ok hE hin) (tiesAt_ok hE hS.inn) (fun e he => ?_) (fun e he => ?_)
    · obtain ⟨t, ht, rfl⟩ := List.mem_map.mp he
      rcases List.mem_append.mp ht with z | z
      · exact conn_sub (fun x hx => List.mem_append_left _ hx) (hBA t z)
      · exact conn_at (List.mem_append_right _ z)
    · obtain ⟨t, ht, rfl⟩ := List.mem_map.mp he
      rcases List.mem_append.mp ht with z | z
      · exact conn_sub (fun x hx => List.mem_append_left _ hx) (hAB t z)
      · exact conn_at (List.mem_append_right _ z)
  have := hS.ct
  rw [List.length_append] at this ⊢
  omega
theorem ind_set (hE : EndsOk p ts) {A B : List Int} (hA : Ind p ts A) (nd : B.Nodup) (h : ∀ x ∈ B, x ∈ A) : Ind p ts B := hA.sub hE nd h
theorem near_of (hp : 1 ≤ p) (hE : EndsOk p ts) {T : List Int} (hT : treeB p ts T = true) (hg : gains p ts L T = []) : ∀ i : Int, 0 ≤ i → i < ts.length → Conn (tiesAt ts (leF L (nth L i) T)) (tieAt ts i).1 (tieAt ts i).2 := fun i i0 i1 => by
  by_cases c : i ∈ T
  · exact conn_at (leF_mem.mpr ⟨c, Int.le_refl _⟩)
  · refine Classical.byContradiction fun hn => ?_
    have hI := tree_ind hT hp
    have hA : Ind p ts (leF L (nth L i) T) := hI.sub hE (hI.nd.sublist List.filter_sublist) fun x hx => (leF_mem.mp hx).1
    have hAi := hA.snoc hE ⟨i0, i1⟩ hn
    have hin : InT ts.length (T ++ [i]) := fun x hx => by
      rcases List.mem_append.mp hx with z | z
      · exact hI.inn x z
      · rw [List.mem_singleton.mp z]; exact ⟨i0, i1⟩
    have c1 : cnt p (tiesAt ts (T ++ [i])) = 1 := by
      have h1 := (treeB_nat.mp hT).2.2
      have h2 := cnt_le (p := p) (es := tiesAt ts T) (fs := tiesAt ts (T ++ [i])) (tiesAt_ok hE hI.inn) (tiesAt_ok hE hin) fun e he => by
        obtain ⟨t, ht, rfl⟩ := List.mem_map.mp he
        exact conn_at (List.mem_append_left _ ht)
      have h3 := cnt_pos hp (tiesAt ts (T ++ [i]))
      omega
    obtain ⟨U, hU, u1, u2⟩ := tree_between hp hE hAi (S := T ++ [i]) (fun x hx => by
      rcases List.mem_append.mp hx with z | z
      · exact List.mem_append_left _ (leF_mem.mp z).1
      · exact List.mem_append_right _ z) hin c1
    have hUI := tree_ind hU hp
    have lT := tree_len hp hT
    have lU := tree_len hp hU
    have iU := u1 i (List.mem_append_right _ (List.mem_singleton.mpr rfl))
    obtain ⟨o, oT, oU⟩ : ∃ o, o ∈ T ∧ o ∉ U := Classical.byContradiction fun hno => by
      have := nodup_le (l := T ++ [i]) (m := U) (by
        rw [List.nodup_append]
        exact ⟨hI.nd, by simp, fun a ha b hb q => c (by rw [← List.mem_singleton.mp hb, ← q]; exact ha)⟩) fun x hx => by
        rcases List.mem_append.mp hx with z | z
        · exact Classical.byContradiction fun q => hno ⟨x, z, q⟩
        · rw [List.mem_singleton.mp z]; exact iU
      rw [List.length_append, List.length_singleton] at this
      omega
    have lo : nth L i < nth L o := Classical.byContradiction fun q => oU (u1 o (List.mem_append_left _ (leF_mem.mpr ⟨oT, by omega⟩)))
    have pm : (T ++ [i]).Perm (U ++ [o]) := by
      refine (List.perm_ext_iff_of_nodup ?_ ?_).mpr fun x => ⟨fun hx => ?_, fun hx => ?_⟩
      · rw [List.nodup_append]
        exact ⟨hI.nd, by simp, fun a ha b hb q => c (by rw [← List.mem_singleton.mp hb, ← q]; exact ha)⟩
      · rw [List.nodup_append]
        exact ⟨hUI.nd, by simp, fun a ha b hb q => oU (by rw [← List.mem_singleton.mp hb, ← q]; exact ha)⟩
      · refine Classical.byContradiction fun hno => ?_
        have := nodup_le (l := x :: (U ++ [o])) (m := T ++ [i]) (List.nodup_cons.mpr ⟨hno, by
          rw [List.nodup_append]
          exact ⟨hUI.nd, by simp, fun a ha b hb q => oU (by rw [← List.mem_singleton.mp hb, ← q]; exact ha)⟩⟩) fun y hy => by
          rcases List.mem_cons.mp hy with rfl | hy
          · exact hx
          · rcases List.mem_append.mp hy with z | z
            · exact u2 y z
            · rw [List.mem_singleton.mp z]; exact List.mem_append_left _ oT
        rw [List.length_cons, List.length_append, List.length_append, List.length_singleton, List.length_singleton] at this
        omega
      · rcases List.mem_append.mp hx with z | z
        · exact u2 x z
        · rw [List.mem_singleton.mp z]; exact List.mem_append_left _ oT
    have e := lsum_perm (L := L) pm
    have e1 : ∀ A : List Int, ∀ a, lsum L (A ++ [a]) = lsum L A + nth L a := fun A a => by simp [lsum]
    rw [e1, e1] at e
    have := (gain_iff hp hE hT L).mp hg U hU
    omega
theorem near_gain (hp : 1 ≤ p) (hE : EndsOk p ts) {T : List Int} (hT : treeB p ts T = true) (h : ∀ i : Int, 0 ≤ i → i < ts.length → Conn (tiesAt ts (leF L (nth L i) T)) (tieAt ts i).1 (tieAt ts i).2) : gains p ts L T = [] := by
  refine List.eq_nil_iff_forall_not_mem.mpr fun x hx => ?_
  obtain ⟨o, i⟩ := x
  rw [← due_mem hp hE hT] at hx
  unfold dueAll at hx
  obtain ⟨j, hj, hx⟩ := List.mem_flatMap.mp hx
  obtain ⟨j0, j1⟩ := iota_mem.mp hj
  unfold dueOf at hx
  split at hx
  · exact nomatch hx
  · obtain ⟨h1, h2⟩ := List.mem_filter.mp hx
    obtain ⟨o', ho, e⟩ := List.mem_map.mp h1
    cases e
    obtain ⟨oT, hn⟩ := List.mem_filter.mp ho
    unfold shorter at h2
    simp only [decide_eq_true_eq] at h2
    have hI := tree_ind hT hp
    obtain ⟨_, te⟩ := tie_at j0 j1
    obtain ⟨⟨a0, a1⟩, b0, b1⟩ := hE _ te
    rw [Bool.not_eq_true', decide_eq_false_iff_not, nthL p ts hE _ (wo_in hI.inn o) _ _ a0 a1 b0 b1] at hn
    exact hn (conn_sub (fun x hx => by
      obtain ⟨x1, x2⟩ := leF_mem.mp hx
      exact wo_mem.mpr ⟨x1, fun q => by rw [q] at x2; omega⟩) (h i j0 j1))
theorem exists_max : ∀ (l : List Int) (f : Int → Int), l ≠ [] → ∃ x ∈ l, ∀ y ∈ l, f y ≤ f x
  | [], _, h => absurd rfl h
  | [a], f, _ => ⟨a, List.mem_cons_self .., fun y hy => by rw [List.mem_singleton.mp hy]; exact Int.le_refl _⟩
  | a :: b :: l, f, _ => by
    obtain ⟨x, hx, h⟩ := exists_max (b :: l) f (by simp)
    by_cases c : f a ≤ f x
    · refine ⟨x, List.mem_cons_of_mem _ hx, fun y hy => ?_⟩
      rcases List.mem_cons.mp hy with rfl | hy
      · exact c
      · exact h y hy
    · refine ⟨a, List.mem_cons_self .., fun y hy => ?_⟩
      rcases List.mem_cons.mp hy with rfl | hy
      · exact Int.le_refl _
      · have := h y hy; omega
def layOk (p : Nat) (ts : List (Int × Int)) (L T : List Int) : Prop := ∀ l ∈ L, joinsB p ts (vL p ts L l) (jL p ts L l) (eqF L l T) = true
theorem span_lay (hE : EndsOk p ts) {l : Int} {A S : List Int} (hA : ∀ x ∈ lowL ts.length L l, Conn (tiesAt ts A) (tieAt ts x).1 (tieAt ts x).2) (hS : ∀ x ∈ layL ts.length L l, Conn (tiesAt ts (A ++ S)) (tieAt ts x).1 (tieAt ts x).2) {a b : Int} (c : Conn (tiesAt ts (uptoL ts.length L l)) a b) : Conn (tiesAt ts (A ++ S)) a b :=
  cl_of (fun x hx => by
    obtain ⟨h1, h2⟩ := upto_mem.mp hx
    by_cases e : nth L x = l
    · exact hS x (lay_mem.mpr ⟨h1, e⟩)
    · exact conn_sub (fun x hx => List.mem_append_left _ hx) (hA x (low_mem.mpr ⟨h1, by omega⟩))) c
theorem lay_of (hp : 1 ≤ p) (hE : EndsOk p ts) {T : List Int} (hT : treeB p ts T = true) (hg : gains p ts L T = []) : layOk p ts L T := fun l _ => by
  have near := near_of hp hE hT hg
  have hI := tree_ind hT hp
  obtain ⟨j1, j2, j3⟩ := j_ok (p := p) (ts := ts) (L := L) hE l
  have hlt : Ind p ts (ltF L l T) := hI.sub hE (hI.nd.sublist List.filter_sublist) fun x hx => (ltF_mem.mp hx).1
  have spl : ∀ x ∈ lowL ts.length L l, Conn (tiesAt ts (ltF L l T)) (tieAt ts x).1 (tieAt ts x).2 := fun x hx => by
    obtain ⟨⟨x0, x1⟩, x2⟩ := low_mem.mp hx
    refine conn_sub (fun y hy => ?_) (near x x0 x1)
    obtain ⟨y1, y2⟩ := leF_mem.mp hy
    exact ltF_mem.mpr ⟨y1, by omega⟩
  have dj : ∀ x ∈ jL p ts L l, x ∉ eqF L l T := fun x hx h => by
    have h1 := (low_mem.mp (j2 x hx)).2
    have h2 := (eqF_mem.mp h).2
    omega
  have ndS : (eqF L l T).Nodup := hI.nd.sublist List.filter_sublist
  have hS : Ind p ts (ltF L l T ++ eqF L l T) := hI.sub hE (by
    rw [List.nodup_append]
    refine ⟨hlt.nd, ndS, fun a ha b hb q => ?_⟩
    subst q
    have h1 := (ltF_mem.mp ha).2
    have h2 := (eqF_mem.mp hb).2
    omega) fun x hx => by
      rcases List.mem_append.mp hx with z | z
      · exact (ltF_mem.mp z).1
      · exact (eqF_mem.mp z).1
  have c1 : ∀ x ∈ ltF L l T, Conn (tiesAt ts (jL p ts L l)) (tieAt ts x).1 (tieAt ts x).2 := fun x hx => by
    obtain ⟨x1, x2⟩ := ltF_mem.mp hx
    exact j3 x (low_mem.mpr ⟨hI.inn x x1, x2⟩)
  have c2 : ∀ x ∈ jL p ts L l, Conn (tiesAt ts (ltF L l T)) (tieAt ts x).1 (tieAt ts x).2 := fun x hx => spl x (j2 x hx)
  rw [joinsB_iff]
  refine ⟨ind_swap hE hlt j1 c1 c2 hS (by
    rw [List.nodup_append]
    exact ⟨j1.nd, ndS, fun a ha b hb q => dj a ha (q ▸ hb)⟩), fun i j hi hj e => ?_⟩
  refine span_lay hE (l := l) j3 (fun x hx => ?_) ((v_iff hE hi hj).mp e)
  obtain ⟨⟨x0, x1⟩, x2⟩ := lay_mem.mp hx
  refine cl_of (A := leF L (nth L x) T) (fun y hy => ?_) (near x x0 x1)
  obtain ⟨y1, y2⟩ := leF_mem.mp hy
  by_cases q : nth L y = l
  · exact conn_at (List.mem_append_right _ (eqF_mem.mpr ⟨y1, q⟩))
  · exact conn_sub (fun x hx => List.mem_append_left _ hx) (c1 y (ltF_mem.mpr ⟨y1, by omega⟩))
theorem nth_in (hL : L.length = ts.length) {x : Int} (h : 0 ≤ x ∧ x < ts.length) : nth L x ∈ L := nth_mem h.1 (by omega)
theorem up_of (hE : EndsOk p ts) (hL : L.length = ts.length) {T : List Int} (hT : T.Sublist (iota ts.length)) (hk : layOk p ts L T) : ∀ (n : Nat) (t : Int), (uptoL ts.length L t).length = n →
    Ind p ts (leF L t T) ∧ ∀ x ∈ uptoL ts.length L t, Conn (tiesAt ts (leF L t T)) (tieAt ts x).1 (tieAt ts x).2 := fun n => by
  have hTn : T.Nodup := (iota_nodup _).sublist hT
  have hTi : InT ts.length T := fun x hx => iota_mem.mp (hT.subset hx)
  induction n using Nat.strongRecOn with
  | _ n ih =>
    intro t hn
    by_cases hu : uptoL ts.length L t = []
    · have e : leF L t T = [] := List.filter_eq_nil_iff.mpr fun x hx q => by
        have : x ∈ uptoL ts.length L t := upto_mem.mpr ⟨hTi x hx, by simpa using q⟩
        rw [hu] at this
        exact nomatch this
      rw [e, hu]
      exact ⟨ind_nil p ts, fun _ h => nomatch h⟩
    · obtain ⟨m, hm, mx⟩ := exists_max _ (nth L) hu
      obtain ⟨m1, m2⟩ := upto_mem.mp hm
      obtain ⟨l, hl⟩ : ∃ l, l = nth L m := ⟨_, rfl⟩
      rw [← hl] at m2
      have mx : ∀ y ∈ uptoL ts.length L t, nth L y ≤ l := fun y hy => by rw [hl]; exact mx y hy
      have e1 : leF L t T = leF L l T := List.filter_congr fun x hx => by
        rw [decide_eq_decide]
        exact ⟨fun q => mx x (upto_mem.mpr ⟨hTi x hx, q⟩), fun q => by omega⟩
      have e2 : uptoL ts.length L t = uptoL ts.length L l := List.filter_congr fun x hx => by
        rw [decide_eq_decide]
        exact ⟨fun q => mx x (upto_mem.mpr ⟨iota_mem.mp hx, q⟩), fun q => by omega⟩
      have lt : (uptoL ts.length L (l - 1)).length < n := by
        have nd : (uptoL ts.length L (l - 1)).Nodup := (iota_nodup _).sublist List.filter_sublist
        have nm : m ∉ uptoL ts.length L (l - 1) := fun h => by have := (upto_mem.mp h).2; omega
        have := nodup_le (l := m :: uptoL ts.length L (l - 1)) (m := uptoL ts.length L l) (List.nodup_cons.mpr ⟨nm, nd⟩) fun y hy => by
          rcases List.mem_cons.mp hy with rfl | hy
          · exact upto_mem.mpr ⟨m1, by omega⟩
          · obtain ⟨y1, y2⟩ := upto_mem.mp hy
            exact upto_mem.mpr ⟨y1, by omega⟩
        rw [List.length_cons, ← e2] at this
        omega
      obtain ⟨i1, i2⟩ := ih _ lt (l - 1) rfl
      rw [e1, e2]
      obtain ⟨j1, j2, j3⟩ := j_ok (p := p) (ts := ts) (L := L) hE l
      have k := hk l (by rw [hl]; exact nth_in hL m1)
      rw [joinsB_iff] at k
      obtain ⟨k1, k2⟩ := k
      have lm : ∀ x, x ∈ leF L (l - 1) T ↔ x ∈ ltF L l T := fun x => by rw [leF_mem, ltF_mem]; exact and_congr_right fun _ => by omega
      have um : ∀ x, x ∈ uptoL ts.length L (l - 1) ↔ x ∈ lowL ts.length L l := fun x => by rw [upto_mem, low_mem]; exact and_congr_right fun _ => by omega
      have c1 : ∀ x ∈ jL p ts L l, Conn (tiesAt ts (leF L (l - 1) T)) (tieAt ts x).1 (tieAt ts x).2 := fun x hx => i2 x ((um x).mpr (j2 x hx))
      have c2 : ∀ x ∈ leF L (l - 1) T, Conn (tiesAt ts (jL p ts L l)) (tieAt ts x).1 (tieAt ts x).2 := fun x hx => by
        obtain ⟨x1, x2⟩ := leF_mem.mp hx
        exact j3 x (low_mem.mpr ⟨hTi x x1, by omega⟩)
      have ndS : (eqF L l T).Nodup := hTn.sublist List.filter_sublist
      have big := ind_swap hE j1 i1 c1 c2 k1 (by
        rw [List.nodup_append]
        refine ⟨i1.nd, ndS, fun a ha b hb q => ?_⟩
        subst q
        have h1 := (leF_mem.mp ha).2
        have h2 := (eqF_mem.mp hb).2
        omega)
      have sub : ∀ x ∈ leF L (l - 1) T ++ eqF L l T, x ∈ leF L l T := fun x hx => by
        rcases List.mem_append.mp hx with z | z
        · obtain ⟨z1, z2⟩ := leF_mem.mp z
          exact leF_mem.mpr ⟨z1, by omega⟩
        · obtain ⟨z1, z2⟩ := eqF_mem.mp z
          exact leF_mem.mpr ⟨z1, by omega⟩
      refine ⟨ind_set hE big (hTn.sublist List.filter_sublist) fun x hx => ?_, fun x hx => ?_⟩
      · obtain ⟨x1, x2⟩ := leF_mem.mp hx
        by_cases q : nth L x = l
        · exact List.mem_append_right _ (eqF_mem.mpr ⟨x1, q⟩)
        · exact List.mem_append_left _ (leF_mem.mpr ⟨x1, by omega⟩)
      · obtain ⟨⟨x0, x1⟩, x2⟩ := upto_mem.mp hx
        obtain ⟨_, te⟩ := tie_at x0 x1
        obtain ⟨⟨a0, a1⟩, b0, b1⟩ := hE _ te
        obtain ⟨a, ea⟩ : ∃ a : Nat, (tieAt ts x).1 = a := ⟨(tieAt ts x).1.toNat, by omega⟩
        obtain ⟨b, eb⟩ : ∃ b : Nat, (tieAt ts x).2 = b := ⟨(tieAt ts x).2.toNat, by omega⟩
        have cu : Conn (tiesAt ts (uptoL ts.length L l)) (tieAt ts x).1 (tieAt ts x).2 := conn_at hx
        rw [ea, eb] at cu ⊢
        have c3 := k2 a b (by omega) (by omega) ((v_iff hE (by omega) (by omega)).mpr cu)
        refine cl_of (fun y hy => ?_) c3
        rcases List.mem_append.mp hy with z | z
        · exact conn_sub (fun w hw => sub w (List.mem_append_left _ hw)) (c1 y z)
        · exact conn_at (sub y (List.mem_append_right _ z))
theorem of_lay (hp : 1 ≤ p) (hE : EndsOk p ts) (hL : L.length = ts.length) (hj : trees p ts ≠ []) {T : List Int} (hT : T.Sublist (iota ts.length)) (hk : layOk p ts L T) : treeB p ts T = true ∧ gains p ts L T = [] := by
  have up := up_of hE hL hT hk
  have hTn : T.Nodup := (iota_nodup _).sublist hT
  have hTi : InT ts.length T := fun x hx => iota_mem.mp (hT.subset hx)
  obtain ⟨t, ht⟩ : ∃ t : Int, ∀ x : Int, 0 ≤ x → x < ts.length → nth L x ≤ t := by
    by_cases c : iota ts.length = []
    · exact ⟨0, fun x x0 x1 => by
        have := iota_mem.mpr ⟨x0, x1⟩
        rw [c] at this
        exact nomatch this⟩
    · obtain ⟨m, _, h⟩ := exists_max _ (nth L) c
      exact ⟨nth L m, fun x x0 x1 => h x (iota_mem.mpr ⟨x0, x1⟩)⟩
  obtain ⟨i1, i2⟩ := up _ t rfl
  have e : leF L t T = T := List.filter_eq_self.mpr fun x hx => by
    obtain ⟨x0, x1⟩ := hTi x hx
    simpa using ht x x0 x1
  rw [e] at i1 i2
  obtain ⟨U, hU⟩ := List.exists_mem_of_ne_nil _ hj
  have hU := (trees_mem hp).mp hU
  have iU := (tree_ind hU hp).inn
  have c1 : cnt p (tiesAt ts T) = 1 := by
    have h1 := cnt_le (p := p) (es := tiesAt ts U) (fs := tiesAt ts T) (tiesAt_ok hE iU) (tiesAt_ok hE hTi) fun e he => by
      obtain ⟨x, hx, rfl⟩ := List.mem_map.mp he
      obtain ⟨x0, x1⟩ := iU x hx
      exact i2 x (upto_mem.mpr ⟨⟨x0, x1⟩, ht x x0 x1⟩)
    have h2 := (treeB_nat.mp hU).2.2
    have h3 := cnt_pos hp (tiesAt ts T)
    omega
  have hTT : treeB p ts T = true := treeB_nat.mpr ⟨by have := i1.ct; omega, good_iff.mpr ⟨hTi, (iota_rise _).sublist hT⟩, c1⟩
  refine ⟨hTT, near_gain hp hE hTT fun i i0 i1 => ?_⟩
  exact (up _ (nth L i) rfl).2 i (upto_mem.mpr ⟨⟨i0, i1⟩, Int.le_refl _⟩)
end
end Lw
end

noncomputable section
namespace Lw
open DL L2
section
variable {p : Nat} {ts : List (Int × Int)} {L : List Int}
def cwL (p : Nat) (ts : List (Int × Int)) (L ins outs : List Int) : List (List Int) := (trees p ts).filter fun T => decide (gains p ts L T = []) && ins.all (fun t => decide (t ∈ T)) && outs.all (fun t => !decide (t ∈ T))
theorem cw_mem (hp : 1 ≤ p) {ins outs T : List Int} : T ∈ cwL p ts L ins outs ↔ treeB p ts T = true ∧ gains p ts L T = [] ∧ (∀ t ∈ ins, t ∈ T) ∧ ∀ t ∈ outs, t ∉ T := by
  unfold cwL
  rw [List.mem_filter, trees_mem hp]
  simp [and_assoc]
def qL (p : Nat) (ts : List (Int × Int)) (L ins outs : List Int) (l : Int) (S : List Int) : Bool := joinsB p ts (vL p ts L l) (jL p ts L l) S && (ins.all (fun t => !decide (nth L t = l) || decide (t ∈ S)) && outs.all (fun t => !decide (t ∈ S)))
def lwL (p : Nat) (ts : List (Int × Int)) (L ins outs : List Int) (l : Int) : Nat := nS (layL ts.length L l) (qL p ts L ins outs l)
theorem sub_iota {n : Nat} {T : List Int} (h1 : T.Pairwise (· < ·)) (h2 : InT n T) : T.Sublist (iota n) := by
  have e : T = (iota n).filter fun x => decide (x ∈ T) := rise_uniq h1 ((iota_rise n).filter _) fun x => by
    rw [List.mem_filter, iota_mem]
    simp
    exact fun h => h2 x h
  rw [e]
  exact List.filter_sublist
theorem cw_prod (hp : 1 ≤ p) (hE : EndsOk p ts) (hL : L.length = ts.length) (hj : trees p ts ≠ []) {ins outs : List Int} (hi : InT ts.length ins) {vs : List Int} (nd : vs.Nodup) (hv : ∀ x, x ∈ vs ↔ x ∈ L) : (cwL p ts L ins outs).length = prodN (lwL p ts L ins outs) vs := by
  have e1 : prodN (lwL p ts L ins outs) vs = nS (iota ts.length) fun T => vs.all fun l => qL p ts L ins outs l (eqF L l T) := by
    have := nS_prod (nth L) (qL p ts L ins outs) vs nd (iota ts.length) fun x hx => (hv _).mpr (nth_in hL (iota_mem.mp hx))
    rw [show (fun T : List Int => vs.all fun l => qL p ts L ins outs l (eqF L l T)) = fun s => vs.all fun v => qL p ts L ins outs v (s.filter fun x => decide (nth L x = v)) from rfl, this]
    rfl
  rw [e1]
  unfold nS
  refine List.Perm.length_eq ((List.perm_ext_iff_of_nodup ((trees_nodup p ts).sublist List.filter_sublist) ((subs_nodup (iota_nodup _)).sublist List.filter_sublist)).mpr fun T => ?_)
  refine Iff.trans (cw_mem (L := L) (ins := ins) (outs := outs) hp) ?_
  rw [List.mem_filter, subs_mem, List.all_eq_true]
  have key : (∀ l ∈ vs, qL p ts L ins outs l (eqF L l T) = true) ↔ layOk p ts L T ∧ (∀ t ∈ ins, t ∈ T) ∧ ∀ l ∈ vs, ∀ t ∈ outs, t ∉ eqF L l T := by
    constructor
    · intro h
      refine ⟨fun l hl => ?_, fun t ht => ?_, fun l hl t ht => ?_⟩
      · have := h l ((hv l).mpr hl)
        unfold qL at this
        exact (Bool.and_eq_true _ _ |>.mp this).1
      · have := h (nth L t) ((hv _).mpr (nth_in hL (hi t ht)))
        unfold qL at this
        simp only [Bool.and_eq_true, List.all_eq_true] at this
        have := this.2.1 t ht
        simp at this
        exact (eqF_mem.mp this).1
      · have := h l hl
        unfold qL at this
        simp only [Bool.and_eq_true, List.all_eq_true] at this
        simpa using this.2.2 t ht
    · rintro ⟨h1, h2, h3⟩ l hl
      unfold qL
      simp only [Bool.and_eq_true, List.all_eq_true]
      refine ⟨h1 l ((hv l).mp hl), fun t ht => ?_, fun t ht => by simpa using h3 l hl t ht⟩
      by_cases c : nth L t = l
      · simp [eqF_mem, c, h2 t ht]
      · simp [c]
  rw [key]
  constructor
  · rintro ⟨h1, h2, h3, h4⟩
    have g := good_iff.mp (treeB_nat.mp h1).2.1
    exact ⟨sub_iota g.2 g.1, lay_of hp hE h1 h2, h3, fun l _ t ht q => h4 t ht (eqF_mem.mp q).1⟩
  · rintro ⟨h1, h2, h3, h4⟩
    obtain ⟨k1, k2⟩ := of_lay hp hE hL hj h1 h2
    refine ⟨k1, k2, h3, fun t ht q => ?_⟩
    have t0 := iota_mem.mp (h1.subset q)
    exact h4 (nth L t) ((hv _).mpr (nth_in hL t0)) t ht (eqF_mem.mpr ⟨q, rfl⟩)
def insL' (n : Nat) (L ins : List Int) (l : Int) : List Int := (layL n L l).filter fun x => decide (x ∈ ins)
def freeL (n : Nat) (L ins outs : List Int) (l : Int) : List Int := (layL n L l).filter fun x => !decide (x ∈ ins) && !decide (x ∈ outs)
theorem lay_nodup (n : Nat) (L : List Int) (l : Int) : (layL n L l).Nodup := (iota_nodup _).sublist List.filter_sublist
theorem lw_free (hE : EndsOk p ts) {ins outs : List Int} (hi : InT ts.length ins) (hd : ∀ x ∈ ins, x ∉ outs) (l : Int) : lwL p ts L ins outs l = nS (freeL ts.length L ins outs l) (joinsB p ts (vL p ts L l) (jL p ts L l ++ insL' ts.length L ins l)) := by
  obtain ⟨j1, j2, j3⟩ := j_ok (p := p) (ts := ts) (L := L) hE l
  have nl := lay_nodup ts.length L l
  have mi : ∀ x, x ∈ insL' ts.length L ins l ↔ x ∈ layL ts.length L l ∧ x ∈ ins := fun x => by simp [insL']
  have hB : (insL' ts.length L ins l).Sublist ((layL ts.length L l).filter fun x => !(!decide (x ∈ ins) && !decide (x ∈ outs))) := by
    have e : insL' ts.length L ins l = ((layL ts.length L l).filter fun x => !(!decide (x ∈ ins) && !decide (x ∈ outs))).filter fun x => decide (x ∈ ins) := by
      rw [List.filter_filter]
      refine List.filter_congr fun x _ => ?_
      by_cases c : x ∈ ins <;> simp [c]
    rw [e]
    exact List.filter_sublist
  have := nS_free (fun x => !decide (x ∈ ins) && !decide (x ∈ outs)) (layL ts.length L l) (insL' ts.length L ins l) nl hB (joinsB p ts (vL p ts L l) (jL p ts L l ++ insL' ts.length L ins l))
  rw [show freeL ts.length L ins outs l = (layL ts.length L l).filter fun x => !decide (x ∈ ins) && !decide (x ∈ outs) from rfl, ← this]
  unfold lwL
  refine nS_congr fun S hS => ?_
  have Sm : ∀ x ∈ S, x ∈ layL ts.length L l := fun x hx => hS.subset hx
  have Sn : S.Nodup := nl.sublist hS
  have ef : (ins.all (fun t => !decide (nth L t = l) || decide (t ∈ S)) && outs.all (fun t => !decide (t ∈ S))) = decide (S.filter (fun x => !(!decide (x ∈ ins) && !decide (x ∈ outs))) = insL' ts.length L ins l) := by
    rw [Bool.eq_iff_iff, decide_eq_true_eq, Bool.and_eq_true, List.all_eq_true, List.all_eq_true]
    have rS : S.Pairwise (· < ·) := ((iota_rise _).filter _).sublist hS
    constructor
    · rintro ⟨h1, h2⟩
      refine rise_uniq (rS.filter _) (((iota_rise _).filter _).filter _) fun x => ?_
      rw [List.mem_filter, mi]
      constructor
      · rintro ⟨x1, x2⟩
        refine ⟨Sm x x1, ?_⟩
        have := h2 x
        by_cases c : x ∈ ins
        · exact c
        · by_cases c2 : x ∈ outs
          · have := this c2
            simp [x1] at this
          · simp [c, c2] at x2
      · rintro ⟨x1, x2⟩
        have := h1 x x2
        simp [(lay_mem.mp x1).2] at this
        exact ⟨this, by simp [x2]⟩
    · intro h
      refine ⟨fun t ht => ?_, fun t ht => ?_⟩
      · by_cases c : nth L t = l
        · have : t ∈ insL' ts.length L ins l := (mi t).mpr ⟨lay_mem.mpr ⟨hi t ht, c⟩, ht⟩
          rw [← h] at this
          simp [c, (List.mem_filter.mp this).1]
        · simp [c]
      · by_cases c : t ∈ S
        · have : t ∈ S.filter (fun x => !(!decide (x ∈ ins) && !decide (x ∈ outs))) := List.mem_filter.mpr ⟨c, by simp [ht]⟩
          rw [h] at this
          exact absurd ht (hd t ((mi t).mp this).2)
        · simp [c]
  unfold qL
  rw [ef]
  by_cases c : S.filter (fun x => !(!decide (x ∈ ins) && !decide (x ∈ outs))) = insL' ts.length L ins l
  · rw [decide_eq_true c, Bool.and_true, Bool.and_true]
    have mem : ∀ x, x ∈ S ↔ x ∈ insL' ts.length L ins l ∨ x ∈ S.filter fun x => !decide (x ∈ ins) && !decide (x ∈ outs) := fun x => by
      rw [← c, List.mem_filter, List.mem_filter]
      by_cases q : (!decide (x ∈ ins) && !decide (x ∈ outs)) = true
      · rw [q]; simp
      · rw [Bool.not_eq_true _ |>.mp q]; simp
    have dj : ∀ x ∈ jL p ts L l, x ∉ layL ts.length L l := fun x hx h => by
      have h1 := (low_mem.mp (j2 x hx)).2
      have h2 := (lay_mem.mp h).2
      omega
    have nd1 : (jL p ts L l ++ S).Nodup := by
      rw [List.nodup_append]
      exact ⟨j1.nd, Sn, fun a ha b hb q => dj a ha (Sm a (q ▸ hb))⟩
    have ni : (insL' ts.length L ins l ++ S.filter fun x => !decide (x ∈ ins) && !decide (x ∈ outs)).Nodup := by
      rw [List.nodup_append]
      refine ⟨nl.sublist List.filter_sublist, Sn.sublist List.filter_sublist, fun a ha b hb q => ?_⟩
      subst q
      have h1 := ((mi a).mp ha).2
      have h2 := (List.mem_filter.mp hb).2
      simp [h1] at h2
    have nd2 : (jL p ts L l ++ insL' ts.length L ins l ++ S.filter fun x => !decide (x ∈ ins) && !decide (x ∈ outs)).Nodup := by
      rw [List.append_assoc, List.nodup_append]
      refine ⟨j1.nd, ni, fun a ha b hb q => ?_⟩
      subst q
      exact dj a ha (Sm a ((mem a).mpr (List.mem_append.mp hb)))
    have ms : ∀ x, x ∈ jL p ts L l ++ S ↔ x ∈ jL p ts L l ++ insL' ts.length L ins l ++ S.filter fun x => !decide (x ∈ ins) && !decide (x ∈ outs) := fun x => by
      rw [List.mem_append, List.append_assoc, List.mem_append, List.mem_append, mem x]
    exact joinsB_eq ⟨fun h => ind_set hE h nd2 fun x hx => (ms x).mpr hx, fun h => ind_set hE h nd1 fun x hx => (ms x).mp hx⟩ ms
  · rw [decide_eq_false c, Bool.and_false, Bool.and_false]
theorem nS_le {α : Type} : ∀ (l : List α) (P : List α → Bool), nS l P ≤ 2 ^ l.length
  | [], P => by rw [nS_nil]; split <;> simp
  | x :: l, P => by
    rw [nS_cons, List.length_cons, Nat.pow_succ]
    have := nS_le l P
    have := nS_le l fun s => P (x :: s)
    omega
end
end Lw
end

namespace Dt
theorem sm_add (f g : Nat → Int) : ∀ n, sm n (fun i => f i + g i) = sm n f + sm n g
  | 0 => rfl
  | n + 1 => by simp only [sm]; rw [sm_add f g n]; omega
theorem sm_mul (s : Int) (f : Nat → Int) : ∀ n, sm n (fun i => s * f i) = s * sm n f
  | 0 => by simp [sm]
  | n + 1 => by simp only [sm]; rw [sm_mul s f n, Int.mul_add]
theorem sm_head (f : Nat → Int) : ∀ n, sm (n + 1) f = f 0 + sm n fun i => f (i + 1)
  | 0 => by simp [sm]
  | n + 1 => by
    have := sm_head f n
    simp only [sm] at this ⊢
    omega
theorem sm_exch (f : Nat → Nat → Int) (m : Nat) : ∀ n, sm n (fun i => sm m fun k => f i k) = sm m fun k => sm n fun i => f i k
  | 0 => (sm_zero fun _ _ => rfl).symm
  | n + 1 => by simp only [sm]; rw [sm_exch f m n, ← sm_add]
def sk (i r : Nat) : Nat := if r < i then r else r + 1
theorem det_col (n : Nat) (A : Mx) : det (n + 1) 0 A = sm (n + 1) fun i => sg i * A i 0 * det n 0 fun r j => A (sk i r) (j + 1) := by
  simp only [det]
  refine sm_congr fun i _ => ?_
  rw [det_shift]
  rfl
def tr (A : Mx) : Mx := fun r j => A j r
theorem det_tr : ∀ (n : Nat) (A : Mx), det n 0 (tr A) = det n 0 A
  | 0, _ => rfl
  | 1, A => by rw [det_1, det_1]; rfl
  | n + 2, A => by
    have key : ∀ B : Mx, det (n + 2) 0 B = B 0 0 * det (n + 1) 0 (fun r j => B (r + 1) (j + 1)) + sm (n + 1) fun i => sm (n + 1) fun k => sg (i + 1) * sg k * (B (i + 1) 0 * B 0 (k + 1)) * det n 0 fun r j => B (sk i j + 1) (sk k r + 1) := fun B => by
      rw [det_col, sm_head]
      congr 1
      · show 1 * _ * _ = _
        rw [Int.one_mul]
        rfl
      · refine sm_congr fun i _ => ?_
        rw [← det_tr (n + 1), det_col, ← sm_mul]
        refine sm_congr fun k _ => ?_
        have e0 : tr (fun r j => B (sk (i + 1) r) (j + 1)) k 0 = B 0 (k + 1) := rfl
        have e1 : (fun r j => tr (fun r j => B (sk (i + 1) r) (j + 1)) (sk k r) (j + 1)) = fun r j => B (sk i j + 1) (sk k r + 1) := by
          funext r j
          show B (sk (i + 1) (j + 1)) (sk k r + 1) = _
          congr 1
          unfold sk
          split <;> split <;> omega
        rw [e0, e1]
        simp only [Int.mul_assoc, Int.mul_left_comm, Int.mul_comm]
    rw [key A, key (tr A)]
    congr 1
    · show A 0 0 * det (n + 1) 0 (tr fun r j => A (r + 1) (j + 1)) = _
      rw [det_tr (n + 1)]
    · rw [sm_exch]
      refine sm_congr fun i _ => sm_congr fun k _ => ?_
      have e : det n 0 (fun r j => tr A (sk k j + 1) (sk i r + 1)) = det n 0 fun r j => A (sk i j + 1) (sk k r + 1) := by
        rw [← det_tr n]; rfl
      rw [e, sg_succ, sg_succ]
      show -sg k * sg i * (A 0 (k + 1) * A (i + 1) 0) * _ = _
      rw [Int.mul_comm (A 0 (k + 1)), Int.neg_mul, Int.neg_mul, Int.mul_comm (sg k), Int.neg_mul]
      simp only [Int.neg_mul]
def updC (A : Mx) (k : Nat) (b : Nat → Int) : Mx := fun r j => if j = k then b r else A r j
def mvc (A : Mx) (b : Nat → Int) (k m : Nat) : Mx := fun i j => if j = m then b i else if j < m then A i j else if j ≤ k then A i (j - 1) else A i j
theorem det_mvc (A : Mx) (b : Nat → Int) {n k : Nat} (hk : k < n) : ∀ m, m ≤ k → det n 0 (mvc A b k m) = sg m * det n 0 (mvc A b k 0)
  | 0, _ => by show _ = 1 * _; rw [Int.one_mul]
  | m + 1, hm => by
    have IH := det_mvc A b hk m (by omega)
    rw [sg_succ, Int.neg_mul, ← IH, ← det_tr n (mvc A b k (m + 1)), ← det_tr n (mvc A b k m)]
    have s := det_swap_adj (n := n) (c := 0) (k := m) (tr (mvc A b k m)) (by omega) (fun i => A i m) b
    have a1 : tr (mvc A b k (m + 1)) = upd (upd (tr (mvc A b k m)) m (fun i => A i m)) (m + 1) b := by
      funext i j
      unfold tr upd mvc
      by_cases c1 : i = m + 1
      · simp [c1]
      · by_cases c2 : i = m
        · simp [c2]
        · by_cases c3 : i < m
          · simp [c1, c2, c3, show i < m + 1 by omega]
          · simp [c1, c2, c3, show ¬ i < m + 1 by omega]
    have a2 : tr (mvc A b k m) = upd (upd (tr (mvc A b k m)) m b) (m + 1) (fun i => A i m) := by
      funext i j
      unfold tr upd mvc
      by_cases c1 : i = m + 1
      · simp [c1, hm]
        omega
      · by_cases c2 : i = m
        · simp [c2]
        · simp [c1, c2]
    rw [a1]
    conv => rhs; rw [a2]
    exact s
end Dt

noncomputable section
namespace Lw
open DL
def f_look_at_table_l1 : Env → Out := sIf (tC2 cNe (eCall caLen (aCons (eVar 1) (aNil))) (eCall caLen (aCons (eVar 0) (aNil)))) (sRaise 7) (sNil)
def f_look_at_table : Env → Out := sFor (iSeq (eVar 0)) (gtN 1) f_look_at_table_l1
def g_look_at_table : List D → Res D := runF f_look_at_table 2
def f_first_row_with_l1 : Env → Out := sIf (tC2 cNe (eBin opIx (eBin opIx (eVar 0) (eVar 2)) (eVar 1)) (eC (.int 0))) (sRetV 2) (sNil)
def f_first_row_with : Env → Out := sSeq (sFor (iRg2 (aCons (eVar 1) (aCons (eCall caLen (aCons (eVar 0) (aNil))) (aNil)))) (gtN 2) f_first_row_with_l1) (sRet (eC .non))
def g_first_row_with : List D → Res D := runF f_first_row_with 3
def f_cleared_l1 : Env → Out := sApp 6 (eBin opDiv (eBin opSub (eBin opMul (eBin opIx (eVar 5) (eVar 7)) (eBin opIx (eVar 4) (eVar 1))) (eBin opMul (eBin opIx (eVar 5) (eVar 1)) (eBin opIx (eVar 4) (eVar 7)))) (eVar 2))
def f_cleared_l2 : Env → Out := sSeq (sAsg 6 (eBin opMul (eLst (aConsO (eC (.int 0)) (aNil))) (eBin opAdd (eVar 1) (eC (.int 1))))) (sSeq (sFor (iRg2 (aCons (eBin opAdd (eVar 1) (eC (.int 1))) (aCons (eCall caLen (aCons (eVar 5) (aNil))) (aNil)))) (gtN 7) f_cleared_l1) (sFrz 6 (sApp 3 (eVar 6))))
def f_cleared : Env → Out := sSeq (sAsg 3 (eLst (aNil))) (sSeq (sAsgF 4 (eBin opIx (eVar 0) (eVar 1))) (sSeq (sFor (iSeq (eSl (eVar 0) (ePart (some (eBin opAdd (eVar 1) (eC (.int 1))))) (ePart none))) (gtN 5) f_cleared_l2) (sRetV 3)))
def g_cleared : List D → Res D := runF f_cleared 8
def f_determinant_c1 : Env → Res D := eCall caList (aCons (eVar 6) (aNil))
def f_determinant_l1 : Env → Out := sSeq (sAsgF 5 (eOwn g_first_row_with (aCons (eVar 1) (aCons (eVar 4) (aNil))))) (sSeq (sIf (tC2 cIsN (eVar 5) (eC .non)) (sRet (eC (.int 0))) (sNil)) (sSeq (sIf (tC2 cNe (eVar 5) (eVar 4)) (sSeq (sSwp 1 (eVar 4) (eVar 5) (eTup (aConsO (eBin opIx (eVar 1) (eVar 5)) (aConsO (eBin opIx (eVar 1) (eVar 4)) (aNil))))) (sAsgF 2 (eUn opNeg (eVar 2)))) (sNil)) (sSeq (sFrz 1 (sAsg 1 (eBin opAdd (eSl (eVar 1) (ePart none) (ePart (some (eBin opAdd (eVar 4) (eC (.int 1)))))) (eOwn g_cleared (aCons (eVar 1) (aCons (eVar 4) (aCons (eVar 3) (aNil)))))))) (sAsgF 3 (eBin opIx (eBin opIx (eVar 1) (eVar 4)) (eVar 4))))))
def f_determinant : Env → Out := sSeq (sExp (eOwn g_look_at_table (aCons (eVar 0) (aNil)))) (sSeq (sAsgI 1 (eLc (iSeq (eVar 0)) [6] (gtN 6) (tYesG) f_determinant_c1)) (sSeq (sAsgF 2 (eC (.int 1))) (sSeq (sAsgF 3 (eC (.int 1))) (sSeq (sFor (iRg1 (aCons (eCall caLen (aCons (eVar 1) (aNil))) (aNil))) (gtN 4) f_determinant_l1) (sRet (eBin opMul (eVar 2) (eVar 3)))))))
def g_determinant : List D → Res D := runF f_determinant 7
end Lw
end

namespace Lw
open DL L2 TL
def dR (l : List Int) : D := .ls (l.map D.int)
theorem dull_R (l : List Int) : dull (dR l) := by
  refine ⟨?_, ?_, ?_, ?_, ?_, ?_⟩ <;> simp [dR]
theorem bR (L : List (List Int)) : brws (L.map dR) = L.map dR ∧ frzs (L.map dR) = L.map dR ∧ plns (L.map dR) = L.map dR ∧ nods (L.map dR) = true ∧ shd (L.map dR) = true ∧ ploks (L.map dR) = true := dulls dull_R L
def rowN (L : List (List Int)) (r : Nat) : List Int := L.getD r []
def ent (L : List (List Int)) (r c : Nat) : Int := (rowN L r).getD c 0
structure Sq (n : Nat) (L : List (List Int)) : Prop where
  len : L.length = n
  row : ∀ l ∈ L, l.length = n
theorem Sq.rowl {n : Nat} {L : List (List Int)} (h : Sq n L) {r : Nat} (hr : r < n) : (rowN L r).length = n := by
  have : rowN L r = L[r]'(by rw [h.len]; exact hr) := by unfold rowN; rw [List.getD_eq_getElem?_getD, List.getElem?_eq_getElem (by rw [h.len]; exact hr)]; rfl
  rw [this]
  exact h.row _ (List.getElem_mem _)
theorem at_row {L : List (List Int)} {r : Nat} (hr : r < L.length) : atI (L.map dR) (r : Int) = some (dR (rowN L r)) := by
  rw [DL.atI_map, DL.atI_natG (j := r) rfl hr, List.getElem?_eq_getElem hr]
  unfold rowN
  rw [List.getD_eq_getElem?_getD, List.getElem?_eq_getElem hr]
  rfl
theorem at_num {l : List Int} {c : Nat} (hc : c < l.length) : atI (l.map D.int) (c : Int) = some (.int (l.getD c 0)) := by
  rw [DL.atI_map, DL.atI_natG (j := c) rfl hc, List.getElem?_eq_getElem hc, List.getD_eq_getElem?_getD, List.getElem?_eq_getElem hc]
  rfl
theorem at_ent {n : Nat} {L : List (List Int)} (h : Sq n L) {r c : Nat} (hr : r < n) (hc : c < n) : atI ((rowN L r).map D.int) (c : Int) = some (.int (ent L r c)) := at_num (by rw [h.rowl hr]; exact hc)
theorem look_tab_ok {n : Nat} {L : List (List Int)} (h : Sq n L) : g_look_at_table [.ls (L.map dR)] = .ok .non := by
  have key : ∀ (M : List (List Int)) (y1 : D), (∀ l ∈ M, l.length = n) → ∃ z1, forL (gtN 1) f_look_at_table_l1 (M.map dR) [.ls (L.map dR), y1] = .nx [.ls (L.map dR), z1] := by
    intro M
    induction M with
    | nil => exact fun y1 _ => ⟨y1, by simp [forL]⟩
    | cons l M ih =>
      intro y1 hM
      obtain ⟨z1, e⟩ := ih (dR l) fun x hx => hM x (List.mem_cons_of_mem _ hx)
      refine ⟨z1, ?_⟩
      rw [← e]
      have hl := hM l (List.mem_cons_self ..)
      have hL := h.len
      simp [forL, f_look_at_table_l1, dR, hl, hL]
  obtain ⟨z1, e⟩ := key L .un h.row
  simp [g_look_at_table, runF, f_look_at_table, e]
theorem first_l1 {n : Nat} {L : List (List Int)} (h : Sq n L) (hn : n ≤ 1000) (k : Nat) (hk : k < n) : ∀ (m lo : Nat) (y2 : D), lo + m ≤ n →
    (∃ r, lo ≤ r ∧ r < lo + m ∧ ent L r k ≠ 0 ∧ (∀ i, lo ≤ i → i < r → ent L i k = 0) ∧ forL (gtN 2) f_first_row_with_l1 (rng lo m) [.ls (L.map dR), .int k, y2] = .rt (.int r)) ∨
    ((∀ i, lo ≤ i → i < lo + m → ent L i k = 0) ∧ ∃ z2, forL (gtN 2) f_first_row_with_l1 (rng lo m) [.ls (L.map dR), .int k, y2] = .nx [.ls (L.map dR), .int k, z2])
  | 0, lo, y2, _ => .inr ⟨fun i h1 h2 => absurd h2 (by omega), y2, by simp [rng_zero, forL]⟩
  | m + 1, lo, y2, hm => by
    have e1 := at_row (L := L) (r := lo) (by rw [h.len]; omega)
    have e2 := at_ent h (r := lo) (c := k) (by omega) hk
    by_cases c : ent L lo k = 0
    · rw [c] at e2
      have step : forL (gtN 2) f_first_row_with_l1 (rng lo (m + 1)) [.ls (L.map dR), .int k, y2] = forL (gtN 2) f_first_row_with_l1 (rng ((lo : Int) + 1) m) [.ls (L.map dR), .int k, .int lo] := by
        rw [rng_succ]
        simp [forL, f_first_row_with_l1, e1, dR, e2]
      rw [step]
      rcases first_l1 h hn k hk m (lo + 1) (.int lo) (by omega) with ⟨r, r1, r2, r3, r4, r5⟩ | ⟨r1, z2, r2⟩
      · left
        refine ⟨r, by omega, by omega, r3, fun i h1 h2 => ?_, r5⟩
        by_cases q : i = lo
        · rw [q]; exact c
        · exact r4 i (by omega) h2
      · right
        refine ⟨fun i h1 h2 => ?_, z2, r2⟩
        by_cases q : i = lo
        · rw [q]; exact c
        · exact r1 i (by omega) (by omega)
    · left
      refine ⟨lo, Nat.le_refl _, by omega, c, fun i h1 h2 => absurd h2 (by omega), ?_⟩
      rw [rng_succ]
      simp [forL, f_first_row_with_l1, e1, dR, e2, c]
theorem first_ok {n : Nat} {L : List (List Int)} (h : Sq n L) (hn : n ≤ 1000) (k : Nat) (hk : k < n) :
    (∃ r, k ≤ r ∧ r < n ∧ ent L r k ≠ 0 ∧ (∀ i, k ≤ i → i < r → ent L i k = 0) ∧ g_first_row_with [.ls (L.map dR), .int k] = .ok (.int r)) ∨
    ((∀ i, k ≤ i → i < n → ent L i k = 0) ∧ g_first_row_with [.ls (L.map dR), .int k] = .ok .non) := by
  have r1 : rgOk (k : Int) := rgOk_of (by omega) (by omega)
  have r2 : rgOk (n : Int) := rgOk_of (by omega) (by omega)
  have hL := h.len
  have en : ((n : Int) - (k : Int)).toNat = n - k := by omega
  rcases first_l1 h hn k hk (n - k) k .un (by omega) with ⟨r, q1, q2, q3, q4, q5⟩ | ⟨q1, z2, q2⟩
  · exact .inl ⟨r, q1, by omega, q3, q4, by simp [g_first_row_with, runF, f_first_row_with, r1, r2, hL, en, q5]⟩
  · exact .inr ⟨fun i h1 h2 => q1 i h1 (by omega), by simp [g_first_row_with, runF, f_first_row_with, r1, r2, hL, en, q2]⟩
theorem opDiv_exact {a : Int} (h : divOk a) (q : Int) : opDiv (.int (a * q)) (.int a) = some (.int q) := by
  show (if divOk a then some (D.int (if 0 < a then a * q / a else (a * q).fdiv a)) else none) = _
  rw [if_pos h]
  split
  · rw [Int.mul_ediv_cancel_left q h.1]
  · rw [Int.mul_fdiv_cancel_left q h.1]
def Sm (x : Int) : Prop := x.natAbs.log2 < 9000
theorem Sm.mul {x y : Int} (hx : Sm x) (hy : Sm y) : mulOk x y := by
  have h : x.natAbs.log2 + y.natAbs.log2 < 100000000 := by
    unfold Sm at hx hy
    omega
  simp only [mulOk]
  exact Or.inr h
theorem opMul_Sm {x y : Int} (hx : Sm x) (hy : Sm y) : opMul (.int x) (.int y) = some (.int (x * y)) := by rw [opMul_eq, if_pos (hx.mul hy)]
theorem opMul_zeros {k : Nat} (hk : k ≤ 1000) : opMul (.ls [.int 0]) (.int ((k : Int) + 1)) = some (.ol ((List.replicate (k + 1) (0 : Int)).map D.int)) := by
  have e : ((k : Int) + 1).toNat = k + 1 := by omega
  have h1 : (k : Int) + 1 < 9223372036854775808 := by omega
  have h2 : -9223372036854775808 ≤ (k : Int) + 1 := by omega
  have h3 : k + 1 ≤ lim := by rw [lim_eq]; omega
  have h4 : ∀ m : Nat, (List.replicate m [D.int 0]).flatten = (List.replicate m (0 : Int)).map D.int := by
    intro m
    induction m with
    | zero => rfl
    | succ m ih => simp only [List.replicate_succ, List.flatten_cons, ih, List.map_cons]; rfl
  generalize hz : (k : Int) + 1 = z at *
  simp [opMul, h1, h2, h3, h4, e, -List.map_replicate]
def nr (n k : Nat) (q : List Int → Nat → Int) (R : List Int) : List Int := List.replicate (k + 1) (0 : Int) ++ (List.range (n - (k + 1))).map fun i => q R (k + 1 + i)
theorem clr_l1 (x0 x3 : D) {n k : Nat} (kk : Int) (hkk : kk = k) {P R : List Int} {ahead : Int} (hn : n ≤ 1000) (hk : k < n) (hP : P.length = n) (hR : R.length = n) (ha : divOk ahead) (sP : ∀ j, k ≤ j → j < n → Sm (P.getD j 0)) (sR : ∀ j, k ≤ j → j < n → Sm (R.getD j 0)) (q : Nat → Int)
    (hq : ∀ j, k < j → j < n → R.getD j 0 * P.getD k 0 - R.getD k 0 * P.getD j 0 = ahead * q j) : ∀ (m lo : Nat) (A : List Int) (y7 : D), k < lo → lo + m = n → A.length + m ≤ 5000 →
    ∃ z7, forL (gtN 7) f_cleared_l1 (rng lo m) [x0, .int kk, .int ahead, x3, .ls (P.map D.int), .ls (R.map D.int), .ol (A.map D.int), y7] = .nx [x0, .int kk, .int ahead, x3, .ls (P.map D.int), .ls (R.map D.int), .ol ((A ++ (List.range m).map fun i => q (lo + i)).map D.int), z7]
  | 0, lo, A, y7, _, _, _ => ⟨y7, by simp [rng_zero, forL]⟩
  | m + 1, lo, A, y7, h1, h2, h3 => by
    have a1 := at_num (l := R) (c := lo) (by omega)
    have a2 := at_num (l := P) (c := k) (by omega)
    have a3 := at_num (l := R) (c := k) (by omega)
    rw [← hkk] at a2 a3
    have a4 := at_num (l := P) (c := lo) (by omega)
    have m1 := opMul_Sm (sR lo (by omega) (by omega)) (sP k (Nat.le_refl k) hk)
    have m2 := opMul_Sm (sR k (Nat.le_refl k) hk) (sP lo (by omega) (by omega))
    have d1 := opDiv_exact ha (q lo)
    rw [← hq lo h1 (by omega)] at d1
    have bA : A.length < lim := by rw [lim_eq]; omega
    obtain ⟨z7, ih⟩ := clr_l1 x0 x3 kk hkk hn hk hP hR ha sP sR q hq m (lo + 1) (A ++ [q lo]) (.int lo) (by omega) (by omega) (by simp; omega)
    refine ⟨z7, ?_⟩
    have el : A ++ (List.range (m + 1)).map (fun i => q (lo + i)) = A ++ [q lo] ++ (List.range m).map fun i => q (lo + 1 + i) := by
      rw [List.range_succ_eq_map]
      simp [List.map_map, Function.comp_def, Nat.add_assoc, Nat.add_comm 1]
    rw [el, ← ih, rng_succ]
    simp [forL, f_cleared_l1, a1, a2, a3, a4, m1, m2, d1, bA, -List.getD_eq_getElem?_getD]
theorem clr_l2 (x0 : D) {n k : Nat} (kk : Int) (hkk : kk = k) {P : List Int} {ahead : Int} (hn : n ≤ 1000) (hk : k < n) (hP : P.length = n) (ha : divOk ahead) (sP : ∀ j, k ≤ j → j < n → Sm (P.getD j 0)) (q : List Int → Nat → Int) : ∀ (M T : List (List Int)) (y5 y6 y7 : D), T.length + M.length ≤ 5000 →
    (∀ R ∈ M, R.length = n ∧ (∀ j, k ≤ j → j < n → Sm (R.getD j 0)) ∧ ∀ j, k < j → j < n → R.getD j 0 * P.getD k 0 - R.getD k 0 * P.getD j 0 = ahead * q R j) →
    ∃ z5 z6 z7, forL (gtN 5) f_cleared_l2 (M.map dR) [x0, .int kk, .int ahead, .ol (T.map dR), .ls (P.map D.int), y5, y6, y7] = .nx [x0, .int kk, .int ahead, .ol ((T ++ M.map (nr n k q)).map dR), .ls (P.map D.int), z5, z6, z7] := by
  intro M
  induction M with
  | nil => exact fun T y5 y6 y7 _ _ => ⟨y5, y6, y7, by simp [forL]⟩
  | cons R M IH =>
    intro T y5 y6 y7 h1 h2
    obtain ⟨r1, r2, r3⟩ := h2 R (List.mem_cons_self ..)
    have hr1 : rgOk (kk + 1) := rgOk_of (by omega) (by omega)
    have hr2 : rgOk (n : Int) := rgOk_of (by omega) (by omega)
    have en : ((n : Int) - (kk + 1)).toNat = n - (k + 1) := by omega
    have oz := opMul_zeros (k := k) (by omega)
    rw [← hkk] at oz
    obtain ⟨w7, e⟩ := clr_l1 x0 (.ol (T.map dR)) kk hkk hn hk hP r1 ha sP r2 (q R) r3 (n - (k + 1)) (k + 1) (List.replicate (k + 1) 0) y7 (by omega) (by omega) (by simp; omega)
    obtain ⟨z5, z6, z7, ih⟩ := IH (T ++ [nr n k q R]) (dR R) (dR (nr n k q R)) w7 (by simp at h1 ⊢; omega) (fun x hx => h2 x (List.mem_cons_of_mem _ hx))
    refine ⟨z5, z6, z7, ?_⟩
    have el : T ++ (R :: M).map (nr n k q) = T ++ [nr n k q R] ++ M.map (nr n k q) := by simp
    rw [el, ← ih]
    have bT : T.length < lim := by rw [lim_eq]; simp at h1; omega
    rw [show List.replicate (k + 1) (0 : Int) ++ (List.range (n - (k + 1))).map (fun i => q R (k + 1 + i)) = nr n k q R from rfl] at e
    have ec : (((k + 1 : Nat) : Int)) = kk + 1 := by omega
    rw [ec] at e
    obtain ⟨b1, b2, b3, b4, b5, b6⟩ := bR T
    have l1 : 1 ≤ lim := by rw [lim_eq]; omega
    rw [List.map_cons, forL_cons]
    simp only [dR] at e ⊢
    simp [f_cleared_l2, dR, oz, r1, hr1, hr2, en, e, l1, frzAt, bT, -List.map_replicate]
theorem cleared_ok {n k : Nat} (kk : Int) (hkk : kk = k) (hn : n ≤ 1000) (hk : k < n) {L : List (List Int)} (h : Sq n L) {ahead : Int} (ha : divOk ahead) (sP : ∀ j, k ≤ j → j < n → Sm (ent L k j)) (q : List Int → Nat → Int)
    (hq : ∀ R ∈ L.drop (k + 1), (∀ j, k ≤ j → j < n → Sm (R.getD j 0)) ∧ ∀ j, k < j → j < n → R.getD j 0 * ent L k k - R.getD k 0 * ent L k j = ahead * q R j) :
    g_cleared [.ls (L.map dR), .int kk, .int ahead] = .ok (.ol (((L.drop (k + 1)).map (nr n k q)).map dR)) := by
  have ar := at_row (L := L) (r := k) (by rw [h.len]; exact hk)
  rw [← hkk] at ar
  have hl : L.length = n := h.len
  obtain ⟨z5, z6, z7, e⟩ := clr_l2 (.ls (L.map dR)) kk hkk hn hk (h.rowl hk) ha sP q (L.drop (k + 1)) [] .un .un .un (by simp; omega) fun R hR => ⟨h.row R (List.mem_of_mem_drop hR), (hq R hR).1, (hq R hR).2⟩
  have cf : cut L (some (kk + 1)) none = L.drop (k + 1) := by rw [cut_from L (kk + 1) (by omega), show (kk + 1).toNat = k + 1 by omega]
  have bl : (L.drop (k + 1)).length ≤ lim := by rw [List.length_drop, lim_eq]; omega
  have br := bR (L.drop (k + 1))
  simp only [dR, List.map_nil, List.nil_append] at ar e br ⊢
  simp [g_cleared, runF, f_cleared, ar, cf, bl, br, e, -List.map_drop, -List.map_map, -List.length_drop]
end Lw

namespace Lw
open DL L2 TL
theorem body_end (kk : Int) (k n : Nat) (hkk : kk = k) (hn : n ≤ 1000) (hk : k < n) (x0 y6 : D) {L : List (List Int)} (hL : L.length = n) (s ahead : Int) (y5 : D) {M : List (List Int)} (hM : M.length = n - (k + 1)) (hcl : g_cleared [.ls (L.map dR), .int kk, .int ahead] = .ok (.ol (M.map dR)))
    {L2 : List (List Int)} (hL2 : L2 = L.take (k + 1) ++ M) (hS : Sq n L2) {e : Int} (he : e = ent L2 k k) :
    sSeq (sFrz 1 (sAsg 1 (eBin opAdd (eSl (eVar 1) (ePart none) (ePart (some (eBin opAdd (eVar 4) (eC (.int 1)))))) (eOwn g_cleared (aCons (eVar 1) (aCons (eVar 4) (aCons (eVar 3) (aNil)))))))) (sAsgF 3 (eBin opIx (eBin opIx (eVar 1) (eVar 4)) (eVar 4))) [x0, .ol (L.map dR), .int s, .int ahead, .int kk, y5, y6] =
      .nx [x0, .ol (L2.map dR), .int s, .int e, .int kk, y5, y6] := by
  have ar := at_row (L := L2) (r := k) (by rw [hS.len]; exact hk)
  have ae := at_ent hS hk hk
  rw [← hkk] at ar ae
  rw [← he] at ae
  have ct : cut L none (some (kk + 1)) = L.take (k + 1) := by rw [cut_to L (kk + 1) (by omega), show (kk + 1).toNat = k + 1 by omega]
  have b1 : (L.take (k + 1)).length + M.length ≤ lim := by rw [List.length_take, hM, lim_eq]; omega
  have r1 := bR L
  have r2 := bR (L.take (k + 1))
  have r3 := bR M
  have r4 := bR L2
  have el : (L.take (k + 1)).map dR ++ M.map dR = L2.map dR := by rw [hL2, List.map_append]
  have b2 : (L.take (k + 1)).length ≤ lim := by rw [List.length_take, lim_eq]; omega
  simp only [dR] at ar ae el r1 r2 r3 r4 hcl ⊢
  simp [frzAt, r1, r2, r3, r4, ct, hcl, b1, b2, el, ar, ae, -List.map_take, -List.map_append, -List.length_take]
def swL (L : List (List Int)) (k f : Nat) : List (List Int) := (L.set k (rowN L f)).set f (rowN L k)
theorem swL_row {n : Nat} {L : List (List Int)} (h : L.length = n) {k f r : Nat} (hk : k < n) (hf : f < n) (hr : r < n) : rowN (swL L k f) r = rowN L (Dt.sw k f r) := by
  unfold swL Dt.sw
  have g : ∀ (M : List (List Int)) (i : Nat), rowN M i = (M[i]?).getD [] := fun M i => by unfold rowN; rw [List.getD_eq_getElem?_getD]
  rw [g (List.set _ _ _)]
  by_cases q1 : r = f
  · subst q1
    rw [List.getElem?_set_self (by rw [List.length_set]; omega)]
    by_cases q2 : r = k
    · subst q2; simp
    · rw [if_neg q2, if_pos rfl]; rfl
  · rw [List.getElem?_set_ne (fun z => q1 z.symm)]
    by_cases q2 : r = k
    · subst q2
      rw [List.getElem?_set_self (by omega), if_pos rfl]; rfl
    · rw [List.getElem?_set_ne (fun z => q2 z.symm), if_neg q2, if_neg q1, ← g]
theorem swL_sq {n : Nat} {L : List (List Int)} (h : Sq n L) {k f : Nat} (hk : k < n) (hf : f < n) : Sq n (swL L k f) where
  len := by unfold swL; rw [List.length_set, List.length_set, h.len]
  row := fun l hl => by
    unfold swL at hl
    rcases List.mem_or_eq_of_mem_set hl with hl | rfl
    · rcases List.mem_or_eq_of_mem_set hl with hl | rfl
      · exact h.row l hl
      · exact h.rowl hf
    · exact h.rowl hk
def nwL (n : Nat) (L : List (List Int)) (k : Nat) (q : List Int → Nat → Int) : List (List Int) := L.take (k + 1) ++ (L.drop (k + 1)).map (nr n k q)
theorem nr_len {n k : Nat} (hk : k < n) (q : List Int → Nat → Int) (R : List Int) : (nr n k q R).length = n := by unfold nr; simp; omega
theorem nwL_sq {n : Nat} {L : List (List Int)} (h : Sq n L) {k : Nat} (hk : k < n) (q : List Int → Nat → Int) : Sq n (nwL n L k q) where
  len := by unfold nwL; rw [List.length_append, List.length_map, List.length_take, List.length_drop, h.len]; omega
  row := fun l hl => by
    unfold nwL at hl
    rcases List.mem_append.mp hl with hl | hl
    · exact h.row l (List.mem_of_mem_take hl)
    · obtain ⟨R, _, rfl⟩ := List.mem_map.mp hl
      exact nr_len hk q R
theorem nwL_lo {n : Nat} {L : List (List Int)} (h : Sq n L) {k r : Nat} (hr : r ≤ k) (hk : k < n) (q : List Int → Nat → Int) : rowN (nwL n L k q) r = rowN L r := by
  unfold nwL rowN
  rw [List.getD_eq_getElem?_getD, List.getElem?_append_left (by rw [List.length_take, h.len]; omega), List.getElem?_take_of_lt (by omega), List.getD_eq_getElem?_getD]
theorem nwL_hi {n : Nat} {L : List (List Int)} (h : Sq n L) {k r : Nat} (hr : k < r) (hn : r < n) (q : List Int → Nat → Int) : rowN (nwL n L k q) r = nr n k q (rowN L r) := by
  unfold nwL rowN
  have ht : (L.take (k + 1)).length = k + 1 := by rw [List.length_take, h.len]; omega
  rw [List.getD_eq_getElem?_getD, List.getElem?_append_right (by omega), ht, List.getElem?_map, List.getElem?_drop, show k + 1 + (r - (k + 1)) = r by omega, List.getD_eq_getElem?_getD, List.getElem?_eq_getElem (by rw [h.len]; exact hn)]
  rfl
theorem nr_get {n k : Nat} (q : List Int → Nat → Int) (R : List Int) {c : Nat} (hc : k < c) (hn : c < n) : (nr n k q R).getD c 0 = q R c := by
  unfold nr
  rw [List.getD_eq_getElem?_getD, List.getElem?_append_right (by rw [List.length_replicate]; omega), List.length_replicate, List.getElem?_map, List.getElem?_range (by omega)]
  show q R (k + 1 + (c - (k + 1))) = _
  rw [show k + 1 + (c - (k + 1)) = c by omega]
theorem fac_mono (B : Nat) (hB : 1 ≤ B) {k n : Nat} (h : k ≤ n) : Dt.fac k * B ^ k ≤ Dt.fac n * B ^ n := by
  induction n with
  | zero => rw [Nat.le_zero.mp h]; exact Nat.le_refl _
  | succ n ih =>
    by_cases e : k = n + 1
    · rw [e]; exact Nat.le_refl _
    · refine Nat.le_trans (ih (by omega)) ?_
      rw [Dt.fac, Nat.pow_succ]
      exact Nat.mul_le_mul (Nat.le_mul_of_pos_left _ (by omega)) (Nat.le_mul_of_pos_right _ hB)
theorem Sm_of {x : Int} {b : Nat} (h : x.natAbs ≤ b) (hb : b < 2 ^ 9000) : Sm x := by
  unfold Sm
  by_cases e : x.natAbs = 0
  · rw [e]; decide
  · exact (Nat.log2_lt e).mpr (Nat.lt_of_le_of_lt h hb)
theorem turn_ok {n k : Nat} (kk : Int) (hkk : kk = k) (hn : n ≤ 1000) (hk : k < n) {A A' E : Dt.Mx} {s ahead : Int} {L : List (List Int)} (B : Nat) (hB1 : 1 ≤ B) (hB : Dt.fac n * B ^ n < 2 ^ 9000) (hL : Sq n L) (b : Dt.Bar n k A A' E s ahead)
    (hA : ∀ r c, r < n → c < n → (A' r c).natAbs ≤ B) (hE : ∀ r c, k ≤ r → r < n → k ≤ c → c < n → ent L r c = E r c) (hp : E k k ≠ 0) :
    ∃ (q : List Int → Nat → Int) (L2 : List (List Int)), L2 = nwL n L k q ∧ g_cleared [.ls (L.map dR), .int kk, .int ahead] = .ok (.ol (((L.drop (k + 1)).map (nr n k q)).map dR)) ∧ ent L2 k k = E k k ∧
      Dt.Bar n (k + 1) A A' (Dt.nx E k ahead) s (E k k) ∧ ∀ r c, k + 1 ≤ r → r < n → k + 1 ≤ c → c < n → ent L2 r c = Dt.nx E k ahead r c := by
  let q : List Int → Nat → Int := fun R j => (R.getD j 0 * ent L k k - R.getD k 0 * ent L k j) / ahead
  have small : ∀ r c, k ≤ r → r < n → k ≤ c → c < n → Sm (ent L r c) := fun r c h1 h2 h3 h4 => by
    rw [hE r c h1 h2 h3 h4]
    exact Sm_of (Nat.le_trans (Dt.bar_abs b B hA hk h2 h4) (fac_mono B hB1 (by omega))) hB
  have hah : divOk ahead := by
    refine ⟨b.hn, .inr ?_⟩
    have : Sm ahead := by
      rw [b.ha]
      exact Sm_of (Nat.le_trans (Dt.det_abs B fun r j h1 _ h3 => hA r j (by omega) (by omega)) (fac_mono B hB1 (by omega))) hB
    exact this
  have hrow : ∀ R ∈ L.drop (k + 1), ∃ r, k + 1 ≤ r ∧ r < n ∧ R = rowN L r := fun R hR => by
    obtain ⟨i, hi, e⟩ := List.mem_iff_getElem.mp hR
    rw [List.length_drop, hL.len] at hi
    refine ⟨k + 1 + i, by omega, by omega, ?_⟩
    rw [← e, List.getElem_drop]
    unfold rowN
    rw [List.getD_eq_getElem?_getD, List.getElem?_eq_getElem (by rw [hL.len]; omega)]; rfl
  have qv : ∀ r c, k + 1 ≤ r → r < n → k ≤ c → c < n → q (rowN L r) c = Dt.nx E k ahead r c := fun r c h1 h2 h3 h4 => by
    show (ent L r c * ent L k k - ent L r k * ent L k c) / ahead = (E r c * E k k - E r k * E k c) / ahead
    rw [hE r c (by omega) h2 h3 h4, hE k k (Nat.le_refl k) hk (Nat.le_refl k) hk, hE r k (by omega) h2 (Nat.le_refl k) hk, hE k c (Nat.le_refl k) hk h3 h4]
  refine ⟨q, nwL n L k q, rfl, cleared_ok kk hkk hn hk hL hah (fun j h1 h2 => small k j (Nat.le_refl k) hk h1 h2) q (fun R hR => ?_), ?_, Dt.bar_next b hp, fun r c h1 h2 h3 h4 => ?_⟩
  · obtain ⟨r, h1, h2, rfl⟩ := hrow R hR
    refine ⟨fun j h3 h4 => small r j (by omega) h2 h3 h4, fun j h3 h4 => ?_⟩
    rw [qv r j h1 h2 (by omega) h4]
    have := (Dt.bar_exact b hp r j).1
    show ent L r j * ent L k k - ent L r k * ent L k j = _
    rw [hE r j (by omega) h2 (by omega) h4, hE k k (Nat.le_refl k) hk (Nat.le_refl k) hk, hE r k (by omega) h2 (Nat.le_refl k) hk, hE k j (Nat.le_refl k) hk (by omega) h4]
    exact this
  · unfold ent
    rw [nwL_lo hL (Nat.le_refl k) hk q]
    exact hE k k (Nat.le_refl k) hk (Nat.le_refl k) hk
  · unfold ent
    rw [nwL_hi hL (by omega) h2 q, nr_get q _ (by omega) h4]
    exact qv r c h1 h2 (by omega) h4
theorem body_same (kk : Int) (k n : Nat) (hkk : kk = k) (hn : n ≤ 1000) (hk : k < n) (x0 y6 : D) {L : List (List Int)} (hL : L.length = n) (s ahead : Int) (y5 : D) {M : List (List Int)} (hM : M.length = n - (k + 1)) (hcl : g_cleared [.ls (L.map dR), .int kk, .int ahead] = .ok (.ol (M.map dR)))
    {L2 : List (List Int)} (hL2 : L2 = L.take (k + 1) ++ M) (hS : Sq n L2) {e : Int} (he : e = ent L2 k k) (hf : g_first_row_with [.ls (L.map dR), .int kk] = .ok (.int kk)) :
    f_determinant_l1 [x0, .ol (L.map dR), .int s, .int ahead, .int kk, y5, y6] = .nx [x0, .ol (L2.map dR), .int s, .int e, .int kk, .int kk, y6] := by
  have be := body_end kk k n hkk hn hk x0 y6 hL s ahead (.int kk) hM hcl hL2 hS he
  rw [← be]
  have r1 := bR L
  have cd : calD g_first_row_with [.bo (L.map dR), .int kk] = .ok (.int kk) := by
    simp [calD, r1, hf]
  show sSeq _ (sSeq _ (sSeq _ _)) _ = _
  have ev : (sAsgF 5 (eOwn g_first_row_with (aCons (eVar 1) (aCons (eVar 4) (aNil))))) [x0, .ol (L.map dR), .int s, .int ahead, .int kk, y5, y6] = .nx [x0, .ol (L.map dR), .int s, .int ahead, .int kk, .int kk, y6] := by
    simp [r1, cd]
  unfold sSeq
  rw [ev]
  simp
theorem body_swap (kk ff : Int) (k f n : Nat) (hkk : kk = k) (hff : ff = f) (hn : n ≤ 1000) (hk : k < n) (hfk : k < f) (hfn : f < n) (x0 y6 : D) {L : List (List Int)} (hS0 : Sq n L) (s ahead : Int) (y5 : D) {M : List (List Int)} (hM : M.length = n - (k + 1)) (hcl : g_cleared [.ls ((swL L k f).map dR), .int kk, .int ahead] = .ok (.ol (M.map dR)))
    {L2 : List (List Int)} (hL2 : L2 = (swL L k f).take (k + 1) ++ M) (hS : Sq n L2) {e : Int} (he : e = ent L2 k k) (hf : g_first_row_with [.ls (L.map dR), .int kk] = .ok (.int ff)) :
    f_determinant_l1 [x0, .ol (L.map dR), .int s, .int ahead, .int kk, y5, y6] = .nx [x0, .ol (L2.map dR), .int (-s), .int e, .int kk, .int ff, y6] := by
  have be := body_end kk k n hkk hn hk x0 y6 (swL_sq hS0 hk hfn).len (-s) ahead (.int ff) hM hcl hL2 hS he
  rw [← be]
  have r1 := bR L
  have cd : calD g_first_row_with [.bo (L.map dR), .int kk] = .ok (.int ff) := by
    simp [calD, r1, hf]
  have ak := at_row (L := L) (r := k) (by rw [hS0.len]; exact hk)
  have af := at_row (L := L) (r := f) (by rw [hS0.len]; exact hfn)
  rw [← hkk] at ak
  rw [← hff] at af
  have ik : ixN L.length kk = some k := by rw [ixN_nat (by omega) (by rw [hS0.len]; omega), show kk.toNat = k by omega]
  have jf : ixN L.length ff = some f := by rw [ixN_nat (by omega) (by rw [hS0.len]; omega), show ff.toNat = f by omega]
  have ne : ¬ ff = kk := by omega
  have l2 : 2 ≤ lim := by rw [lim_eq]; omega
  have ev : (sAsgF 5 (eOwn g_first_row_with (aCons (eVar 1) (aCons (eVar 4) (aNil))))) [x0, .ol (L.map dR), .int s, .int ahead, .int kk, y5, y6] = .nx [x0, .ol (L.map dR), .int s, .int ahead, .int kk, .int ff, y6] := by
    simp [r1, cd]
  have ev2 : (sSwp 1 (eVar 4) (eVar 5) (eTup (aConsO (eBin opIx (eVar 1) (eVar 5)) (aConsO (eBin opIx (eVar 1) (eVar 4)) (aNil))))) [x0, .ol (L.map dR), .int s, .int ahead, .int kk, .int ff, y6] = .nx [x0, .ol ((swL L k f).map dR), .int s, .int ahead, .int kk, .int ff, y6] := by
    have e : ((L.map dR).set k (dR (rowN L f))).set f (dR (rowN L k)) = (swL L k f).map dR := by unfold swL; rw [List.map_set, List.map_set]
    simp only [dR] at e ak af r1 ⊢
    simp [r1, ak, af, ik, jf, l2, e]
  show sSeq _ (sSeq _ (sSeq _ _)) _ = _
  unfold sSeq
  rw [ev]
  simp [ne, ev2, -sSwp_]
theorem det_loop (x0 : D) {n : Nat} (hn : n ≤ 1000) {A : Dt.Mx} (B : Nat) (hB1 : 1 ≤ B) (hB : Dt.fac n * B ^ n < 2 ^ 9000) : ∀ (m k : Nat) (L : List (List Int)) (A' E : Dt.Mx) (s ahead : Int) (y4 y5 : D), k + m = n → Sq n L → Dt.Bar n k A A' E s ahead →
    (∀ r c, r < n → c < n → (A' r c).natAbs ≤ B) → (∀ r c, k ≤ r → r < n → k ≤ c → c < n → ent L r c = E r c) →
    (∃ (L' : List (List Int)) (s' a' : Int) (z4 z5 : D), forL (gtN 4) f_determinant_l1 (rng k m) [x0, .ol (L.map dR), .int s, .int ahead, y4, y5, .un] = .nx [x0, .ol (L'.map dR), .int s', .int a', z4, z5, .un] ∧ Dt.det n 0 A = s' * a' ∧ (s' = 1 ∨ s' = -1)) ∨
    (forL (gtN 4) f_determinant_l1 (rng k m) [x0, .ol (L.map dR), .int s, .int ahead, y4, y5, .un] = .rt (.int 0) ∧ Dt.det n 0 A = 0) := by
  intro m
  induction m with
  | zero =>
    intro k L A' E s ahead y4 y5 hk hS b hA hE
    have hk : k = n := by omega
    subst hk
    exact .inl ⟨L, s, ahead, y4, y5, by simp [rng_zero, forL], Dt.bar_end b, b.ss⟩
  | succ m IH =>
    intro k L A' E s ahead y4 y5 hkm hS b hA hE
    have hk : k < n := by omega
    have r1 := bR L
    rw [rng_succ]
    generalize hkk : (k : Int) = kk
    have hkk' : kk = k := hkk.symm
    have hk1 : kk + 1 = ((k + 1 : Nat) : Int) := by omega
    rcases first_ok hS hn k hk with ⟨f, f1, f2, f3, f4, f5⟩ | ⟨f1, f2⟩
    · rw [hkk] at f5
      by_cases e : f = k
      · subst e
        rw [hkk] at f5
        have hp : E f f ≠ 0 := by rw [← hE f f (Nat.le_refl f) hk (Nat.le_refl f) hk]; exact f3
        obtain ⟨q, L2, e1, e2, e3, e4, e5⟩ := turn_ok kk hkk' hn hk B hB1 hB hS b hA hE hp
        have bs := body_same kk f n hkk' hn hk x0 .un hS.len s ahead y5 (by rw [List.length_map, List.length_drop, hS.len]) e2 e1 (by rw [e1]; exact nwL_sq hS hk q) e3.symm f5
        rw [hk1]
        have st : forL (gtN 4) f_determinant_l1 (.int kk :: rng ((f + 1 : Nat) : Int) m) [x0, .ol (L.map dR), .int s, .int ahead, y4, y5, .un] = forL (gtN 4) f_determinant_l1 (rng ((f + 1 : Nat) : Int) m) [x0, .ol (L2.map dR), .int s, .int (E f f), .int kk, .int kk, .un] := by
          rw [forL_cons]
          simp only [gtN_, List.set_cons_succ, List.set_cons_zero, bs]
        rw [st]
        exact IH (f + 1) L2 A' _ s _ _ _ (by omega) (by rw [e1]; exact nwL_sq hS hk q) e4 hA e5
      · have hfk : k < f := by omega
        have b' := Dt.bar_swap b hfk f2
        have hS' := swL_sq hS hk f2
        have hE' : ∀ r c, k ≤ r → r < n → k ≤ c → c < n → ent (swL L k f) r c = E (Dt.sw k f r) c := fun r c h1 h2 h3 h4 => by
          have hb : k ≤ Dt.sw k f r ∧ Dt.sw k f r < n := by refine ⟨?_, ?_⟩ <;> (unfold Dt.sw; split; omega; split <;> omega)
          rw [← hE (Dt.sw k f r) c hb.1 hb.2 h3 h4]
          unfold ent
          rw [swL_row hS.len hk f2 h2]
        have hp : E (Dt.sw k f k) k ≠ 0 := by
          have : Dt.sw k f k = f := by unfold Dt.sw; rw [if_pos rfl]
          rw [this, ← hE f k f1 f2 (Nat.le_refl k) hk]; exact f3
        have hA' := Dt.bar_rows b B hA hk f2
        obtain ⟨q, L2, e1, e2, e3, e4, e5⟩ := turn_ok kk hkk' hn hk B hB1 hB hS' b' hA' hE' hp
        have bs := body_swap kk f k f n hkk' rfl hn hk hfk f2 x0 .un hS s ahead y5 (by rw [List.length_map, List.length_drop, hS'.len]) e2 e1 (by rw [e1]; exact nwL_sq hS' hk q) e3.symm f5
        rw [hk1]
        have st : forL (gtN 4) f_determinant_l1 (.int kk :: rng ((k + 1 : Nat) : Int) m) [x0, .ol (L.map dR), .int s, .int ahead, y4, y5, .un] = forL (gtN 4) f_determinant_l1 (rng ((k + 1 : Nat) : Int) m) [x0, .ol (L2.map dR), .int (-s), .int (E (Dt.sw k f k) k), .int kk, .int f, .un] := by
          rw [forL_cons]
          simp only [gtN_, List.set_cons_succ, List.set_cons_zero, bs]
        rw [st]
        exact IH (k + 1) L2 _ _ (-s) _ _ _ (by omega) (by rw [e1]; exact nwL_sq hS' hk q) e4 hA' e5
    · right
      rw [hkk] at f2
      have cd : calD g_first_row_with [.bo (L.map dR), .int kk] = .ok .non := by
        simp [calD, r1, f2]
      refine ⟨?_, Dt.bar_none b hk fun r h1 h2 => by rw [← hE r k h1 h2 (Nat.le_refl k) hk]; exact f1 r h1 h2⟩
      rw [forL_cons]
      simp [f_determinant_l1, r1, cd]
theorem determinant_ok {n : Nat} (hn : n ≤ 1000) {L : List (List Int)} (hL : Sq n L) (B : Nat) (hB1 : 1 ≤ B) (hB : Dt.fac n * B ^ n < 2 ^ 9000) (hA : ∀ r c, r < n → c < n → (ent L r c).natAbs ≤ B) :
    g_determinant [.ls (L.map dR)] = .ok (.int (Dt.det n 0 (ent L))) := by
  have lt := look_tab_ok hL
  have r1 := bR L
  have hr : rgOk (n : Int) := rgOk_of (by omega) (by omega)
  have hl := hL.len
  have bl : L.length ≤ lim := by rw [hl, lim_eq]; omega
  have bn : n ≤ lim := by rw [lim_eq]; omega
  have lc : ∀ x1 x2 x3 x4 x5 : D, lcL (gtN 6) tYesG f_determinant_c1 [.ls (L.map dR), x1, x2, x3, x4, x5, .un] (L.map dR) = .ok (L.map fun l => .ol (l.map D.int)) := fun x1 x2 x3 x4 x5 => by
    refine lcL_mapN _ fun l hl' => ?_
    have : l.length ≤ lim := by rw [hL.row l hl', lim_eq]; omega
    simp [f_determinant_c1, dR, this]
  have f1 : frzs (L.map fun l => D.ol (l.map D.int)) = L.map dR := by
    clear lc bl hl lt r1 hA hL
    induction L with
    | nil => rfl
    | cons a L ih => simp only [List.map_cons, frzs_cons, frz_ol, frzs_I, ih]; rfl
  have f2 : nods (L.map fun l => D.ol (l.map D.int)) = true := by
    clear lc bl hl lt r1 hA hL f1
    induction L with
    | nil => rfl
    | cons a L ih => simp only [List.map_cons, nods, nod, nods_I, ih]; rfl
  rcases det_loop (.ls (L.map dR)) hn B hB1 hB n 0 L (ent L) (ent L) 1 1 .un .un (by omega) hL (Dt.bar_start n (ent L)) hA (fun _ _ _ _ _ _ => rfl) with ⟨L', s', a', z4, z5, e, h1, h2⟩ | ⟨e, h1⟩
  · rw [h1]
    have om : opMul (.int s') (.int a') = some (.int (s' * a')) := by
      rw [opMul_eq, if_pos]
      simp only [mulOk]
      left; left
      rcases h2 with h2 | h2 <;> rw [h2] <;> decide
    simp only [Int.natCast_zero, Int.cast_ofNat_Int] at e
    simp [g_determinant, runF, f_determinant, lt, lc, f1, f2, bn, r1, hl, hr, e, om]
  · rw [h1]
    simp only [Int.natCast_zero, Int.cast_ofNat_Int] at e
    simp [g_determinant, runF, f_determinant, lt, lc, f1, f2, bn, r1, hl, hr, e]
end Lw

namespace Lw
open DL L2 TL
def dO' (l : List Int) : D := .ol (l.map D.int)
def up1 (T : List (List Int)) (a c : Nat) (v : Int) : List (List Int) := T.set a ((rowN T a).set c (ent T a c + v))
theorem up1_sq {n : Nat} {T : List (List Int)} (h : Sq n T) {a : Nat} (ha : a < n) (c : Nat) (v : Int) : Sq n (up1 T a c v) where
  len := by unfold up1; rw [List.length_set, h.len]
  row := fun l hl => by
    unfold up1 at hl
    rcases List.mem_or_eq_of_mem_set hl with hl | rfl
    · exact h.row l hl
    · rw [List.length_set]; exact h.rowl ha
theorem up1_ent {n : Nat} {T : List (List Int)} (h : Sq n T) {a c i j : Nat} (ha : a < n) (hc : c < n) (hi : i < n) (v : Int) : ent (up1 T a c v) i j = ent T i j + if i = a ∧ j = c then v else 0 := by
  unfold ent up1 rowN
  have hr := h.rowl ha
  unfold rowN at hr
  rw [List.getD_eq_getElem?_getD (l := List.set _ _ _)]
  by_cases q : i = a
  · subst q
    rw [List.getElem?_set_self (by rw [h.len]; exact hi)]
    simp only [Option.getD_some]
    rw [List.getD_eq_getElem?_getD (l := List.set _ _ _)]
    by_cases q2 : j = c
    · subst q2
      rw [List.getElem?_set_self (by omega)]
      simp [ent, rowN]
    · rw [List.getElem?_set_ne (fun z => q2 z.symm), if_neg (fun z => q2 z.2), ← List.getD_eq_getElem?_getD]; omega
  · rw [List.getElem?_set_ne (fun z => q z.symm), if_neg (fun z => q z.1), ← List.getD_eq_getElem?_getD]; omega
theorem pull_ent (a b i j : Nat) (e : Dt.Ed) (he : e = (a, b)) (hn : a ≠ b) : (if i = a ∧ j = a then (1 : Int) else 0) + (if i = b ∧ j = b then 1 else 0) + (if i = a ∧ j = b then -1 else 0) + (if i = b ∧ j = a then -1 else 0) = Dt.Xm (fun v => v) e i * Dt.xv e j := by
  subst he
  have hn' : ¬ b = a := fun z => hn z.symm
  unfold Dt.Xm Dt.xv Dt.iv
  dsimp only
  by_cases h1 : i = a <;> by_cases h2 : i = b <;> by_cases h3 : j = a <;> by_cases h4 : j = b
  all_goals first
    | (exfalso; omega)
    | (have q1 : ∀ x, (x = i) = (i = x) := fun x => propext ⟨Eq.symm, Eq.symm⟩
       simp only [q1, h1, h2, h3, h4, hn, hn', and_true, and_false, true_and, false_and, if_true, if_false]
       try omega)
def zrs (n : Nat) : List (List Int) := List.replicate n (List.replicate n 0)
theorem zrs_sq (n : Nat) : Sq n (zrs n) := ⟨by simp [zrs], fun l hl => by rw [(List.mem_replicate.mp hl).2]; simp⟩
theorem zrs_ent (n : Nat) {i j : Nat} (hi : i < n) (hj : j < n) : ent (zrs n) i j = 0 := by
  unfold ent rowN zrs
  rw [List.getD_eq_getElem?_getD, List.getD_eq_getElem?_getD, List.getElem?_replicate, if_pos hi]
  simp [hj]
end Lw

namespace Lw
open DL L2 TL
theorem fO (T : List (List Int)) : frzs (T.map dO') = T.map dR ∧ nods (T.map dO') = true := by
  induction T with
  | nil => exact ⟨rfl, rfl⟩
  | cons a T ih => simp only [List.map_cons, frzs_cons, nods, nod, ih.1, ih.2]; exact ⟨by simp [dO', dR], by simp [dO']⟩
theorem Rw_abs (m : Nat → Nat) (i j : Nat) : ∀ es : List Dt.Ed, (Dt.Rw m es i j).natAbs ≤ es.length
  | [] => by simp [Dt.Rw]
  | e :: es => by
    have ih := Rw_abs m i j es
    have h1 : (Dt.Xm m e i * Dt.xv e j).natAbs ≤ 1 := by
      rw [Int.natAbs_mul]
      have a : (Dt.Xm m e i).natAbs ≤ 1 := by unfold Dt.Xm Dt.iv; split <;> split <;> simp
      have b : (Dt.xv e j).natAbs ≤ 1 := by unfold Dt.xv Dt.iv; split <;> split <;> simp
      exact Nat.mul_le_mul a b
    have := Int.natAbs_add_le (Dt.Xm m e i * Dt.xv e j) (Dt.Rw m es i j)
    simp only [Dt.Rw, List.length_cons]
    omega
theorem fac64 : Dt.fac 14 * 64 ^ 14 < 2 ^ 9000 := by decide +kernel
end Lw

noncomputable section
namespace Lw
open DL
end Lw
end

namespace Lw
open DL L2 TL
end Lw

namespace Lw
open DL L2 TL
theorem forL_step {tg : D → Env → Option Env} {b : Env → Out} {d : D} {ds : List D} {g g1 g' : Env} (h : tg d g = some g1) (hb : b g1 = .nx g') : forL tg b (d :: ds) g = forL tg b ds g' := by
  rw [forL_cons, h]
  simp only [hb]
end Lw

noncomputable section
namespace Lw
open DL
end Lw
end

namespace Lw
open DL L2
structure Canon (p : Nat) (m : List Int) : Prop where
  len : m.length = p
  le : ∀ i : Int, 0 ≤ i → i < p → 0 ≤ nth m i ∧ nth m i ≤ i ∧ nth m (nth m i) = nth m i
section
variable (L : List (List Int))
@[simp] theorem brws_OO : brws (L.map fun l => D.ol (l.map D.int)) = L.map fun l => .bo (l.map D.int) := by induction L <;> simp [*]
@[simp] theorem frzs_OO : frzs (L.map fun l => D.ol (l.map D.int)) = L.map fun l => .ls (l.map D.int) := by induction L <;> simp [*]
@[simp] theorem nods_OO : nods (L.map fun l => D.ol (l.map D.int)) = true := by induction L <;> simp [*]
@[simp] theorem shd_LL : shd (L.map fun l => D.ls (l.map D.int)) = true := by induction L <;> simp [*]
@[simp] theorem brws_LL : brws (L.map fun l => D.ls (l.map D.int)) = L.map fun l => .ls (l.map D.int) := by induction L <;> simp [*]
@[simp] theorem frzs_LL : frzs (L.map fun l => D.ls (l.map D.int)) = L.map fun l => .ls (l.map D.int) := by induction L <;> simp [*]
@[simp] theorem nods_LL : nods (L.map fun l => D.ls (l.map D.int)) = true := by induction L <;> simp [*]
theorem toPys_BB : toPys (L.map fun l => D.bo (l.map D.int)) = toPys (L.map fun l => D.ls (l.map D.int)) := by
  induction L with
  | nil => rfl
  | cons a L ih => simp [toPys, toPy_bo, ih]
end
@[simp] theorem pyEq_LL (L M : List (List Int)) : pyEq (.ls (L.map fun l => .ls (l.map D.int))) (.ls (M.map fun l => .ls (l.map D.int))) = some (decide (L = M)) := enc_int.ls.ls.eq (by omega) L M
@[simp] theorem pyEq_BL (L M : List (List Int)) : pyEq (.ls (L.map fun l => .bo (l.map D.int))) (.ls (M.map fun l => .ls (l.map D.int))) = some (decide (L = M)) := by
  rw [← pyEq_LL]
  simp [pyEq, toPy, toPys_BB]
end Lw

noncomputable section
namespace Lw
open DL
end Lw
end

namespace Lw
open DL L2 TL
def IntD (A : List (Int × D)) : Prop := ∀ x ∈ A, ∃ n : Int, x.2 = .int n
theorem IntD.put {A : List (Int × D)} (h : IntD A) (k n : Int) : IntD (putG A k (.int n)) := fun x hx => by
  unfold putG at hx
  split at hx
  · obtain ⟨y, hy, rfl⟩ := List.mem_map.mp hx
    by_cases q : y.1 = k
    · rw [if_pos q]; exact ⟨n, rfl⟩
    · rw [if_neg q]; exact h y hy
  · rcases List.mem_append.mp hx with hx | hx
    · exact h x hx
    · rw [List.mem_singleton.mp hx]; exact ⟨n, rfl⟩
theorem IntD.all {A : List (Int × D)} (h : IntD A) : ((ddV A).all fun d => !own1 d) = true ∧ brws (ddV A) = ddV A := by
  induction A with
  | nil => exact ⟨rfl, rfl⟩
  | cons a A ih =>
    obtain ⟨n, e⟩ := h a (List.mem_cons_self ..)
    obtain ⟨i1, i2⟩ := ih fun x hx => h x (List.mem_cons_of_mem _ hx)
    unfold ddV at *
    simp only [List.map_cons, List.all_cons, e, i1, brws_cons, i2]
    exact ⟨rfl, rfl⟩
end Lw

namespace Lw
open DL L2 TL
def unl (p : Nat) (ts : List (Int × Int)) (k : Nat) (s : List Int) : Bool := !decide (nth (marksL p ts s) (tieAt ts k).1 = nth (marksL p ts s) (tieAt ts k).2)
def fo (p : Nat) (ts : List (Int × Int)) : Nat → List (List Int)
  | 0 => [[]]
  | k + 1 => fo p ts k ++ ((fo p ts k).filter (unl p ts k)).map (· ++ [(k : Int)])
end Lw

noncomputable section
namespace Lw
open DL
end Lw
end

namespace Lw
open DL L2 TL
end Lw

namespace Dt
end Dt
namespace Lw
open DL L2 TL
def rwN (n : Nat) (x : Nat → Int) : List Int := (List.range n).map x
def rows (n : Nat) (A : Dt.Mx) : List (List Int) := (List.range n).map fun r => rwN n (A r)
end Lw

noncomputable section
namespace Lw
open DL
end Lw
end

namespace Lw
open DL L2 TL
def but (n : Nat) (t : Int) : List Int := (iota n).filter fun x => !decide (x = t)
end Lw

noncomputable section
namespace Lw
open DL
end Lw
end

namespace Lw
open DL L2 TL
section
variable {p : Nat} {ts : List (Int × Int)}
end
end Lw

noncomputable section
namespace Lw
open DL
end Lw
end

namespace Lw
open DL L2 TL
def TT (o : D) (L : List (List Int)) : Prop := o = .ls (L.map dR) ∨ o = .tp (L.map dT)
end Lw

noncomputable section
namespace Lw
open DL
end Lw
end

noncomputable section
namespace Lw
open DL
end Lw
end

noncomputable section
namespace Lw
open DL
end Lw
end

namespace Dt
def pw (x : Nat → Int) : Mx := fun r k => x k ^ r
end Dt
noncomputable section
namespace Lw
open DL L2
end Lw
end

namespace Dw
open Dt
abbrev WE := Ed × Int
def Rw (m : Nat → Nat) : List WE → Mx
  | [], _, _ => 0
  | e :: es, i, j => e.2 * (Xm m e.1 i * xv e.1 j) + Rw m es i j
def Mat (m : Nat → Nat) (es : List WE) : Mx := fun i j => if m i = i then Rw m es i j else iv (j = i) - iv (j = m i)
def D (n : Nat) (m : Nat → Nat) (es : List WE) : Int := det n 0 (Mat m es)
theorem D_loop {n : Nat} {m : Nat → Nat} {e : WE} (es : List WE) (h : m e.1.1 = m e.1.2) : D n m (e :: es) = D n m es := by
  unfold D
  refine det_congr fun r j _ _ _ => ?_
  unfold Mat
  have : Xm m e.1 r = 0 := by unfold Xm; rw [h]; omega
  simp only [Rw, this, Int.zero_mul, Int.mul_zero, Int.zero_add]
theorem Rw_swap (m : Nat → Nat) (x y : Nat) (w : Int) (es : List WE) : Rw m (((x, y), w) :: es) = Rw m (((y, x), w) :: es) := by
  funext i j
  have h1 : Xm m (x, y) i = - Xm m (y, x) i := by unfold Xm; dsimp only; omega
  have h2 : xv (x, y) j = - xv (y, x) j := by unfold xv; dsimp only; omega
  simp only [Rw, h1, h2, Int.neg_mul_neg]
theorem D_swap (n : Nat) (m : Nat → Nat) (x y : Nat) (w : Int) (es : List WE) : D n m (((x, y), w) :: es) = D n m (((y, x), w) :: es) := by
  unfold D Mat; rw [Rw_swap]
theorem Rw_mrg_b (m : Nat → Nat) {a b : Nat} (hn : a ≠ b) : ∀ (es : List WE) (j : Nat), Rw (mrg a b m) es b j = Rw m es b j + Rw m es a j
  | [], j => rfl
  | e :: es, j => by
    have q : ∀ v, iv (mrg a b m v = b) = iv (m v = b) + iv (m v = a) := fun v => by
      unfold mrg
      by_cases h : m v = a
      · rw [if_pos h, iv_t rfl, iv_t h, iv_f (by rw [h]; exact hn)]; rfl
      · rw [if_neg h, iv_f h]; omega
    have h1 : Xm (mrg a b m) e.1 b = Xm m e.1 b + Xm m e.1 a := by unfold Xm; rw [q, q]; omega
    simp only [Rw, Rw_mrg_b m hn es j, h1, Int.add_mul, Int.mul_add]
    omega
theorem Rw_mrg_o (m : Nat → Nat) {a b i : Nat} (h1 : i ≠ a) (h2 : i ≠ b) : ∀ (es : List WE) (j : Nat), Rw (mrg a b m) es i j = Rw m es i j
  | [], j => rfl
  | e :: es, j => by
    have q : ∀ v, iv (mrg a b m v = i) = iv (m v = i) := fun v => by
      unfold mrg
      by_cases h : m v = a
      · rw [if_pos h, iv_f (fun z => h2 z.symm), iv_f (by rw [h]; exact fun z => h1 z.symm)]
      · rw [if_neg h]
    have h3 : Xm (mrg a b m) e.1 i = Xm m e.1 i := by unfold Xm; rw [q, q]
    simp only [Rw, Rw_mrg_o m h1 h2 es j, h3]
theorem D_step {n : Nat} {m : Nat → Nat} (L : Lab n m) {x y : Nat} (hx : x ≤ n) (hy : y ≤ n) (w : Int) (es : List WE) (hn : m x ≠ m y) (ha : m x ≠ n) : D n m (((x, y), w) :: es) = D n m es + w * D n (mrg (m x) (m y) m) es := by
  have maa := L.id x hx
  have mbb := L.id y hy
  have hxn : x ≠ n := fun z => ha (by rw [z]; exact L.top)
  have la : m x < n := by have := L.le x hx; omega
  have lb := L.le y hy
  have hyb : y ≠ m y → y < n := fun h => by
    rcases Nat.lt_or_ge y n with q | q
    · exact q
    · have : y = n := by omega
      exact absurd (by rw [this]; exact L.top.symm) h
  generalize hma : m x = a at *
  generalize hmb : m y = b at *
  have hba : ¬ b = a := fun z => hn z.symm
  unfold D
  -- the row of b with that of a added
  let C : (Nat → Int) → Mx := fun v i j => if i = a then v j else if i = b then Mat m es b j + Mat m es a j else Mat m es i j
  have hC : ∀ v, C v = upd (C fun _ => 0) a v := fun v => by
    funext i j; show (if i = a then _ else _) = upd _ _ _ _ _
    unfold upd
    by_cases q : i = a
    · rw [if_pos q, if_pos q]
    · rw [if_neg q, if_neg q]; show _ = if i = a then _ else _; rw [if_neg q]
  have s1 : det n 0 (Mat m (((x, y), w) :: es)) = det n 0 (C fun j => w * xv (x, y) j + 1 * Mat m es a j) := by
    rw [← det_ops (Mat m (((x, y), w) :: es)) la (fun i => iv (i = b)) (iv_f hn)]
    refine det_congr fun i j _ _ _ => ?_
    have ra : Mat m (((x, y), w) :: es) a j = w * xv (x, y) j + 1 * Mat m es a j := by
      unfold Mat
      rw [if_pos maa, if_pos maa]
      simp only [Rw, Xm, hma, hmb]
      rw [iv_t trivial, iv_f hba]; (try simp only [Int.sub_zero, Int.zero_sub, Int.sub_self, Int.one_mul, Int.zero_mul, Int.mul_zero, Int.neg_mul, Int.mul_neg]) <;> (try omega)
    by_cases q : i = a
    · subst q
      rw [iv_f hn, ra]
      show _ = if i = i then w * xv (x, y) j + 1 * Mat m es i j else _
      rw [if_pos rfl]; omega
    · show _ = if i = a then _ else _
      rw [if_neg q]
      by_cases q2 : i = b
      · subst q2
        rw [if_pos rfl, iv_t rfl, ra]
        unfold Mat
        rw [if_pos mbb, if_pos mbb]
        simp only [Rw, Xm, hma, hmb]
        rw [iv_t trivial, iv_f hn, if_pos maa]; (try simp only [Int.sub_zero, Int.zero_sub, Int.sub_self, Int.one_mul, Int.zero_mul, Int.mul_zero, Int.neg_mul, Int.mul_neg]) <;> (try omega)
      · rw [if_neg q2, iv_f q2]
        unfold Mat
        by_cases q3 : m i = i
        · rw [if_pos q3, if_pos q3]
          simp only [Rw, Xm, hma, hmb]
          rw [iv_f (fun z => q z.symm), iv_f (fun z => q2 z.symm)]; (try simp only [Int.sub_zero, Int.zero_sub, Int.sub_self, Int.one_mul, Int.zero_mul, Int.mul_zero, Int.neg_mul, Int.mul_neg]) <;> (try omega)
        · rw [if_neg q3, if_neg q3]; omega
  have s2 : det n 0 (C fun j => w * xv (x, y) j + 1 * Mat m es a j) = w * det n 0 (C (xv (x, y))) + 1 * det n 0 (C (Mat m es a)) := by
    rw [hC, det_lin w 1 _ _ _ la, ← hC, ← hC]
  have s3 : det n 0 (C (Mat m es a)) = det n 0 (Mat m es) := by
    rw [← det_ops (Mat m es) la (fun i => iv (i = b)) (iv_f hn)]
    refine det_congr fun i j _ _ _ => ?_
    show (if i = a then _ else _) = _
    by_cases q : i = a
    · subst q; rw [if_pos rfl, iv_f hn]; omega
    · rw [if_neg q]
      by_cases q2 : i = b
      · subst q2; rw [if_pos rfl, iv_t rfl]; omega
      · rw [if_neg q2, iv_f q2]; omega
  let Y : Nat → Int := fun j => iv (j = a) - iv (j = b)
  have s4 : det n 0 (C (xv (x, y))) = det n 0 (C Y) := by
    have cr : ∀ (v : Nat → Int) (i j : Nat), i ≠ a → m i ≠ i → C v i j = iv (j = i) - iv (j = m i) := fun v i j h1 h2 => by
      show (if i = a then _ else if i = b then _ else Mat m es i j) = _
      rw [if_neg h1, if_neg (fun z => h2 (by rw [z]; exact mbb))]
      unfold Mat; rw [if_neg h2]
    have o1 := det_op' (n := n) (c := 0) (r := x) (s := a) (C Y) la (if x = a then 0 else 1) (by
      by_cases q : x = a
      · left; rw [if_pos q]
      · right; exact ⟨by omega, q⟩)
    have e1 : upd (C Y) a (fun j => C Y a j + (if x = a then 0 else 1) * C Y x j) = C (fun j => iv (j = x) - iv (j = b)) := by
      rw [hC (fun j => iv (j = x) - iv (j = b)), hC Y, upd_upd]
      congr 1
      funext j
      rw [← hC Y]
      show (if a = a then Y j else _) + _ = _
      rw [if_pos rfl]
      by_cases q : x = a
      · rw [if_pos q, q]; show iv (j = a) - iv (j = b) + 0 * _ = _; omega
      · rw [if_neg q, cr Y x j q (by rw [hma]; exact fun z => q z.symm), hma]
        show iv (j = a) - iv (j = b) + 1 * _ = _
        omega
    rw [e1] at o1
    rw [← o1]
    have o2 := det_op' (n := n) (c := 0) (r := y) (s := a) (C (fun j => iv (j = x) - iv (j = b))) la (if y = b then 0 else -1) (by
      by_cases q : y = b
      · left; rw [if_pos q]
      · right; exact ⟨hyb q, fun z => hba (by rw [← hmb, z]; exact maa)⟩)
    rw [← o2]
    have e2 : upd (C (fun j => iv (j = x) - iv (j = b))) a (fun j => C (fun j => iv (j = x) - iv (j = b)) a j + (if y = b then 0 else -1) * C (fun j => iv (j = x) - iv (j = b)) y j) = C (xv (x, y)) := by
      rw [hC (xv (x, y)), hC (fun j => iv (j = x) - iv (j = b)), upd_upd]
      congr 1
      funext j
      rw [← hC (fun j => iv (j = x) - iv (j = b))]
      show (if a = a then iv (j = x) - iv (j = b) else _) + _ = iv (j = x) - iv (j = y)
      rw [if_pos rfl]
      by_cases q : y = b
      · rw [if_pos q, q]; omega
      · rw [if_neg q, cr (fun j => iv (j = x) - iv (j = b)) y j (fun z => hba (by rw [← hmb, z]; exact maa)) (by rw [hmb]; exact fun z => q z.symm), hmb]
        omega
    rw [e2]
  have s5 : det n 0 (C Y) = det n 0 (Mat (mrg a b m) es) := by
    rw [← det_ops (C Y) la (fun i => iv (m i = a ∧ i ≠ a)) (iv_f (fun z => z.2 rfl))]
    refine det_congr fun i j _ _ _ => ?_
    have ra : C Y a j = iv (j = a) - iv (j = b) := by show (if a = a then _ else _) = _; rw [if_pos rfl]
    rw [ra]
    show (if i = a then Y j else if i = b then Mat m es b j + Mat m es a j else Mat m es i j) + _ = _
    by_cases q : i = a
    · subst q
      rw [if_pos rfl, iv_f (fun z => z.2 rfl)]
      unfold Mat mrg
      rw [if_pos maa, if_neg hba]
      show iv (j = i) - iv (j = b) + 0 * _ = _
      omega
    · rw [if_neg q]
      by_cases q2 : i = b
      · subst q2
        rw [if_pos rfl, iv_f (by rw [mbb]; exact fun z => hba z.1)]
        have : mrg a i m i = i := by unfold mrg; rw [mbb, if_neg hba]
        unfold Mat
        rw [if_pos this, if_pos mbb, if_pos maa, Rw_mrg_b m hn es j]
        omega
      · rw [if_neg q2]
        by_cases q3 : m i = a
        · rw [iv_t ⟨q3, q⟩]
          have h1 : m i ≠ i := by rw [q3]; exact fun z => q z.symm
          have h2 : mrg a b m i = b := by unfold mrg; rw [if_pos q3]
          unfold Mat
          rw [if_neg h1, h2, if_neg (fun z => q2 z.symm), q3]
          omega
        · rw [iv_f (fun z => q3 z.1)]
          have h2 : mrg a b m i = m i := by unfold mrg; rw [if_neg q3]
          unfold Mat
          rw [h2]
          by_cases q4 : m i = i
          · rw [if_pos q4, if_pos q4, Rw_mrg_o m q q2 es j]; omega
          · rw [if_neg q4, if_neg q4]; omega
  rw [s1, s2, s3, s4, s5]
  omega
theorem D_nil {n : Nat} {m : Nat → Nat} (L : Lab n m) : D n m [] = if ∀ i, i ≤ n → m i = m n then 1 else 0 := by
  have : D n m [] = Dt.D n m [] := rfl
  rw [this, Dt.D_nil L]
def Cw (n : Nat) : (Nat → Nat) → List WE → Int
  | u, [] => if ∀ i, i ≤ n → u i = u n then 1 else 0
  | u, e :: es => Cw n u es + if u e.1.1 = u e.1.2 then 0 else e.2 * Cw n (mrg (u e.1.1) (u e.1.2) u) es
def EdOk (n : Nat) (es : List WE) : Prop := ∀ e ∈ es, e.1.1 ≤ n ∧ e.1.2 ≤ n
theorem Cw_ker {n : Nat} : ∀ (es : List WE) {u v : Nat → Nat}, EdOk n es → Ker n u v → Cw n u es = Cw n v es
  | [], u, v, _, h => by
    have : (∀ i, i ≤ n → u i = u n) ↔ ∀ i, i ≤ n → v i = v n := ⟨fun q i hi => (h i n hi (Nat.le_refl n)).mp (q i hi), fun q i hi => (h i n hi (Nat.le_refl n)).mpr (q i hi)⟩
    unfold Cw
    by_cases q : ∀ i, i ≤ n → u i = u n
    · rw [if_pos q, if_pos (this.mp q)]
    · rw [if_neg q, if_neg fun z => q (this.mpr z)]
  | e :: es, u, v, ok, h => by
    obtain ⟨o1, o2⟩ := ok e (List.mem_cons_self ..)
    have ok' : EdOk n es := fun x hx => ok x (List.mem_cons_of_mem _ hx)
    unfold Cw
    rw [Cw_ker es ok' h, Cw_ker es ok' (h.mrg o1 o2)]
    have := h e.1.1 e.1.2 o1 o2
    by_cases q : u e.1.1 = u e.1.2
    · rw [if_pos q, if_pos (this.mp q)]
    · rw [if_neg q, if_neg fun z => q (this.mpr z)]
theorem D_count {n : Nat} : ∀ (es : List WE) {m : Nat → Nat}, EdOk n es → Lab n m → D n m es = Cw n m es
  | [], m, _, L => by
    rw [D_nil L]
    unfold Cw
    split <;> rfl
  | ((x, y), w) :: es, m, ok, L => by
    obtain ⟨o1, o2⟩ := ok ((x, y), w) (List.mem_cons_self ..)
    have ok' : EdOk n es := fun x hx => ok x (List.mem_cons_of_mem _ hx)
    unfold Cw
    by_cases q : m x = m y
    · rw [if_pos q, D_loop es q, D_count es ok' L]; omega
    · rw [if_neg q]
      by_cases q2 : m x = n
      · have q3 : m y ≠ n := fun z => q (q2.trans z.symm)
        rw [D_swap, D_step L o2 o1 w es (fun z => q z.symm) q3, D_count es ok' L, D_count es ok' (L.mrg q3 (L.le x o1) (L.id x o1) fun z => q z.symm), Cw_ker es ok' (Ker.turn (u := m) (x := y) (y := x))]
      · rw [D_step L o1 o2 w es q q2, D_count es ok' L, D_count es ok' (L.mrg q2 (L.le y o2) (L.id y o2) q)]
end Dw

namespace Lw
open DL L2 TL
def pl : List Int → Int
  | [] => 1
  | a :: l => a * pl l
section
variable {p : Nat} {ts : List (Int × Int)}
end
end Lw

namespace Lw
open DL L2 TL
section
variable {p : Nat} {ts : List (Int × Int)}
end
end Lw

noncomputable section
namespace Lw
open DL L2
section
variable {p : Nat} {ts : List (Int × Int)}
end
end Lw
end

namespace Dt
def rb (o k : Nat) : Nat := if k < o then k else k + 1
theorem rb_le {o n k : Nat} (hk : k < n) : rb o k ≤ n ∧ rb o k ≠ o := by unfold rb; split <;> omega
end Dt

namespace Dt
def uv (m : Nat) : Nat → Int := fun r => iv (r = m)
def tc (m : Nat) (B : Mx) : Mx := fun r j => if j < m then uv j r else B r j
theorem cof {n : Nat} (A : Mx) {o : Nat} (ho : o ≤ n) : det (n + 1) 0 (updC A o (uv o)) = det n 0 fun r j => A (rb o r) (rb o j) := by
  have h := det_mvc A (uv o) (n := n + 1) (k := o) (by omega) o (Nat.le_refl o)
  have e1 : mvc A (uv o) o o = updC A o (uv o) := by
    funext r j
    unfold mvc updC
    by_cases c : j = o
    · rw [if_pos c, if_pos c]
    · rw [if_neg c, if_neg c]
      by_cases d : j < o
      · rw [if_pos d]
      · rw [if_neg d, if_neg (by omega)]
  rw [e1] at h
  have e2 : det (n + 1) 0 (mvc A (uv o) o 0) = sg o * det n 0 fun r j => A (rb o r) (rb o j) := by
    rw [det_col, sm_one (show o < n + 1 by omega) fun i _ hi => ?_]
    · have z : mvc A (uv o) o 0 o 0 = 1 := by
        unfold mvc uv iv
        rw [if_pos rfl, if_pos rfl]
      rw [z, Int.mul_one]
      congr 1
      refine det_congr fun r j _ _ _ => ?_
      unfold mvc
      rw [if_neg (by omega), if_neg (by omega), Nat.add_sub_cancel]
      have sk1 : sk o r = rb o r := rfl
      rw [sk1]
      unfold rb
      by_cases d : j < o
      · rw [if_pos (show j + 1 ≤ o by omega), if_pos d]
      · rw [if_neg (show ¬ j + 1 ≤ o by omega), if_neg d]
    · have z : mvc A (uv o) o 0 i 0 = 0 := by
        unfold mvc uv iv
        rw [if_pos rfl, if_neg hi]
      rw [z, Int.mul_zero, Int.zero_mul]
  rw [h, e2, ← Int.mul_assoc]
  have sq : sg o * sg o = 1 := by
    unfold sg
    split <;> rfl
  rw [sq, Int.one_mul]
end Dt
noncomputable section
namespace Lw
open DL L2
section
variable {p : Nat} {ts : List (Int × Int)}
end
end Lw
end

namespace Dt
theorem cof_row {n : Nat} (A : Mx) {o : Nat} (ho : o ≤ n) : det (n + 1) 0 (upd A o fun j => iv (j = o)) = det (n + 1) 0 (updC A o (uv o)) := by
  rw [cof A ho, ← det_tr (n + 1)]
  have e : tr (upd A o fun j => iv (j = o)) = updC (tr A) o (uv o) := by
    funext r j
    unfold tr upd updC uv
    by_cases c : j = o
    · rw [if_pos c, if_pos c]
    · rw [if_neg c, if_neg c]
  rw [e, cof (tr A) ho, ← det_tr n]
  rfl
def one (k n : Nat) : Nat → Nat := fun v => if v = k then n else v
end Dt

noncomputable section
namespace Dt
open DL
theorem iota_cut {n o : Nat} (ho : o ≤ n) : (iota (n + 1)).filter (fun x => !decide (x = (o : Int))) = (iota n).map fun x => ((rb o x.toNat : Nat) : Int) := by
  refine rise_uniq ((Lw.iota_rise _).filter _) ?_ fun k => ?_
  · rw [List.pairwise_map]
    refine List.Pairwise.imp_of_mem (fun {a b} ha hb h => ?_) (Lw.iota_rise n)
    have := Lw.iota_mem.mp ha
    have := Lw.iota_mem.mp hb
    unfold rb
    split <;> split <;> omega
  · rw [List.mem_filter, Lw.iota_mem, List.mem_map]
    constructor
    · rintro ⟨⟨k0, k1⟩, k2⟩
      have k2 : k ≠ o := by simpa using k2
      by_cases c : k < o
      · refine ⟨k, Lw.iota_mem.mpr ⟨k0, by omega⟩, ?_⟩
        unfold rb; rw [if_pos (by omega)]; omega
      · refine ⟨k - 1, Lw.iota_mem.mpr ⟨by omega, by omega⟩, ?_⟩
        unfold rb; rw [if_neg (by omega)]; omega
    · rintro ⟨x, hx, rfl⟩
      have := Lw.iota_mem.mp hx
      have h2 := rb_le (o := o) (n := n) (k := x.toNat) (by omega)
      refine ⟨⟨by omega, by omega⟩, ?_⟩
      have : ((rb o x.toNat : Nat) : Int) ≠ o := by omega
      simpa using this
theorem kp_det : ∀ (n : Nat) (q : Int → Bool) (A : Mx), (∀ i : Nat, i < n → q i = false → ∀ j : Nat, j < n → A i j = iv (j = i)) →
    det n 0 A = det ((iota n).filter q).length 0 fun r c => A (Lw.nth ((iota n).filter q) r).toNat (Lw.nth ((iota n).filter q) c).toNat
  | 0, q, A, h => rfl
  | n + 1, q, A, h => by
    by_cases c : ∀ i : Nat, i < n + 1 → q i = true
    · have e : (iota (n + 1)).filter q = iota (n + 1) := List.filter_eq_self.mpr fun x hx => by
        obtain ⟨x0, x1⟩ := Lw.iota_mem.mp hx
        have := c x.toNat (by omega)
        rwa [show ((x.toNat : Nat) : Int) = x by omega] at this
      rw [e, iota_len]
      refine det_congr fun r j hr _ hj => ?_
      rw [Lw.nth_iota (by omega) (by omega), Lw.nth_iota (by omega) (by omega)]
      rfl
    · obtain ⟨o, c⟩ := Classical.not_forall.mp c
      obtain ⟨ho, hq⟩ := Classical.not_imp.mp c
      have hq : q o = false := by simpa using hq
      have e1 : det (n + 1) 0 A = det n 0 fun r j => A (rb o r) (rb o j) := by
        rw [← cof A (by omega), ← cof_row A (by omega)]
        refine det_congr fun r j hr _ hj => ?_
        unfold upd
        split
        · rename_i z
          subst z
          exact h r hr hq j (by omega)
        · rfl
      have ih := kp_det n (fun x => q ((rb o x.toNat : Nat) : Int)) (fun r j => A (rb o r) (rb o j)) fun i hi hqi j hj => by
        rw [h (rb o i) (by have := rb_le (o := o) hi; omega) hqi (rb o j) (by have := rb_le (o := o) hj; omega)]
        unfold iv
        have : rb o j = rb o i ↔ j = i := by unfold rb; split <;> split <;> omega
        by_cases z : j = i
        · rw [if_pos z, if_pos (this.mpr z)]
        · rw [if_neg z, if_neg fun w => z (this.mp w)]
      rw [e1, ih]
      have e2 : (iota (n + 1)).filter q = ((iota n).filter fun x => q ((rb o x.toNat : Nat) : Int)).map fun x => ((rb o x.toNat : Nat) : Int) := by
        have : (iota (n + 1)).filter q = ((iota (n + 1)).filter fun x => !decide (x = (o : Int))).filter q := by
          rw [List.filter_filter]
          refine List.filter_congr fun x _ => ?_
          by_cases z : x = (o : Int)
          · subst z; rw [hq]; simp
          · simp [z]
        rw [this, iota_cut (by omega), List.filter_map]
        rfl
      rw [e2, List.length_map]
      refine det_congr fun r j hr _ hj => ?_
      have hr2 : r < ((iota n).filter fun x => q ((rb o x.toNat : Nat) : Int)).length := hr
      have hj2 : j < ((iota n).filter fun x => q ((rb o x.toNat : Nat) : Int)).length := by omega
      rw [Lw.nth_map (by omega) (by omega), Lw.nth_map (by omega) (by omega)]
      rfl
def lk (k : Nat) (hd : Nat → Nat) : Nat → Nat := fun i => if i < k ∧ hd i ≠ i then i else k
theorem lk_lab (k : Nat) (hd : Nat → Nat) : Lab k (lk k hd) where
  le := fun i hi => by unfold lk; split <;> omega
  id := fun i hi => by
    unfold lk
    by_cases c : i < k ∧ hd i ≠ i
    · rw [if_pos c, if_pos c]
    · rw [if_neg c, if_neg (by omega)]
  top := by unfold lk; rw [if_neg (by omega)]
theorem Rw_lk {k : Nat} {hd : Nat → Nat} {i : Nat} (hi : i < k) (hk : hd i ≠ i) (j : Nat) : ∀ es : List Ed, Rw (lk k hd) es i j = Rw (fun v => v) es i j
  | [] => rfl
  | e :: es => by
    have ih := Rw_lk hi hk j es
    have x : ∀ a, (lk k hd a = i ↔ a = i) := fun a => by
      unfold lk
      split
      · exact Iff.rfl
      · rename_i c
        constructor
        · intro z; omega
        · intro z; subst z; exact absurd ⟨hi, hk⟩ c
    have ivc : ∀ {P Q : Prop} [Decidable P] [Decidable Q], (P ↔ Q) → iv P = iv Q := fun {P Q} _ _ h => by
      unfold iv
      by_cases c : P
      · rw [if_pos c, if_pos (h.mp c)]
      · rw [if_neg c, if_neg fun z => c (h.mpr z)]
    unfold Rw
    rw [ih]
    congr 2
    unfold Xm
    rw [ivc (x e.1), ivc (x e.2)]
theorem D_lk (k : Nat) (hd : Nat → Nat) (es : List Ed) (K : List Int) (hK : K = (iota k).filter fun x => !decide (((hd x.toNat : Nat) : Int) = x)) :
    D k (lk k hd) es = det K.length 0 fun r c => Rw (fun v => v) es (Lw.nth K r).toNat (Lw.nth K c).toNat := by
  subst hK
  unfold D
  rw [kp_det k (fun x => !decide (((hd x.toNat : Nat) : Int) = x)) (Mat (lk k hd) es) fun i hi hq j hj => by
    have hq : hd i = i := by
      have : ((hd (i : Int).toNat : Nat) : Int) = i := by simpa using hq
      have e : (i : Int).toNat = i := rfl
      rw [e] at this
      omega
    unfold Mat
    have : lk k hd i = k := by unfold lk; rw [if_neg (by omega)]
    rw [this, if_neg (by omega)]
    have z : iv (j = k) = 0 := if_neg (by omega)
    rw [z]; omega]
  refine det_congr fun r j hr _ hj => ?_
  have m1 := List.mem_filter.mp (Lw.nth_mem (m := (iota k).filter fun x => !decide (((hd x.toNat : Nat) : Int) = x)) (i := (r : Nat)) (by omega) (by omega))
  obtain ⟨m2, m3⟩ := m1
  obtain ⟨m4, m5⟩ := Lw.iota_mem.mp m2
  generalize hx : Lw.nth ((iota k).filter fun x => !decide (((hd x.toNat : Nat) : Int) = x)) (r : Int) = x at *
  have m3 : ((hd x.toNat : Nat) : Int) ≠ x := by simpa using m3
  have i1 : x.toNat < k := by omega
  have i2 : hd x.toNat ≠ x.toNat := by omega
  unfold Mat
  rw [if_pos (by unfold lk; rw [if_pos ⟨i1, i2⟩]), Rw_lk i1 i2]
def fz : (Nat → Nat) → List Ed → Nat → Nat
  | u, [] => u
  | u, e :: es => fz (mrg (u e.2) (u e.1) u) es
theorem mrg_cong {a b : Nat} {u : Nat → Nat} {i j : Nat} (h : u i = u j) : mrg a b u i = mrg a b u j := by unfold mrg; rw [h]
theorem fz_cong : ∀ (es : List Ed) {u : Nat → Nat} {i j : Nat}, u i = u j → fz u es i = fz u es j
  | [], _, _, _, h => h
  | e :: es, _, _, _, h => fz_cong es (mrg_cong h)
theorem fz_edge : ∀ (es : List Ed) {u : Nat → Nat} {e : Ed}, e ∈ es → fz u es e.1 = fz u es e.2
  | x :: es, u, e, h => by
    rcases List.mem_cons.mp h with rfl | h
    · exact fz_cong es (by unfold mrg; split <;> simp)
    · exact fz_edge es h
theorem fz_alone : ∀ (es : List Ed) {u : Nat → Nat} {i : Nat}, (∀ e ∈ es, u e.1 ≠ u i ∧ u e.2 ≠ u i) → ∀ j, fz u es j = fz u es i → u j = u i
  | [], u, i, _, j, h => h
  | e :: es, u, i, hh, j, h => by
    obtain ⟨h1, h2⟩ := hh e (List.mem_cons_self ..)
    have mi : mrg (u e.2) (u e.1) u i = u i := if_neg fun z => h2 z.symm
    have hi : ∀ j, mrg (u e.2) (u e.1) u j = mrg (u e.2) (u e.1) u i → u j = u i := fun j z => by
      rw [mi] at z
      unfold mrg at z
      split at z
      · exact absurd z h1
      · exact z
    refine hi j (fz_alone es (u := mrg (u e.2) (u e.1) u) (i := i) (fun x hx => ?_) j h)
    obtain ⟨h3, h4⟩ := hh x (List.mem_cons_of_mem _ hx)
    exact ⟨fun z => h3 (hi _ z), fun z => h4 (hi _ z)⟩
theorem fz_out : ∀ (es : List Ed) {u : Nat → Nat} {k : Nat}, u k = k → (∀ i, i < k → u i < k) → (∀ e ∈ es, e.1 < k ∧ e.2 < k) → fz u es k = k ∧ ∀ i, i < k → fz u es i < k
  | [], u, k, h1, h2, _ => ⟨h1, h2⟩
  | e :: es, u, k, h1, h2, he => by
    obtain ⟨e1, e2⟩ := he e (List.mem_cons_self ..)
    refine fz_out es ?_ (fun i hi => ?_) fun x hx => he x (List.mem_cons_of_mem _ hx)
    · unfold mrg; rw [if_neg (by have := h2 _ e2; omega)]; exact h1
    · unfold mrg; split
      · exact h2 _ e1
      · exact h2 _ hi
theorem fz_idem : ∀ (es : List Ed) {u : Nat → Nat}, (∀ i, u (u i) = u i) → ∀ i, fz u es (fz u es i) = fz u es i
  | [], u, h => h
  | e :: es, u, h => fz_idem es (u := mrg (u e.2) (u e.1) u) fun i => by
    unfold mrg
    by_cases c : u i = u e.2
    · rw [if_pos c, h]
      split <;> rfl
    · rw [if_neg c, h, if_neg c]
theorem fz_sim (ψ : Nat → Nat) (A : Nat → Prop) : ∀ (l : List (Ed × Ed)) {u u' : Nat → Nat}, (∀ i j, A i → A j → (u' i = u' j ↔ u (ψ i) = u (ψ j))) → (∀ x ∈ l, A x.2.1 ∧ A x.2.2 ∧ u (ψ x.2.1) = u x.1.1 ∧ u (ψ x.2.2) = u x.1.2) →
    ∀ i j, A i → A j → (fz u' (l.map (·.2)) i = fz u' (l.map (·.2)) j ↔ fz u (l.map (·.1)) (ψ i) = fz u (l.map (·.1)) (ψ j))
  | [], u, u', h, _ => h
  | x :: l, u, u', h, hx => by
    obtain ⟨a1, a2, a3, a4⟩ := hx x (List.mem_cons_self ..)
    refine fz_sim ψ A l (u := mrg (u x.1.2) (u x.1.1) u) (u' := mrg (u' x.2.2) (u' x.2.1) u') (fun i j hi hj => ?_) fun y hy => ?_
    · rw [mrg_eq, mrg_eq, h i j hi hj, h i x.2.2 hi a2, h j x.2.1 hj a1, h i x.2.1 hi a1, h j x.2.2 hj a2, a3, a4]
    · obtain ⟨b1, b2, b3, b4⟩ := hx y (List.mem_cons_of_mem _ hy)
      exact ⟨b1, b2, mrg_cong b3, mrg_cong b4⟩
theorem nb_tr (n k : Nat) (ψ : Nat → Nat) (A : Nat → Prop) (v v' : Nat → Nat) (hψ : ∀ j, A j → ψ j ≤ n) (hA : ∀ j, A j → j ≤ k) (hv : ∀ i j, A i → A j → (v' i = v' j ↔ v (ψ i) = v (ψ j))) : ∀ (l : List (Ed × Ed)) {u u' : Nat → Nat},
    (∀ i j, A i → A j → (u' i = u' j ↔ u (ψ i) = u (ψ j))) → (∀ x ∈ l, A x.2.1 ∧ A x.2.2 ∧ u (ψ x.2.1) = u x.1.1 ∧ u (ψ x.2.2) = u x.1.2) →
    (∀ i, i ≤ k → ¬ A i → ∀ j, j ≤ k → v' i = v' j → u' i = u' j) →
    (∀ i, i ≤ n → (∃ j, A j ∧ u i = u (ψ j) ∧ v i = v (ψ j)) ∨ ∀ j, j ≤ n → v i = v j → u i = u j) →
    nb n v u (l.map (·.1)) = nb k v' u' (l.map (·.2))
  | [], u, u', h, _, hc, hd => by
    show nb n v u [] = nb k v' u' []
    unfold nb
    have : (∀ i j, i ≤ n → j ≤ n → v i = v j → u i = u j) ↔ ∀ i j, i ≤ k → j ≤ k → v' i = v' j → u' i = u' j := by
      constructor
      · intro q i j hi hj e
        by_cases c1 : A i
        · by_cases c2 : A j
          · exact (h i j c1 c2).mpr (q _ _ (hψ _ c1) (hψ _ c2) ((hv i j c1 c2).mp e))
          · exact (hc j hj c2 i hi e.symm).symm
        · exact hc i hi c1 j hj e
      · intro q i j hi hj e
        rcases hd i hi with ⟨a, a1, a2, a3⟩ | z
        · rcases hd j hj with ⟨b, b1, b2, b3⟩ | z
          · rw [a2, b2]
            exact (h a b a1 b1).mp (q a b (hA _ a1) (hA _ b1) ((hv a b a1 b1).mpr (by rw [← a3, ← b3]; exact e)))
          · exact (z i hi e.symm).symm
        · exact z j hj e
    by_cases q : ∀ i j, i ≤ n → j ≤ n → v i = v j → u i = u j
    · rw [if_pos q, if_pos (this.mp q)]
    · rw [if_neg q, if_neg fun z => q (this.mpr z)]
  | x :: l, u, u', h, hx, hc, hd => by
    obtain ⟨a1, a2, a3, a4⟩ := hx x (List.mem_cons_self ..)
    have hx' : ∀ y ∈ l, A y.2.1 ∧ A y.2.2 ∧ u (ψ y.2.1) = u y.1.1 ∧ u (ψ y.2.2) = u y.1.2 := fun y hy => hx y (List.mem_cons_of_mem _ hy)
    rw [List.map_cons, List.map_cons, nb_cons, nb_cons, nb_tr n k ψ A v v' hψ hA hv l h hx' hc hd]
    have e := h x.2.1 x.2.2 a1 a2
    rw [a3, a4] at e
    by_cases q : u x.1.1 = u x.1.2
    · rw [if_pos q, if_pos (e.mpr q)]
    · rw [if_neg q, if_neg fun z => q (e.mp z)]
      congr 1
      refine nb_tr n k ψ A v v' hψ hA hv l (fun i j hi hj => ?_) (fun y hy => ?_) (fun i hi na j hj e => mrg_cong (hc i hi na j hj e)) fun i hi => ?_
      · rw [mrg_eq, mrg_eq, h i j hi hj, h i x.2.2 hi a2, h j x.2.1 hj a1, h i x.2.1 hi a1, h j x.2.2 hj a2, a3, a4]
      · obtain ⟨b1, b2, b3, b4⟩ := hx' y hy
        exact ⟨b1, b2, mrg_cong b3, mrg_cong b4⟩
      · rcases hd i hi with ⟨a, c1, c2, c3⟩ | z
        · exact .inl ⟨a, c1, mrg_cong c2, c3⟩
        · exact .inr fun j hj e => mrg_cong (z j hj e)
theorem nb_vker {n : Nat} {v w : Nat → Nat} (h : Ker n v w) : ∀ (es : List Ed) (u : Nat → Nat), nb n v u es = nb n w u es
  | [], u => by
    unfold nb
    have : (∀ i j, i ≤ n → j ≤ n → v i = v j → u i = u j) ↔ ∀ i j, i ≤ n → j ≤ n → w i = w j → u i = u j := ⟨fun q i j hi hj e => q i j hi hj ((h i j hi hj).mpr e), fun q i j hi hj e => q i j hi hj ((h i j hi hj).mp e)⟩
    by_cases q : ∀ i j, i ≤ n → j ≤ n → v i = v j → u i = u j
    · rw [if_pos q, if_pos (this.mp q)]
    · rw [if_neg q, if_neg fun z => q (this.mpr z)]
  | e :: es, u => by
    rw [nb_cons, nb_cons, nb_vker h es, nb_vker h es]
theorem nb_zero {n : Nat} {v : Nat → Nat} {i j : Nat} (hi : i ≤ n) (hj : j ≤ n) (hv : v i = v j) : ∀ (es : List Ed) (u w : Nat → Nat), (∀ a b, u a = u b → w a = w b) → (∀ e ∈ es, w e.1 = w e.2) → w i ≠ w j → nb n v u es = 0
  | [], u, w, h1, _, h3 => by
    unfold nb
    rw [if_neg fun z => h3 (h1 _ _ (z i j hi hj hv))]
  | e :: es, u, w, h1, h2, h3 => by
    have h2' : ∀ x ∈ es, w x.1 = w x.2 := fun x hx => h2 x (List.mem_cons_of_mem _ hx)
    rw [nb_cons, nb_zero hi hj hv es u w h1 h2' h3]
    split
    · rfl
    · rw [nb_zero hi hj hv es _ w (fun a b z => ?_) h2' h3]
      rcases mrg_eq.mp z with z | ⟨z1, z2⟩ | ⟨z1, z2⟩
      · exact h1 _ _ z
      · rw [h1 _ _ z1, h1 _ _ z2]; exact h2 e (List.mem_cons_self ..)
      · rw [h1 _ _ z1, h1 _ _ z2]; exact (h2 e (List.mem_cons_self ..)).symm
theorem nb_drop {n : Nat} {v : Nat → Nat} (q : Ed → Bool) : ∀ (es : List Ed) (u : Nat → Nat), (∀ e ∈ es, q e = false → u e.1 = u e.2) → nb n v u es = nb n v u (es.filter q)
  | [], _, _ => rfl
  | e :: es, u, h => by
    have h' : ∀ x ∈ es, q x = false → u x.1 = u x.2 := fun x hx => h x (List.mem_cons_of_mem _ hx)
    by_cases c : q e = true
    · rw [List.filter_cons_of_pos c, nb_cons, nb_cons, nb_drop q es u h', nb_drop q es _ fun x hx z => mrg_cong (h' x hx z)]
    · rw [List.filter_cons_of_neg c, nb_cons, if_pos (h e (List.mem_cons_self ..) (by simpa using c)), nb_drop q es u h', Nat.add_zero]
theorem nb_det {k : Nat} (es : List Ed) (he : ∀ e ∈ es, e.1 < k ∧ e.2 < k) (hd : Nat → Nat) (h : hd = fz (fun i => i) es) (K : List Int) (hK : K = (iota k).filter fun x => !decide (((hd x.toNat : Nat) : Int) = x)) :
    (nb k hd (fun i => i) es : Int) = det K.length 0 fun r c => Rw (fun v => v) es (Lw.nth K r).toNat (Lw.nth K c).toNat := by
  have ok : EdOk k es := fun e h => by have := he e h; omega
  obtain ⟨o1, o2⟩ := fz_out es (u := fun i => i) (k := k) rfl (fun _ h => h) he
  have idm := fz_idem es (u := fun i => i) fun _ => rfl
  rw [← h] at o1 o2 idm
  rw [← D_lk k hd es K hK, D_count es ok (lk_lab k hd)]
  congr 1
  have lkv : ∀ i, i ≤ k → (lk k hd i = i ∧ i < k ∧ hd i ≠ i) ∨ (lk k hd i = k ∧ hd i = i) := fun i hi => by
    unfold lk
    by_cases c : i < k ∧ hd i ≠ i
    · rw [if_pos c]; exact .inl ⟨rfl, c⟩
    · rw [if_neg c]
      refine .inr ⟨rfl, ?_⟩
      by_cases z : i = k
      · rw [z]; exact o1
      · exact Classical.byContradiction fun w => c ⟨by omega, w⟩
  refine nb_cg (κ := k) es ok (fun e he' => by rw [h]; exact fz_edge es he') ⟨fun i j _ _ e => by rw [e], fun i j _ _ e => by rw [e], fun i j hi hj e1 e2 => ?_, fun i hi => ?_, fun i j hi hj e1 e2 => ?_⟩
  · rcases lkv i hi with ⟨a, b, c⟩ | ⟨a, b⟩ <;> rcases lkv j hj with ⟨a', b', c'⟩ | ⟨a', b'⟩
    · rw [← a, ← a', e1]
    · omega
    · omega
    · rw [← b, ← b', e2]
  · by_cases c : i = k
    · refine ⟨i, hi, rfl, ?_⟩
      subst c
      exact (lk_lab i hd).top
    · have := o2 i (by omega)
      refine ⟨hd i, by omega, (idm i).symm, ?_⟩
      rcases lkv (hd i) (by omega) with ⟨a, b, c⟩ | ⟨a, b⟩
      · exact absurd (idm i) c
      · exact a
  · rcases lkv i hi with ⟨a, b, c⟩ | ⟨a, b⟩ <;> rcases lkv j hj with ⟨a', b', c'⟩ | ⟨a', b'⟩
    · rw [← a, ← a', e1]
    · omega
    · omega
    · exact absurd a e2
end Dt
end

noncomputable section
namespace Lw
open DL
def f_gains_of_c1 : Env → Res D := eVar 3
def f_gains_of_c1t : Env → Res Bool := tC2 cLt (eBin opIx (eVar 1) (eBin opIx (eVar 3) (eC (.int 1)))) (eBin opIx (eVar 1) (eBin opIx (eVar 3) (eC (.int 0))))
def f_gains_of : Env → Out := sSeq (sExp (eOwn g_look_at_lengths (aCons (eVar 0) (aCons (eVar 1) (aNil))))) (sRet (eLc (iSeq (eOwn g_exchanges_of (aCons (eVar 0) (aCons (eVar 2) (aNil))))) [3] (gtN 3) (f_gains_of_c1t) f_gains_of_c1))
def g_gains_of : List D → Res D := runF f_gains_of 4
def f_is_cheapest : Env → Out := sRet (eB (tC2 cEq (eCall caLen (aCons (eOwn g_gains_of (aCons (eVar 0) (aCons (eVar 1) (aCons (eVar 2) (aNil))))) (aNil))) (eC (.int 0))))
def g_is_cheapest : List D → Res D := runF f_is_cheapest 3
end Lw
end

noncomputable section
namespace Lw
open DL
def f_ways_to_join_c1 : Env → Res D := eBin opIx (eVar 4) (eC (.int 0))
def f_ways_to_join_c2 : Env → Res D := eBin opIx (eVar 4) (eC (.int 1))
def f_ways_to_join_c3 : Env → Res D := eBin opMul (eLst (aConsO (eC (.int 0)) (aNil))) (eCall caLen (aCons (eVar 1) (aNil)))
def f_ways_to_join_l1 : Env → Out := sSeq (sAsgF 5 (eIndex (eVar 1) (eBin opIx (eVar 4) (eC (.int 0))))) (sSeq (sAsgF 6 (eIndex (eVar 1) (eBin opIx (eVar 4) (eC (.int 1))))) (sSeq (sAug2 (fun a b => a + b) 3 5 5 (eC (.int 1))) (sSeq (sAug2 (fun a b => a + b) 3 6 6 (eC (.int 1))) (sSeq (sAug2 (fun a b => a - b) 3 5 6 (eC (.int 1))) (sSeq (sAug2 (fun a b => a - b) 3 6 5 (eC (.int 1))) (sAsgF 2 (eOwn g_heads_joined (aCons (eVar 2) (aCons (eTup (aConsO (eVar 5) (aConsO (eVar 6) (aNil)))) (aNil))))))))))
def f_ways_to_join_c5 : Env → Res D := eVar 9
def f_ways_to_join_c5t : Env → Res Bool := tC2 cNe (eBin opIx (eVar 2) (eVar 9)) (eVar 9)
def f_ways_to_join_c7 : Env → Res D := eBin opIx (eBin opIx (eVar 3) (eVar 5)) (eVar 6)
def f_ways_to_join_c8 : Env → Res D := eLc (iSeq (eVar 7)) [6] (gtN 6) (tYesG) f_ways_to_join_c7
def f_ways_to_join : Env → Out := sSeq (sAsgF 1 (eSortedSet (eBin opAdd (eLc (iSeq (eVar 0)) [4] (gtN 4) (tYesG) f_ways_to_join_c1) (eLc (iSeq (eVar 0)) [4] (gtN 4) (tYesG) f_ways_to_join_c2)))) (sSeq (sAsgF 2 (eLR1 (eCall caLen (aCons (eVar 1) (aNil))))) (sSeq (sAsg 3 (eLc (iSeq (eVar 1)) [8] (gtN 8) (tYesG) f_ways_to_join_c3)) (sSeq (sFor (iSeq (eVar 0)) (gtN 4) f_ways_to_join_l1) (sSeq (sAsgF 7 (eLc (iRg1 (aCons (eCall caLen (aCons (eVar 1) (aNil))) (aNil))) [9] (gtN 9) (f_ways_to_join_c5t) f_ways_to_join_c5)) (sRet (eOwn g_determinant (aCons (eLc (iSeq (eVar 7)) [5] (gtN 5) (tYesG) f_ways_to_join_c8) (aNil))))))))
def g_ways_to_join : List D → Res D := runF f_ways_to_join 10
def f_layer_ways_l1 : Env → Out := sIf (tC2 cIn (eVar 6) (eVar 3)) (sSeq (sAsgF 7 (eOwn g_heads_joined (aCons (eVar 5) (aCons (eBin opIx (eUn (opFld 14 1) (eVar 0)) (eVar 6)) (aNil))))) (sSeq (sIf (tC2 cEq (eVar 7) (eVar 5)) (sRet (eC (.int 0))) (sNil)) (sAsgF 5 (eVar 7)))) (sNil)
def f_layer_ways_l2 : Env → Out := sSeq (sAsgF 10 (eBin opIx (eVar 5) (eBin opIx (eBin opIx (eUn (opFld 14 1) (eVar 0)) (eVar 6)) (eC (.int 0))))) (sSeq (sAsgF 11 (eBin opIx (eVar 5) (eBin opIx (eBin opIx (eUn (opFld 14 1) (eVar 0)) (eVar 6)) (eC (.int 1))))) (sIf (tAn (tC2 cNe (eVar 10) (eVar 11)) (tC2 cNIn (eVar 6) (eVar 4))) (sSeq (sApp 8 (eTup (aConsO (eVar 10) (aConsO (eVar 11) (aNil))))) (sAsgF 9 (eOwn g_heads_joined (aCons (eVar 9) (aCons (eBin opIx (eUn (opFld 14 1) (eVar 0)) (eVar 6)) (aNil)))))) (sNil)))
def f_layer_ways_l3 : Env → Out := sIf (tC2 cNe (eBin opIx (eVar 9) (eBin opIx (eBin opIx (eUn (opFld 14 1) (eVar 0)) (eVar 6)) (eC (.int 0)))) (eBin opIx (eVar 9) (eBin opIx (eBin opIx (eUn (opFld 14 1) (eVar 0)) (eVar 6)) (eC (.int 1))))) (sRet (eC (.int 0))) (sNil)
def f_layer_ways : Env → Out := sSeq (sAsgF 5 (eVar 1)) (sSeq (sFor (iSeq (eVar 2)) (gtN 6) f_layer_ways_l1) (sSeq (sAsg 8 (eLst (aNil))) (sSeq (sAsgF 9 (eVar 5)) (sSeq (sFor (iSeq (eVar 2)) (gtN 6) f_layer_ways_l2) (sSeq (sFor (iSeq (eVar 2)) (gtN 6) f_layer_ways_l3) (sRet (eOwn g_ways_to_join (aCons (eVar 8) (aNil)))))))))
def g_layer_ways : List D → Res D := runF f_layer_ways 12
def f_cheapest_with_c1 : Env → Res D := eVar 8
def f_cheapest_with_c1t : Env → Res Bool := tC2 cEq (eBin opIx (eVar 1) (eVar 8)) (eVar 6)
def f_cheapest_with_l1 : Env → Out := sAsgF 4 (eOwn g_heads_joined (aCons (eVar 4) (aCons (eBin opIx (eUn (opFld 14 1) (eVar 0)) (eVar 8)) (aNil))))
def f_cheapest_with_l2 : Env → Out := sSeq (sAsgF 7 (eLc (iRg1 (aCons (eCall caLen (aCons (eVar 1) (aNil))) (aNil))) [8] (gtN 8) (f_cheapest_with_c1t) f_cheapest_with_c1)) (sSeq (sAsgF 5 (eBin opMul (eVar 5) (eOwn g_layer_ways (aCons (eVar 0) (aCons (eVar 4) (aCons (eVar 7) (aCons (eVar 2) (aCons (eVar 3) (aNil))))))))) (sFor (iSeq (eVar 7)) (gtN 8) f_cheapest_with_l1))
def f_cheapest_with : Env → Out := sSeq (sAsgF 4 (eLR1 (eUn (opFld 14 0) (eVar 0)))) (sSeq (sAsgF 5 (eC (.int 1))) (sSeq (sFor (iSeq (eSortedSet (eVar 1))) (gtN 6) f_cheapest_with_l2) (sSeq (sIf (tC2 cGt (eLenSet (eVar 4)) (eC (.int 1))) (sRet (eC (.int 0))) (sNil)) (sRetV 5))))
def g_cheapest_with : List D → Res D := runF f_cheapest_with 9
def f_cheapest_count : Env → Out := sSeq (sExp (eOwn g_look_at_lengths (aCons (eVar 0) (aCons (eVar 1) (aNil))))) (sRet (eOwn g_cheapest_with (aCons (eVar 0) (aCons (eVar 1) (aCons (eTup (aNil)) (aCons (eTup (aNil)) (aNil)))))))
def g_cheapest_count : List D → Res D := runF f_cheapest_count 2
def f_cheapest_at_l1 : Env → Out := sSeq (sAsgF 7 (eOwn g_cheapest_with (aCons (eVar 0) (aCons (eVar 1) (aCons (eBin opAdd (eVar 4) (eTup (aConsO (eVar 6) (aNil)))) (aCons (eVar 5) (aNil))))))) (sIf (tC2 cLt (eVar 2) (eVar 7)) (sAsgF 4 (eBin opAdd (eVar 4) (eTup (aConsO (eVar 6) (aNil))))) (sSeq (sAsgF 2 (eBin opSub (eVar 2) (eVar 7))) (sAsgF 5 (eBin opAdd (eVar 5) (eTup (aConsO (eVar 6) (aNil)))))))
def f_cheapest_at : Env → Out := sSeq (sAsgF 3 (eOwn g_cheapest_count (aCons (eVar 0) (aCons (eVar 1) (aNil))))) (sSeq (sIf (tOr_ (tC2 cLt (eVar 2) (eC (.int 0))) (tC2 cGe (eVar 2) (eVar 3))) (sRaise 6) (sNil)) (sSeq (sAsgF 4 (eTup (aNil))) (sSeq (sAsgF 5 (eTup (aNil))) (sSeq (sFor (iRg1 (aCons (eCall caLen (aCons (eUn (opFld 14 1) (eVar 0)) (aNil))) (aNil))) (gtN 6) f_cheapest_at_l1) (sRetV 4)))))
def g_cheapest_at : List D → Res D := runF f_cheapest_at 8
def f_cheapest_number_l1 : Env → Out := sIf (tC2 cIn (eVar 6) (eVar 2)) (sAsgF 4 (eBin opAdd (eVar 4) (eTup (aConsO (eVar 6) (aNil))))) (sSeq (sAsgF 3 (eBin opAdd (eVar 3) (eOwn g_cheapest_with (aCons (eVar 0) (aCons (eVar 1) (aCons (eBin opAdd (eVar 4) (eTup (aConsO (eVar 6) (aNil)))) (aCons (eVar 5) (aNil)))))))) (sAsgF 5 (eBin opAdd (eVar 5) (eTup (aConsO (eVar 6) (aNil))))))
def f_cheapest_number : Env → Out := sSeq (sExp (eOwn g_look_at_lengths (aCons (eVar 0) (aCons (eVar 1) (aNil))))) (sSeq (sIf (tOr_ (tNo (tTr (eOwn g_is_tree (aCons (eVar 0) (aCons (eVar 2) (aNil)))))) (tNo (tTr (eOwn g_is_cheapest (aCons (eVar 0) (aCons (eVar 1) (aCons (eVar 2) (aNil)))))))) (sRaise 4) (sNil)) (sSeq (sAsgF 3 (eC (.int 0))) (sSeq (sAsgF 4 (eTup (aNil))) (sSeq (sAsgF 5 (eTup (aNil))) (sSeq (sFor (iRg1 (aCons (eCall caLen (aCons (eUn (opFld 14 1) (eVar 0)) (aNil))) (aNil))) (gtN 6) f_cheapest_number_l1) (sRetV 3))))))
def g_cheapest_number : List D → Res D := runF f_cheapest_number 7
end Lw
end

namespace Lw
open DL L2 TL
theorem forL_nil {tg : D → Env → Option Env} {b : Env → Out} {g : Env} : forL tg b [] g = .nx g := rfl
end Lw

noncomputable section
namespace Lw
open DL L2
theorem seq_to {f u : Env → Out} {g g1 : Env} {o : Out} (h : f g = .nx g1) (h2 : u g1 = o) : sSeq f u g = o := by
  rw [sSeq_, h]
  exact h2
end Lw
end

noncomputable section
namespace Lw
open DL L2 TL
theorem augG (op : Int → Int → Int) {n : Nat} {T : List (List Int)} (h : Sq n T) {g : Env} {s j1 j2 : Nat} (k1 k2 : Nat) (hk1 : k1 < n) (hk2 : k2 < n) (hn : n ≤ 1000) (hs : g[s]? = some (.ol (T.map dO')))
    (h1 : g[j1]? = some (.int (k1 : Int))) (h2 : g[j2]? = some (.int (k2 : Int))) :
    sAug2 op s j1 j2 (eC (.int 1)) g = .nx (g.set s (.ol ((T.set k1 ((rowN T k1).set k2 (op (ent T k1 k2) 1))).map dO'))) := by
  have hl := h.len
  have i1 : ixN (T.map dO').length (k1 : Int) = some k1 := by rw [ixN_nat (by omega) (by rw [List.length_map, hl]; omega)]; rfl
  have g1 : (T.map dO')[k1]? = some (.ol ((rowN T k1).map D.int)) := by
    rw [List.getElem?_map, List.getElem?_eq_getElem (by omega)]
    unfold rowN
    rw [List.getD_eq_getElem?_getD, List.getElem?_eq_getElem (by omega)]
    rfl
  have g2 : ((rowN T k1).map D.int)[k2]? = some (.int (ent T k1 k2)) := by
    have hr := h.rowl hk1
    rw [List.getElem?_map, List.getElem?_eq_getElem (by omega)]
    unfold ent
    rw [List.getD_eq_getElem?_getD, List.getElem?_eq_getElem (by omega)]
    rfl
  rw [sAug2_, h1, h2, hs]
  simp only [i1, g1]
  rw [if_pos ⟨by omega, by omega⟩]
  have e2 : ((k2 : Int)).toNat = k2 := rfl
  rw [e2, g2]
  simp only [eC_, Res.st_ok, opd_int]
  congr 3
  rw [List.map_set]
  congr 1
  unfold dO'
  rw [List.map_set]
def ixP (N : List Int) (t : Int × Int) : Int × Int := ((N.idxOf t.1 : Nat), (N.idxOf t.2 : Nat))
def hjF (es : List (Int × Int)) (m : List Int) : List Int := es.foldl hj m
theorem hj_len (m : List Int) (t : Int × Int) : (hj m t).length = m.length := by unfold hj; rw [List.length_map]
theorem hjF_len : ∀ (es : List (Int × Int)) (m : List Int), (hjF es m).length = m.length
  | [], _ => rfl
  | e :: es, m => (hjF_len es (hj m e)).trans (hj_len m e)
def fnL (m : List Int) (i : Nat) : Nat := (nth m i).toNat
theorem fn_hj {m : List Int} {k : Nat} (hm : m.length = k) (hr : ∀ i : Int, 0 ≤ i → i < k → 0 ≤ nth m i ∧ nth m i < k) {t : Int × Int} (a : 0 ≤ t.1 ∧ t.1 < k) (b : 0 ≤ t.2 ∧ t.2 < k) {u : Nat → Nat} (hu : ∀ i, i < k → fnL m i = u i) :
    (∀ i : Int, 0 ≤ i → i < k → 0 ≤ nth (hj m t) i ∧ nth (hj m t) i < k) ∧ ∀ i, i < k → fnL (hj m t) i = Dt.mrg (u (tn t).2) (u (tn t).1) u i := by
  have key : ∀ i : Int, 0 ≤ i → i < k → nth (hj m t) i = if nth m i = nth m t.2 then nth m t.1 else nth m i := fun i i0 i1 => by
    unfold hj; rw [nth_map i0 (by omega)]
  refine ⟨fun i i0 i1 => ?_, fun i hi => ?_⟩
  · rw [key i i0 i1]
    split
    · exact hr _ a.1 a.2
    · exact hr _ i0 i1
  · have e1 : u (tn t).1 = (nth m t.1).toNat := by rw [← hu _ (show (tn t).1 < k by unfold tn; dsimp only; omega)]; unfold fnL tn; dsimp only; congr 2; omega
    have e2 : u (tn t).2 = (nth m t.2).toNat := by rw [← hu _ (show (tn t).2 < k by unfold tn; dsimp only; omega)]; unfold fnL tn; dsimp only; congr 2; omega
    have e3 : u i = (nth m (i : Nat)).toNat := (hu i hi).symm
    have r1 := hr t.1 a.1 a.2
    have r2 := hr t.2 b.1 b.2
    have r3 := hr (i : Nat) (by omega) (by omega)
    unfold fnL Dt.mrg
    rw [key _ (by omega) (by omega), e1, e2, e3]
    by_cases c : nth m (i : Nat) = nth m t.2
    · rw [if_pos c, if_pos (by rw [c])]
    · rw [if_neg c, if_neg (by omega)]
theorem fn_hjF {k : Nat} : ∀ (es : List (Int × Int)) {m : List Int}, m.length = k → (∀ i : Int, 0 ≤ i → i < k → 0 ≤ nth m i ∧ nth m i < k) → EndsOk k es → ∀ {u : Nat → Nat}, (∀ i, i < k → fnL m i = u i) →
    (∀ i : Int, 0 ≤ i → i < k → 0 ≤ nth (hjF es m) i ∧ nth (hjF es m) i < k) ∧ ∀ i, i < k → fnL (hjF es m) i = Dt.fz u (es.map tn) i
  | [], m, _, hr, _, u, hu => ⟨hr, hu⟩
  | e :: es, m, hm, hr, hE, u, hu => by
    obtain ⟨ha, hb⟩ := hE e (List.mem_cons_self ..)
    obtain ⟨h1, h2⟩ := fn_hj hm hr ha hb hu
    exact fn_hjF es (m := hj m e) (by rw [hj_len, hm]) h1 (fun x hx => hE x (List.mem_cons_of_mem _ hx)) h2
section
variable {N : List Int} {k : Nat}
theorem ways_l1 (hk : k ≤ 900) (hN : N.length = k) (x0 x7 x8 x9 : D) : ∀ (ps : List (Int × Int)) (T : List (List Int)) (m : List Int) (y4 y5 y6 : D), Sq k T → m.length = k → (∀ t ∈ ps, t.1 ∈ N ∧ t.2 ∈ N ∧ t.1 ≠ t.2) →
    ∃ (T' : List (List Int)) (z4 z5 z6 : D), Sq k T' ∧ (∀ i j, i < k → j < k → ent T' i j = ent T i j + Dt.Rw (fun v => v) ((ps.map (ixP N)).map tn) i j) ∧
      forL (gtN 4) f_ways_to_join_l1 (ps.map dP) [x0, .ls (N.map D.int), .ls (m.map D.int), .ol (T.map dO'), y4, y5, y6, x7, x8, x9] = .nx [x0, .ls (N.map D.int), .ls ((hjF (ps.map (ixP N)) m).map D.int), .ol (T'.map dO'), z4, z5, z6, x7, x8, x9] := by
  intro ps
  induction ps with
  | nil => exact fun T m y4 y5 y6 hT _ _ => ⟨T, y4, y5, y6, hT, fun i j _ _ => by simp [Dt.Rw], by simp [forL, hjF]⟩
  | cons t ps IH =>
    intro T m y4 y5 y6 hT hm hp
    obtain ⟨n1, n2, n3⟩ := hp t (List.mem_cons_self ..)
    have hp' : ∀ x ∈ ps, x.1 ∈ N ∧ x.2 ∈ N ∧ x.1 ≠ x.2 := fun x hx => hp x (List.mem_cons_of_mem _ hx)
    obtain ⟨a, ha⟩ : ∃ a : Nat, N.idxOf t.1 = a := ⟨_, rfl⟩
    obtain ⟨b, hb⟩ : ∃ b : Nat, N.idxOf t.2 = b := ⟨_, rfl⟩
    have i1 := idx_nth n1
    have i2 := idx_nth n2
    rw [ha] at i1
    rw [hb] at i2
    have la : a < k := by omega
    have lb : b < k := by omega
    have c : a ≠ b := fun z => n3 (by rw [← i1.2, ← i2.2, z])
    have te : tn (ixP N t) = (a, b) := by unfold tn ixP; rw [ha, hb]; rfl
    have s1 := up1_sq hT la a 1
    have s2 := up1_sq s1 lb b 1
    have s3 := up1_sq s2 la b (-1)
    have s4 := up1_sq s3 lb a (-1)
    obtain ⟨T', z4, z5, z6, j1, j2, j3⟩ := IH _ (hj m (ixP N t)) (dP t) (.int a) (.int b) s4 (by rw [hj_len, hm]) hp'
    refine ⟨T', z4, z5, z6, j1, fun i j hi hj => ?_, ?_⟩
    · rw [j2 i j hi hj, up1_ent s3 lb la hi, up1_ent s2 la lb hi, up1_ent s1 lb lb hi, up1_ent hT la la hi, List.map_cons, List.map_cons]
      have := pull_ent a b i j (tn (ixP N t)) te c
      simp only [Dt.Rw]
      rw [← this]
      omega
    · rw [show hjF ((t :: ps).map (ixP N)) m = hjF (ps.map (ixP N)) (hj m (ixP N t)) from rfl, ← j3, List.map_cons]
      have hh := heads_joined_ok m (by omega) (ixP N t) (by unfold ixP; dsimp only; omega) (by unfold ixP; dsimp only; omega) (by unfold ixP; dsimp only; omega) (by unfold ixP; dsimp only; omega)
      have hd : dP (ixP N t) = .tp [.int a, .int b] := by unfold dP ixP; rw [ha, hb]
      rw [hd] at hh
      refine forL_step (g1 := [x0, .ls (N.map D.int), .ls (m.map D.int), .ol (T.map dO'), dP t, y5, y6, x7, x8, x9]) rfl ?_
      have q3 : ∀ (M : List (List Int)) (k1 k2 : Nat), M.set k1 ((rowN M k1).set k2 ((fun a b : Int => a - b) (ent M k1 k2) 1)) = up1 M k1 k2 (-1) := fun M k1 k2 => rfl
      have q1 : ∀ (M : List (List Int)) (k1 k2 : Nat), M.set k1 ((rowN M k1).set k2 ((fun a b : Int => a + b) (ent M k1 k2) 1)) = up1 M k1 k2 1 := fun M k1 k2 => rfl
      have g1 := augG (fun a b => a + b) hT (g := [x0, .ls (N.map D.int), .ls (m.map D.int), .ol (T.map dO'), dP t, .int a, .int b, x7, x8, x9]) (s := 3) (j1 := 5) (j2 := 5) a a la la (by omega) rfl rfl rfl
      have g2 := augG (fun a b => a + b) s1 (g := [x0, .ls (N.map D.int), .ls (m.map D.int), .ol ((up1 T a a 1).map dO'), dP t, .int a, .int b, x7, x8, x9]) (s := 3) (j1 := 6) (j2 := 6) b b lb lb (by omega) rfl rfl rfl
      have g3 := augG (fun a b => a - b) s2 (g := [x0, .ls (N.map D.int), .ls (m.map D.int), .ol ((up1 (up1 T a a 1) b b 1).map dO'), dP t, .int a, .int b, x7, x8, x9]) (s := 3) (j1 := 5) (j2 := 6) a b la lb (by omega) rfl rfl rfl
      have g4 := augG (fun a b => a - b) s3 (g := [x0, .ls (N.map D.int), .ls (m.map D.int), .ol ((up1 (up1 (up1 T a a 1) b b 1) a b (-1)).map dO'), dP t, .int a, .int b, x7, x8, x9]) (s := 3) (j1 := 6) (j2 := 5) b a lb la (by omega) rfl rfl rfl
      rw [q1] at g1 g2
      rw [q3] at g3 g4
      simp only [List.set_cons_succ, List.set_cons_zero] at g1 g2 g3 g4
      generalize up1 (up1 (up1 (up1 T a a 1) b b 1) a b (-1)) b a (-1) = T4 at g4 ⊢
      generalize up1 (up1 (up1 T a a 1) b b 1) a b (-1) = T3 at g3 g4 ⊢
      generalize up1 (up1 T a a 1) b b 1 = T2 at g2 g3 ⊢
      generalize up1 T a a 1 = T1 at g1 g2 ⊢
      simp only [dP] at g1 g2 g3 g4
      simp [f_ways_to_join_l1, dP, n1, n2, ha, hb, g1, g2, g3, g4, hh, -sAug2_]
end
theorem brws_O' (T : List (List Int)) : brws (T.map dO') = T.map fun l => D.bo (l.map D.int) := by
  induction T with
  | nil => rfl
  | cons a T ih => rw [List.map_cons, List.map_cons, brws_cons, ih]; simp [dO']
theorem at_rowB {T : List (List Int)} {r : Int} (h0 : 0 ≤ r) (hr : r < T.length) : atI (T.map fun l => D.bo (l.map D.int)) r = some (.bo ((rowN T r.toNat).map D.int)) := by
  obtain ⟨a, e, e2⟩ := DL.atI_of (l := T.map fun l => D.bo (l.map D.int)) h0 (by rw [List.length_map]; exact hr)
  rw [e]
  rw [List.getElem?_map] at e2
  unfold rowN
  rw [List.getD_eq_getElem?_getD]
  cases hx : T[r.toNat]? with
  | none => rw [hx] at e2; cases e2
  | some l => rw [hx] at e2; cases e2; rfl
theorem at_numI {l : List Int} {c : Int} (h0 : 0 ≤ c) (hc : c < l.length) : atI (l.map D.int) c = some (.int (l.getD c.toNat 0)) := by
  have := nth_at (m := l) h0 hc
  obtain ⟨a, e, e2⟩ := DL.atI_of (l := l.map D.int) h0 (by rw [List.length_map]; exact hc)
  rw [e]
  rw [List.getElem?_map] at e2
  rw [List.getD_eq_getElem?_getD]
  cases hx : l[c.toNat]? with
  | none => rw [hx] at e2; cases e2
  | some l => rw [hx] at e2; cases e2; rfl
def namesOf (ps : List (Int × Int)) : List Int := sset (ps.map (fun t => t.1) ++ ps.map fun t => t.2)
theorem names_mem {ps : List (Int × Int)} {x : Int} : x ∈ namesOf ps ↔ ∃ t ∈ ps, x = t.1 ∨ x = t.2 := by
  unfold namesOf
  rw [sset_mem, List.mem_append, List.mem_map, List.mem_map]
  constructor
  · rintro (⟨t, h, e⟩ | ⟨t, h, e⟩)
    · exact ⟨t, h, .inl e.symm⟩
    · exact ⟨t, h, .inr e.symm⟩
  · rintro ⟨t, h, e | e⟩
    · exact .inl ⟨t, h, e.symm⟩
    · exact .inr ⟨t, h, e.symm⟩
def edsOf (ps : List (Int × Int)) : List Dt.Ed := (ps.map (ixP (namesOf ps))).map tn
def wayN (ps : List (Int × Int)) : Nat := Dt.nb (namesOf ps).length (Dt.fz (fun i => i) (edsOf ps)) (fun i => i) (edsOf ps)
theorem eds_in (ps : List (Int × Int)) : ∀ e ∈ edsOf ps, e.1 < (namesOf ps).length ∧ e.2 < (namesOf ps).length := fun e he => by
  obtain ⟨t, ht, rfl⟩ := List.mem_map.mp he
  obtain ⟨s, hs, rfl⟩ := List.mem_map.mp ht
  have h1 := idx_nth (names_mem.mpr ⟨s, hs, .inl rfl⟩)
  have h2 := idx_nth (names_mem.mpr ⟨s, hs, .inr rfl⟩)
  unfold tn ixP
  dsimp only
  omega
theorem names_len {p : Nat} {ps : List (Int × Int)} (h : EndsOk p ps) : (namesOf ps).length ≤ p := by
  have := nodup_le (m := iota p) (rise_nodup (sset_rise (ps.map (fun t => t.1) ++ ps.map fun t => t.2))) fun x hx => by
    obtain ⟨t, ht, e⟩ := names_mem.mp hx
    obtain ⟨a, b⟩ := h t ht
    rw [iota_mem]
    rcases e with e | e <;> omega
  rw [iota_len] at this
  exact this
end Lw
end

noncomputable section
namespace Lw
open DL L2 TL
theorem eBin_okW {op : D → D → Option D} {fa fb : Env → Res D} {g : Env} {a b d : D} (h1 : fa g = .ok a) (h2 : fb g = .ok b) (h : op (opd a) (opd b) = some d) : eBin op fa fb g = .ok d := by
  rw [eBin_, h1]
  simp [h2, h]
theorem ways_ok {p : Nat} (hp : p ≤ 14) {ps : List (Int × Int)} (hE : EndsOk p ps) (hl : ps.length ≤ 30) (hne : ∀ t ∈ ps, t.1 ≠ t.2) : g_ways_to_join [.ls (ps.map dP)] = .ok (.int (wayN ps)) := by
  obtain ⟨N, hN⟩ : ∃ N, N = namesOf ps := ⟨_, rfl⟩
  obtain ⟨k, hk⟩ : ∃ k, k = N.length := ⟨_, rfl⟩
  have hk14 : k ≤ 14 := by rw [hk, hN]; have := names_len hE; omega
  have mem : ∀ t ∈ ps, t.1 ∈ N ∧ t.2 ∈ N ∧ t.1 ≠ t.2 := fun t ht => by
    rw [hN]
    exact ⟨names_mem.mpr ⟨t, ht, .inl rfl⟩, names_mem.mpr ⟨t, ht, .inr rfl⟩, hne t ht⟩
  have b0 : ps.length ≤ lim := by rw [lim_eq]; omega
  have lc1 : lcL (gtN 4) tYesG f_ways_to_join_c1 [.ls (ps.map dP), .un, .un, .un, .un, .un, .un, .un, .un, .un] (ps.map dP) = .ok ((ps.map fun t => t.1).map D.int) := by
    rw [List.map_map]
    refine lcL_mapN ps fun t _ => ?_
    simp [f_ways_to_join_c1, dP]
  have lc2 : lcL (gtN 4) tYesG f_ways_to_join_c2 [.ls (ps.map dP), .un, .un, .un, .un, .un, .un, .un, .un, .un] (ps.map dP) = .ok ((ps.map fun t => t.2).map D.int) := by
    rw [List.map_map]
    refine lcL_mapN ps fun t _ => ?_
    simp [f_ways_to_join_c2, dP]
  have b1 : (ps.map (fun t => t.1) ++ ps.map fun t => t.2).length < 64 := by simp; omega
  have n1' : eSortedSet (eBin opAdd (eLc (iSeq (eVar 0)) [4] (gtN 4) (tYesG) f_ways_to_join_c1) (eLc (iSeq (eVar 0)) [4] (gtN 4) (tYesG) f_ways_to_join_c2)) [.ls (ps.map dP), .un, .un, .un, .un, .un, .un, .un, .un, .un] = .ok (.ol (N.map D.int)) := by
    have e : sset (ps.map (fun t => t.1) ++ ps.map fun t => t.2) = N := hN.symm
    have b1' : ps.length + ps.length < 64 := by omega
    have b1'' : ps.length + ps.length ≤ lim := by rw [lim_eq]; omega
    have li : lsI (.ol ((ps.map fun t => t.1).map D.int ++ (ps.map fun t => t.2).map D.int)) = some ((ps.map fun t => t.1) ++ ps.map fun t => t.2) := by
      rw [← List.map_append]; simp [-List.map_map, -List.map_append]
    simp [lc1, lc2, b0, li, e, b1', b1'', -List.map_map]
  obtain ⟨T, z4, z5, z6, t1, t2, t3⟩ := ways_l1 (N := N) (k := k) (by omega) hk.symm (.ls (ps.map dP)) .un .un .un ps (zrs k) (iota k) .un .un .un (zrs_sq k) (by rw [iota_len]) mem
  have es : (ps.map (ixP N)).map tn = edsOf ps := by rw [hN]; rfl
  rw [es] at t2
  obtain ⟨m, hm⟩ : ∃ m, m = hjF (ps.map (ixP N)) (iota k) := ⟨_, rfl⟩
  have ml : m.length = k := by rw [hm, hjF_len, iota_len]
  rw [← hm] at t3
  have eE : EndsOk k (ps.map (ixP N)) := fun x hx => by
    obtain ⟨t, ht, rfl⟩ := List.mem_map.mp hx
    obtain ⟨m1, m2, _⟩ := mem t ht
    have := idx_nth m1
    have := idx_nth m2
    unfold ixP
    dsimp only
    omega
  obtain ⟨fm1, fm2⟩ := fn_hjF (ps.map (ixP N)) (m := iota k) (by rw [iota_len]) (fun i i0 i1 => by rw [nth_iota i0 i1]; exact ⟨i0, i1⟩) eE (u := fun i => i) fun i hi => by unfold fnL; rw [nth_iota (by omega) (by omega)]; rfl
  rw [← hm, es] at fm2
  rw [← hm] at fm1
  obtain ⟨hd, hhd⟩ : ∃ hd, hd = Dt.fz (fun i => i) (edsOf ps) := ⟨_, rfl⟩
  obtain ⟨K, hK⟩ : ∃ K, K = (iota k).filter fun x => !decide (nth m x = x) := ⟨_, rfl⟩
  have hK2 : K = (iota k).filter fun x => !decide (((hd x.toNat : Nat) : Int) = x) := by
    rw [hK]
    refine List.filter_congr fun x hx => ?_
    obtain ⟨x0, x1⟩ := iota_mem.mp hx
    have h1 := fm2 x.toNat (by omega)
    have h2 := fm1 x x0 x1
    rw [← hhd] at h1
    unfold fnL at h1
    rw [show ((x.toNat : Nat) : Int) = x by omega] at h1
    rw [show ((hd x.toNat : Nat) : Int) = nth m x by omega]
  have det := Dt.nb_det (k := k) (edsOf ps) (by rw [hk, hN]; exact eds_in ps) hd hhd K hK2
  have Kin : ∀ x ∈ K, 0 ≤ x ∧ x < k := fun x hx => by rw [hK] at hx; exact iota_mem.mp (List.mem_filter.mp hx).1
  have Kl : K.length ≤ 14 := by
    have := List.length_filter_le (fun x => !decide (nth m x = x)) (iota k)
    rw [iota_len, ← hK] at this
    omega
  obtain ⟨M, hM⟩ : ∃ M : List (List Int), M = K.map fun r => K.map fun c => ent T r.toNat c.toNat := ⟨_, rfl⟩
  have Ms : Sq K.length M := ⟨by rw [hM, List.length_map], fun l hl => by
    rw [hM] at hl
    obtain ⟨r, _, rfl⟩ := List.mem_map.mp hl
    rw [List.length_map]⟩
  have Me : ∀ r c, r < K.length → c < K.length → ent M r c = Dt.Rw (fun v => v) (edsOf ps) (nth K r).toNat (nth K c).toNat := fun r c hr hc => by
    have k1 := Kin _ (nth_mem (m := K) (i := (r : Nat)) (by omega) (by omega))
    have k2 := Kin _ (nth_mem (m := K) (i := (c : Nat)) (by omega) (by omega))
    have := t2 (nth K r).toNat (nth K c).toNat (by omega) (by omega)
    rw [zrs_ent k (by omega) (by omega), Int.zero_add] at this
    rw [← this, hM]
    unfold ent rowN nth
    simp [List.getD_eq_getElem?_getD, hr, hc]
  have hdet := determinant_ok (n := K.length) (by omega) Ms 64 (by decide) (Nat.lt_of_le_of_lt (fac_mono 64 (by decide) (by omega)) fac64) fun r c hr hc => by
    rw [Me r c hr hc]
    refine Nat.le_trans (Rw_abs _ _ _ _) ?_
    unfold edsOf
    rw [List.length_map, List.length_map]; omega
  have dfin : Dt.det K.length 0 (ent M) = (wayN ps : Int) := by
    rw [show (wayN ps : Int) = (Dt.nb k hd (fun i => i) (edsOf ps) : Int) by unfold wayN; rw [hk, hN, hhd], det]
    exact Dt.det_congr fun r j hr _ hj => Me r j hr (by omega)
  rw [dfin] at hdet
  have hr : rgOk (N.length : Int) := rgOk_of (by omega) (by omega)
  have oz : opMul (.ls [.int 0]) (.int (N.length : Int)) = some (.ol ((List.replicate k (0 : Int)).map D.int)) := by
    have e : ((N.length : Int)).toNat = k := by omega
    have h1 : (N.length : Int) < 9223372036854775808 := by omega
    have h2 : -9223372036854775808 ≤ (N.length : Int) := by omega
    have h3 : k ≤ lim := by rw [lim_eq]; omega
    have h4 : ∀ m : Nat, (List.replicate m [D.int 0]).flatten = (List.replicate m (0 : Int)).map D.int := by
      intro m
      induction m with
      | zero => rfl
      | succ m ih => simp only [List.replicate_succ, List.flatten_cons, ih, List.map_cons]; rfl
    simp [opMul, h1, h2, h3, h4, e, -List.map_replicate]
  have l1 : 1 ≤ lim := by rw [lim_eq]; omega
  have lc3 : ∀ x0 x2 x3 x4 x5 x6 x7 x8 x9 : D, lcL (gtN 8) tYesG f_ways_to_join_c3 [x0, .ls (N.map D.int), x2, x3, x4, x5, x6, x7, x8, x9] (N.map D.int) = .ok ((zrs k).map dO') := fun x0 x2 x3 x4 x5 x6 x7 x8 x9 => by
    have e : (zrs k).map dO' = N.map fun _ => dO' (List.replicate k 0) := by
      unfold zrs
      apply List.ext_getElem
      · simp [hk]
      · intro i h1 h2; simp
    rw [e]
    refine lcL_mapN _ fun x _ => ?_
    have e1 : eLst (aConsO (eC (.int 0)) (aNil)) [x0, .ls (N.map D.int), x2, x3, x4, x5, x6, x7, .int x, x9] = .ok (.ol [.int 0]) := by simp [l1]
    have e2 : eCall caLen (aCons (eVar 1) (aNil)) [x0, .ls (N.map D.int), x2, x3, x4, x5, x6, x7, .int x, x9] = .ok (.int (N.length : Int)) := by simp
    have z := eBin_okW (op := opMul) e1 e2 oz
    show (f_ways_to_join_c3 [x0, .ls (N.map D.int), x2, x3, x4, x5, x6, x7, .int x, x9]).bind kp = _
    unfold f_ways_to_join_c3
    rw [z]
    rfl
  have lc5 : ∀ x0 x1 x3 x4 x5 x6 x7 x8 : D, lcL (gtN 9) f_ways_to_join_c5t f_ways_to_join_c5 [x0, x1, .ls (m.map D.int), x3, x4, x5, x6, x7, x8, .un] ((iota k).map D.int) = .ok (K.map D.int) := fun x0 x1 x3 x4 x5 x6 x7 x8 => by
    rw [hK]
    refine lcL_filterN (iota k) fun i hi => ?_
    obtain ⟨i0, i1⟩ := iota_mem.mp hi
    have ea := nth_at (m := m) i0 (by omega)
    exact ⟨by simp [f_ways_to_join_c5t, ea], fun _ => by simp [f_ways_to_join_c5]⟩
  have lc7 : ∀ x0 x1 x2 x4 x6 x8 x9 : D, ∀ r ∈ K, lcL (gtN 6) tYesG f_ways_to_join_c7 [x0, x1, x2, .ol (T.map dO'), x4, .int r, x6, .ls (K.map D.int), x8, x9] (K.map D.int) = .ok ((K.map fun c => ent T r.toNat c.toNat).map D.int) := fun x0 x1 x2 x4 x6 x8 x9 r hr => by
    obtain ⟨r0, r1⟩ := Kin r hr
    rw [List.map_map]
    refine lcL_mapN K fun c hc => ?_
    obtain ⟨c0, c1⟩ := Kin c hc
    have a1 := at_rowB (T := T) r0 (by rw [t1.len]; exact r1)
    have a2 := at_numI (l := rowN T r.toNat) c0 (by rw [t1.rowl (by omega)]; exact c1)
    simp [f_ways_to_join_c7, brws_O', a1, a2, ent]
  have b3 : K.length ≤ lim := by rw [lim_eq]; omega
  have lc8 : ∀ x0 x1 x2 x4 x5 x6 x8 x9 : D, lcL (gtN 5) tYesG f_ways_to_join_c8 [x0, x1, x2, .ol (T.map dO'), x4, x5, x6, .ls (K.map D.int), x8, x9] (K.map D.int) = .ok (M.map dO') := fun x0 x1 x2 x4 x5 x6 x8 x9 => by
    rw [hM, List.map_map]
    refine lcL_mapN K fun r hr => ?_
    have := lc7 x0 x1 x2 x4 .un x8 x9 r hr
    simp [f_ways_to_join_c8, this, b3, dO']
  have b4 : N.length ≤ lim := by rw [lim_eq]; omega
  have h3 : (N.length : Int) ≤ 1000000 := by omega
  have b5 : k ≤ lim := by rw [lim_eq]; omega
  have f1 := fO M
  have et : rng 0 ((N.length : Int)).toNat = (iota k).map D.int := by rw [show ((N.length : Int)).toNat = k by omega, rng_iota]
  have tl := t1.len
  have Ml : M.length ≤ lim := by rw [Ms.len]; exact b3
  have zl : (zrs k).length ≤ lim := by rw [(zrs_sq k).len]; exact b5
  have fz : nods (T.map dO') = true := (fO T).2
  have st1 : sAsgF 1 (eSortedSet (eBin opAdd (eLc (iSeq (eVar 0)) [4] (gtN 4) (tYesG) f_ways_to_join_c1) (eLc (iSeq (eVar 0)) [4] (gtN 4) (tYesG) f_ways_to_join_c2))) [.ls (ps.map dP), .un, .un, .un, .un, .un, .un, .un, .un, .un] = .nx [.ls (ps.map dP), .ls (N.map D.int), .un, .un, .un, .un, .un, .un, .un, .un] := by
    generalize eSortedSet (eBin opAdd (eLc (iSeq (eVar 0)) [4] (gtN 4) (tYesG) f_ways_to_join_c1) (eLc (iSeq (eVar 0)) [4] (gtN 4) (tYesG) f_ways_to_join_c2)) = SS at n1' ⊢
    simp [n1']
  generalize hNL : (N.length : Int) = NL at *
  have st2 : sAsgF 2 (eLR1 (eCall caLen (aCons (eVar 1) (aNil)))) [.ls (ps.map dP), .ls (N.map D.int), .un, .un, .un, .un, .un, .un, .un, .un] = .nx [.ls (ps.map dP), .ls (N.map D.int), .ls ((iota k).map D.int), .un, .un, .un, .un, .un, .un, .un] := by
    simp [hNL, hr, h3, et]
  have st3 : sAsg 3 (eLc (iSeq (eVar 1)) [8] (gtN 8) (tYesG) f_ways_to_join_c3) [.ls (ps.map dP), .ls (N.map D.int), .ls ((iota k).map D.int), .un, .un, .un, .un, .un, .un, .un] = .nx [.ls (ps.map dP), .ls (N.map D.int), .ls ((iota k).map D.int), .ol ((zrs k).map dO'), .un, .un, .un, .un, .un, .un] := by
    simp [lc3, b4]
  have st4 : sFor (iSeq (eVar 0)) (gtN 4) f_ways_to_join_l1 [.ls (ps.map dP), .ls (N.map D.int), .ls ((iota k).map D.int), .ol ((zrs k).map dO'), .un, .un, .un, .un, .un, .un] = .nx [.ls (ps.map dP), .ls (N.map D.int), .ls (m.map D.int), .ol (T.map dO'), z4, z5, z6, .un, .un, .un] := by
    simp [t3]
  have st5 : sAsgF 7 (eLc (iRg1 (aCons (eCall caLen (aCons (eVar 1) (aNil))) (aNil))) [9] (gtN 9) (f_ways_to_join_c5t) f_ways_to_join_c5) [.ls (ps.map dP), .ls (N.map D.int), .ls (m.map D.int), .ol (T.map dO'), z4, z5, z6, .un, .un, .un] = .nx [.ls (ps.map dP), .ls (N.map D.int), .ls (m.map D.int), .ol (T.map dO'), z4, z5, z6, .ls (K.map D.int), .un, .un] := by
    simp [hNL, hr, et, lc5, b5]
  have st6 : sRet (eOwn g_determinant (aCons (eLc (iSeq (eVar 7)) [5] (gtN 5) (tYesG) f_ways_to_join_c8) (aNil))) [.ls (ps.map dP), .ls (N.map D.int), .ls (m.map D.int), .ol (T.map dO'), z4, z5, z6, .ls (K.map D.int), .un, .un] = .rt (.int (wayN ps)) := by
    simp [lc8, b3, f1, hdet, Ml]
  have all : f_ways_to_join [.ls (ps.map dP), .un, .un, .un, .un, .un, .un, .un, .un, .un] = .rt (.int (wayN ps)) := seq_to st1 (seq_to st2 (seq_to st3 (seq_to st4 (seq_to st5 st6))))
  unfold g_ways_to_join runF
  rw [show ([.ls (ps.map dP)] ++ List.replicate (10 - [D.ls (ps.map dP)].length) .un : List D) = [.ls (ps.map dP), .un, .un, .un, .un, .un, .un, .un, .un, .un] from rfl, all]
theorem ways_call {p : Nat} (hp : p ≤ 14) {ps : List (Int × Int)} (hE : EndsOk p ps) (hl : ps.length ≤ 30) (hne : ∀ t ∈ ps, t.1 ≠ t.2) : calD g_ways_to_join [.bo (ps.map dP)] = .ok (.int (wayN ps)) := by
  have h := ways_ok hp hE hl hne
  rw [calD_bo (by simp) (by simp)]
  simp [h]
end Lw
end

noncomputable section
namespace Lw
open DL L2 TL
section
variable {p : Nat} {ts : List (Int × Int)} {L : List Int}
def chain (p : Nat) (ts : List (Int × Int)) : List Int → List Int → Prop
  | _, [] => True
  | K, t :: Y => ¬ Conn (tiesAt ts K) (tieAt ts t).1 (tieAt ts t).2 ∧ chain p ts (K ++ [t]) Y
theorem chain_ind (hE : EndsOk p ts) : ∀ (Y J K : List Int), Ind p ts J → InT ts.length Y → (∀ a b, Conn (tiesAt ts K) a b ↔ Conn (tiesAt ts J) a b) → (chain p ts K Y ↔ Ind p ts (J ++ Y))
  | [], J, K, hJ, _, _ => by rw [List.append_nil]; exact ⟨fun _ => hJ, fun _ => trivial⟩
  | t :: Y, J, K, hJ, hY, hc => by
    have hY' : InT ts.length Y := fun x hx => hY x (List.mem_cons_of_mem _ hx)
    have t0 := hY t (List.mem_cons_self ..)
    have hc' : ∀ a b, Conn (tiesAt ts (K ++ [t])) a b ↔ Conn (tiesAt ts (J ++ [t])) a b := fun a b => by
      rw [tiesAt_snoc, tiesAt_snoc, conn_snoc, conn_snoc, hc, hc, hc, hc, hc]
    unfold chain
    rw [show J ++ t :: Y = (J ++ [t]) ++ Y by simp]
    constructor
    · rintro ⟨h1, h2⟩
      exact (chain_ind hE Y (J ++ [t]) (K ++ [t]) (hJ.snoc hE t0 fun z => h1 ((hc _ _).mpr z)) hY' hc').mp h2
    · intro h
      have h1 : Ind p ts (J ++ [t]) := h.sub hE (h.nd.sublist (List.sublist_append_left ..)) fun x hx => List.mem_append_left _ hx
      exact ⟨fun z => ind_conn hE h1 ((hc _ _).mp z), (chain_ind hE Y (J ++ [t]) (K ++ [t]) h1 hY' hc').mpr h⟩
theorem tie_ends (hE : EndsOk p ts) {t : Int} (h : 0 ≤ t ∧ t < ts.length) : (0 ≤ (tieAt ts t).1 ∧ (tieAt ts t).1 < p) ∧ 0 ≤ (tieAt ts t).2 ∧ (tieAt ts t).2 < p := hE _ (tie_at h.1 h.2).2
theorem lay_l1 (hp2 : p ≤ 1000) (hE : EndsOk p ts) {ins outs : List Int} (x1 x2 x8 x9 x10 x11 : D) : ∀ (Y K : List Int) (y6 y7 : D), InT ts.length Y → InT ts.length K →
    (chain p ts K (Y.filter fun x => decide (x ∈ ins)) ∧ ∃ z6 z7, forL (gtN 6) f_layer_ways_l1 (Y.map D.int) [.ob 14 [.int p, .ls (ts.map dP)], x1, x2, .tp (ins.map D.int), .tp (outs.map D.int), .ls ((marksL p ts K).map D.int), y6, y7, x8, x9, x10, x11] = .nx [.ob 14 [.int p, .ls (ts.map dP)], x1, x2, .tp (ins.map D.int), .tp (outs.map D.int), .ls ((marksL p ts (K ++ Y.filter fun x => decide (x ∈ ins))).map D.int), z6, z7, x8, x9, x10, x11]) ∨
    (¬ chain p ts K (Y.filter fun x => decide (x ∈ ins)) ∧ forL (gtN 6) f_layer_ways_l1 (Y.map D.int) [.ob 14 [.int p, .ls (ts.map dP)], x1, x2, .tp (ins.map D.int), .tp (outs.map D.int), .ls ((marksL p ts K).map D.int), y6, y7, x8, x9, x10, x11] = .rt (.int 0))
  | [], K, y6, y7, _, _ => .inl ⟨trivial, y6, y7, by simp [forL]⟩
  | t :: Y, K, y6, y7, hY, hK => by
    have hY' : InT ts.length Y := fun x hx => hY x (List.mem_cons_of_mem _ hx)
    obtain ⟨t0, t1⟩ := hY t (List.mem_cons_self ..)
    obtain ⟨e1, e2⟩ := tie_at t0 t1
    obtain ⟨⟨a0, a1⟩, b0, b1⟩ := hE _ e2
    have ml := marksL_len p ts K
    by_cases c : t ∈ ins
    · have hjo := heads_joined_ok (marksL p ts K) (by omega) (tieAt ts t) a0 (by omega) b0 (by omega)
      simp only [dP] at hjo
      rw [List.filter_cons_of_pos (by simp [c])]
      have hs := (hj_same (m := marksL p ts K) (t := tieAt ts t) b0 (by omega)).trans (testL hE hK ⟨t0, t1⟩)
      have hK' : InT ts.length (K ++ [t]) := fun x hx => by
        rcases List.mem_append.mp hx with z | z
        · exact hK x z
        · rw [List.mem_singleton.mp z]; exact ⟨t0, t1⟩
      by_cases d : hj (marksL p ts K) (tieAt ts t) = marksL p ts K
      · refine .inr ⟨fun z => ?_, ?_⟩
        · exact z.1 (hs.mp d)
        · rw [List.map_cons, forL_cons]
          simp [f_layer_ways_l1, c, e1, dP, hjo, d]
      · have hjo' := hjo
        rcases lay_l1 hp2 hE (ins := ins) (outs := outs) x1 x2 x8 x9 x10 x11 Y (K ++ [t]) (.int t) (.ls ((hj (marksL p ts K) (tieAt ts t)).map D.int)) hY' hK' with ⟨h1, z6, z7, h2⟩ | ⟨h1, h2⟩
        · refine .inl ⟨⟨?_, h1⟩, z6, z7, ?_⟩
          · exact fun z => d (hs.mpr z)
          · rw [show K ++ t :: (Y.filter fun x => decide (x ∈ ins)) = (K ++ [t]) ++ Y.filter fun x => decide (x ∈ ins) by simp, ← h2, marksL_snoc, List.map_cons, forL_cons]
            simp [f_layer_ways_l1, c, e1, dP, hjo, d]
        · refine .inr ⟨fun z => h1 z.2, ?_⟩
          rw [← h2, marksL_snoc, List.map_cons, forL_cons]
          simp [f_layer_ways_l1, c, e1, dP, hjo, d]
    · rw [List.filter_cons_of_neg (by simp [c])]
      rcases lay_l1 hp2 hE (ins := ins) (outs := outs) x1 x2 x8 x9 x10 x11 Y K (.int t) y7 hY' hK with ⟨h1, z6, z7, h2⟩ | ⟨h1, h2⟩
      · refine .inl ⟨h1, z6, z7, ?_⟩
        rw [← h2, List.map_cons, forL_cons]
        simp [f_layer_ways_l1, c]
      · refine .inr ⟨h1, ?_⟩
        rw [← h2, List.map_cons, forL_cons]
        simp [f_layer_ways_l1, c]
def takeL (Dm : List Int) (ts : List (Int × Int)) (outs : List Int) (x : Int) : Bool := !decide (nth Dm (tieAt ts x).1 = nth Dm (tieAt ts x).2) && !decide (x ∈ outs)
def prL (Dm : List Int) (ts : List (Int × Int)) (x : Int) : Int × Int := (nth Dm (tieAt ts x).1, nth Dm (tieAt ts x).2)
theorem inT_app {n : Nat} {K Y : List Int} (h1 : InT n K) (h2 : InT n Y) : InT n (K ++ Y) := fun x hx => (List.mem_append.mp hx).elim (h1 x) (h2 x)
theorem lay_l2 (hp2 : p ≤ 1000) (hE : EndsOk p ts) {Dm outs : List Int} (hD : Dm.length = p) (x1 x2 x3 x7 : D) : ∀ (Y K : List Int) (ps : List (Int × Int)) (y6 y10 y11 : D), InT ts.length Y → ps.length + Y.length ≤ 1000 →
    ∃ z6 z10 z11, forL (gtN 6) f_layer_ways_l2 (Y.map D.int) [.ob 14 [.int p, .ls (ts.map dP)], x1, x2, x3, .tp (outs.map D.int), .ls (Dm.map D.int), y6, x7, .ol (ps.map dP), .ls ((marksL p ts K).map D.int), y10, y11] =
      .nx [.ob 14 [.int p, .ls (ts.map dP)], x1, x2, x3, .tp (outs.map D.int), .ls (Dm.map D.int), z6, x7, .ol ((ps ++ (Y.filter (takeL Dm ts outs)).map (prL Dm ts)).map dP), .ls ((marksL p ts (K ++ Y.filter (takeL Dm ts outs))).map D.int), z10, z11]
  | [], K, ps, y6, y10, y11, _, _ => ⟨y6, y10, y11, by simp [forL]⟩
  | t :: Y, K, ps, y6, y10, y11, hY, hl => by
    have hY' : InT ts.length Y := fun x hx => hY x (List.mem_cons_of_mem _ hx)
    obtain ⟨t0, t1⟩ := hY t (List.mem_cons_self ..)
    obtain ⟨e1, e2⟩ := tie_at t0 t1
    obtain ⟨⟨a0, a1⟩, b0, b1⟩ := hE _ e2
    have ml := marksL_len p ts K
    have hjo := heads_joined_ok (marksL p ts K) (by omega) (tieAt ts t) a0 (by omega) b0 (by omega)
    simp only [dP] at hjo
    have ea := nth_at (m := Dm) a0 (by omega)
    have eb := nth_at (m := Dm) b0 (by omega)
    rw [List.length_cons] at hl
    have bp : ps.length ≤ lim := by rw [lim_eq]; omega
    have bp1 : ps.length < lim := by rw [lim_eq]; omega
    have bp2 : ps.length + 1 ≤ lim := by rw [lim_eq]; omega
    by_cases c : takeL Dm ts outs t = true
    · have c1 : ¬ nth Dm (tieAt ts t).1 = nth Dm (tieAt ts t).2 ∧ t ∉ outs := by unfold takeL at c; simpa using c
      rw [List.filter_cons_of_pos c]
      obtain ⟨z6, z10, z11, ih⟩ := lay_l2 hp2 hE (outs := outs) hD x1 x2 x3 x7 Y (K ++ [t]) (ps ++ [prL Dm ts t]) (.int t) (.int (nth Dm (tieAt ts t).1)) (.int (nth Dm (tieAt ts t).2)) hY' (by simp; omega)
      refine ⟨z6, z10, z11, ?_⟩
      rw [show K ++ t :: (Y.filter (takeL Dm ts outs)) = (K ++ [t]) ++ Y.filter (takeL Dm ts outs) by simp, show ps ++ (t :: Y.filter (takeL Dm ts outs)).map (prL Dm ts) = (ps ++ [prL Dm ts t]) ++ (Y.filter (takeL Dm ts outs)).map (prL Dm ts) by simp, ← ih, marksL_snoc, List.map_cons, forL_cons]
      simp [f_layer_ways_l2, dP, prL, e1, ea, eb, c1.1, c1.2, hjo, bp, bp1, bp2]
    · rw [List.filter_cons_of_neg c]
      obtain ⟨z6, z10, z11, ih⟩ := lay_l2 hp2 hE (outs := outs) hD x1 x2 x3 x7 Y K ps (.int t) (.int (nth Dm (tieAt ts t).1)) (.int (nth Dm (tieAt ts t).2)) hY' (by omega)
      refine ⟨z6, z10, z11, ?_⟩
      rw [← ih, List.map_cons, forL_cons]
      by_cases c1 : nth Dm (tieAt ts t).1 = nth Dm (tieAt ts t).2
      · simp [f_layer_ways_l2, dP, e1, ea, eb, c1]
      · have c2 : t ∈ outs := Classical.byContradiction fun z => c (by unfold takeL; simp [c1, z])
        simp [f_layer_ways_l2, dP, e1, ea, eb, c1, c2]
theorem lay_l3 (hE : EndsOk p ts) {Lf : List Int} (hL : Lf.length = p) (x1 x2 x3 x4 x5 x7 x8 x10 x11 : D) : ∀ (Y : List Int) (y6 : D), InT ts.length Y →
    ((∀ x ∈ Y, nth Lf (tieAt ts x).1 = nth Lf (tieAt ts x).2) ∧ ∃ z6, forL (gtN 6) f_layer_ways_l3 (Y.map D.int) [.ob 14 [.int p, .ls (ts.map dP)], x1, x2, x3, x4, x5, y6, x7, x8, .ls (Lf.map D.int), x10, x11] = .nx [.ob 14 [.int p, .ls (ts.map dP)], x1, x2, x3, x4, x5, z6, x7, x8, .ls (Lf.map D.int), x10, x11]) ∨
    ((∃ x ∈ Y, nth Lf (tieAt ts x).1 ≠ nth Lf (tieAt ts x).2) ∧ forL (gtN 6) f_layer_ways_l3 (Y.map D.int) [.ob 14 [.int p, .ls (ts.map dP)], x1, x2, x3, x4, x5, y6, x7, x8, .ls (Lf.map D.int), x10, x11] = .rt (.int 0))
  | [], y6, _ => .inl ⟨(fun _ h => nomatch h), y6, by simp [forL]⟩
  | t :: Y, y6, hY => by
    have hY' : InT ts.length Y := fun x hx => hY x (List.mem_cons_of_mem _ hx)
    obtain ⟨t0, t1⟩ := hY t (List.mem_cons_self ..)
    obtain ⟨e1, e2⟩ := tie_at t0 t1
    obtain ⟨⟨a0, a1⟩, b0, b1⟩ := hE _ e2
    have ea := nth_at (m := Lf) a0 (by omega)
    have eb := nth_at (m := Lf) b0 (by omega)
    by_cases c : nth Lf (tieAt ts t).1 = nth Lf (tieAt ts t).2
    · have st : forL (gtN 6) f_layer_ways_l3 ((t :: Y).map D.int) [.ob 14 [.int p, .ls (ts.map dP)], x1, x2, x3, x4, x5, y6, x7, x8, .ls (Lf.map D.int), x10, x11] = forL (gtN 6) f_layer_ways_l3 (Y.map D.int) [.ob 14 [.int p, .ls (ts.map dP)], x1, x2, x3, x4, x5, .int t, x7, x8, .ls (Lf.map D.int), x10, x11] := by
        rw [List.map_cons, forL_cons]
        simp [f_layer_ways_l3, dP, e1, ea, eb, c]
      rw [st]
      rcases lay_l3 hE hL x1 x2 x3 x4 x5 x7 x8 x10 x11 Y (.int t) hY' with ⟨h1, h2⟩ | ⟨⟨x, hx, h1⟩, h2⟩
      · refine .inl ⟨fun x hx => ?_, h2⟩
        rcases List.mem_cons.mp hx with rfl | hx
        · exact c
        · exact h1 x hx
      · exact .inr ⟨⟨x, List.mem_cons_of_mem _ hx, h1⟩, h2⟩
    · refine .inr ⟨⟨t, List.mem_cons_self .., c⟩, ?_⟩
      rw [List.map_cons, forL_cons]
      simp [f_layer_ways_l3, dP, e1, ea, eb, c]
end
end Lw
end

noncomputable section
namespace Lw
open DL L2 TL
section
variable {p : Nat} {ts : List (Int × Int)} {L : List Int}
theorem conn_eqv {A B : List Int} (h1 : ∀ x ∈ A, Conn (tiesAt ts B) (tieAt ts x).1 (tieAt ts x).2) (h2 : ∀ x ∈ B, Conn (tiesAt ts A) (tieAt ts x).1 (tieAt ts x).2) (a b : Int) : Conn (tiesAt ts A) a b ↔ Conn (tiesAt ts B) a b := ⟨cl_of h1, cl_of h2⟩
def eT (ts : List (Int × Int)) (x : Int) : Dt.Ed := tn (tieAt ts x)
theorem eT_ok (hE : EndsOk p ts) {x : Int} (h : 0 ≤ x ∧ x < ts.length) : (eT ts x).1 < p ∧ (eT ts x).2 < p ∧ (((eT ts x).1 : Nat) : Int) = (tieAt ts x).1 ∧ (((eT ts x).2 : Nat) : Int) = (tieAt ts x).2 := by
  obtain ⟨a, b⟩ := tie_ends hE h
  unfold eT tn
  dsimp only
  omega
theorem marksL_app (p : Nat) (ts : List (Int × Int)) (K Y : List Int) : marksL p ts (K ++ Y) = hjF (Y.map (tieAt ts)) (marksL p ts K) := by
  unfold marksL hjF
  rw [List.foldl_append, List.foldl_map]
  congr 1
  funext m t
  exact (hj_step m (tieAt ts t)).symm
theorem marks_rng (hE : EndsOk p ts) {l : List Int} (hl : InT ts.length l) {i : Int} (i0 : 0 ≤ i) (i1 : i < p) : 0 ≤ nth (marksL p ts l) i ∧ nth (marksL p ts l) i < p := by
  rw [marksL_mk]
  have := mk_len p (l.map (tieAt ts))
  exact mk_range p _ _ rfl (tiesAt_ok hE hl) _ (nth_mem i0 (by rw [mk_len]; exact i1))
theorem marks_fz (hE : EndsOk p ts) {K Y : List Int} (hK : InT ts.length K) (hY : InT ts.length Y) : ∀ i, i < p → fnL (marksL p ts (K ++ Y)) i = Dt.fz (fnL (marksL p ts K)) (Y.map (eT ts)) i := fun i hi => by
  have := (fn_hjF (k := p) (Y.map (tieAt ts)) (m := marksL p ts K) (marksL_len ..) (fun i i0 i1 => marks_rng hE hK i0 i1) (tiesAt_ok hE hY) (u := fnL (marksL p ts K)) fun _ _ => rfl).2 i hi
  rw [marksL_app, this, List.map_map]
  rfl
theorem marks_idem (hE : EndsOk p ts) {K : List Int} (hK : InT ts.length K) {i : Int} (i0 : 0 ≤ i) (i1 : i < p) : nth (marksL p ts K) (nth (marksL p ts K) i) = nth (marksL p ts K) i := by
  have h := (fn_hjF (k := p) (K.map (tieAt ts)) (m := iota p) (by rw [iota_len]) (fun i i0 i1 => by rw [nth_iota i0 i1]; exact ⟨i0, i1⟩) (tiesAt_ok hE hK) (u := fun i => i) fun i hi => by unfold fnL; rw [nth_iota (by omega) (by omega)]; rfl).2
  have e : marksL p ts K = hjF (K.map (tieAt ts)) (iota p) := marksL_app p ts [] K
  rw [← e] at h
  have r := marks_rng hE hK i0 i1
  have r2 := marks_rng hE hK r.1 r.2
  have h1 := h i.toNat (by omega)
  have h2 := h (nth (marksL p ts K) i).toNat (by omega)
  have idm := Dt.fz_idem ((K.map (tieAt ts)).map tn) (u := fun i => i) (fun _ => rfl) i.toNat
  unfold fnL at h1 h2
  rw [show ((i.toNat : Nat) : Int) = i by omega] at h1
  rw [show (((nth (marksL p ts K) i).toNat : Nat) : Int) = nth (marksL p ts K) i by omega, h1] at h2
  rw [idm] at h2
  omega
theorem fnL_eq (hE : EndsOk p ts) {K : List Int} (hK : InT ts.length K) {i j : Int} (i0 : 0 ≤ i) (i1 : i < p) (j0 : 0 ≤ j) (j1 : j < p) : fnL (marksL p ts K) i.toNat = fnL (marksL p ts K) j.toNat ↔ nth (marksL p ts K) i = nth (marksL p ts K) j := by
  have r := marks_rng hE hK i0 i1
  have r2 := marks_rng hE hK j0 j1
  unfold fnL
  rw [show ((i.toNat : Nat) : Int) = i by omega, show ((j.toNat : Nat) : Int) = j by omega]
  omega
theorem fnL_conn (hE : EndsOk p ts) {K : List Int} (hK : InT ts.length K) {i j : Nat} (hi : i < p) (hj : j < p) : fnL (marksL p ts K) i = fnL (marksL p ts K) j ↔ Conn (tiesAt ts K) i j := by
  rw [← nthL p ts hE K hK i j (by omega) (by omega) (by omega) (by omega), ← fnL_eq hE hK (by omega) (by omega) (by omega) (by omega)]
  rfl
theorem idx_inj {N : List Int} (nd : N.Nodup) {i j : Nat} (hi : i < N.length) (hj : j < N.length) (h : nth N i = nth N j) : i = j := by
  unfold nth at h
  rw [List.getD_eq_getElem?_getD, List.getD_eq_getElem?_getD] at h
  rw [show ((i : Int)).toNat = i from rfl, show ((j : Int)).toNat = j from rfl, List.getElem?_eq_getElem hi, List.getElem?_eq_getElem hj] at h
  simp only [Option.getD_some] at h
  exact (List.getElem?_inj hi nd).mp (by rw [List.getElem?_eq_getElem hi, List.getElem?_eq_getElem hj, h])
theorem pair_way (hp : 1 ≤ p) (hE : EndsOk p ts) {K Y : List Int} (hK : InT ts.length K) (hY : InT ts.length Y) :
    Dt.nb (p - 1) (Dt.fz (fnL (marksL p ts K)) (Y.map (eT ts))) (fnL (marksL p ts K)) (Y.map (eT ts)) = wayN (Y.map (prL (marksL p ts K) ts)) := by
  obtain ⟨Dm, hDm⟩ : ∃ Dm, Dm = marksL p ts K := ⟨_, rfl⟩
  obtain ⟨ps, hps⟩ : ∃ ps, ps = Y.map (prL Dm ts) := ⟨_, rfl⟩
  obtain ⟨N, hN⟩ : ∃ N, N = namesOf ps := ⟨_, rfl⟩
  have idm : ∀ i : Int, 0 ≤ i → i < p → nth Dm (nth Dm i) = nth Dm i := fun i i0 i1 => by rw [hDm]; exact marks_idem hE hK i0 i1
  have rng : ∀ i : Int, 0 ≤ i → i < p → 0 ≤ nth Dm i ∧ nth Dm i < p := fun i i0 i1 => by rw [hDm]; exact marks_rng hE hK i0 i1
  have Nm : ∀ z, z ∈ N ↔ ∃ x ∈ Y, z = nth Dm (tieAt ts x).1 ∨ z = nth Dm (tieAt ts x).2 := fun z => by
    rw [hN, names_mem, hps]
    constructor
    · rintro ⟨t, ht, e⟩
      obtain ⟨x, hx, rfl⟩ := List.mem_map.mp ht
      exact ⟨x, hx, e⟩
    · rintro ⟨x, hx, e⟩
      exact ⟨_, List.mem_map.mpr ⟨x, hx, rfl⟩, e⟩
  have Nd : N.Nodup := by rw [hN]; exact rise_nodup (sset_rise _)
  have Nr : ∀ z ∈ N, 0 ≤ z ∧ z < p ∧ nth Dm z = z := fun z hz => by
    obtain ⟨x, hx, e⟩ := (Nm z).mp hz
    obtain ⟨a, b⟩ := tie_ends hE (hY x hx)
    rcases e with rfl | rfl
    · have := rng _ a.1 a.2; exact ⟨this.1, this.2, idm _ a.1 a.2⟩
    · have := rng _ b.1 b.2; exact ⟨this.1, this.2, idm _ b.1 b.2⟩
  have ψN : ∀ j : Nat, j < N.length → nth N j ∈ N := fun j hj => nth_mem (by omega) (by omega)
  have uψ : ∀ j : Nat, j < N.length → fnL Dm (nth N j).toNat = (nth N j).toNat := fun j hj => by
    obtain ⟨a, b, c⟩ := Nr _ (ψN j hj)
    unfold fnL
    rw [show (((nth N j).toNat : Nat) : Int) = nth N j by omega, c]
  have hsim : ∀ i j : Nat, i < N.length → j < N.length → (i = j ↔ fnL Dm (nth N i).toNat = fnL Dm (nth N j).toNat) := fun i j hi hj => by
    rw [uψ i hi, uψ j hj]
    have a := Nr _ (ψN i hi)
    have b := Nr _ (ψN j hj)
    constructor
    · intro e; rw [e]
    · intro e; exact idx_inj Nd hi hj (by omega)
  obtain ⟨l, hl⟩ : ∃ l : List (Dt.Ed × Dt.Ed), l = Y.map fun x => (eT ts x, tn (ixP N (prL Dm ts x))) := ⟨_, rfl⟩
  have l1 : l.map (·.1) = Y.map (eT ts) := by rw [hl, List.map_map]; rfl
  have l2 : l.map (·.2) = edsOf ps := by
    rw [hl, List.map_map]; unfold edsOf; rw [← hN, hps, List.map_map, List.map_map]; rfl
  have hx : ∀ x ∈ l, x.2.1 < N.length ∧ x.2.2 < N.length ∧ fnL Dm (nth N x.2.1).toNat = fnL Dm x.1.1 ∧ fnL Dm (nth N x.2.2).toNat = fnL Dm x.1.2 := fun x hx => by
    rw [hl] at hx
    obtain ⟨y, hy, rfl⟩ := List.mem_map.mp hx
    have m1 : nth Dm (tieAt ts y).1 ∈ N := (Nm _).mpr ⟨y, hy, .inl rfl⟩
    have m2 : nth Dm (tieAt ts y).2 ∈ N := (Nm _).mpr ⟨y, hy, .inr rfl⟩
    obtain ⟨i1, i2⟩ := idx_nth m1
    obtain ⟨j1, j2⟩ := idx_nth m2
    obtain ⟨e1, e2, e3, e4⟩ := eT_ok hE (hY y hy)
    have t1 : (tn (ixP N (prL Dm ts y))).1 = N.idxOf (nth Dm (tieAt ts y).1) := rfl
    have t2 : (tn (ixP N (prL Dm ts y))).2 = N.idxOf (nth Dm (tieAt ts y).2) := rfl
    dsimp only
    rw [t1, t2]
    refine ⟨by omega, by omega, ?_, ?_⟩
    · rw [uψ _ (by omega), i2]
      unfold fnL
      rw [e3]
    · rw [uψ _ (by omega), j2]
      unfold fnL
      rw [e4]
  have eo := eds_in ps
  rw [← hN] at eo
  obtain ⟨o1, o2⟩ := Dt.fz_out (edsOf ps) (u := fun i => i) (k := N.length) rfl (fun _ h => h) eo
  have := Dt.nb_tr (p - 1) N.length (fun j => (nth N j).toNat) (fun j => j < N.length) (Dt.fz (fnL Dm) (Y.map (eT ts))) (Dt.fz (fun i => i) (edsOf ps)) (fun j hj => by
      have := Nr _ (ψN j hj)
      omega) (fun j hj => by omega) (fun i j hi hj => by
      have := Dt.fz_sim (fun j => (nth N j).toNat) (fun j => j < N.length) l (u := fnL Dm) (u' := fun i => i) hsim hx i j hi hj
      rw [l1, l2] at this
      exact this) l (u := fnL Dm) (u' := fun i => i) hsim hx (fun i hi ni j hj e => by
      have hik : i = N.length := by omega
      subst hik
      rw [o1] at e
      by_cases c : j < N.length
      · have := o2 j c; omega
      · omega) fun i hi => by
      by_cases c : nth Dm i ∈ N
      · obtain ⟨i1, i2⟩ := idx_nth c
        refine .inl ⟨N.idxOf (nth Dm i), by omega, ?_⟩
        have : fnL Dm i = fnL Dm (nth N (N.idxOf (nth Dm i) : Nat)).toNat := by rw [uψ _ (by omega), i2]; rfl
        exact ⟨this, Dt.fz_cong _ this⟩
      · refine .inr fun j hj e => (Dt.fz_alone (Y.map (eT ts)) (u := fnL Dm) (i := i) (fun e he => ?_) j e.symm).symm
        obtain ⟨y, hy, rfl⟩ := List.mem_map.mp he
        obtain ⟨e1, e2, e3, e4⟩ := eT_ok hE (hY y hy)
        have r0 := rng i (by omega) (by omega)
        have r1 := rng (tieAt ts y).1 (by omega) (by omega)
        have r2 := rng (tieAt ts y).2 (by omega) (by omega)
        constructor
        · intro z
          unfold fnL at z
          rw [e3] at z
          exact c ((Nm _).mpr ⟨y, hy, .inl (by omega)⟩)
        · intro z
          unfold fnL at z
          rw [e4] at z
          exact c ((Nm _).mpr ⟨y, hy, .inr (by omega)⟩)
  rw [l1, l2] at this
  rw [← hDm, this, ← hps]
  unfold wayN
  rw [← hN]
theorem lay_zero (hE : EndsOk p ts) {ins outs : List Int} (hi : InT ts.length ins) (hd : ∀ x ∈ ins, x ∉ outs) (l : Int) {J0 : List Int} (hJ0 : ∀ x, x ∈ J0 ↔ x ∈ lowL ts.length L l)
    (hc : ¬ chain p ts J0 (insL' ts.length L ins l)) : lwL p ts L ins outs l = 0 := by
  obtain ⟨j1, j2, j3⟩ := j_ok (p := p) (ts := ts) (L := L) hE l
  have iI : InT ts.length (insL' ts.length L ins l) := fun x hx => lay_in _ _ _ x (List.mem_filter.mp hx).1
  rw [lw_free hE hi hd l]
  refine nS_false fun S _ => ?_
  rw [← Bool.not_eq_true, joinsB_iff]
  rintro ⟨h, _⟩
  refine hc ((chain_ind hE _ (jL p ts L l) J0 j1 iI (conn_eqv (fun x hx => j3 x ((hJ0 x).mp hx)) fun x hx => conn_at ((hJ0 x).mpr (j2 x hx)))).mpr ?_)
  exact h.sub hE (h.nd.sublist (List.sublist_append_left ..)) fun x hx => List.mem_append_left _ hx
theorem lay_val (hp : 1 ≤ p) (hE : EndsOk p ts) {ins outs : List Int} (hi : InT ts.length ins) (hd : ∀ x ∈ ins, x ∉ outs) (l : Int) {J0 : List Int} (hJ0 : ∀ x, x ∈ J0 ↔ x ∈ lowL ts.length L l)
    (hc : chain p ts J0 (insL' ts.length L ins l)) {Dm Y2 Lf : List Int} (hDm : Dm = marksL p ts (J0 ++ insL' ts.length L ins l)) (hY2 : Y2 = (layL ts.length L l).filter (takeL Dm ts outs)) (hLf : Lf = marksL p ts ((J0 ++ insL' ts.length L ins l) ++ Y2)) :
    ((∃ x ∈ layL ts.length L l, nth Lf (tieAt ts x).1 ≠ nth Lf (tieAt ts x).2) → lwL p ts L ins outs l = 0) ∧
    ((∀ x ∈ layL ts.length L l, nth Lf (tieAt ts x).1 = nth Lf (tieAt ts x).2) → lwL p ts L ins outs l = wayN (Y2.map (prL Dm ts))) := by
  obtain ⟨j1, j2, j3⟩ := j_ok (p := p) (ts := ts) (L := L) hE l
  obtain ⟨I, hI⟩ : ∃ I, I = insL' ts.length L ins l := ⟨_, rfl⟩
  rw [← hI] at hc hDm hLf
  have iI : InT ts.length I := fun x hx => by rw [hI] at hx; exact lay_in _ _ _ x (List.mem_filter.mp hx).1
  have iJ0 : InT ts.length J0 := fun x hx => low_in _ _ _ x ((hJ0 x).mp hx)
  have iK : InT ts.length (J0 ++ I) := inT_app iJ0 iI
  have iY2 : InT ts.length Y2 := fun x hx => by rw [hY2] at hx; exact lay_in _ _ _ x (List.mem_filter.mp hx).1
  have c0 : ∀ a b, Conn (tiesAt ts J0) a b ↔ Conn (tiesAt ts (jL p ts L l)) a b := conn_eqv (fun x hx => j3 x ((hJ0 x).mp hx)) fun x hx => conn_at ((hJ0 x).mpr (j2 x hx))
  have hInd := (chain_ind hE I (jL p ts L l) J0 j1 iI c0).mp hc
  have c1 : ∀ a b, Conn (tiesAt ts (J0 ++ I)) a b ↔ Conn (tiesAt ts (jL p ts L l ++ I)) a b := conn_eqv (fun x hx => by
    rcases List.mem_append.mp hx with z | z
    · exact conn_sub (fun y hy => List.mem_append_left _ hy) ((c0 _ _).mp (conn_at z))
    · exact conn_at (List.mem_append_right _ z)) fun x hx => by
    rcases List.mem_append.mp hx with z | z
    · exact conn_sub (fun y hy => List.mem_append_left _ hy) ((c0 _ _).mpr (conn_at z))
    · exact conn_at (List.mem_append_right _ z)
  obtain ⟨u, hu⟩ : ∃ u, u = fnL Dm := ⟨_, rfl⟩
  have uc : ∀ i j : Nat, i ≤ p - 1 → j ≤ p - 1 → (u i = u j ↔ Conn (tiesAt ts (jL p ts L l ++ I)) i j) := fun i j hi hj => by
    rw [hu, hDm, fnL_conn hE iK (by omega) (by omega), c1]
  have v1 : lwL p ts L ins outs l = Dt.nb (p - 1) (vL p ts L l) u ((freeL ts.length L ins outs l).map (eT ts)) := by
    rw [lw_free hE hi hd l, ← hI]
    exact nS_nb hp hE _ _ u hInd (fun x hx => lay_in _ _ _ x (List.mem_filter.mp hx).1) uc
  have v2 : ((freeL ts.length L ins outs l).map (eT ts)).filter (fun e => !decide (u e.1 = u e.2)) = Y2.map (eT ts) := by
    rw [List.filter_map]
    congr 1
    unfold freeL
    rw [List.filter_filter, hY2]
    refine List.filter_congr fun x hx => ?_
    have x0 := lay_in _ _ _ x hx
    obtain ⟨a, b⟩ := tie_ends hE x0
    have e : (u (eT ts x).1 = u (eT ts x).2) ↔ nth Dm (tieAt ts x).1 = nth Dm (tieAt ts x).2 := by
      rw [hu, hDm]
      exact fnL_eq hE iK a.1 a.2 b.1 b.2
    have e2 : x ∈ ins → nth Dm (tieAt ts x).1 = nth Dm (tieAt ts x).2 := fun z => by
      rw [hDm]
      refine (testL hE iK x0).mpr (conn_at (List.mem_append_right _ ?_))
      rw [hI]
      exact List.mem_filter.mpr ⟨hx, by simp [z]⟩
    show (!decide (u (eT ts x).1 = u (eT ts x).2) && (!decide (x ∈ ins) && !decide (x ∈ outs))) = takeL Dm ts outs x
    unfold takeL
    by_cases q : nth Dm (tieAt ts x).1 = nth Dm (tieAt ts x).2
    · simp [e.mpr q, q]
    · have q2 : x ∉ ins := fun z => q (e2 z)
      have q3 : ¬ u (eT ts x).1 = u (eT ts x).2 := fun z => q (e.mp z)
      simp [q, q2, q3]
  have v3 : lwL p ts L ins outs l = Dt.nb (p - 1) (vL p ts L l) u (Y2.map (eT ts)) := by
    rw [v1, Dt.nb_drop (fun e => !decide (u e.1 = u e.2)) _ u fun e _ h => by simpa using h, v2]
  have wf : ∀ i, i < p → fnL Lf i = Dt.fz u (Y2.map (eT ts)) i := fun i hi => by rw [hLf, hu, hDm]; exact marks_fz hE iK iY2 i hi
  have iLf : InT ts.length ((J0 ++ I) ++ Y2) := inT_app iK iY2
  constructor
  · rintro ⟨x, hx, hne⟩
    have x0 := lay_in _ _ _ x hx
    obtain ⟨e1, e2, e3, e4⟩ := eT_ok hE x0
    obtain ⟨a, b⟩ := tie_ends hE x0
    rw [v3]
    refine Dt.nb_zero (i := (eT ts x).1) (j := (eT ts x).2) (by omega) (by omega) ?_ _ u (Dt.fz u (Y2.map (eT ts))) (fun a b h => Dt.fz_cong _ h) (fun e he => Dt.fz_edge _ he) ?_
    · rw [v_iff hE e1 e2, e3, e4]
      obtain ⟨z1, z2⟩ := lay_mem.mp hx
      exact conn_at (upto_mem.mpr ⟨z1, by omega⟩)
    · rw [← wf _ e1, ← wf _ e2]
      intro z
      refine hne ?_
      rw [hLf] at z ⊢
      exact (fnL_eq hE iLf a.1 a.2 b.1 b.2).mp z
  · intro hall
    rw [v3]
    have ker : Dt.Ker (p - 1) (vL p ts L l) (Dt.fz u (Y2.map (eT ts))) := fun i j hi hj => by
      rw [v_iff hE (by omega) (by omega), ← wf i (by omega), ← wf j (by omega), hLf, fnL_conn hE iLf (by omega) (by omega)]
      refine conn_eqv (fun x hx => ?_) (fun x hx => ?_) _ _
      · obtain ⟨x0, x1⟩ := upto_mem.mp hx
        by_cases c : nth L x = l
        · have := hall x (lay_mem.mpr ⟨x0, c⟩)
          rw [hLf] at this
          exact (testL hE iLf x0).mp this
        · exact conn_at (List.mem_append_left _ (List.mem_append_left _ ((hJ0 x).mpr (low_mem.mpr ⟨x0, by omega⟩))))
      · refine conn_at (upto_mem.mpr ⟨iLf x hx, ?_⟩)
        rcases List.mem_append.mp hx with z | z
        · rcases List.mem_append.mp z with z | z
          · have := (low_mem.mp ((hJ0 x).mp z)).2; omega
          · rw [hI] at z
            have := (lay_mem.mp (List.mem_filter.mp z).1).2; omega
        · rw [hY2] at z
          have := (lay_mem.mp (List.mem_filter.mp z).1).2; omega
    rw [Dt.nb_vker ker, hu, hDm]
    exact pair_way hp hE iK iY2
end
end Lw
end

noncomputable section
namespace Lw
open DL L2 TL
section
variable {p : Nat} {ts : List (Int × Int)} {L : List Int}
theorem layer_ok (hp : 1 ≤ p) (hp2 : p ≤ 14) (hE : EndsOk p ts) (ht : ts.length ≤ 30) {ins outs : List Int} (hi : InT ts.length ins) (hd : ∀ x ∈ ins, x ∉ outs) (l : Int) {J0 : List Int} (hJ0 : ∀ x, x ∈ J0 ↔ x ∈ lowL ts.length L l) :
    g_layer_ways [.ob 14 [.int p, .ls (ts.map dP)], .ls ((marksL p ts J0).map D.int), .ls ((layL ts.length L l).map D.int), .tp (ins.map D.int), .tp (outs.map D.int)] = .ok (.int (lwL p ts L ins outs l)) := by
  have iJ0 : InT ts.length J0 := fun x hx => low_in _ _ _ x ((hJ0 x).mp hx)
  have iLay := lay_in ts.length L l
  have hb : (layL ts.length L l).length ≤ 30 := by
    have := List.length_filter_le (fun x => decide (nth L x = l)) (iota ts.length)
    rw [iota_len] at this
    unfold layL; omega
  have bl : (layL ts.length L l).length ≤ lim := by rw [lim_eq]; omega
  rcases lay_l1 (p := p) (ts := ts) (by omega) hE (ins := ins) (outs := outs) (.ls ((marksL p ts J0).map D.int)) (.ls ((layL ts.length L l).map D.int)) .un .un .un .un (layL ts.length L l) J0 .un .un iLay iJ0 with ⟨h1, z6, z7, h2⟩ | ⟨h1, h2⟩
  · obtain ⟨Dm, hDm⟩ : ∃ Dm, Dm = marksL p ts (J0 ++ insL' ts.length L ins l) := ⟨_, rfl⟩
    obtain ⟨Y2, hY2⟩ : ∃ Y2, Y2 = (layL ts.length L l).filter (takeL Dm ts outs) := ⟨_, rfl⟩
    obtain ⟨Lf, hLf⟩ : ∃ Lf, Lf = marksL p ts ((J0 ++ insL' ts.length L ins l) ++ Y2) := ⟨_, rfl⟩
    obtain ⟨v1, v2⟩ := lay_val (p := p) (ts := ts) (L := L) hp hE hi hd l hJ0 h1 hDm hY2 hLf
    rw [show (layL ts.length L l).filter (fun x => decide (x ∈ ins)) = insL' ts.length L ins l from rfl, ← hDm] at h2
    have iI : InT ts.length (insL' ts.length L ins l) := fun x hx => iLay x (List.mem_filter.mp hx).1
    have iK := inT_app iJ0 iI
    have Dl : Dm.length = p := by rw [hDm, marksL_len]
    obtain ⟨y6, y10, y11, h3⟩ := lay_l2 (p := p) (ts := ts) (by omega) hE (Dm := Dm) (outs := outs) Dl (.ls ((marksL p ts J0).map D.int)) (.ls ((layL ts.length L l).map D.int)) (.tp (ins.map D.int)) z7 (layL ts.length L l) (J0 ++ insL' ts.length L ins l) [] z6 .un .un iLay (by simp; omega)
    rw [← hDm, ← hY2, ← hLf, List.nil_append, List.map_nil] at h3
    have Lfl : Lf.length = p := by rw [hLf, marksL_len]
    have iY2 : InT ts.length Y2 := fun x hx => by rw [hY2] at hx; exact iLay x (List.mem_filter.mp hx).1
    have Y2l : Y2.length ≤ 30 := by rw [hY2]; exact Nat.le_trans (List.length_filter_le ..) hb
    have pE : EndsOk p (Y2.map (prL Dm ts)) := fun e he => by
      obtain ⟨x, hx, rfl⟩ := List.mem_map.mp he
      obtain ⟨a, b⟩ := tie_ends hE (iY2 x hx)
      unfold prL
      rw [hDm]
      exact ⟨marks_rng hE iK a.1 a.2, marks_rng hE iK b.1 b.2⟩
    have pne : ∀ t ∈ Y2.map (prL Dm ts), t.1 ≠ t.2 := fun t ht => by
      obtain ⟨x, hx, rfl⟩ := List.mem_map.mp ht
      rw [hY2] at hx
      have := (List.mem_filter.mp hx).2
      unfold takeL at this
      unfold prL
      simp at this
      exact this.1
    have hw := ways_call hp2 pE (by rw [List.length_map]; exact Y2l) pne
    have fp : frzs ((Y2.map (prL Dm ts)).map dP) = (Y2.map (prL Dm ts)).map dP := frzs_P _
    rcases lay_l3 (p := p) (ts := ts) hE (Lf := Lf) Lfl (.ls ((marksL p ts J0).map D.int)) (.ls ((layL ts.length L l).map D.int)) (.tp (ins.map D.int)) (.tp (outs.map D.int)) (.ls (Dm.map D.int)) z7 (.ol ((Y2.map (prL Dm ts)).map dP)) y10 y11 (layL ts.length L l) y6 iLay with ⟨q1, w6, q2⟩ | ⟨q1, q2⟩
    · rw [v2 q1]
      generalize Y2.map (prL Dm ts) = PS at *
      simp [g_layer_ways, runF, f_layer_ways, h2, h3, q2, hw, bl, -List.map_map]
    · rw [v1 q1]
      generalize Y2.map (prL Dm ts) = PS at *
      simp [g_layer_ways, runF, f_layer_ways, h2, h3, q2, bl, -List.map_map]
  · rw [lay_zero (p := p) (ts := ts) (L := L) hE hi hd l hJ0 h1]
    simp [g_layer_ways, runF, f_layer_ways, h2, bl]
theorem cwh_l1 (hp2 : p ≤ 1000) (hE : EndsOk p ts) (x1 x2 x3 x5 x6 x7 : D) : ∀ (Y K : List Int) (y8 : D), InT ts.length Y →
    ∃ z8, forL (gtN 8) f_cheapest_with_l1 (Y.map D.int) [.ob 14 [.int p, .ls (ts.map dP)], x1, x2, x3, .ls ((marksL p ts K).map D.int), x5, x6, x7, y8] = .nx [.ob 14 [.int p, .ls (ts.map dP)], x1, x2, x3, .ls ((marksL p ts (K ++ Y)).map D.int), x5, x6, x7, z8]
  | [], K, y8, _ => ⟨y8, by rw [List.append_nil]; rfl⟩
  | t :: Y, K, y8, hY => by
    obtain ⟨t0, t1⟩ := hY t (List.mem_cons_self ..)
    obtain ⟨e1, e2⟩ := tie_at t0 t1
    obtain ⟨⟨a0, a1⟩, b0, b1⟩ := hE _ e2
    have ml := marksL_len p ts K
    have hjo := heads_joined_ok (marksL p ts K) (by omega) (tieAt ts t) a0 (by omega) b0 (by omega)
    simp only [dP] at hjo
    obtain ⟨z8, ih⟩ := cwh_l1 hp2 hE x1 x2 x3 x5 x6 x7 Y (K ++ [t]) (.int t) fun x hx => hY x (List.mem_cons_of_mem _ hx)
    refine ⟨z8, ?_⟩
    rw [List.append_assoc, List.singleton_append] at ih
    rw [← ih, marksL_snoc]
    simp [forL, f_cheapest_with_l1, e1, hjo, dP]
theorem Sm_pow {a n : Nat} (h : a ≤ 2 ^ n) (hn : n ≤ 100) : Sm (a : Int) := by
  refine Sm_of (b := 2 ^ 100) ?_ (by decide +kernel)
  rw [Int.natAbs_natCast]
  exact Nat.le_trans h (Nat.pow_le_pow_right (by decide) hn)
theorem lw_le (ins outs : List Int) (l : Int) : lwL p ts L ins outs l ≤ 2 ^ (layL ts.length L l).length := nS_le _ _
set_option maxHeartbeats 1000000 in
theorem cwh_l2 (hp : 1 ≤ p) (hp2 : p ≤ 14) (hE : EndsOk p ts) (ht : ts.length ≤ 30) (hL : L.length = ts.length) {o : D} (ho : o = .ls (L.map D.int)) {ins outs : List Int} (hi : InT ts.length ins) (hd : ∀ x ∈ ins, x ∉ outs) : ∀ (vs J : List Int) (a : Nat) (y6 y7 y8 : D), vs.Pairwise (· < ·) →
    J.Nodup → (∀ l ∈ vs, ∀ x : Int, x ∈ J → nth L x < l) → (∀ x : Int, 0 ≤ x → x < ts.length → x ∈ J ∨ nth L x ∈ vs) → InT ts.length J → a ≤ 2 ^ J.length →
    ∃ (J' : List Int) (z6 z7 z8 : D), (∀ x : Int, x ∈ J' ↔ 0 ≤ x ∧ x < (ts.length : Int)) ∧ forL (gtN 6) f_cheapest_with_l2 (vs.map D.int) [.ob 14 [.int p, .ls (ts.map dP)], o, .tp (ins.map D.int), .tp (outs.map D.int), .ls ((marksL p ts J).map D.int), .int a, y6, y7, y8] =
      .nx [.ob 14 [.int p, .ls (ts.map dP)], o, .tp (ins.map D.int), .tp (outs.map D.int), .ls ((marksL p ts J').map D.int), .int (a * prodN (lwL p ts L ins outs) vs : Nat), z6, z7, z8] := by
  intro vs
  induction vs with
  | nil => exact fun J a y6 y7 y8 _ _ _ hv hJ _ => ⟨J, y6, y7, y8, fun x => ⟨hJ x, fun h => (hv x h.1 h.2).resolve_right (by simp)⟩, by simp [forL, prodN]⟩
  | cons l vs IH =>
    intro J a y6 y7 y8 hs nd hlt hv hJ ha
    obtain ⟨s1, s2⟩ := List.pairwise_cons.mp hs
    have hJ0 : ∀ x, x ∈ J ↔ x ∈ lowL ts.length L l := fun x => by
      rw [low_mem]
      constructor
      · exact fun h => ⟨hJ x h, hlt l (List.mem_cons_self ..) x h⟩
      · rintro ⟨⟨x0, x1⟩, x2⟩
        rcases hv x x0 x1 with z | z
        · exact z
        · rcases List.mem_cons.mp z with z | z
          · omega
          · have := s1 _ z; omega
    have lo := layer_ok (L := L) hp hp2 hE ht hi hd l hJ0
    have iLay := lay_in ts.length L l
    have ndl := lay_nodup ts.length L l
    have nd' : (J ++ layL ts.length L l).Nodup := by
      rw [List.nodup_append]
      refine ⟨nd, ndl, fun x hx y hy e => ?_⟩
      subst e
      have := hlt l (List.mem_cons_self ..) x hx
      have := (lay_mem.mp hy).2
      omega
    have iJ' := inT_app hJ iLay
    have hlen : (J ++ layL ts.length L l).length ≤ ts.length := by
      have := nodup_le (m := iota ts.length) nd' fun x hx => iota_mem.mpr (iJ' x hx)
      rwa [iota_len] at this
    have hl2 := lw_le (p := p) (ts := ts) (L := L) ins outs l
    have ha' : a * lwL p ts L ins outs l ≤ 2 ^ (J ++ layL ts.length L l).length := by
      rw [List.length_append, Nat.pow_add]
      exact Nat.mul_le_mul ha hl2
    rw [List.length_append] at hlen
    have om := opMul_Sm (Sm_pow ha (by omega)) (Sm_pow hl2 (by omega))
    obtain ⟨w8, h1⟩ := cwh_l1 (p := p) (ts := ts) (by omega) hE o (.tp (ins.map D.int)) (.tp (outs.map D.int)) (.int (a * lwL p ts L ins outs l : Nat)) (.int l) (.ls ((layL ts.length L l).map D.int)) (layL ts.length L l) J y8 iLay
    obtain ⟨J', z6, z7, z8, h2, h3⟩ := IH (J ++ layL ts.length L l) (a * lwL p ts L ins outs l) (.int l) (.ls ((layL ts.length L l).map D.int)) w8 s2 nd' (fun l' hl' x hx => by
      rcases List.mem_append.mp hx with z | z
      · exact hlt l' (List.mem_cons_of_mem _ hl') x z
      · have := (lay_mem.mp z).2
        have := s1 l' hl'
        omega) (fun x x0 x1 => by
      rcases hv x x0 x1 with z | z
      · exact .inl (List.mem_append_left _ z)
      · rcases List.mem_cons.mp z with z | z
        · exact .inl (List.mem_append_right _ (lay_mem.mpr ⟨⟨x0, x1⟩, z⟩))
        · exact .inr z) iJ' ha'
    refine ⟨J', z6, z7, z8, h2, ?_⟩
    rw [show prodN (lwL p ts L ins outs) (l :: vs) = lwL p ts L ins outs l * prodN (lwL p ts L ins outs) vs from rfl, ← Nat.mul_assoc, ← h3, List.map_cons]
    refine forL_step (g1 := [.ob 14 [.int p, .ls (ts.map dP)], o, .tp (ins.map D.int), .tp (outs.map D.int), .ls ((marksL p ts J).map D.int), .int a, .int l, y7, y8]) rfl ?_
    have hr : rgOk (L.length : Int) := rgOk_of (by omega) (by omega)
    have lcc : ∀ x0 x2 x3 x4 x5 x7 : D, lcL (gtN 8) f_cheapest_with_c1t f_cheapest_with_c1 [x0, o, x2, x3, x4, x5, .int l, x7, .un] ((iota L.length).map D.int) = .ok ((layL ts.length L l).map D.int) := fun x0 x2 x3 x4 x5 x7 => by
      unfold layL
      rw [← hL]
      refine lcL_filterN (iota L.length) fun i hi => ?_
      obtain ⟨i0, i1⟩ := iota_mem.mp hi
      have ea := nth_at (m := L) i0 (by omega)
      subst ho; exact ⟨by simp [f_cheapest_with_c1t, ea], fun _ => by simp [f_cheapest_with_c1]⟩
    have b1 : L.length ≤ lim := by rw [lim_eq]; omega
    have b2 : (layL ts.length L l).length ≤ lim := by rw [lim_eq]; omega
    have b3 : L.length ≤ 1000 := by omega
    have en : ((L.length : Int)).toNat = L.length := rfl
    rw [← Int.natCast_mul] at om
    have hrg : rng 0 ((L.length : Int)).toNat = (iota L.length).map D.int := by rw [en, rng_iota]
    generalize hLL : (L.length : Int) = LL at *
    subst ho
    generalize hWD : D.ob 14 [.int p, .ls (ts.map dP)] = WD at *
    have hbw : brw WD = WD := by rw [← hWD]; rfl
    have hun : WD ≠ .un := by rw [← hWD]; exact fun z => nomatch z
    have s1 : sAsgF 7 (eLc (iRg1 (aCons (eCall caLen (aCons (eVar 1) (aNil))) (aNil))) [8] (gtN 8) (f_cheapest_with_c1t) f_cheapest_with_c1) [WD, .ls (L.map D.int), .tp (ins.map D.int), .tp (outs.map D.int), .ls ((marksL p ts J).map D.int), .int a, .int l, y7, y8] = .nx [WD, .ls (L.map D.int), .tp (ins.map D.int), .tp (outs.map D.int), .ls ((marksL p ts J).map D.int), .int a, .int l, .ls ((layL ts.length L l).map D.int), y8] := by
      simp [hLL, hr, hrg, lcc, b1]
    have z1 : eVar 5 [WD, .ls (L.map D.int), .tp (ins.map D.int), .tp (outs.map D.int), .ls ((marksL p ts J).map D.int), .int a, .int l, .ls ((layL ts.length L l).map D.int), y8] = .ok (.int a) := by simp
    have z2 : eOwn g_layer_ways (aCons (eVar 0) (aCons (eVar 4) (aCons (eVar 7) (aCons (eVar 2) (aCons (eVar 3) (aNil)))))) [WD, .ls (L.map D.int), .tp (ins.map D.int), .tp (outs.map D.int), .ls ((marksL p ts J).map D.int), .int a, .int l, .ls ((layL ts.length L l).map D.int), y8] = .ok (.int (lwL p ts L ins outs l : Nat)) := by
      subst hWD
      simp [lo]
    have z3 := eBin_okW (op := opMul) z1 z2 om
    have s2 : sAsgF 5 (eBin opMul (eVar 5) (eOwn g_layer_ways (aCons (eVar 0) (aCons (eVar 4) (aCons (eVar 7) (aCons (eVar 2) (aCons (eVar 3) (aNil)))))))) [WD, .ls (L.map D.int), .tp (ins.map D.int), .tp (outs.map D.int), .ls ((marksL p ts J).map D.int), .int a, .int l, .ls ((layL ts.length L l).map D.int), y8] = .nx [WD, .ls (L.map D.int), .tp (ins.map D.int), .tp (outs.map D.int), .ls ((marksL p ts J).map D.int), .int (a * lwL p ts L ins outs l : Nat), .int l, .ls ((layL ts.length L l).map D.int), y8] := by
      rw [sAsgF_, z3]
      rfl
    have s3 : sFor (iSeq (eVar 7)) (gtN 8) f_cheapest_with_l1 [WD, .ls (L.map D.int), .tp (ins.map D.int), .tp (outs.map D.int), .ls ((marksL p ts J).map D.int), .int (a * lwL p ts L ins outs l : Nat), .int l, .ls ((layL ts.length L l).map D.int), y8] = .nx [WD, .ls (L.map D.int), .tp (ins.map D.int), .tp (outs.map D.int), .ls ((marksL p ts (J ++ layL ts.length L l)).map D.int), .int (a * lwL p ts L ins outs l : Nat), .int l, .ls ((layL ts.length L l).map D.int), w8] := by
      rw [sFor_]
      simp only [iSeq_, eVar_]
      simp [-Int.natCast_mul, h1]
    exact seq_to s1 (seq_to s2 s3)
theorem cheap_with (hp : 1 ≤ p) (hp2 : p ≤ 14) (hE : EndsOk p ts) (ht : ts.length ≤ 30) (hL : L.length = ts.length) {o : D} (ho : o = .ls (L.map D.int)) {ins outs : List Int} (hi : InT ts.length ins) (hd : ∀ x ∈ ins, x ∉ outs) :
    g_cheapest_with [.ob 14 [.int p, .ls (ts.map dP)], o, .tp (ins.map D.int), .tp (outs.map D.int)] = .ok (.int ((cwL p ts L ins outs).length : Nat)) := by
  obtain ⟨J', z6, z7, z8, h2, h3⟩ := cwh_l2 hp hp2 hE ht hL ho hi hd (sset L) [] 1 .un .un .un (sset_rise L) List.nodup_nil (fun _ _ _ h => nomatch h) (fun x x0 x1 => .inr ((sset_mem _ _).mpr (nth_in hL ⟨x0, x1⟩))) (fun _ h => nomatch h) (by simp)
  have iJ' : InT ts.length J' := fun x hx => (h2 x).mp hx
  have hr : rgOk (p : Int) := rgOk_of (by omega) (by omega)
  have b1 : p ≤ lim := by rw [lim_eq]; omega
  have b2 : L.length < 64 := by omega
  have b3 : (marksL p ts J').length ≤ 4000 := by rw [marksL_len]; omega
  have en : ((p : Int)).toNat = p := rfl
  have h3p : (p : Int) ≤ 1000000 := by omega
  have m0 : marksL p ts [] = iota p := rfl
  rw [m0] at h3
  have bs : (sset L).length ≤ lim := by
    have := nodup_le (m := L) (rise_nodup (sset_rise L)) fun x hx => (sset_mem x _).mp hx
    rw [lim_eq]; omega
  have cn : (sset (marksL p ts J')).length = cnt p (tiesAt ts (iota ts.length)) := by
    rw [marksL_mk, show (sset (mk p (J'.map (tieAt ts)))).length = cnt p (tiesAt ts J') from rfl]
    exact cnt_set (tiesAt_ok hE iJ') (tiesAt_ok hE fun x hx => iota_mem.mp hx) fun e => by
      unfold tiesAt
      rw [List.mem_map, List.mem_map]
      constructor
      · rintro ⟨x, hx, rfl⟩; exact ⟨x, iota_mem.mpr ((h2 x).mp hx), rfl⟩
      · rintro ⟨x, hx, rfl⟩; exact ⟨x, (h2 x).mpr (iota_mem.mp hx), rfl⟩
  have cpos := cnt_pos hp (tiesAt ts (iota ts.length))
  have two : (if (1 : Int) < ((sset (marksL p ts J')).length : Nat) then (0 : Int) else ((1 * prodN (lwL p ts L ins outs) (sset L) : Nat) : Int)) = ((cwL p ts L ins outs).length : Nat) := by
    rw [cn]
    by_cases c : cnt p (tiesAt ts (iota ts.length)) = 1
    · rw [if_neg (by omega), Nat.one_mul]
      have hj : trees p ts ≠ [] := by
        obtain ⟨T, t1, _⟩ := tree_between hp hE (ind_nil p ts) (S := iota ts.length) (fun _ h => (nomatch h)) (fun x hx => iota_mem.mp hx) c
        exact List.ne_nil_of_mem ((trees_mem hp).mpr t1)
      rw [cw_prod hp hE hL hj hi (rise_nodup (sset_rise L)) fun x => sset_mem x _]
    · rw [if_pos (by omega)]
      have : cwL p ts L ins outs = [] := List.eq_nil_iff_forall_not_mem.mpr fun T hT => c (by
        have hT := treeB_nat.mp ((cw_mem hp).mp hT).1
        have a : cnt p (tiesAt ts (iota ts.length)) ≤ cnt p (tiesAt ts T) := cnt_le (tiesAt_ok hE (good_in hT.2.1)) (tiesAt_ok hE fun x hx => iota_mem.mp hx) fun e he => by
          obtain ⟨t, ht, rfl⟩ := List.mem_map.mp he
          exact conn_at (iota_mem.mpr (good_in hT.2.1 t ht))
        omega)
      rw [this]
      rfl
  have es : eSortedSet (eVar 1) [.ob 14 [.int p, .ls (ts.map dP)], o, .tp (ins.map D.int), .tp (outs.map D.int), .ls ((iota p).map D.int), .int 1, .un, .un, .un] = .ok (.ol ((sset L).map D.int)) := by
    subst ho; simp [b2]
  generalize hq : (1 * prodN (lwL p ts L ins outs) (sset L) : Nat) = W at *
  generalize hss : ((sset (marksL p ts J')).length : Int) = SS at *
  generalize hPP : (p : Int) = PP at *
  have et : rng 0 PP.toNat = (iota p).map D.int := by rw [en, rng_iota]
  rw [show ((1 : Nat) : Int) = 1 from rfl] at h3
  rw [← two]
  simp only [g_cheapest_with, runF, f_cheapest_with]
  generalize eSortedSet (eVar 1) = ES at es ⊢
  by_cases c : (1 : Int) < SS
  · rw [if_pos c]
    simp [es, hr, h3p, et, b1, bs, h3, b3, hss, c]
  · rw [if_neg c]
    simp [es, hr, h3p, et, b1, bs, h3, b3, hss, c]
end
end Lw
end

noncomputable section
namespace Lw
open DL
end Lw
end

noncomputable section
namespace Lw
open DL
end Lw
end

noncomputable section
namespace Lw
open DL
end Lw
end

namespace Lw
open DL L2 TL
theorem split_byG {α : Type} {R : α → α → Prop} {q : α → Bool} (hq : ∀ a b, R a b → q b = true → q a = true) : ∀ {l : List α}, l.Pairwise R → l = l.filter q ++ l.filter fun y => !q y
  | [], _ => rfl
  | a :: l, h => by
    obtain ⟨h1, h2⟩ := List.pairwise_cons.mp h
    cases c : q a with
    | true =>
      rw [List.filter_cons_of_pos c, List.filter_cons_of_neg (by simp [c]), List.cons_append, ← split_byG hq h2]
    | false =>
      rw [List.filter_cons_of_neg (by simp [c]), List.filter_cons_of_pos (by simp [c])]
      have : l.filter q = [] := List.filter_eq_nil_iff.mpr fun y hy z => by
        have := hq a y (h1 y hy) z
        rw [c] at this; cases this
      rw [this, List.nil_append]
      congr 1
      refine (List.filter_eq_self.mpr fun y hy => ?_).symm
      cases z : q y with
      | false => rfl
      | true =>
        have := hq a y (h1 y hy) z
        rw [c] at this; cases this
theorem lex_pre : ∀ (l a b : List Int), HT.lexLt (l ++ a) (l ++ b) = HT.lexLt a b
  | [], _, _ => rfl
  | x :: l, a, b => by
    rw [List.cons_append, List.cons_append, HT.lexLt_cons, if_pos rfl, lex_pre l a b]
section
variable {p : Nat} {ts : List (Int × Int)}
theorem pre_of {kept shut : List Int} {k : Int} (hk : kept.Pairwise (· < ·)) (hk2 : ∀ x ∈ kept, 0 ≤ x ∧ x < k) (all : ∀ x : Int, 0 ≤ x → x < k → x ∈ kept ∨ x ∈ shut) (hp : 1 ≤ p) {T : List Int} (hT : T ∈ wth p ts kept shut) : T = kept ++ T.filter (fun y => !decide (y < k)) := by
  obtain ⟨t1, t2, t3⟩ := (wth_mem hp).mp hT
  have hr := (good_iff.mp (treeB_nat.mp t1).2.1).2
  have hi := (tree_ind t1 hp).inn
  have e : T.filter (fun y => decide (y < k)) = kept := by
    refine rise_uniq (hr.filter _) hk fun x => ?_
    rw [List.mem_filter, decide_eq_true_eq]
    constructor
    · rintro ⟨h1, h2⟩
      rcases all x (hi x h1).1 h2 with h | h
      · exact h
      · exact absurd h1 (t3 x h)
    · exact fun h => ⟨t2 x h, (hk2 x h).2⟩
  have := filter_split hr k
  rw [e] at this
  exact this
theorem wth_split (hp : 1 ≤ p) {kept shut : List Int} {k : Int} (hk : kept.Pairwise (· < ·)) (hk2 : ∀ x ∈ kept, 0 ≤ x ∧ x < k) (all : ∀ x : Int, 0 ≤ x → x < k → x ∈ kept ∨ x ∈ shut) :
    wth p ts kept shut = wth p ts (kept ++ [k]) shut ++ wth p ts kept (shut ++ [k]) := by
  have e1 : wth p ts (kept ++ [k]) shut = (wth p ts kept shut).filter fun T => decide (k ∈ T) := by
    unfold wth
    rw [List.filter_filter]
    refine List.filter_congr fun T _ => ?_
    rw [List.all_append]
    simp only [List.all_cons, List.all_nil, Bool.and_true]
    cases (kept.all fun t => decide (t ∈ T)) <;> cases decide (k ∈ T) <;> simp
  have e2 : wth p ts kept (shut ++ [k]) = (wth p ts kept shut).filter fun T => !decide (k ∈ T) := by
    unfold wth
    rw [List.filter_filter]
    refine List.filter_congr fun T _ => ?_
    rw [List.any_append]
    simp only [List.any_cons, List.any_nil, Bool.or_false, Bool.not_or]
    cases (kept.all fun t => decide (t ∈ T)) <;> cases decide (k ∈ T) <;> simp
  rw [e1, e2]
  refine split_byG (R := fun a b : List Int => decide (k ∈ b) = true → decide (k ∈ a) = true) (fun a b h hb => h hb) ?_
  refine List.Pairwise.imp_of_mem (fun {a b} ha hb h => ?_) (wth_rise kept shut)
  intro kb
  have kb := of_decide_eq_true kb
  apply decide_eq_true
  apply Classical.byContradiction
  intro ka
  have pa := pre_of hk hk2 all hp ha
  have pb := pre_of hk hk2 all hp hb
  have ra := (good_iff.mp (treeB_nat.mp ((wth_mem hp).mp ha).1).2.1).2
  have rb := (good_iff.mp (treeB_nat.mp ((wth_mem hp).mp hb).1).2.1).2
  have la := tree_len hp ((wth_mem hp).mp ha).1
  have lb := tree_len hp ((wth_mem hp).mp hb).1
  have l1 := congrArg List.length pa
  have l2 := congrArg List.length pb
  rw [List.length_append] at l1 l2
  generalize hA : a.filter (fun y => !decide (y < k)) = A at pa l1
  generalize hB : b.filter (fun y => !decide (y < k)) = B at pb l2
  have kB : k ∈ B := by
    rw [← hB]
    exact List.mem_filter.mpr ⟨kb, by simp⟩
  have geA : ∀ x ∈ A, k < x := fun x hx => by
    rw [← hA] at hx
    obtain ⟨h1, h2⟩ := List.mem_filter.mp hx
    simp at h2
    have : x ≠ k := fun e => ka (e ▸ h1)
    omega
  have geB : ∀ x ∈ B, k ≤ x := fun x hx => by
    rw [← hB] at hx
    obtain ⟨h1, h2⟩ := List.mem_filter.mp hx
    simp at h2
    exact h2
  have rB : B.Pairwise (· < ·) := by rw [← hB]; exact rb.filter _
  rw [pa, pb, lex_pre] at h
  match B, kB, geB, rB, l2 with
  | y :: B', kB, geB, rB, l2 =>
    have hy : y = k := by
      rcases List.mem_cons.mp kB with e | e
      · exact e.symm
      · have := (List.pairwise_cons.mp rB).1 k e
        have := geB y (List.mem_cons_self ..)
        omega
    match A, geA, l1 with
    | [], _, l1 => simp at l1 l2; omega
    | z :: A', geA, _ =>
      have hz := geA z (List.mem_cons_self ..)
      rw [HT.lexLt_cons, if_neg (by omega)] at h
      have : y < z := by omega
      simp [this] at h
theorem wth_end (hp : 1 ≤ p) {kept shut : List Int} (hk : kept.Pairwise (· < ·)) (hk2 : ∀ x ∈ kept, 0 ≤ x ∧ x < (ts.length : Int)) (all : ∀ x : Int, 0 ≤ x → x < ts.length → x ∈ kept ∨ x ∈ shut) {T : List Int} (hT : T ∈ wth p ts kept shut) : T = kept := by
  have e := pre_of hk hk2 all hp hT
  have hi := (tree_ind ((wth_mem hp).mp hT).1 hp).inn
  have : T.filter (fun y => !decide (y < (ts.length : Int))) = [] := List.filter_eq_nil_iff.mpr fun x hx => by have := hi x hx; simp; omega
  rw [this, List.append_nil] at e
  exact e
structure Cut (n : Nat) (k : Nat) (kept shut : List Int) : Prop where
  kr : kept.Pairwise (· < ·)
  sr : shut.Pairwise (· < ·)
  kin : ∀ x ∈ kept, 0 ≤ x ∧ x < (k : Int)
  sin : ∀ x ∈ shut, 0 ≤ x ∧ x < (k : Int)
  all : ∀ x : Int, 0 ≤ x → x < k → x ∈ kept ∨ x ∈ shut
theorem snoc_rise {l : List Int} {k : Nat} (h : l.Pairwise (· < ·)) (hi : ∀ x ∈ l, 0 ≤ x ∧ x < (k : Int)) : (l ++ [(k : Int)]).Pairwise (· < ·) ∧ ∀ x ∈ l ++ [(k : Int)], 0 ≤ x ∧ x < ((k + 1 : Nat) : Int) := by
  refine ⟨List.pairwise_append.mpr ⟨h, List.pairwise_singleton .., fun a ha b hb => by rw [List.mem_singleton.mp hb]; exact (hi a ha).2⟩, fun x hx => ?_⟩
  rcases List.mem_append.mp hx with q | q
  · have := hi x q; omega
  · rw [List.mem_singleton.mp q]; omega
theorem Cut.in {n k : Nat} {kept shut : List Int} (h : Cut n k kept shut) : Cut n (k + 1) (kept ++ [(k : Int)]) shut where
  kr := (snoc_rise h.kr h.kin).1
  sr := h.sr
  kin := (snoc_rise h.kr h.kin).2
  sin := fun x hx => by have := h.sin x hx; omega
  all := fun x h1 h2 => by
    by_cases e : x = k
    · left; rw [e]; simp
    · rcases h.all x h1 (by omega) with q | q
      · exact .inl (List.mem_append_left _ q)
      · exact .inr q
theorem Cut.out {n k : Nat} {kept shut : List Int} (h : Cut n k kept shut) : Cut n (k + 1) kept (shut ++ [(k : Int)]) where
  kr := h.kr
  sr := (snoc_rise h.sr h.sin).1
  kin := fun x hx => by have := h.kin x hx; omega
  sin := (snoc_rise h.sr h.sin).2
  all := fun x h1 h2 => by
    by_cases e : x = k
    · right; rw [e]; simp
    · rcases h.all x h1 (by omega) with q | q
      · exact .inl q
      · exact .inr (List.mem_append_left _ q)
theorem cut0 : Cut ts.length 0 [] [] := ⟨.nil, .nil, (fun _ h => nomatch h), (fun _ h => nomatch h), fun x h1 h2 => absurd h2 (by omega)⟩
end
end Lw

namespace Lw
open DL L2 TL
theorem gains_ok {w : D} (p : Nat) (hp : 1 ≤ p) (hp2 : p ≤ 100) (ts : List (Int × Int)) (hE : EndsOk p ts) (ht : ts.length ≤ 100) (L : List Int) (hL : L.length = ts.length) (T : List Int) (hT : treeB p ts T = true) (ho : LT w T) :
    g_gains_of [.ob 14 [.int p, .ls (ts.map dP)], .ls (L.map D.int), w] = .ok (.ol ((gains p ts L T).map dP)) := by
  have lk := look_lens_ok (.int p) (ts.map dP) L (.inl rfl) (by simpa using hL)
  have ex := exchanges_ok p hp hp2 ts hE ht T hT ho
  have hTl := tree_len hp hT
  have el : (exAll p ts T).length ≤ lim := Nat.le_trans (exAll_len p ts T) (by
    have : T.length * ts.length ≤ 100 * 100 := Nat.mul_le_mul (by omega) ht
    rw [lim_eq]; omega)
  have hI := tree_ind hT hp
  have lc : ∀ x0 x2 : D, lcL (gtN 3) f_gains_of_c1t f_gains_of_c1 [x0, .ls (L.map D.int), x2, .un] ((exAll p ts T).map dP) = .ok ((gains p ts L T).map dP) := fun x0 x2 => by
    refine lcL_filterN _ fun x hx => ?_
    have hx' := exB_iff.mp ((exAll_mem hp hE hT (o := x.1) (i := x.2)).mp hx)
    have h1 := hI.inn _ hx'.1
    have ea := nth_at (m := L) h1.1 (by omega)
    have eb := nth_at (m := L) hx'.2.2.1.1 (by omega)
    exact ⟨by simp [f_gains_of_c1t, dP, ea, eb, shorter], fun _ => by simp [f_gains_of_c1, dP]⟩
  rcases ho with rfl | rfl <;> simp [g_gains_of, runF, f_gains_of, lk, ex, el, lc]
theorem is_cheap_ok {w : D} (p : Nat) (hp : 1 ≤ p) (hp2 : p ≤ 100) (ts : List (Int × Int)) (hE : EndsOk p ts) (ht : ts.length ≤ 100) (L : List Int) (hL : L.length = ts.length) (T : List Int) (hT : treeB p ts T = true) (ho : LT w T) :
    g_is_cheapest [.ob 14 [.int p, .ls (ts.map dP)], .ls (L.map D.int), w] = .ok (.bl (decide (gains p ts L T = []))) := by
  have g := gains_ok p hp hp2 ts hE ht L hL T hT ho
  rcases ho with rfl | rfl <;> simp [g_is_cheapest, runF, f_is_cheapest, g]
theorem caMin3_int (ns : List Int) (h : ns ≠ []) : caMin3 [.ls (ns.map D.int)] = some (.int (lst_ ns)) := by
  cases ns with
  | nil => exact absurd rfl h
  | cons a l =>
    have e : intsOf ((a :: l).map D.int) = some (a :: l) := intsOf_map _
    simp only [List.map_cons] at e ⊢
    simp [caMin3, caMin, sqL, e]
end Lw

noncomputable section
namespace Lw
open DL L2 TL
section
variable {p : Nat} {ts : List (Int × Int)} {L : List Int}
theorem cw_wth (ins outs : List Int) : cwL p ts L ins outs = (wth p ts ins outs).filter fun T => decide (gains p ts L T = []) := by
  unfold cwL wth
  rw [List.filter_filter]
  refine List.filter_congr fun T _ => ?_
  have e : outs.all (fun t => !decide (t ∈ T)) = !outs.any fun t => decide (t ∈ T) := by
    rw [List.not_any_eq_all_not]
  rw [e, Bool.and_assoc]
def chL (p : Nat) (ts : List (Int × Int)) (L : List Int) : List (List Int) := cwL p ts L [] []
theorem ch_eq : chL p ts L = (trees p ts).filter fun T => decide (gains p ts L T = []) := by
  unfold chL
  rw [cw_wth, wth_all]
theorem ch_mem (hp : 1 ≤ p) {T : List Int} : T ∈ chL p ts L ↔ treeB p ts T = true ∧ gains p ts L T = [] := by
  unfold chL
  rw [cw_mem hp]
  simp
theorem ch_nodup : (chL p ts L).Nodup := by rw [ch_eq]; exact (trees_nodup p ts).sublist List.filter_sublist
theorem cw_split (hp : 1 ≤ p) {kept shut : List Int} {k : Int} (hk : kept.Pairwise (· < ·)) (hk2 : ∀ x ∈ kept, 0 ≤ x ∧ x < k) (all : ∀ x : Int, 0 ≤ x → x < k → x ∈ kept ∨ x ∈ shut) :
    cwL p ts L kept shut = cwL p ts L (kept ++ [k]) shut ++ cwL p ts L kept (shut ++ [k]) := by
  rw [cw_wth, cw_wth, cw_wth, wth_split hp hk hk2 all, List.filter_append]
theorem cw_end (hp : 1 ≤ p) {kept shut : List Int} (hk : kept.Pairwise (· < ·)) (hk2 : ∀ x ∈ kept, 0 ≤ x ∧ x < (ts.length : Int)) (all : ∀ x : Int, 0 ≤ x → x < ts.length → x ∈ kept ∨ x ∈ shut) {T : List Int} (hT : T ∈ cwL p ts L kept shut) : T = kept := by
  rw [cw_wth] at hT
  exact wth_end hp hk hk2 all (List.mem_filter.mp hT).1
def BlkC (p : Nat) (ts : List (Int × Int)) (L : List Int) (off : Nat) (W : List (List Int)) : Prop := ∀ i, i < W.length → (chL p ts L)[off + i]? = W[i]?
theorem blkC_left {off : Nat} {A B : List (List Int)} (h : BlkC p ts L off (A ++ B)) : BlkC p ts L off A := fun i hi => by
  rw [h i (by rw [List.length_append]; omega), List.getElem?_append_left hi]
theorem blkC_right {off : Nat} {A B : List (List Int)} (h : BlkC p ts L off (A ++ B)) : BlkC p ts L (off + A.length) B := fun i hi => by
  have := h (A.length + i) (by rw [List.length_append]; omega)
  rw [List.getElem?_append_right (by omega), show A.length + i - A.length = i by omega] at this
  rw [← this]
  congr 1; omega
theorem blkC0 : BlkC p ts L 0 (cwL p ts L [] []) := fun i _ => by rw [Nat.zero_add]; rfl
theorem dj_in {kept shut : List Int} {k : Nat} (h : ∀ x ∈ kept, x ∉ shut) (hs : ∀ x ∈ shut, 0 ≤ x ∧ x < (k : Int)) : ∀ x ∈ kept ++ [(k : Int)], x ∉ shut := fun x hx z => by
  rcases List.mem_append.mp hx with q | q
  · exact h x q z
  · rw [List.mem_singleton.mp q] at z
    have := hs _ z; omega
theorem dj_out {kept shut : List Int} {k : Nat} (h : ∀ x ∈ kept, x ∉ shut) (hs : ∀ x ∈ kept, 0 ≤ x ∧ x < (k : Int)) : ∀ x ∈ kept, x ∉ shut ++ [(k : Int)] := fun x hx z => by
  rcases List.mem_append.mp z with q | q
  · exact h x hx q
  · rw [List.mem_singleton.mp q] at hx
    have := hs _ hx; omega
theorem cutC_count (hp : 1 ≤ p) (hp2 : p ≤ 14) (hE : EndsOk p ts) (ht : ts.length ≤ 30) (hL : L.length = ts.length) {o : D} (ho : o = .ls (L.map D.int)) {k : Nat} (hk : k < ts.length) {kept shut : List Int} (h : Cut ts.length k kept shut) (hd : ∀ x ∈ kept, x ∉ shut) :
    g_cheapest_with [.ob 14 [.int p, .ls (ts.map dP)], o, .tp ((kept ++ [(k : Int)]).map D.int), .tp (shut.map D.int)] = .ok (.int ((cwL p ts L (kept ++ [(k : Int)]) shut).length : Nat)) :=
  cheap_with hp hp2 hE ht hL ho (fun x hx => by have := h.in.kin x hx; omega) (dj_in hd h.sin)
theorem ca_loop (hp : 1 ≤ p) (hp2 : p ≤ 14) (hE : EndsOk p ts) (ht : ts.length ≤ 30) (hL : L.length = ts.length) {o : D} (ho : o = .ls (L.map D.int)) (N : Nat) (y3 : D) : ∀ (m k : Nat) (kept shut : List Int) (num : Int) (j off : Nat) (y6 y7 : D), k + m = ts.length → Cut ts.length k kept shut → (∀ x ∈ kept, x ∉ shut) → BlkC p ts L off (cwL p ts L kept shut) → num = j → j < (cwL p ts L kept shut).length → off + j = N → kept.length + m ≤ 100 → shut.length + m ≤ 100 →
    ∃ (R : List Int) (z2 z5 z6 z7 : D), (chL p ts L)[N]? = some R ∧ forL (gtN 6) f_cheapest_at_l1 (rng k m) [.ob 14 [.int p, .ls (ts.map dP)], o, .int num, y3, .tp (kept.map D.int), .tp (shut.map D.int), y6, y7] = .nx [.ob 14 [.int p, .ls (ts.map dP)], o, z2, y3, .tp (R.map D.int), z5, z6, z7] := by
  intro m
  induction m with
  | zero =>
    intro k kept shut num j off y6 y7 hk hC hd hB hj hjl hN _ _
    have hk : k = ts.length := by omega
    subst hk
    have e : (cwL p ts L kept shut)[j] = kept := cw_end hp hC.kr hC.kin hC.all (List.getElem_mem hjl)
    refine ⟨kept, .int num, .tp (shut.map D.int), y6, y7, ?_, by simp [rng_zero, forL]⟩
    rw [← hN, hB j hjl, List.getElem?_eq_getElem hjl, e]
  | succ m IH =>
    intro k kept shut num j off y6 y7 hk hC hd hB hj hjl hN lk ls
    have cc := cutC_count hp hp2 hE ht hL ho (k := k) (by omega) hC hd
    have sp := cw_split (p := p) (ts := ts) (L := L) hp hC.kr hC.kin hC.all
    rw [sp] at hB hjl
    rw [List.length_append] at hjl
    have b1 : kept.length + 1 ≤ lim := by rw [lim_eq]; omega
    have b2 : shut.length + 1 ≤ lim := by rw [lim_eq]; omega
    have l1 : 1 ≤ lim := by rw [lim_eq]; omega
    have kin := hC.in
    have kout := hC.out
    have din := dj_in hd hC.sin
    have dout := dj_out hd hC.kin
    rw [rng_succ]
    have hk1 : (k : Int) + 1 = ((k + 1 : Nat) : Int) := by omega
    rw [hk1]
    generalize hkk : (k : Int) = kk at *
    generalize hw : (cwL p ts L (kept ++ [kk]) shut).length = w at *
    by_cases c : j < w
    · obtain ⟨R, z2, z5, z6, z7, i1, i2⟩ := IH (k + 1) (kept ++ [kk]) shut num j off (.int kk) (.int w) (by omega) kin din (blkC_left hB) hj (by omega) hN (by simp; omega) (by omega)
      refine ⟨R, z2, z5, z6, z7, i1, ?_⟩
      rw [← i2, forL_cons]
      have c' : num < (w : Int) := by omega
      generalize hwi : (w : Int) = wi at *
      simp only [List.map_append, List.map_cons, List.map_nil] at cc ⊢
      subst ho; simp [f_cheapest_at_l1, cc, b1, b2, l1, c']
    · obtain ⟨R, z2, z5, z6, z7, i1, i2⟩ := IH (k + 1) kept (shut ++ [kk]) (num - w) (j - w) (off + w) (.int kk) (.int w) (by omega) kout dout (by have := blkC_right hB; rw [hw] at this; exact this) (by omega) (by omega) (by omega) (by omega) (by simp; omega)
      refine ⟨R, z2, z5, z6, z7, i1, ?_⟩
      rw [← i2, forL_cons]
      have c' : ¬ num < (w : Int) := by omega
      generalize hwi : (w : Int) = wi at *
      simp only [List.map_append, List.map_cons, List.map_nil] at cc ⊢
      subst ho; simp [f_cheapest_at_l1, cc, b1, b2, l1, c']
theorem count_ok (hp : 1 ≤ p) (hp2 : p ≤ 14) (hE : EndsOk p ts) (ht : ts.length ≤ 30) (hL : L.length = ts.length) {o : D} (ho : o = .ls (L.map D.int)) : g_cheapest_count [.ob 14 [.int p, .ls (ts.map dP)], o] = .ok (.int ((chL p ts L).length : Nat)) := by
  have lk := look_lens_ok (.int p) (ts.map dP) L (.inl ho) (by simpa using hL)
  have cw := cheap_with hp hp2 hE ht hL ho (ins := []) (outs := []) (fun _ h => nomatch h) fun _ h => nomatch h
  simp only [List.map_nil] at cw
  have l0 : 0 ≤ lim := Nat.zero_le _
  unfold chL
  subst ho; simp [g_cheapest_count, runF, f_cheapest_count, lk, cw, l0]
theorem cheap_at_ok (hp : 1 ≤ p) (hp2 : p ≤ 14) (hE : EndsOk p ts) (ht : ts.length ≤ 30) (hL : L.length = ts.length) {o : D} (ho : o = .ls (L.map D.int)) (num : Int) (N : Nat) (hN : num = N) (hl : N < (chL p ts L).length) :
    g_cheapest_at [.ob 14 [.int p, .ls (ts.map dP)], o, .int num] = .ok (dT ((chL p ts L)[N]'hl)) := by
  have tc := count_ok hp hp2 hE ht hL ho
  obtain ⟨R, z2, z5, z6, z7, h1, h2⟩ := ca_loop hp hp2 hE ht hL ho N (.int ((chL p ts L).length : Nat)) ts.length 0 [] [] num N 0 .un .un (by omega) cut0 (fun _ h => nomatch h) blkC0 hN hl (by omega) (by simp; omega) (by simp; omega)
  rw [List.getElem?_eq_getElem hl] at h1
  have h1 := Option.some.inj h1
  rw [h1]
  have hr : rgOk (ts.length : Int) := rgOk_of (by omega) (by omega)
  have c1 : ¬ num < 0 := by omega
  have c2 : ¬ ((chL p ts L).length : Int) ≤ num := by omega
  generalize ((chL p ts L).length : Int) = tl at tc c2 h2
  simp only [List.map_nil, Int.natCast_zero, Int.cast_ofNat_Int] at h2
  subst ho; simp [g_cheapest_at, runF, f_cheapest_at, tc, c1, c2, hr, h2, dT]
theorem cheap_at_no (hp : 1 ≤ p) (hp2 : p ≤ 14) (hE : EndsOk p ts) (ht : ts.length ≤ 30) (hL : L.length = ts.length) {o : D} (ho : o = .ls (L.map D.int)) (num : Int) (h : num < 0 ∨ (chL p ts L).length ≤ num) :
    g_cheapest_at [.ob 14 [.int p, .ls (ts.map dP)], o, .int num] = .xc 6 := by
  have tc := count_ok hp hp2 hE ht hL ho
  generalize ((chL p ts L).length : Int) = tl at tc h
  by_cases c1 : num < 0
  · subst ho; simp [g_cheapest_at, runF, f_cheapest_at, tc, c1]
  · have c2 : tl ≤ num := by omega
    subst ho; simp [g_cheapest_at, runF, f_cheapest_at, tc, c1, c2]
theorem cn_loop (hp : 1 ≤ p) (hp2 : p ≤ 14) (hE : EndsOk p ts) (ht : ts.length ≤ 30) (hL : L.length = ts.length) {o : D} (ho : o = .ls (L.map D.int)) {q : D} {T : List Int} (hq : LT q T) : ∀ (m k : Nat) (kept shut : List Int) (num : Int) (off : Nat) (y6 : D), k + m = ts.length → Cut ts.length k kept shut → (∀ x ∈ kept, x ∉ shut) → BlkC p ts L off (cwL p ts L kept shut) → num = off → T ∈ cwL p ts L kept shut → kept.length + m ≤ 100 → shut.length + m ≤ 100 →
    ∃ (N : Nat) (z4 z5 z6 : D), (chL p ts L)[N]? = some T ∧ forL (gtN 6) f_cheapest_number_l1 (rng k m) [.ob 14 [.int p, .ls (ts.map dP)], o, q, .int num, .tp (kept.map D.int), .tp (shut.map D.int), y6] = .nx [.ob 14 [.int p, .ls (ts.map dP)], o, q, .int N, z4, z5, z6] := by
  intro m
  induction m with
  | zero =>
    intro k kept shut num off y6 hk hC hd hB hn hT _ _
    have hk : k = ts.length := by omega
    subst hk
    obtain ⟨i, hi, e⟩ := List.mem_iff_getElem.mp hT
    have nd : (cwL p ts L kept shut).Nodup := by rw [cw_wth]; exact (wth_nodup (p := p) (ts := ts) kept shut).sublist List.filter_sublist
    have all : ∀ S ∈ cwL p ts L kept shut, S = kept := fun S hS => cw_end hp hC.kr hC.kin hC.all hS
    have l1 := one_of nd all (by have e := all T hT; rw [e] at hT; exact hT)
    have i0 : i = 0 := by omega
    subst i0
    refine ⟨off, .tp (kept.map D.int), .tp (shut.map D.int), y6, ?_, by rw [hn]; simp [rng_zero, forL]⟩
    have := hB 0 hi
    rw [List.getElem?_eq_getElem hi, e, Nat.add_zero] at this
    exact this
  | succ m IH =>
    intro k kept shut num off y6 hk hC hd hB hn hT lk ls
    have cc := cutC_count hp hp2 hE ht hL ho (k := k) (by omega) hC hd
    have sp := cw_split (p := p) (ts := ts) (L := L) hp hC.kr hC.kin hC.all
    rw [sp] at hB
    have hT' := hT
    rw [sp] at hT'
    have b1 : kept.length + 1 ≤ lim := by rw [lim_eq]; omega
    have b2 : shut.length + 1 ≤ lim := by rw [lim_eq]; omega
    have l1 : 1 ≤ lim := by rw [lim_eq]; omega
    have kin := hC.in
    have kout := hC.out
    have din := dj_in hd hC.sin
    have dout := dj_out hd hC.kin
    rw [rng_succ]
    have hk1 : (k : Int) + 1 = ((k + 1 : Nat) : Int) := by omega
    rw [hk1]
    generalize hkk : (k : Int) = kk at *
    by_cases c : kk ∈ T
    · have hT1 : T ∈ cwL p ts L (kept ++ [kk]) shut := by
        rcases List.mem_append.mp hT' with q | q
        · exact q
        · exact absurd c (((cw_mem hp).mp q).2.2.2 kk (by simp))
      obtain ⟨N, z4, z5, z6, i1, i2⟩ := IH (k + 1) (kept ++ [kk]) shut num off (.int kk) (by omega) kin din (blkC_left hB) hn hT1 (by simp; omega) (by omega)
      refine ⟨N, z4, z5, z6, i1, ?_⟩
      rw [← i2, forL_cons]
      subst ho; rcases hq with rfl | rfl <;> simp [f_cheapest_number_l1, c, b1, l1]
    · have hT2 : T ∈ cwL p ts L kept (shut ++ [kk]) := by
        rcases List.mem_append.mp hT' with q | q
        · exact absurd (((cw_mem hp).mp q).2.2.1 kk (by simp)) c
        · exact q
      have hB2 := blkC_right hB
      generalize hw : (cwL p ts L (kept ++ [kk]) shut).length = w at cc hB2
      obtain ⟨N, z4, z5, z6, i1, i2⟩ := IH (k + 1) kept (shut ++ [kk]) (num + w) (off + w) (.int kk) (by omega) kout dout hB2 (by omega) hT2 (by omega) (by simp; omega)
      refine ⟨N, z4, z5, z6, i1, ?_⟩
      rw [← i2, forL_cons]
      generalize hwi : (w : Int) = wi at *
      simp only [List.map_append, List.map_cons, List.map_nil] at cc ⊢
      subst ho; rcases hq with rfl | rfl <;> simp [f_cheapest_number_l1, c, cc, b1, b2, l1]
theorem cheap_num_ok (hp : 1 ≤ p) (hp2 : p ≤ 14) (hE : EndsOk p ts) (ht : ts.length ≤ 30) (hL : L.length = ts.length) {q : D} {T : List Int} (hq : LT q T) (N : Nat) (h : (chL p ts L)[N]? = some T) :
    g_cheapest_number [.ob 14 [.int p, .ls (ts.map dP)], .ls (L.map D.int), q] = .ok (.int N) := by
  have hT : T ∈ chL p ts L := List.mem_of_getElem? h
  obtain ⟨t1, t2⟩ := (ch_mem hp).mp hT
  have it := is_tree_LT p ts hE (by omega) (by omega) T hq
  rw [t1] at it
  have ic := is_cheap_ok p hp (by omega) ts hE (by omega) L hL T t1 hq
  have lk := look_lens_ok (.int p) (ts.map dP) L (.inl rfl) (by simpa using hL)
  obtain ⟨M, z4, z5, z6, h1, h2⟩ := cn_loop hp hp2 hE ht hL rfl hq ts.length 0 [] [] 0 0 .un (by omega) cut0 (fun _ h => nomatch h) blkC0 rfl hT (by simp; omega) (by simp; omega)
  have e : M = N := (List.getElem?_inj (List.getElem?_eq_some_iff.mp h1).1 ch_nodup).mp (h1.trans h.symm)
  rw [e] at h2
  have hr : rgOk (ts.length : Int) := rgOk_of (by omega) (by omega)
  rw [decide_eq_true t2] at ic
  generalize hNN : (N : Int) = nn at h2 ⊢
  simp only [List.map_nil, Int.natCast_zero, Int.cast_ofNat_Int] at h2
  rcases hq with rfl | rfl <;> simp [g_cheapest_number, runF, f_cheapest_number, lk, it, ic, hr, h2]
theorem cheap_num_no (hp : 1 ≤ p) (hp2 : p ≤ 14) (hE : EndsOk p ts) (ht : ts.length ≤ 30) (hL : L.length = ts.length) {q : D} {T : List Int} (hq : LT q T) (h : T ∉ chL p ts L) :
    g_cheapest_number [.ob 14 [.int p, .ls (ts.map dP)], .ls (L.map D.int), q] = .xc 4 := by
  have it := is_tree_LT p ts hE (by omega) (by omega) T hq
  have lk := look_lens_ok (.int p) (ts.map dP) L (.inl rfl) (by simpa using hL)
  by_cases t1 : treeB p ts T = true
  · rw [t1] at it
    have ic := is_cheap_ok p hp (by omega) ts hE (by omega) L hL T t1 hq
    have t2 : ¬ gains p ts L T = [] := fun z => h ((ch_mem hp).mpr ⟨t1, z⟩)
    rw [decide_eq_false t2] at ic
    rcases hq with rfl | rfl <;> simp [g_cheapest_number, runF, f_cheapest_number, lk, it, ic]
  · rw [Bool.not_eq_true _ |>.mp t1] at it
    rcases hq with rfl | rfl <;> simp [g_cheapest_number, runF, f_cheapest_number, lk, it]
end
end Lw
end

noncomputable section
namespace Lw
open DL
def f_law_kind_h (ci : Nat) (ad : PySem.Addr) : Env → Out := match ci with
  | 1 => sAsgF 4 (eLst (aConsO (eIs 5 ad false) (aConsO (eIs 5 ad false) (aConsO (eIs 5 ad true) (aNil)))))
  | 4 => sAsgF 4 (eLst (aConsO (eIs 5 ad false) (aConsO (eIs 5 ad true) (aConsO (eIs 5 ad true) (aNil)))))
  | 5 => sAsgF 4 (eLst (aConsO (eIs 5 ad false) (aConsO (eIs 5 ad false) (aConsO (eIs 5 ad true) (aNil)))))
  | 6 => sAsgF 4 (eLst (aConsO (eIs 5 ad true) (aConsO (eIs 5 ad false) (aConsO (eIs 5 ad true) (aNil)))))
  | 7 => sAsgF 4 (eLst (aConsO (eIs 5 ad false) (aConsO (eIs 5 ad false) (aConsO (eIs 5 ad true) (aNil)))))
  | 9 => sAsgF 4 (eLst (aConsO (eIs 5 ad false) (aConsO (eIs 5 ad false) (aConsO (eIs 5 ad true) (aNil)))))
  | _ => sNever
def f_law_kind_hh (ci : Nat) : Env → Out := fun g => if g.length = 6 then unO 5 (f_law_kind_h ci 0 (g.set 5 (.rf 0))) else .bad
def f_law_kind : Env → Out := sSeq (sAsgF 4 (eLst (aNil))) (sSeq (sTry (sIf (tC2 cEq (eVar 0) (eC (.int 0))) (sExp (eOwn g_cheapest_at (aCons (eVar 1) (aCons (eVar 2) (aCons (eVar 3) (aNil)))))) (sExp (eOwn g_cheapest_number (aCons (eVar 1) (aCons (eVar 2) (aCons (eVar 3) (aNil))))))) f_law_kind_hh) (sRetV 4))
def g_law_kind : List D → Res D := runF f_law_kind 6
theorem heq_law_kind : ∀ c a g, f_law_kind_hh c g = .bad ∨ unO 5 (f_law_kind_h c a (g.set 5 (.rf a))) = f_law_kind_hh c g := by
  intro c a g
  unfold f_law_kind_hh
  by_cases h : g.length = 6
  · right
    rw [if_pos h]
    match g, h with
    | [x0, x1, x2, x3, x4, x5], _ =>
      match c with
      | 1 => simp [f_law_kind_h, unO, lim, frz, frzs]
      | 4 => simp [f_law_kind_h, unO, lim, frz, frzs]
      | 5 => simp [f_law_kind_h, unO, lim, frz, frzs]
      | 6 => simp [f_law_kind_h, unO, lim, frz, frzs]
      | 7 => simp [f_law_kind_h, unO, lim, frz, frzs]
      | 9 => simp [f_law_kind_h, unO, lim, frz, frzs]
      | 0 => rfl
      | 2 => rfl
      | 3 => rfl
      | 8 => rfl
      | z + 10 => rfl
  · left; rw [if_neg h]
def f_law_refusals_right_l1 : Env → Out := sIf (tC2 cNe (eOwn g_law_kind (aCons (eC (.int 0)) (aCons (eVar 0) (aCons (eVar 1) (aCons (eVar 5) (aNil)))))) (eLst (aConsO (eC (.bl true)) (aConsO (eC (.bl false)) (aConsO (eC (.bl true)) (aNil)))))) (sRet (eC (.bl false))) (sNil)
def f_law_refusals_right_c2 : Env → Res D := eVar 8
def f_law_refusals_right_c2t : Env → Res Bool := tC2 cNIn2 (eVar 8) (eVar 2)
def f_law_refusals_right_c4 : Env → Res D := eB (tC2 cEq (eOwn g_law_kind (aCons (eC (.int 1)) (aCons (eVar 0) (aCons (eVar 1) (aCons (eVar 8) (aNil)))))) (eLst (aConsO (eC (.bl false)) (aConsO (eC (.bl true)) (aConsO (eC (.bl true)) (aNil))))))
def f_law_refusals_right : Env → Out := sSeq (sFor (iSeq (eLst (aConsO (eUn opNeg (eC (.int 1))) (aConsO (eCall caLen (aCons (eVar 2) (aNil))) (aConsO (eBin opAdd (eBin opAdd (eCall caLen (aCons (eVar 2) (aNil))) (eC (.int 1))) (eBin opMod (eCall caAbs (aCons (eVar 4) (aNil))) (eBin opPow (eC (.int 10)) (eC (.int 40))))) (aConsO (eBin opSub (eUn opNeg (eCall caLen (aCons (eVar 2) (aNil)))) (eC (.int 1))) (aNil))))))) (gtN 5) f_law_refusals_right_l1) (sSeq (sAsgF 6 (eLc (iSeq (eVar 3)) [8] (gtN 8) (f_law_refusals_right_c2t) f_law_refusals_right_c2)) (sSeq (sAsgF 7 (eBin opAdd (eBin opAdd (eSl (eVar 6) (ePart none) (ePart (some (eC (.int 1))))) (eSl (eVar 6) (ePart (some (eUn opNeg (eC (.int 1))))) (ePart none))) (eLst (aConsO (eTup (aConsO (eCall caLen (aCons (eVar 1) (aNil))) (aNil))) (aConsO (eTup (aConsO (eC (.int 0)) (aConsO (eC (.int 0)) (aNil)))) (aConsO (eTR1 (eBin opAdd (eCall caLen (aCons (eVar 1) (aNil))) (eC (.int 1)))) (aNil))))))) (sRet (eCall caAll (aCons (eLc (iSeq (eVar 7)) [8] (gtN 8) (tYesG) f_law_refusals_right_c4) (aNil))))))
def g_law_refusals_right : List D → Res D := runF f_law_refusals_right 9
def f_law_k63_c1 : Env → Res D := eBin opIx (eVar 4) (eVar 12)
def f_law_k63_c2 : Env → Res D := eCall caSum (aCons (eLc (iSeq (eVar 11)) [12] (gtN 12) (tYesG) f_law_k63_c1) (aNil))
def f_law_k63_c3 : Env → Res D := eVar 11
def f_law_k63_c3t : Env → Res Bool := tC2 cEq (eVar 13) (eCall caMin3 (aCons (eVar 6) (aNil)))
def f_law_k63_c5 : Env → Res D := eBin opMod (eOwn g_law_stir (aCons (eVar 14) (aCons (eC (.int 11)) (aNil)))) (eCall caLen (aCons (eVar 7) (aNil)))
def f_law_k63_l6 : Env → Out := sIf (tC2 cNe (eOwn g_cheapest_number (aCons (eVar 3) (aCons (eVar 4) (aCons (eVar 11) (aNil))))) (eVar 10)) (sRet (eC (.bl false))) (sNil)
def f_law_k63_l7 : Env → Out := sSeq (sIf (tC2 cNe (eOwn g_cheapest_at (aCons (eVar 3) (aCons (eVar 4) (aCons (eVar 10) (aNil))))) (eBin opIx (eVar 7) (eVar 10))) (sRet (eC (.bl false))) (sNil)) (sFor (iSeq (eLst (aConsO (eBin opIx (eVar 7) (eVar 10)) (aConsO (eCall caList (aCons (eBin opIx (eVar 7) (eVar 10)) (aNil))) (aNil))))) (gtN 11) f_law_k63_l6)
def f_law_k63 : Env → Out := sSeq (sAsgT (gtT 2 (gtCons (gtN 1) (gtCons (gtN 2) (gtNil)))) (eOwn g_law_web_v3 (aCons (eVar 0) (aCons (eC (.int 6)) (aCons (eC (.int 12)) (aNil)))))) (sSeq (sAsgF 3 (eMkF 14 g_Web_init (aCons (eVar 1) (aCons (eCall caList (aCons (eVar 2) (aNil))) (aNil))))) (sSeq (sAsgF 4 (eOwn g_law_lengths (aCons (eVar 0) (aCons (eCall caLen (aCons (eVar 2) (aNil))) (aNil))))) (sSeq (sAsgF 5 (eOwn g_law_trees_v3 (aCons (eVar 1) (aCons (eVar 2) (aNil))))) (sSeq (sAsgF 6 (eLc (iSeq (eVar 5)) [11] (gtN 11) (tYesG) f_law_k63_c2)) (sSeq (sAsgF 7 (eLc (iZp (aCons (eVar 5) (aCons (eVar 6) (aNil)))) [11, 13] (gtT 2 (gtCons (gtN 11) (gtCons (gtN 13) (gtNil)))) (f_law_k63_c3t) f_law_k63_c3)) (sSeq (sAsgF 8 (eOwn g_cheapest_count (aCons (eVar 3) (aCons (eVar 4) (aNil))))) (sSeq (sIf (tOr_ (tTr (eIsT "bool" (eVar 8))) (tOr_ (tNo (tTr (eIsT "int" (eVar 8)))) (tC2 cNe (eVar 8) (eCall caLen (aCons (eVar 7) (aNil)))))) (sRet (eC (.bl false))) (sNil)) (sSeq (sAsgF 9 (eLR1 (eCall caLen (aCons (eVar 7) (aNil))))) (sSeq (sIf (tC2 cGt (eCall caLen (aCons (eVar 7) (aNil))) (eC (.int 10))) (sAsgF 9 (eBin opAdd (eLst (aConsO (eC (.int 0)) (aConsO (eC (.int 1)) (aConsO (eBin opSub (eCall caLen (aCons (eVar 7) (aNil))) (eC (.int 1))) (aNil))))) (eLc (iSeq (eSl (eVar 0) (ePart none) (ePart (some (eC (.int 4)))))) [14] (gtN 14) (tYesG) f_law_k63_c5))) (sNil)) (sSeq (sFor (iSeq (eVar 9)) (gtN 10) f_law_k63_l7) (sRet (eOwn g_law_refusals_right (aCons (eVar 3) (aCons (eVar 4) (aCons (eVar 7) (aCons (eVar 5) (aCons (eOwn g_law_at (aCons (eVar 0) (aCons (eC (.int 1)) (aNil)))) (aNil))))))))))))))))))
def g_law_k63 : List D → Res D := runF f_law_k63 15
end Lw
end

noncomputable section
namespace Lw
open DL
end Lw
end

namespace Lw
open DL L2 TL
end Lw

noncomputable section
namespace Lw
open DL L2 TL
theorem sSeq_asc (a b c : Env → Out) (g : Env) : sSeq (sSeq a b) c g = sSeq a (sSeq b c) g := by
  simp only [sSeq_]
  cases a g <;> rfl
section
variable {p : Nat} {ts : List (Int × Int)} {L : List Int}
theorem kind63_0 (hp : 1 ≤ p) (hp2 : p ≤ 14) (hE : EndsOk p ts) (ht : ts.length ≤ 30) (hL : L.length = ts.length) (num : Int) (h : num < 0 ∨ (chL p ts L).length ≤ num) :
    g_law_kind [.int 0, .ob 14 [.int p, .ls (ts.map dP)], .ls (L.map D.int), .int num] = .ok (.ls [.bl true, .bl false, .bl true]) := by
  have a := cheap_at_no hp hp2 hE ht hL (o := .ls (L.map D.int)) rfl num h
  have l3 : 3 ≤ lim := by rw [lim_eq]; omega
  simp [g_law_kind, runF, f_law_kind, sTry, a, f_law_kind_hh, f_law_kind_h, unO, l3]
theorem kind63_1 (hp : 1 ≤ p) (hp2 : p ≤ 14) (hE : EndsOk p ts) (ht : ts.length ≤ 30) (hL : L.length = ts.length) {T : List Int} (h : T ∉ chL p ts L) :
    g_law_kind [.int 1, .ob 14 [.int p, .ls (ts.map dP)], .ls (L.map D.int), .tp (T.map D.int)] = .ok (.ls [.bl false, .bl true, .bl true]) := by
  have a := cheap_num_no hp hp2 hE ht hL (q := .tp (T.map D.int)) (.inr rfl) h
  have l3 : 3 ≤ lim := by rw [lim_eq]; omega
  simp [g_law_kind, runF, f_law_kind, sTry, a, f_law_kind_hh, f_law_kind_h, unO, l3]
theorem not_ch (hp : 1 ≤ p) {T : List Int} (h : ¬ (T.Pairwise (· < ·) ∧ InT ts.length T)) : T ∉ chL p ts L := fun z => by
  have g := good_iff.mp (treeB_nat.mp ((ch_mem hp).mp z).1).2.1
  exact h ⟨g.2, g.1⟩
theorem opPow_40 : opPow (.int 10) (.int 40) = some (.int (10 ^ 40)) := by
  rw [opPow_eq, if_pos (by unfold CPow; decide)]; rfl
theorem refu63_ok (hp : 1 ≤ p) (hp2 : p ≤ 14) (hE : EndsOk p ts) (ht : ts.length ≤ 30) (hL : L.length = ts.length) (c : Int) (bt : (trees p ts).length ≤ 5000) :
    g_law_refusals_right [.ob 14 [.int p, .ls (ts.map dP)], .ls (L.map D.int), .ls ((chL p ts L).map dT), .ls ((trees p ts).map dT), .int c] = .ok (.bl true) := by
  obtain ⟨M, hM⟩ : ∃ M : Int, M = ((chL p ts L).length : Nat) := ⟨_, rfl⟩
  have hk : ∀ num : Int, num < 0 ∨ M ≤ num → g_law_kind [.int 0, .ob 14 [.int p, .ls (ts.map dP)], .ls (L.map D.int), .int num] = .ok (.ls [.bl true, .bl false, .bl true]) := fun num h => kind63_0 hp hp2 hE ht hL num (by rw [← hM]; exact h)
  have k0 := hk (-1) (.inl (by decide))
  have k1 := hk M (.inr (Int.le_refl _))
  obtain ⟨E, hE40⟩ : ∃ E : Int, E = 10 ^ 40 := ⟨_, rfl⟩
  have op40 : opPow (.int 10) (.int 40) = some (.int E) := by rw [hE40]; exact opPow_40
  have e40 : (0 : Int) < E := by rw [hE40]; decide
  clear hE40
  have mm := Int.emod_nonneg (c.natAbs : Int) (b := E) (by omega)
  have k2 := hk (M + 1 + (c.natAbs : Int) % E) (.inr (by omega))
  have k3 := hk (-M - 1) (.inl (by omega))
  obtain ⟨Dr, hDr⟩ : ∃ Dr, Dr = (trees p ts).filter fun T => !decide (T ∈ chL p ts L) := ⟨_, rfl⟩
  have lc2 : ∀ x4 x5 x6 x7 : D, lcL (gtN 8) f_law_refusals_right_c2t f_law_refusals_right_c2 [.ob 14 [.int p, .ls (ts.map dP)], .ls (L.map D.int), .ls ((chL p ts L).map dT), .ls ((trees p ts).map dT), x4, x5, x6, x7, .un] ((trees p ts).map dT) = .ok (Dr.map dT) := fun x4 x5 x6 x7 => by
    rw [hDr]
    refine lcL_filterN _ fun T hT => ?_
    have ci := cNIn2_TL T (chL p ts L)
    exact ⟨by simp [f_law_refusals_right_c2t, dT, ci], fun _ => by simp [f_law_refusals_right_c2, dT]⟩
  have Dl : Dr.length ≤ 5000 := by rw [hDr]; exact Nat.le_trans (List.length_filter_le ..) bt
  obtain ⟨Od, hOd⟩ : ∃ Od : List (List Int), Od = (cut Dr none (some 1) ++ cut Dr (some (-1)) none) ++ [[(L.length : Int)], [0, 0], iota (L.length + 1)] := ⟨_, rfl⟩
  have cm : ∀ (a b : Option Int), ∀ T ∈ cut Dr a b, T ∈ Dr := fun a b T hT => by
    unfold cut at hT
    exact List.mem_of_mem_drop (List.mem_of_mem_take hT)
  have Om : ∀ T ∈ Od, T ∉ chL p ts L := fun T hT => by
    rw [hOd] at hT
    rcases List.mem_append.mp hT with z | z
    · have : T ∈ Dr := by
        rcases List.mem_append.mp z with z | z
        · exact cm _ _ T z
        · exact cm _ _ T z
      rw [hDr] at this
      simpa using (List.mem_filter.mp this).2
    · simp only [List.mem_cons, List.not_mem_nil, or_false] at z
      rcases z with rfl | rfl | rfl
      · exact not_ch hp fun h => by have := h.2 _ (List.mem_singleton.mpr rfl); omega
      · exact not_ch hp fun h => by have := (List.pairwise_cons.mp h.1).1 0 (by simp); omega
      · exact not_ch hp fun h => by have := h.2 (L.length : Nat) (iota_mem.mpr ⟨by omega, by omega⟩); omega
  have Ol : Od.length ≤ 10003 := by
    have c1 : ∀ (a b : Option Int), (cut Dr a b).length ≤ 5000 := fun a b => by
      unfold cut
      rw [List.length_take, List.length_drop]; omega
    have h1 := c1 none (some 1)
    have h2 := c1 (some (-1)) none
    rw [hOd, List.length_append, List.length_append]
    simp; omega
  have lc4 : ∀ x2 x3 x4 x5 x6 x7 : D, lcL (gtN 8) tYesG f_law_refusals_right_c4 [.ob 14 [.int p, .ls (ts.map dP)], .ls (L.map D.int), x2, x3, x4, x5, x6, x7, .un] (Od.map dT) = .ok ((Od.map fun _ => true).map D.bl) := fun x2 x3 x4 x5 x6 x7 => by
    rw [List.map_map]
    refine lcL_mapN Od fun T hT => ?_
    have k := kind63_1 hp hp2 hE ht hL (Om T hT)
    have l3 : 3 ≤ lim := by rw [lim_eq]; omega
    simp [f_law_refusals_right_c4, dT, k, l3]
  have l4 : 4 ≤ lim := by rw [lim_eq]; omega
  have l3 : 3 ≤ lim := by rw [lim_eq]; omega
  have l2 : 2 ≤ lim := by rw [lim_eq]; omega
  have l1 : 1 ≤ lim := by rw [lim_eq]; omega
  have bt' : (trees p ts).length ≤ lim := by rw [lim_eq]; omega
  have bO : Od.length ≤ lim := by rw [lim_eq]; omega
  have hl' : (chL p ts L).length = M := hM.symm
  have ca : caAll [.ls ((Od.map fun _ => true).map D.bl)] = some (.bl true) := by
    rw [caAll_bls]
    simp
  have s1 : sFor (iSeq (eLst (aConsO (eUn opNeg (eC (.int 1))) (aConsO (eCall caLen (aCons (eVar 2) (aNil))) (aConsO (eBin opAdd (eBin opAdd (eCall caLen (aCons (eVar 2) (aNil))) (eC (.int 1))) (eBin opMod (eCall caAbs (aCons (eVar 4) (aNil))) (eBin opPow (eC (.int 10)) (eC (.int 40))))) (aConsO (eBin opSub (eUn opNeg (eCall caLen (aCons (eVar 2) (aNil)))) (eC (.int 1))) (aNil))))))) (gtN 5) f_law_refusals_right_l1 [.ob 14 [.int p, .ls (ts.map dP)], .ls (L.map D.int), .ls ((chL p ts L).map dT), .ls ((trees p ts).map dT), .int c, .un, .un, .un, .un] = .nx [.ob 14 [.int p, .ls (ts.map dP)], .ls (L.map D.int), .ls ((chL p ts L).map dT), .ls ((trees p ts).map dT), .int c, .int (-M - 1), .un, .un, .un] := by
    simp [hl', forL, f_law_refusals_right_l1, op40, e40, k0, k1, k2, k3, l4, l3]
  have hr : rgOk ((L.length : Int) + 1) := rgOk_of (by omega) (by omega)
  have hn : (L.length : Int) + 1 ≤ 1000000 := by omega
  have et : rng 0 ((L.length : Int) + 1).toNat = (iota (L.length + 1)).map D.int := by rw [show ((L.length : Int) + 1).toNat = L.length + 1 by omega, rng_iota]
  have s2 : sAsgF 6 (eLc (iSeq (eVar 3)) [8] (gtN 8) (f_law_refusals_right_c2t) f_law_refusals_right_c2) [.ob 14 [.int p, .ls (ts.map dP)], .ls (L.map D.int), .ls ((chL p ts L).map dT), .ls ((trees p ts).map dT), .int c, .int (-M - 1), .un, .un, .un] = .nx [.ob 14 [.int p, .ls (ts.map dP)], .ls (L.map D.int), .ls ((chL p ts L).map dT), .ls ((trees p ts).map dT), .int c, .int (-M - 1), .ls (Dr.map dT), .un, .un] := by
    simp [lc2, bt']
  have eO : (cut Dr none (some 1) ++ cut Dr (some (-1)) none).map dT ++ [D.tp [.int (L.length : Int)], .tp [.int 0, .int 0], .tp ((iota (L.length + 1)).map D.int)] = Od.map dT := by
    rw [hOd]; simp only [List.map_append]; rfl
  have bA : (cut Dr none (some 1)).length + (cut Dr (some (-1)) none).length ≤ lim := by
    have := Ol
    rw [hOd] at this
    simp only [List.length_append] at this
    rw [lim_eq]; omega
  have bA1 : (cut Dr none (some 1)).length ≤ lim := by omega
  have bA2 : (cut Dr (some (-1)) none).length ≤ lim := by omega
  have bA3 : (cut Dr none (some 1)).length + (cut Dr (some (-1)) none).length + 3 ≤ lim := by
    have := Ol
    rw [hOd] at this
    simp only [List.length_append, List.length_cons, List.length_nil] at this
    rw [lim_eq]; omega
  generalize hLL : (L.length : Int) = LL at *
  generalize hA : cut Dr none (some 1) = CA at *
  generalize hB : cut Dr (some (-1)) none = CB at *
  have nT := nods_T Od
  have fT : frzs (Od.map dT) = Od.map dT := frzs_T Od
  have s3 : sAsgF 7 (eBin opAdd (eBin opAdd (eSl (eVar 6) (ePart none) (ePart (some (eC (.int 1))))) (eSl (eVar 6) (ePart (some (eUn opNeg (eC (.int 1))))) (ePart none))) (eLst (aConsO (eTup (aConsO (eCall caLen (aCons (eVar 1) (aNil))) (aNil))) (aConsO (eTup (aConsO (eC (.int 0)) (aConsO (eC (.int 0)) (aNil)))) (aConsO (eTR1 (eBin opAdd (eCall caLen (aCons (eVar 1) (aNil))) (eC (.int 1)))) (aNil)))))) [.ob 14 [.int p, .ls (ts.map dP)], .ls (L.map D.int), .ls ((chL p ts L).map dT), .ls ((trees p ts).map dT), .int c, .int (-M - 1), .ls (Dr.map dT), .un, .un] = .nx [.ob 14 [.int p, .ls (ts.map dP)], .ls (L.map D.int), .ls ((chL p ts L).map dT), .ls ((trees p ts).map dT), .int c, .int (-M - 1), .ls (Dr.map dT), .ls (Od.map dT), .un] := by
    rw [← eO] at nT fT ⊢
    simp only [List.map_append] at nT fT ⊢
    simp [hLL, hA, hB, hr, hn, et, l1, l2, l3, bA, bA1, bA2, bA3]
  have s4 : sRet (eCall caAll (aCons (eLc (iSeq (eVar 7)) [8] (gtN 8) (tYesG) f_law_refusals_right_c4) (aNil))) [.ob 14 [.int p, .ls (ts.map dP)], .ls (L.map D.int), .ls ((chL p ts L).map dT), .ls ((trees p ts).map dT), .int c, .int (-M - 1), .ls (Dr.map dT), .ls (Od.map dT), .un] = .rt (.bl true) := by
    obtain ⟨d1, d2, d3, d4, d5, d6⟩ := dulls dull_bl (Od.map fun _ => true)
    simp [lc4, ca, bO, d2, d4, -List.map_map]
  have all : f_law_refusals_right [.ob 14 [.int p, .ls (ts.map dP)], .ls (L.map D.int), .ls ((chL p ts L).map dT), .ls ((trees p ts).map dT), .int c, .un, .un, .un, .un] = .rt (.bl true) := seq_to s1 (seq_to s2 (seq_to s3 s4))
  unfold g_law_refusals_right runF
  rw [show ([.ob 14 [.int p, .ls (ts.map dP)], .ls (L.map D.int), .ls ((chL p ts L).map dT), .ls ((trees p ts).map dT), .int c] ++ List.replicate (9 - [D.ob 14 [.int p, .ls (ts.map dP)], .ls (L.map D.int), .ls ((chL p ts L).map dT), .ls ((trees p ts).map dT), .int c].length) .un : List D) = [.ob 14 [.int p, .ls (ts.map dP)], .ls (L.map D.int), .ls ((chL p ts L).map dT), .ls ((trees p ts).map dT), .int c, .un, .un, .un, .un] from rfl, all]
theorem zipD_maps {α : Type} (f g : α → D) : ∀ l : List α, zipD (l.map f) (l.map g) = l.map fun x => .tp [f x, g x]
  | [] => rfl
  | a :: l => by rw [List.map_cons, List.map_cons, List.map_cons, ← zipD_maps f g l]; rfl
theorem k63_l7 (hp : 1 ≤ p) (hp2 : p ≤ 14) (hE : EndsOk p ts) (ht : ts.length ≤ 30) (hL : L.length = ts.length) (x0 x1 x2 x5 x6 x8 x9 x12 x13 x14 : D) : ∀ (Nm : List Int) (y10 y11 : D), (∀ m ∈ Nm, 0 ≤ m ∧ m < (chL p ts L).length) →
    ∃ z10 z11, forL (gtN 10) f_law_k63_l7 (Nm.map D.int) [x0, x1, x2, .ob 14 [.int p, .ls (ts.map dP)], .ls (L.map D.int), x5, x6, .ls ((chL p ts L).map dT), x8, x9, y10, y11, x12, x13, x14] = .nx [x0, x1, x2, .ob 14 [.int p, .ls (ts.map dP)], .ls (L.map D.int), x5, x6, .ls ((chL p ts L).map dT), x8, x9, z10, z11, x12, x13, x14]
  | [], y10, y11, _ => ⟨y10, y11, by simp [forL]⟩
  | m :: Nm, y10, y11, h => by
    obtain ⟨m0, m1⟩ := h m (List.mem_cons_self ..)
    obtain ⟨N, rfl⟩ : ∃ N : Nat, m = N := ⟨m.toNat, by omega⟩
    have hN : N < (chL p ts L).length := by omega
    obtain ⟨T, hT⟩ : ∃ T, T = (chL p ts L)[N] := ⟨_, rfl⟩
    have hg : (chL p ts L)[N]? = some T := by rw [hT]; exact List.getElem?_eq_getElem hN
    have a1 := cheap_at_ok hp hp2 hE ht hL (o := .ls (L.map D.int)) rfl (N : Int) N rfl hN
    rw [← hT] at a1
    have n1 := cheap_num_ok hp hp2 hE ht hL (q := .tp (T.map D.int)) (.inr rfl) N hg
    have n2 := cheap_num_ok hp hp2 hE ht hL (q := .ls (T.map D.int)) (.inl rfl) N hg
    have at1 : atI ((chL p ts L).map dT) (N : Int) = some (dT T) := by
      rw [DL.atI_natG (i := (N : Int)) (j := N) rfl (by rw [List.length_map]; exact hN), List.getElem?_map, hg]; rfl
    have tl : T.length ≤ lim := by
      have := tree_len hp ((ch_mem hp).mp (List.mem_of_getElem? hg)).1
      rw [lim_eq]; omega
    have l2 : 2 ≤ lim := by rw [lim_eq]; omega
    obtain ⟨z10, z11, ih⟩ := k63_l7 hp hp2 hE ht hL x0 x1 x2 x5 x6 x8 x9 x12 x13 x14 Nm (.int N) (.ls (T.map D.int)) fun m hm => h m (List.mem_cons_of_mem _ hm)
    refine ⟨z10, z11, ?_⟩
    generalize (chL p ts L).map dT = CH at *
    rw [← ih]
    generalize hNN : (N : Int) = nn at *
    refine forL_step (g1 := [x0, x1, x2, .ob 14 [.int p, .ls (ts.map dP)], .ls (L.map D.int), x5, x6, .ls CH, x8, x9, .int nn, y11, x12, x13, x14]) rfl ?_
    simp only [dT] at a1 at1
    simp [f_law_k63_l7, f_law_k63_l6, forL, a1, at1, n1, n2, tl, l2]
end
theorem true_law_k63 (ns : List Int) (h : ns.length ≤ 63) : g_law_k63 [.sc (ns.map D.int)] = .ok (.bl true) := by
  obtain ⟨p', ts, p1, p2, t1, t2, ew⟩ := web3_ok ns 6 12 (by omega) (by omega) (by omega) (by omega) (by omega)
  have ei := web_init_ok p' ts p1 (by omega) (by omega) t2
  obtain ⟨p, rfl⟩ : ∃ p : Nat, p' = p := ⟨p'.toNat, by omega⟩
  have hp : 1 ≤ p := by omega
  obtain ⟨L, hL, eL⟩ := lengths_ok ns ts.length (by omega)
  have tr := trees3_ok p hp (by omega) ts t2 (by omega)
  have b0 : ts.length ≤ lim := by rw [lim_eq]; omega
  have hl := trees_len p ts
  have hb : (trees p ts).length ≤ 4096 := Nat.le_trans hl (Nat.le_trans (Nat.pow_le_pow_right (by omega) (show ts.length ≤ 12 by omega)) (by decide))
  have bt : (trees p ts).length ≤ lim := by rw [lim_eq]; omega
  obtain ⟨CH, hCH⟩ : ∃ CH, CH = chL p ts L := ⟨_, rfl⟩
  have chl : CH.length ≤ 4096 := by rw [hCH, ch_eq]; exact Nat.le_trans (List.length_filter_le ..) hb
  have lc1 : ∀ x0 x3 x6 x7 x8 x9 x10 x13 x14 : D, lcL (gtN 11) tYesG f_law_k63_c2 [x0, .int p, .ls (ts.map dP), x3, .ls (L.map D.int), .ls ((trees p ts).map dT), x6, x7, x8, x9, x10, .un, .un, x13, x14] ((trees p ts).map dT) = .ok (((trees p ts).map (lsum L)).map D.int) := fun x0 x3 x6 x7 x8 x9 x10 x13 x14 => by
    rw [List.map_map]
    refine lcL_mapN _ fun S hS => ?_
    have hS' := (trees_mem hp).mp hS
    have hin := good_in (treeB_nat.mp hS').2.1
    have sl := tree_len hp hS'
    have bs : S.length ≤ lim := by rw [lim_eq]; omega
    have lc1 : lcL (gtN 12) tYesG f_law_k63_c1 [x0, .int p, .ls (ts.map dP), x3, .ls (L.map D.int), .ls ((trees p ts).map dT), x6, x7, x8, x9, x10, .tp (S.map D.int), .un, x13, x14] (S.map D.int) = .ok ((S.map (nth L)).map D.int) := by
      rw [← map_int]
      refine lcL_mapN S fun t ht => ?_
      obtain ⟨t0, t1⟩ := hin t ht
      have ea := nth_at (m := L) t0 (by omega)
      simp [f_law_k63_c1, ea]
    have es : (S.map (nth L)).sum = lsum L S := rfl
    simp [f_law_k63_c2, dT, lc1, bs, es, -List.map_map]
  have lc3 : ∀ x0 x3 x7 x8 x9 x10 x12 x14 : D, lcL (gtT 2 (gtCons (gtN 11) (gtCons (gtN 13) (gtNil)))) f_law_k63_c3t f_law_k63_c3 [x0, .int p, .ls (ts.map dP), x3, .ls (L.map D.int), .ls ((trees p ts).map dT), .ls (((trees p ts).map (lsum L)).map D.int), x7, x8, x9, x10, .un, x12, .un, x14] (zipD ((trees p ts).map dT) (((trees p ts).map (lsum L)).map D.int)) = .ok (CH.map dT) := fun x0 x3 x7 x8 x9 x10 x12 x14 => by
    rw [List.map_map, zipD_maps, hCH, ch_eq]
    refine lcL_filter _ fun S hS => ?_
    have hne : (trees p ts).map (lsum L) ≠ [] := fun z => by rw [List.map_eq_nil_iff.mp z] at hS; exact nomatch hS
    have cm := caMin3_int _ hne
    obtain ⟨l1, l2⟩ := lst_spec hne
    have hm : lsum L S = lst_ ((trees p ts).map (lsum L)) ↔ gains p ts L S = [] := by
      have hT := (trees_mem hp).mp hS
      rw [gain_iff hp t2 hT L]
      constructor
      · intro e U hU
        rw [e]
        exact l2 _ (List.mem_map.mpr ⟨U, (trees_mem hp).mpr hU, rfl⟩)
      · intro h
        obtain ⟨U, hU, e⟩ := List.mem_map.mp l1
        have a := h U ((trees_mem hp).mp hU)
        have b := l2 _ (List.mem_map.mpr ⟨S, hS, rfl⟩)
        omega
    have hd : decide (lsum L S = lst_ ((trees p ts).map (lsum L))) = decide (gains p ts L S = []) := by rw [decide_eq_decide]; exact hm
    refine ⟨[x0, .int p, .ls (ts.map dP), x3, .ls (L.map D.int), .ls ((trees p ts).map dT), .ls (((trees p ts).map (lsum L)).map D.int), x7, x8, x9, x10, dT S, x12, .int (lsum L S), x14], by simp [dT], ?_, fun _ => by simp [f_law_k63_c3, dT]⟩
    rw [← hd]
    simp [f_law_k63_c3t, dT, cm, -List.map_map]
  obtain ⟨M, hM⟩ : ∃ M : Int, M = (CH.length : Nat) := ⟨_, rfl⟩
  have ct := count_ok hp (by omega) t2 (by omega) hL (o := .ls (L.map D.int)) rfl
  rw [← hCH, ← hM] at ct
  obtain ⟨c1, ec1⟩ := at_ok ns 1 (by omega)
  have rf := refu63_ok hp (by omega) t2 (by omega) hL c1 (by omega)
  rw [← hCH] at rf
  obtain ⟨Nm, hNm, Nl, s11⟩ : ∃ Nm : List Int, (∀ m ∈ Nm, 0 ≤ m ∧ m < M) ∧ Nm.length ≤ 5000 ∧ ∀ x1 x2 x3 x4 x5 x6 x8 : D, sSeq (sAsgF 9 (eLR1 (eCall caLen (aCons (eVar 7) (aNil))))) (sIf (tC2 cGt (eCall caLen (aCons (eVar 7) (aNil))) (eC (.int 10))) (sAsgF 9 (eBin opAdd (eLst (aConsO (eC (.int 0)) (aConsO (eC (.int 1)) (aConsO (eBin opSub (eCall caLen (aCons (eVar 7) (aNil))) (eC (.int 1))) (aNil))))) (eLc (iSeq (eSl (eVar 0) (ePart none) (ePart (some (eC (.int 4)))))) [14] (gtN 14) (tYesG) f_law_k63_c5))) (sNil)) [.sc (ns.map D.int), x1, x2, x3, x4, x5, x6, .ls (CH.map dT), x8, .un, .un, .un, .un, .un, .un] = .nx [.sc (ns.map D.int), x1, x2, x3, x4, x5, x6, .ls (CH.map dT), x8, .ls (Nm.map D.int), .un, .un, .un, .un, .un] := by
    have hr : rgOk M := rgOk_of (by omega) (by omega)
    have h3 : M ≤ 1000000 := by omega
    have et : rng 0 M.toNat = (iota CH.length).map D.int := by rw [show M.toNat = CH.length by omega, rng_iota]
    have hl' : (CH.length : Int) = M := hM.symm
    by_cases c : 10 < M
    · refine ⟨[0, 1, M - 1] ++ (ns.take 4).map (fun c => stF c 11 % M), fun m hm => ?_, by simp; omega, fun x1 x2 x3 x4 x5 x6 x8 => ?_⟩
      · rcases List.mem_append.mp hm with z | z
        · simp only [List.mem_cons, List.not_mem_nil, or_false] at z
          rcases z with rfl | rfl | rfl <;> omega
        · obtain ⟨c, _, rfl⟩ := List.mem_map.mp z
          exact ⟨Int.emod_nonneg _ (by omega), Int.emod_lt_of_pos _ (by omega)⟩
      · have ct4 : cut ns none (some 4) = ns.take 4 := by rw [cut_to ns 4 (by omega)]; rfl
        have l3 : 3 ≤ lim := by rw [lim_eq]; omega
        have b4 : (ns.take 4).length ≤ lim := by rw [List.length_take, lim_eq]; omega
        have b4' : min 4 ns.length ≤ lim := by rw [lim_eq]; omega
        have b5 : 3 + min 4 ns.length ≤ lim := by rw [lim_eq]; omega
        have m0 : 0 < M := by omega
        have lc5 : ∀ x9 : D, lcL (gtN 14) tYesG f_law_k63_c5 [.sc (ns.map D.int), x1, x2, x3, x4, x5, x6, .ls (CH.map dT), x8, x9, .un, .un, .un, .un, .un] ((ns.take 4).map D.int) = .ok (((ns.take 4).map (fun c => stF c 11 % M)).map D.int) := fun x9 => by
          rw [List.map_map]
          refine lcL_mapN _ fun c _ => ?_
          simp [f_law_k63_c5, stir_ok, hl', m0]
        simp [hl', hr, h3, et, c, ct4, lc5, l3, b4, b4', b5, -List.map_map, -List.map_take]
    · refine ⟨iota CH.length, fun m hm => ?_, by rw [iota_len]; omega, fun x1 x2 x3 x4 x5 x6 x8 => ?_⟩
      · have := iota_mem.mp hm; omega
      · simp [hl', hr, h3, et, c]
  obtain ⟨z10, z11, lp⟩ := k63_l7 (p := p) (ts := ts) (L := L) hp (by omega) t2 (by omega) hL (.sc (ns.map D.int)) (.int p) (.ls (ts.map dP)) (.ls ((trees p ts).map dT)) (.ls (((trees p ts).map (lsum L)).map D.int)) (.int M) (.ls (Nm.map D.int)) .un .un .un Nm .un .un (fun m hm => by rw [← hCH]; have := hNm m hm; omega)
  rw [← hCH] at lp
  have hl' : (CH.length : Int) = M := hM.symm
  have bz : (zipD ((trees p ts).map dT) (((trees p ts).map (lsum L)).map D.int)).length ≤ lim := by rw [zipD_len]; simp; omega
  have q1 : sAsgT (gtT 2 (gtCons (gtN 1) (gtCons (gtN 2) (gtNil)))) (eOwn g_law_web_v3 (aCons (eVar 0) (aCons (eC (.int 6)) (aCons (eC (.int 12)) (aNil))))) [.sc (ns.map D.int), .un, .un, .un, .un, .un, .un, .un, .un, .un, .un, .un, .un, .un, .un] = .nx [.sc (ns.map D.int), .int p, .ls (ts.map dP), .un, .un, .un, .un, .un, .un, .un, .un, .un, .un, .un, .un] := by simp [ew]
  have q2 : sAsgF 3 (eMkF 14 g_Web_init (aCons (eVar 1) (aCons (eCall caList (aCons (eVar 2) (aNil))) (aNil)))) [.sc (ns.map D.int), .int p, .ls (ts.map dP), .un, .un, .un, .un, .un, .un, .un, .un, .un, .un, .un, .un] = .nx [.sc (ns.map D.int), .int p, .ls (ts.map dP), .ob 14 [.int p, .ls (ts.map dP)], .un, .un, .un, .un, .un, .un, .un, .un, .un, .un, .un] := by simp [ei, b0]
  have q3 : sAsgF 4 (eOwn g_law_lengths (aCons (eVar 0) (aCons (eCall caLen (aCons (eVar 2) (aNil))) (aNil)))) [.sc (ns.map D.int), .int p, .ls (ts.map dP), .ob 14 [.int p, .ls (ts.map dP)], .un, .un, .un, .un, .un, .un, .un, .un, .un, .un, .un] = .nx [.sc (ns.map D.int), .int p, .ls (ts.map dP), .ob 14 [.int p, .ls (ts.map dP)], .ls (L.map D.int), .un, .un, .un, .un, .un, .un, .un, .un, .un, .un] := by simp [eL]
  have q4 : sAsgF 5 (eOwn g_law_trees_v3 (aCons (eVar 1) (aCons (eVar 2) (aNil)))) [.sc (ns.map D.int), .int p, .ls (ts.map dP), .ob 14 [.int p, .ls (ts.map dP)], .ls (L.map D.int), .un, .un, .un, .un, .un, .un, .un, .un, .un, .un] = .nx [.sc (ns.map D.int), .int p, .ls (ts.map dP), .ob 14 [.int p, .ls (ts.map dP)], .ls (L.map D.int), .ls ((trees p ts).map dT), .un, .un, .un, .un, .un, .un, .un, .un, .un] := by simp [tr]
  have q5 : sAsgF 6 (eLc (iSeq (eVar 5)) [11] (gtN 11) (tYesG) f_law_k63_c2) [.sc (ns.map D.int), .int p, .ls (ts.map dP), .ob 14 [.int p, .ls (ts.map dP)], .ls (L.map D.int), .ls ((trees p ts).map dT), .un, .un, .un, .un, .un, .un, .un, .un, .un] = .nx [.sc (ns.map D.int), .int p, .ls (ts.map dP), .ob 14 [.int p, .ls (ts.map dP)], .ls (L.map D.int), .ls ((trees p ts).map dT), .ls (((trees p ts).map (lsum L)).map D.int), .un, .un, .un, .un, .un, .un, .un, .un] := by simp [lc1, bt, -List.map_map]
  have q6 : sAsgF 7 (eLc (iZp (aCons (eVar 5) (aCons (eVar 6) (aNil)))) [11, 13] (gtT 2 (gtCons (gtN 11) (gtCons (gtN 13) (gtNil)))) (f_law_k63_c3t) f_law_k63_c3) [.sc (ns.map D.int), .int p, .ls (ts.map dP), .ob 14 [.int p, .ls (ts.map dP)], .ls (L.map D.int), .ls ((trees p ts).map dT), .ls (((trees p ts).map (lsum L)).map D.int), .un, .un, .un, .un, .un, .un, .un, .un] = .nx [.sc (ns.map D.int), .int p, .ls (ts.map dP), .ob 14 [.int p, .ls (ts.map dP)], .ls (L.map D.int), .ls ((trees p ts).map dT), .ls (((trees p ts).map (lsum L)).map D.int), .ls (CH.map dT), .un, .un, .un, .un, .un, .un, .un] := by simp [lc3, bz, bt, -List.map_map]
  have q7 : sAsgF 8 (eOwn g_cheapest_count (aCons (eVar 3) (aCons (eVar 4) (aNil)))) [.sc (ns.map D.int), .int p, .ls (ts.map dP), .ob 14 [.int p, .ls (ts.map dP)], .ls (L.map D.int), .ls ((trees p ts).map dT), .ls (((trees p ts).map (lsum L)).map D.int), .ls (CH.map dT), .un, .un, .un, .un, .un, .un, .un] = .nx [.sc (ns.map D.int), .int p, .ls (ts.map dP), .ob 14 [.int p, .ls (ts.map dP)], .ls (L.map D.int), .ls ((trees p ts).map dT), .ls (((trees p ts).map (lsum L)).map D.int), .ls (CH.map dT), .int M, .un, .un, .un, .un, .un, .un] := by simp [ct, -List.map_map]
  have q8 : sIf (tOr_ (tTr (eIsT "bool" (eVar 8))) (tOr_ (tNo (tTr (eIsT "int" (eVar 8)))) (tC2 cNe (eVar 8) (eCall caLen (aCons (eVar 7) (aNil)))))) (sRet (eC (.bl false))) (sNil) [.sc (ns.map D.int), .int p, .ls (ts.map dP), .ob 14 [.int p, .ls (ts.map dP)], .ls (L.map D.int), .ls ((trees p ts).map dT), .ls (((trees p ts).map (lsum L)).map D.int), .ls (CH.map dT), .int M, .un, .un, .un, .un, .un, .un] = .nx [.sc (ns.map D.int), .int p, .ls (ts.map dP), .ob 14 [.int p, .ls (ts.map dP)], .ls (L.map D.int), .ls ((trees p ts).map dT), .ls (((trees p ts).map (lsum L)).map D.int), .ls (CH.map dT), .int M, .un, .un, .un, .un, .un, .un] := by simp [hl', -List.map_map]
  have q9 : sFor (iSeq (eVar 9)) (gtN 10) f_law_k63_l7 [.sc (ns.map D.int), .int p, .ls (ts.map dP), .ob 14 [.int p, .ls (ts.map dP)], .ls (L.map D.int), .ls ((trees p ts).map dT), .ls (((trees p ts).map (lsum L)).map D.int), .ls (CH.map dT), .int M, .ls (Nm.map D.int), .un, .un, .un, .un, .un] = .nx [.sc (ns.map D.int), .int p, .ls (ts.map dP), .ob 14 [.int p, .ls (ts.map dP)], .ls (L.map D.int), .ls ((trees p ts).map dT), .ls (((trees p ts).map (lsum L)).map D.int), .ls (CH.map dT), .int M, .ls (Nm.map D.int), z10, z11, .un, .un, .un] := by simp [lp, -List.map_map]
  have q10 : sRet (eOwn g_law_refusals_right (aCons (eVar 3) (aCons (eVar 4) (aCons (eVar 7) (aCons (eVar 5) (aCons (eOwn g_law_at (aCons (eVar 0) (aCons (eC (.int 1)) (aNil)))) (aNil))))))) [.sc (ns.map D.int), .int p, .ls (ts.map dP), .ob 14 [.int p, .ls (ts.map dP)], .ls (L.map D.int), .ls ((trees p ts).map dT), .ls (((trees p ts).map (lsum L)).map D.int), .ls (CH.map dT), .int M, .ls (Nm.map D.int), z10, z11, .un, .un, .un] = .rt (.bl true) := by simp [rf, ec1, -List.map_map]
  have all : f_law_k63 [.sc (ns.map D.int), .un, .un, .un, .un, .un, .un, .un, .un, .un, .un, .un, .un, .un, .un] = .rt (.bl true) := by
    unfold f_law_k63
    refine seq_to q1 (seq_to q2 (seq_to q3 (seq_to q4 (seq_to q5 (seq_to q6 (seq_to q7 (seq_to q8 ?_)))))))
    have := s11 (.int p) (.ls (ts.map dP)) (.ob 14 [.int p, .ls (ts.map dP)]) (.ls (L.map D.int)) (.ls ((trees p ts).map dT)) (.ls (((trees p ts).map (lsum L)).map D.int)) (.int M)
    rw [← sSeq_asc]
    exact seq_to this (seq_to q9 q10)
  unfold g_law_k63 runF
  rw [show ([.sc (ns.map D.int)] ++ List.replicate (15 - [D.sc (ns.map D.int)].length) .un : List D) = [.sc (ns.map D.int), .un, .un, .un, .un, .un, .un, .un, .un, .un, .un, .un, .un, .un, .un] from rfl, all]
end Lw
end

namespace Lw
open PySem L2 DL
def top (i : Nat) : Stmt := PySem.Challenge.pw_spanrow_k63_whole_cheapest_ones_by_trial.main.body.getD i (.Pass ⟨0, 0, 0, 0⟩)
abbrev s_look_at_table : Stmt := top 9
abbrev s_first_row_with : Stmt := top 10
abbrev s_cleared : Stmt := top 11
abbrev s_determinant : Stmt := top 12
abbrev s_Web_init : Stmt := inClass (top 16) 0
abbrev s_marks_over : Stmt := top 17
abbrev s_is_tree : Stmt := top 19
abbrev s_look_at_tree : Stmt := top 20
abbrev s_without_tie : Stmt := top 21
abbrev s_cut_of : Stmt := top 22
abbrev s_exchanges_of : Stmt := top 23
abbrev s_look_at_lengths : Stmt := top 25
abbrev s_heads_joined : Stmt := top 26
abbrev s_gains_of : Stmt := top 27
abbrev s_is_cheapest : Stmt := top 28
abbrev s_ways_to_join : Stmt := top 29
abbrev s_layer_ways : Stmt := top 30
abbrev s_cheapest_with : Stmt := top 31
abbrev s_cheapest_count : Stmt := top 32
abbrev s_cheapest_at : Stmt := top 33
abbrev s_cheapest_number : Stmt := top 34
abbrev s_law_at : Stmt := top 36
abbrev s_law_stir : Stmt := top 37
abbrev s_law_numbers_v3 : Stmt := top 38
abbrev s_law_digits : Stmt := top 39
abbrev s_law_web_v3 : Stmt := top 40
abbrev s_law_trees_v3 : Stmt := top 41
abbrev s_law_lengths : Stmt := top 42
abbrev s_law_kind : Stmt := top 43
abbrev s_law_refusals_right : Stmt := top 44
abbrev s_law_k63 : Stmt := top 45
abbrev N_look_at_table : List Str := ["table", "row"]
abbrev N_first_row_with : List Str := ["rows", "at", "k"]
abbrev N_cleared : List Str := ["rows", "at", "ahead", "told", "pivot", "row", "made", "j"]
abbrev N_determinant : List Str := ["table", "rows", "sign", "ahead", "at", "found", "row"]
abbrev N_Web_init : List Str := ["self", "places", "ties", "one", "other"]
abbrev N_marks_over : List Str := ["web", "ties", "marks", "tie", "one", "other", "low", "high", "mark"]
abbrev N_is_tree : List Str := ["web", "ties", "ahead", "tie"]
abbrev N_look_at_tree : List Str := ["web", "tree"]
abbrev N_without_tie : List Str := ["ties", "tie", "other"]
abbrev N_cut_of : List Str := ["web", "tree", "tie", "marks", "k", "ends"]
abbrev N_exchanges_of : List Str := ["web", "tree", "told", "out", "into"]
abbrev N_look_at_lengths : List Str := ["web", "lengths"]
abbrev N_heads_joined : List Str := ["heads", "ends", "one", "other", "head"]
abbrev N_gains_of : List Str := ["web", "lengths", "tree", "pair"]
abbrev N_is_cheapest : List Str := ["web", "lengths", "tree"]
abbrev N_ways_to_join : List Str := ["pairs", "names", "heads", "table", "pair", "one", "other", "kept", "name", "home"]
abbrev N_layer_ways : List Str := ["web", "heads", "layer", "inside", "outside", "drawn", "tie", "behind", "pairs", "left", "one", "other"]
abbrev N_cheapest_with : List Str := ["web", "lengths", "inside", "outside", "heads", "ways", "length", "layer", "tie"]
abbrev N_cheapest_count : List Str := ["web", "lengths"]
abbrev N_cheapest_at : List Str := ["web", "lengths", "number", "count", "inside", "outside", "tie", "ways"]
abbrev N_cheapest_number : List Str := ["web", "lengths", "tree", "number", "inside", "outside", "tie"]
abbrev N_law_at : List Str := ["script", "k"]
abbrev N_law_stir : List Str := ["cell", "k", "m"]
abbrev N_law_numbers_v3 : List Str := ["script", "start", "most", "told", "k", "cell"]
abbrev N_law_digits : List Str := ["cell", "most_places", "most_ties", "places", "whole", "ties", "rest", "k"]
abbrev N_law_web_v3 : List Str := ["script", "most_places", "most_ties", "head", "places", "ties", "k", "number", "one", "other"]
abbrev N_law_trees_v3 : List Str := ["places", "ties", "told", "k", "longer", "part", "heads", "tie", "one", "other", "joined_heads", "head"]
abbrev N_law_lengths : List Str := ["script", "count", "head", "rest", "lengths", "k", "far"]
abbrev N_law_kind : List Str := ["deed", "web", "lengths", "what", "kinds", "e"]
abbrev N_law_refusals_right : List Str := ["web", "lengths", "cheap", "trees", "cell", "number", "dear", "odd", "tree"]
abbrev N_law_k63 : List Str := ["script", "places", "ties", "web", "lengths", "trees", "ranks", "cheap", "found", "numbers", "number", "tree", "tie", "rank", "cell"]
theorem sc_look_at_table : FnScope ["table", "row"] ["table"] (defScope s_look_at_table) := ⟨rfl, rfl, rfl, by decide +kernel, rfl, by decide +kernel, by decide +kernel⟩
theorem sc_first_row_with : FnScope ["rows", "at", "k"] ["rows", "at"] (defScope s_first_row_with) := ⟨rfl, rfl, rfl, by decide +kernel, rfl, by decide +kernel, by decide +kernel⟩
theorem sc_cleared : FnScope ["rows", "at", "ahead", "told", "pivot", "row", "made", "j"] ["rows", "at", "ahead"] (defScope s_cleared) := ⟨rfl, rfl, rfl, by decide +kernel, rfl, by decide +kernel, by decide +kernel⟩
theorem sc_determinant : FnScope ["table", "rows", "sign", "ahead", "at", "found", "row"] ["table"] (defScope s_determinant) := ⟨rfl, rfl, rfl, by decide +kernel, rfl, by decide +kernel, by decide +kernel⟩
theorem sc_Web_init : FnScope ["self", "places", "ties", "one", "other"] ["self", "places", "ties"] (defScope s_Web_init) := ⟨rfl, rfl, rfl, by decide +kernel, rfl, by decide +kernel, by decide +kernel⟩
theorem sc_marks_over : FnScope ["web", "ties", "marks", "tie", "one", "other", "low", "high", "mark"] ["web", "ties"] (defScope s_marks_over) := ⟨rfl, rfl, rfl, by decide +kernel, rfl, by decide +kernel, by decide +kernel⟩
theorem sc_is_tree : FnScope ["web", "ties", "ahead", "tie"] ["web", "ties"] (defScope s_is_tree) := ⟨rfl, rfl, rfl, by decide +kernel, rfl, by decide +kernel, by decide +kernel⟩
theorem sc_look_at_tree : FnScope ["web", "tree"] ["web", "tree"] (defScope s_look_at_tree) := ⟨rfl, rfl, rfl, by decide +kernel, rfl, by decide +kernel, by decide +kernel⟩
theorem sc_without_tie : FnScope ["ties", "tie", "other"] ["ties", "tie"] (defScope s_without_tie) := ⟨rfl, rfl, rfl, by decide +kernel, rfl, by decide +kernel, by decide +kernel⟩
theorem sc_cut_of : FnScope ["web", "tree", "tie", "marks", "k", "ends"] ["web", "tree", "tie"] (defScope s_cut_of) := ⟨rfl, rfl, rfl, by decide +kernel, rfl, by decide +kernel, by decide +kernel⟩
theorem sc_exchanges_of : FnScope ["web", "tree", "told", "out", "into"] ["web", "tree"] (defScope s_exchanges_of) := ⟨rfl, rfl, rfl, by decide +kernel, rfl, by decide +kernel, by decide +kernel⟩
theorem sc_look_at_lengths : FnScope ["web", "lengths"] ["web", "lengths"] (defScope s_look_at_lengths) := ⟨rfl, rfl, rfl, by decide +kernel, rfl, by decide +kernel, by decide +kernel⟩
theorem sc_heads_joined : FnScope ["heads", "ends", "one", "other", "head"] ["heads", "ends"] (defScope s_heads_joined) := ⟨rfl, rfl, rfl, by decide +kernel, rfl, by decide +kernel, by decide +kernel⟩
theorem sc_gains_of : FnScope ["web", "lengths", "tree", "pair"] ["web", "lengths", "tree"] (defScope s_gains_of) := ⟨rfl, rfl, rfl, by decide +kernel, rfl, by decide +kernel, by decide +kernel⟩
theorem sc_is_cheapest : FnScope ["web", "lengths", "tree"] ["web", "lengths", "tree"] (defScope s_is_cheapest) := ⟨rfl, rfl, rfl, by decide +kernel, rfl, by decide +kernel, by decide +kernel⟩
theorem sc_ways_to_join : FnScope ["pairs", "names", "heads", "table", "pair", "one", "other", "kept", "name", "home"] ["pairs"] (defScope s_ways_to_join) := ⟨rfl, rfl, rfl, by decide +kernel, rfl, by decide +kernel, by decide +kernel⟩
theorem sc_layer_ways : FnScope ["web", "heads", "layer", "inside", "outside", "drawn", "tie", "behind", "pairs", "left", "one", "other"] ["web", "heads", "layer", "inside", "outside"] (defScope s_layer_ways) := ⟨rfl, rfl, rfl, by decide +kernel, rfl, by decide +kernel, by decide +kernel⟩
theorem sc_cheapest_with : FnScope ["web", "lengths", "inside", "outside", "heads", "ways", "length", "layer", "tie"] ["web", "lengths", "inside", "outside"] (defScope s_cheapest_with) := ⟨rfl, rfl, rfl, by decide +kernel, rfl, by decide +kernel, by decide +kernel⟩
theorem sc_cheapest_count : FnScope ["web", "lengths"] ["web", "lengths"] (defScope s_cheapest_count) := ⟨rfl, rfl, rfl, by decide +kernel, rfl, by decide +kernel, by decide +kernel⟩
theorem sc_cheapest_at : FnScope ["web", "lengths", "number", "count", "inside", "outside", "tie", "ways"] ["web", "lengths", "number"] (defScope s_cheapest_at) := ⟨rfl, rfl, rfl, by decide +kernel, rfl, by decide +kernel, by decide +kernel⟩
theorem sc_cheapest_number : FnScope ["web", "lengths", "tree", "number", "inside", "outside", "tie"] ["web", "lengths", "tree"] (defScope s_cheapest_number) := ⟨rfl, rfl, rfl, by decide +kernel, rfl, by decide +kernel, by decide +kernel⟩
theorem sc_law_at : FnScope ["script", "k"] ["script", "k"] (defScope s_law_at) := ⟨rfl, rfl, rfl, by decide +kernel, rfl, by decide +kernel, by decide +kernel⟩
theorem sc_law_stir : FnScope ["cell", "k", "m"] ["cell", "k"] (defScope s_law_stir) := ⟨rfl, rfl, rfl, by decide +kernel, rfl, by decide +kernel, by decide +kernel⟩
theorem sc_law_numbers_v3 : FnScope ["script", "start", "most", "told", "k", "cell"] ["script", "start", "most"] (defScope s_law_numbers_v3) := ⟨rfl, rfl, rfl, by decide +kernel, rfl, by decide +kernel, by decide +kernel⟩
theorem sc_law_digits : FnScope ["cell", "most_places", "most_ties", "places", "whole", "ties", "rest", "k"] ["cell", "most_places", "most_ties"] (defScope s_law_digits) := ⟨rfl, rfl, rfl, by decide +kernel, rfl, by decide +kernel, by decide +kernel⟩
theorem sc_law_web_v3 : FnScope ["script", "most_places", "most_ties", "head", "places", "ties", "k", "number", "one", "other"] ["script", "most_places", "most_ties"] (defScope s_law_web_v3) := ⟨rfl, rfl, rfl, by decide +kernel, rfl, by decide +kernel, by decide +kernel⟩
theorem sc_law_trees_v3 : FnScope ["places", "ties", "told", "k", "longer", "part", "heads", "tie", "one", "other", "joined_heads", "head"] ["places", "ties"] (defScope s_law_trees_v3) := ⟨rfl, rfl, rfl, by decide +kernel, rfl, by decide +kernel, by decide +kernel⟩
theorem sc_law_lengths : FnScope ["script", "count", "head", "rest", "lengths", "k", "far"] ["script", "count"] (defScope s_law_lengths) := ⟨rfl, rfl, rfl, by decide +kernel, rfl, by decide +kernel, by decide +kernel⟩
theorem sc_law_kind : FnScope ["deed", "web", "lengths", "what", "kinds", "e"] ["deed", "web", "lengths", "what"] (defScope s_law_kind) := ⟨rfl, rfl, rfl, by decide +kernel, rfl, by decide +kernel, by decide +kernel⟩
theorem sc_law_refusals_right : FnScope ["web", "lengths", "cheap", "trees", "cell", "number", "dear", "odd", "tree"] ["web", "lengths", "cheap", "trees", "cell"] (defScope s_law_refusals_right) := ⟨rfl, rfl, rfl, by decide +kernel, rfl, by decide +kernel, by decide +kernel⟩
theorem sc_law_k63 : FnScope ["script", "places", "ties", "web", "lengths", "trees", "ranks", "cheap", "found", "numbers", "number", "tree", "tie", "rank", "cell"] ["script"] (defScope s_law_k63) := ⟨rfl, rfl, rfl, by decide +kernel, rfl, by decide +kernel, by decide +kernel⟩
set_option maxHeartbeats 8000000 in
structure Tx (K : PySem.W.Frag) (mg : Str → Option Value) : Type where
  C_WebError : Addr
  C_BadWeb : Addr
  C_NoTree : Addr
  C_NoTie : Addr
  C_NoSuch : Addr
  C_NotSquare : Addr
  C_BadRow : Addr
  C_Web : Addr
  a_look_at_table : Addr
  d_look_at_table : FuncData
  a_first_row_with : Addr
  d_first_row_with : FuncData
  a_cleared : Addr
  d_cleared : FuncData
  a_determinant : Addr
  d_determinant : FuncData
  a_Web_init : Addr
  d_Web_init : FuncData
  a_marks_over : Addr
  d_marks_over : FuncData
  a_is_tree : Addr
  d_is_tree : FuncData
  a_look_at_tree : Addr
  d_look_at_tree : FuncData
  a_without_tie : Addr
  d_without_tie : FuncData
  a_cut_of : Addr
  d_cut_of : FuncData
  a_exchanges_of : Addr
  d_exchanges_of : FuncData
  a_look_at_lengths : Addr
  d_look_at_lengths : FuncData
  a_heads_joined : Addr
  d_heads_joined : FuncData
  a_gains_of : Addr
  d_gains_of : FuncData
  a_is_cheapest : Addr
  d_is_cheapest : FuncData
  a_ways_to_join : Addr
  d_ways_to_join : FuncData
  a_layer_ways : Addr
  d_layer_ways : FuncData
  a_cheapest_with : Addr
  d_cheapest_with : FuncData
  a_cheapest_count : Addr
  d_cheapest_count : FuncData
  a_cheapest_at : Addr
  d_cheapest_at : FuncData
  a_cheapest_number : Addr
  d_cheapest_number : FuncData
  a_law_at : Addr
  d_law_at : FuncData
  a_law_stir : Addr
  d_law_stir : FuncData
  a_law_numbers_v3 : Addr
  d_law_numbers_v3 : FuncData
  a_law_digits : Addr
  d_law_digits : FuncData
  a_law_web_v3 : Addr
  d_law_web_v3 : FuncData
  a_law_trees_v3 : Addr
  d_law_trees_v3 : FuncData
  a_law_lengths : Addr
  d_law_lengths : FuncData
  a_law_kind : Addr
  d_law_kind : FuncData
  a_law_refusals_right : Addr
  d_law_refusals_right : FuncData
  a_law_k63 : Addr
  d_law_k63 : FuncData
  t_MOST_PLACES : Tok
  t_MOST_TIES : Tok
  m_WebError : mg "WebError" = some (.ref C_WebError)
  x_WebError : PySem.W.excIn K C_WebError [.type "ValueError", .type "Exception", .type "BaseException", .type "object"] "ValueError.__new__" = true
  kx_WebError : PySem.W.keepIn K (.ref C_WebError) = true
  bx_WebError : PySem.W.subIn K (.ref C_WebError) (.type "BaseException") = some true
  tx_WebError : PySem.W.typeIn K (.ref C_WebError) = some (.type "type")
  m_BadWeb : mg "BadWeb" = some (.ref C_BadWeb)
  x_BadWeb : PySem.W.excIn K C_BadWeb [.type "ValueError", .type "Exception", .type "BaseException", .type "object"] "ValueError.__new__" = true
  kx_BadWeb : PySem.W.keepIn K (.ref C_BadWeb) = true
  bx_BadWeb : PySem.W.subIn K (.ref C_BadWeb) (.type "BaseException") = some true
  tx_BadWeb : PySem.W.typeIn K (.ref C_BadWeb) = some (.type "type")
  m_NoTree : mg "NoTree" = some (.ref C_NoTree)
  x_NoTree : PySem.W.excIn K C_NoTree [.type "ValueError", .type "Exception", .type "BaseException", .type "object"] "ValueError.__new__" = true
  kx_NoTree : PySem.W.keepIn K (.ref C_NoTree) = true
  bx_NoTree : PySem.W.subIn K (.ref C_NoTree) (.type "BaseException") = some true
  tx_NoTree : PySem.W.typeIn K (.ref C_NoTree) = some (.type "type")
  m_NoTie : mg "NoTie" = some (.ref C_NoTie)
  x_NoTie : PySem.W.excIn K C_NoTie [.type "ValueError", .type "Exception", .type "BaseException", .type "object"] "ValueError.__new__" = true
  kx_NoTie : PySem.W.keepIn K (.ref C_NoTie) = true
  bx_NoTie : PySem.W.subIn K (.ref C_NoTie) (.type "BaseException") = some true
  tx_NoTie : PySem.W.typeIn K (.ref C_NoTie) = some (.type "type")
  m_NoSuch : mg "NoSuch" = some (.ref C_NoSuch)
  x_NoSuch : PySem.W.excIn K C_NoSuch [.type "ValueError", .type "Exception", .type "BaseException", .type "object"] "ValueError.__new__" = true
  kx_NoSuch : PySem.W.keepIn K (.ref C_NoSuch) = true
  bx_NoSuch : PySem.W.subIn K (.ref C_NoSuch) (.type "BaseException") = some true
  tx_NoSuch : PySem.W.typeIn K (.ref C_NoSuch) = some (.type "type")
  m_NotSquare : mg "NotSquare" = some (.ref C_NotSquare)
  x_NotSquare : PySem.W.excIn K C_NotSquare [.type "ValueError", .type "Exception", .type "BaseException", .type "object"] "ValueError.__new__" = true
  kx_NotSquare : PySem.W.keepIn K (.ref C_NotSquare) = true
  bx_NotSquare : PySem.W.subIn K (.ref C_NotSquare) (.type "BaseException") = some true
  tx_NotSquare : PySem.W.typeIn K (.ref C_NotSquare) = some (.type "type")
  m_BadRow : mg "BadRow" = some (.ref C_BadRow)
  x_BadRow : PySem.W.excIn K C_BadRow [.type "ValueError", .type "Exception", .type "BaseException", .type "object"] "ValueError.__new__" = true
  kx_BadRow : PySem.W.keepIn K (.ref C_BadRow) = true
  bx_BadRow : PySem.W.subIn K (.ref C_BadRow) (.type "BaseException") = some true
  tx_BadRow : PySem.W.typeIn K (.ref C_BadRow) = some (.type "type")
  ct_BadWeb_WebError : PySem.W.exmOne K (.ref C_BadWeb) (.ref C_WebError) = some true
  ct_NoTree_WebError : PySem.W.exmOne K (.ref C_NoTree) (.ref C_WebError) = some true
  ct_NoTie_WebError : PySem.W.exmOne K (.ref C_NoTie) (.ref C_WebError) = some true
  ct_NoSuch_WebError : PySem.W.exmOne K (.ref C_NoSuch) (.ref C_WebError) = some true
  ct_NotSquare_WebError : PySem.W.exmOne K (.ref C_NotSquare) (.ref C_WebError) = some true
  ct_BadRow_WebError : PySem.W.exmOne K (.ref C_BadRow) (.ref C_WebError) = some true
  xc_BadWeb : ExcC K C_BadWeb
  xc_NoTree : ExcC K C_NoTree
  xc_NoTie : ExcC K C_NoTie
  xc_NoSuch : ExcC K C_NoSuch
  xc_NotSquare : ExcC K C_NotSquare
  xc_BadRow : ExcC K C_BadRow
  is_BadWeb_NoSuch : PySem.W.kitOne K (.ref C_BadWeb) (.ref C_NoSuch) = some false
  is_NoTree_NoSuch : PySem.W.kitOne K (.ref C_NoTree) (.ref C_NoSuch) = some false
  is_NoTie_NoSuch : PySem.W.kitOne K (.ref C_NoTie) (.ref C_NoSuch) = some false
  is_NoSuch_NoSuch : PySem.W.kitOne K (.ref C_NoSuch) (.ref C_NoSuch) = some true
  is_NotSquare_NoSuch : PySem.W.kitOne K (.ref C_NotSquare) (.ref C_NoSuch) = some false
  is_BadRow_NoSuch : PySem.W.kitOne K (.ref C_BadRow) (.ref C_NoSuch) = some false
  is_BadWeb_NoTree : PySem.W.kitOne K (.ref C_BadWeb) (.ref C_NoTree) = some false
  is_NoTree_NoTree : PySem.W.kitOne K (.ref C_NoTree) (.ref C_NoTree) = some true
  is_NoTie_NoTree : PySem.W.kitOne K (.ref C_NoTie) (.ref C_NoTree) = some false
  is_NoSuch_NoTree : PySem.W.kitOne K (.ref C_NoSuch) (.ref C_NoTree) = some false
  is_NotSquare_NoTree : PySem.W.kitOne K (.ref C_NotSquare) (.ref C_NoTree) = some false
  is_BadRow_NoTree : PySem.W.kitOne K (.ref C_BadRow) (.ref C_NoTree) = some false
  is_BadWeb_ValueError : PySem.W.kitOne K (.ref C_BadWeb) (.type "ValueError") = some true
  is_NoTree_ValueError : PySem.W.kitOne K (.ref C_NoTree) (.type "ValueError") = some true
  is_NoTie_ValueError : PySem.W.kitOne K (.ref C_NoTie) (.type "ValueError") = some true
  is_NoSuch_ValueError : PySem.W.kitOne K (.ref C_NoSuch) (.type "ValueError") = some true
  is_NotSquare_ValueError : PySem.W.kitOne K (.ref C_NotSquare) (.type "ValueError") = some true
  is_BadRow_ValueError : PySem.W.kitOne K (.ref C_BadRow) (.type "ValueError") = some true
  m_Web : mg "Web" = some (.ref C_Web)
  cl_Web : L2.Cls K C_Web
  na_Web_places : NoAttr K C_Web "places"
  na_Web_ties : NoAttr K C_Web "ties"
  mk_Web : Mk K C_Web a_Web_init
  F_look_at_table : Fun K "look_at_table" "look_at_table" s_look_at_table a_look_at_table d_look_at_table
  b_look_at_table : Binds K d_look_at_table ["table"] []
  m_look_at_table : mg "look_at_table" = some (.ref a_look_at_table)
  k_look_at_table : PySem.W.keepIn K (.ref a_look_at_table) = true
  F_first_row_with : Fun K "first_row_with" "first_row_with" s_first_row_with a_first_row_with d_first_row_with
  b_first_row_with : Binds K d_first_row_with ["rows", "at"] []
  m_first_row_with : mg "first_row_with" = some (.ref a_first_row_with)
  k_first_row_with : PySem.W.keepIn K (.ref a_first_row_with) = true
  F_cleared : Fun K "cleared" "cleared" s_cleared a_cleared d_cleared
  b_cleared : Binds K d_cleared ["rows", "at", "ahead"] []
  m_cleared : mg "cleared" = some (.ref a_cleared)
  k_cleared : PySem.W.keepIn K (.ref a_cleared) = true
  F_determinant : Fun K "determinant" "determinant" s_determinant a_determinant d_determinant
  b_determinant : Binds K d_determinant ["table"] []
  m_determinant : mg "determinant" = some (.ref a_determinant)
  k_determinant : PySem.W.keepIn K (.ref a_determinant) = true
  F_Web_init : Fun K "__init__" "Web.__init__" s_Web_init a_Web_init d_Web_init
  b_Web_init : Binds K d_Web_init ["self", "places", "ties"] []
  k_Web_init : PySem.W.keepIn K (.ref a_Web_init) = true
  F_marks_over : Fun K "marks_over" "marks_over" s_marks_over a_marks_over d_marks_over
  b_marks_over : Binds K d_marks_over ["web", "ties"] []
  m_marks_over : mg "marks_over" = some (.ref a_marks_over)
  k_marks_over : PySem.W.keepIn K (.ref a_marks_over) = true
  F_is_tree : Fun K "is_tree" "is_tree" s_is_tree a_is_tree d_is_tree
  b_is_tree : Binds K d_is_tree ["web", "ties"] []
  m_is_tree : mg "is_tree" = some (.ref a_is_tree)
  k_is_tree : PySem.W.keepIn K (.ref a_is_tree) = true
  F_look_at_tree : Fun K "look_at_tree" "look_at_tree" s_look_at_tree a_look_at_tree d_look_at_tree
  b_look_at_tree : Binds K d_look_at_tree ["web", "tree"] []
  m_look_at_tree : mg "look_at_tree" = some (.ref a_look_at_tree)
  k_look_at_tree : PySem.W.keepIn K (.ref a_look_at_tree) = true
  F_without_tie : Fun K "without_tie" "without_tie" s_without_tie a_without_tie d_without_tie
  b_without_tie : Binds K d_without_tie ["ties", "tie"] []
  m_without_tie : mg "without_tie" = some (.ref a_without_tie)
  k_without_tie : PySem.W.keepIn K (.ref a_without_tie) = true
  F_cut_of : Fun K "cut_of" "cut_of" s_cut_of a_cut_of d_cut_of
  b_cut_of : Binds K d_cut_of ["web", "tree", "tie"] []
  m_cut_of : mg "cut_of" = some (.ref a_cut_of)
  k_cut_of : PySem.W.keepIn K (.ref a_cut_of) = true
  F_exchanges_of : Fun K "exchanges_of" "exchanges_of" s_exchanges_of a_exchanges_of d_exchanges_of
  b_exchanges_of : Binds K d_exchanges_of ["web", "tree"] []
  m_exchanges_of : mg "exchanges_of" = some (.ref a_exchanges_of)
  k_exchanges_of : PySem.W.keepIn K (.ref a_exchanges_of) = true
  F_look_at_lengths : Fun K "look_at_lengths" "look_at_lengths" s_look_at_lengths a_look_at_lengths d_look_at_lengths
  b_look_at_lengths : Binds K d_look_at_lengths ["web", "lengths"] []
  m_look_at_lengths : mg "look_at_lengths" = some (.ref a_look_at_lengths)
  k_look_at_lengths : PySem.W.keepIn K (.ref a_look_at_lengths) = true
  F_heads_joined : Fun K "heads_joined" "heads_joined" s_heads_joined a_heads_joined d_heads_joined
  b_heads_joined : Binds K d_heads_joined ["heads", "ends"] []
  m_heads_joined : mg "heads_joined" = some (.ref a_heads_joined)
  k_heads_joined : PySem.W.keepIn K (.ref a_heads_joined) = true
  F_gains_of : Fun K "gains_of" "gains_of" s_gains_of a_gains_of d_gains_of
  b_gains_of : Binds K d_gains_of ["web", "lengths", "tree"] []
  m_gains_of : mg "gains_of" = some (.ref a_gains_of)
  k_gains_of : PySem.W.keepIn K (.ref a_gains_of) = true
  F_is_cheapest : Fun K "is_cheapest" "is_cheapest" s_is_cheapest a_is_cheapest d_is_cheapest
  b_is_cheapest : Binds K d_is_cheapest ["web", "lengths", "tree"] []
  m_is_cheapest : mg "is_cheapest" = some (.ref a_is_cheapest)
  k_is_cheapest : PySem.W.keepIn K (.ref a_is_cheapest) = true
  F_ways_to_join : Fun K "ways_to_join" "ways_to_join" s_ways_to_join a_ways_to_join d_ways_to_join
  b_ways_to_join : Binds K d_ways_to_join ["pairs"] []
  m_ways_to_join : mg "ways_to_join" = some (.ref a_ways_to_join)
  k_ways_to_join : PySem.W.keepIn K (.ref a_ways_to_join) = true
  F_layer_ways : Fun K "layer_ways" "layer_ways" s_layer_ways a_layer_ways d_layer_ways
  b_layer_ways : Binds K d_layer_ways ["web", "heads", "layer", "inside", "outside"] []
  m_layer_ways : mg "layer_ways" = some (.ref a_layer_ways)
  k_layer_ways : PySem.W.keepIn K (.ref a_layer_ways) = true
  F_cheapest_with : Fun K "cheapest_with" "cheapest_with" s_cheapest_with a_cheapest_with d_cheapest_with
  b_cheapest_with : Binds K d_cheapest_with ["web", "lengths", "inside", "outside"] []
  m_cheapest_with : mg "cheapest_with" = some (.ref a_cheapest_with)
  k_cheapest_with : PySem.W.keepIn K (.ref a_cheapest_with) = true
  F_cheapest_count : Fun K "cheapest_count" "cheapest_count" s_cheapest_count a_cheapest_count d_cheapest_count
  b_cheapest_count : Binds K d_cheapest_count ["web", "lengths"] []
  m_cheapest_count : mg "cheapest_count" = some (.ref a_cheapest_count)
  k_cheapest_count : PySem.W.keepIn K (.ref a_cheapest_count) = true
  F_cheapest_at : Fun K "cheapest_at" "cheapest_at" s_cheapest_at a_cheapest_at d_cheapest_at
  b_cheapest_at : Binds K d_cheapest_at ["web", "lengths", "number"] []
  m_cheapest_at : mg "cheapest_at" = some (.ref a_cheapest_at)
  k_cheapest_at : PySem.W.keepIn K (.ref a_cheapest_at) = true
  F_cheapest_number : Fun K "cheapest_number" "cheapest_number" s_cheapest_number a_cheapest_number d_cheapest_number
  b_cheapest_number : Binds K d_cheapest_number ["web", "lengths", "tree"] []
  m_cheapest_number : mg "cheapest_number" = some (.ref a_cheapest_number)
  k_cheapest_number : PySem.W.keepIn K (.ref a_cheapest_number) = true
  F_law_at : Fun K "_law_at" "_law_at" s_law_at a_law_at d_law_at
  b_law_at : Binds K d_law_at ["script", "k"] []
  m_law_at : mg "_law_at" = some (.ref a_law_at)
  k_law_at : PySem.W.keepIn K (.ref a_law_at) = true
  F_law_stir : Fun K "_law_stir" "_law_stir" s_law_stir a_law_stir d_law_stir
  b_law_stir : Binds K d_law_stir ["cell", "k"] []
  m_law_stir : mg "_law_stir" = some (.ref a_law_stir)
  k_law_stir : PySem.W.keepIn K (.ref a_law_stir) = true
  F_law_numbers_v3 : Fun K "_law_numbers" "_law_numbers" s_law_numbers_v3 a_law_numbers_v3 d_law_numbers_v3
  b_law_numbers_v3 : Binds K d_law_numbers_v3 ["script", "start", "most"] []
  m_law_numbers_v3 : mg "_law_numbers" = some (.ref a_law_numbers_v3)
  k_law_numbers_v3 : PySem.W.keepIn K (.ref a_law_numbers_v3) = true
  F_law_digits : Fun K "_law_digits" "_law_digits" s_law_digits a_law_digits d_law_digits
  b_law_digits : Binds K d_law_digits ["cell", "most_places", "most_ties"] []
  m_law_digits : mg "_law_digits" = some (.ref a_law_digits)
  k_law_digits : PySem.W.keepIn K (.ref a_law_digits) = true
  F_law_web_v3 : Fun K "_law_web" "_law_web" s_law_web_v3 a_law_web_v3 d_law_web_v3
  b_law_web_v3 : Binds K d_law_web_v3 ["script", "most_places", "most_ties"] []
  m_law_web_v3 : mg "_law_web" = some (.ref a_law_web_v3)
  k_law_web_v3 : PySem.W.keepIn K (.ref a_law_web_v3) = true
  F_law_trees_v3 : Fun K "_law_trees" "_law_trees" s_law_trees_v3 a_law_trees_v3 d_law_trees_v3
  b_law_trees_v3 : Binds K d_law_trees_v3 ["places", "ties"] []
  m_law_trees_v3 : mg "_law_trees" = some (.ref a_law_trees_v3)
  k_law_trees_v3 : PySem.W.keepIn K (.ref a_law_trees_v3) = true
  F_law_lengths : Fun K "_law_lengths" "_law_lengths" s_law_lengths a_law_lengths d_law_lengths
  b_law_lengths : Binds K d_law_lengths ["script", "count"] []
  m_law_lengths : mg "_law_lengths" = some (.ref a_law_lengths)
  k_law_lengths : PySem.W.keepIn K (.ref a_law_lengths) = true
  F_law_kind : Fun K "_law_kind" "_law_kind" s_law_kind a_law_kind d_law_kind
  b_law_kind : Binds K d_law_kind ["deed", "web", "lengths", "what"] []
  m_law_kind : mg "_law_kind" = some (.ref a_law_kind)
  k_law_kind : PySem.W.keepIn K (.ref a_law_kind) = true
  F_law_refusals_right : Fun K "_law_refusals_right" "_law_refusals_right" s_law_refusals_right a_law_refusals_right d_law_refusals_right
  b_law_refusals_right : Binds K d_law_refusals_right ["web", "lengths", "cheap", "trees", "cell"] []
  m_law_refusals_right : mg "_law_refusals_right" = some (.ref a_law_refusals_right)
  k_law_refusals_right : PySem.W.keepIn K (.ref a_law_refusals_right) = true
  F_law_k63 : Fun K "law" "law" s_law_k63 a_law_k63 d_law_k63
  b_law_k63 : Binds K d_law_k63 ["script"] []
  m_law_k63 : mg "law" = some (.ref a_law_k63)
  k_law_k63 : PySem.W.keepIn K (.ref a_law_k63) = true
  v_MOST_PLACES : mg "MOST_PLACES" = some (.int 14 t_MOST_PLACES)
  v_MOST_TIES : mg "MOST_TIES" = some (.int 30 t_MOST_TIES)
  z_ValueError : mg "ValueError" = none
  z_abs : mg "abs" = none
  z_all : mg "all" = none
  z_bool : mg "bool" = none
  z_enumerate : mg "enumerate" = none
  z_int : mg "int" = none
  z_isinstance : mg "isinstance" = none
  z_len : mg "len" = none
  z_list : mg "list" = none
  z_max : mg "max" = none
  z_min : mg "min" = none
  z_range : mg "range" = none
  z_set : mg "set" = none
  z_sorted : mg "sorted" = none
  z_sum : mg "sum" = none
  z_tuple : mg "tuple" = none
  z_zip : mg "zip" = none
section
variable {P : Program} {w : World} {K : PySem.W.Frag} {mg : Str → Option Value} {base : Heap}
def Tx.cls (T : Tx K mg) : DL.Cls := fun c => ([some (T.C_WebError, []), some (T.C_BadWeb, []), none, none, some (T.C_NoTree, []), some (T.C_NoTie, []), some (T.C_NoSuch, []), some (T.C_NotSquare, []), none, some (T.C_BadRow, []), none, none, none, none, some (T.C_Web, ["places", "ties"]), none, none] : List (Option (Addr × List Str))).getD c none
theorem Tx.e_WebError (T : Tx K mg) : ExOk K mg T.cls 0 "WebError" T.C_WebError := ⟨rfl, T.m_WebError, T.x_WebError, T.kx_WebError, T.bx_WebError, T.tx_WebError⟩
theorem Tx.e_BadWeb (T : Tx K mg) : ExOk K mg T.cls 1 "BadWeb" T.C_BadWeb := ⟨rfl, T.m_BadWeb, T.x_BadWeb, T.kx_BadWeb, T.bx_BadWeb, T.tx_BadWeb⟩
theorem Tx.e_NoTree (T : Tx K mg) : ExOk K mg T.cls 4 "NoTree" T.C_NoTree := ⟨rfl, T.m_NoTree, T.x_NoTree, T.kx_NoTree, T.bx_NoTree, T.tx_NoTree⟩
theorem Tx.e_NoTie (T : Tx K mg) : ExOk K mg T.cls 5 "NoTie" T.C_NoTie := ⟨rfl, T.m_NoTie, T.x_NoTie, T.kx_NoTie, T.bx_NoTie, T.tx_NoTie⟩
theorem Tx.e_NoSuch (T : Tx K mg) : ExOk K mg T.cls 6 "NoSuch" T.C_NoSuch := ⟨rfl, T.m_NoSuch, T.x_NoSuch, T.kx_NoSuch, T.bx_NoSuch, T.tx_NoSuch⟩
theorem Tx.e_NotSquare (T : Tx K mg) : ExOk K mg T.cls 7 "NotSquare" T.C_NotSquare := ⟨rfl, T.m_NotSquare, T.x_NotSquare, T.kx_NotSquare, T.bx_NotSquare, T.tx_NotSquare⟩
theorem Tx.e_BadRow (T : Tx K mg) : ExOk K mg T.cls 9 "BadRow" T.C_BadRow := ⟨rfl, T.m_BadRow, T.x_BadRow, T.kx_BadRow, T.bx_BadRow, T.tx_BadRow⟩
theorem Tx.o_Web (T : Tx K mg) : ClsOk K T.cls 14 T.C_Web ["places", "ties"] := ⟨rfl, by decide +kernel, T.cl_Web, fun f h => (by simp at h; rcases h with rfl | rfl <;> first | exact T.na_Web_places | exact T.na_Web_ties)⟩
set_option maxHeartbeats 4000000 in
theorem ok_look_at_table (T : Tx K mg) : FnOk P w K mg base (L2.CX P w) 1 T.a_look_at_table T.d_look_at_table ["table"] (spD K T.cls 1 g_look_at_table) :=
  fnD_ok T.F_look_at_table sc_look_at_table rfl (fun cdv A outer s H E c => jss_one (js_for c (ji_seq (je_var 0)) (jg_name (i := 1) c.nd rfl (by first | exact Or.inl rfl | exact Or.inr rfl)) (jss_one (js_if (jt_cmp (op_ne4 c.eq) ok_ne (je_callB call_len ok_len T.z_len (by decide +kernel) (ja_cons (je_var 1) (ja_nil))) (je_callB call_len ok_len T.z_len (by decide +kernel) (ja_cons (je_var 0) (ja_nil))) (nomark _)) (jss_one (js_raise c T.e_NotSquare)) (jss_nil))))) (fun _ _ => .inr rfl)
set_option maxHeartbeats 4000000 in
theorem ok_first_row_with (T : Tx K mg) : FnOk P w K mg base (L2.CX P w) 1 T.a_first_row_with T.d_first_row_with ["rows", "at"] (spD K T.cls 2 g_first_row_with) :=
  fnD_ok T.F_first_row_with sc_first_row_with rfl (fun cdv A outer s H E c => jss_cons (js_for c (ji_rg2 T.z_range (ja_cons (je_var 1) (ja_cons (je_callB call_len ok_len T.z_len (by decide +kernel) (ja_cons (je_var 0) (ja_nil))) (ja_nil)))) (jg_name (i := 2) c.nd rfl (by first | exact Or.inl rfl | exact Or.inr rfl)) (jss_one (js_if (jt_cmp (op_ne4 c.eq) ok_ne (je_ix (je_ix (je_var 0) (je_var 2)) (je_var 1)) (je_int) (nomark _)) (jss_one (js_retV 2)) (jss_nil)))) (jss_one (js_ret (je_non)))) (fun _ _ => .inr rfl)
set_option maxHeartbeats 4000000 in
theorem ok_cleared (T : Tx K mg) : FnOk P w K mg base (L2.CX P w) 1 T.a_cleared T.d_cleared ["rows", "at", "ahead"] (spD K T.cls 3 g_cleared) :=
  fnD_ok T.F_cleared sc_cleared rfl (fun cdv A outer s H E c => jss_cons (js_set (i := 3) c rfl (by first | exact Or.inl rfl | exact Or.inr rfl) (je_lst (jao_nil))) (jss_cons (js_setF (i := 4) c rfl (by first | exact Or.inl rfl | exact Or.inr rfl) (je_ix (je_var 0) (je_var 1))) (jss_cons (js_for c (ji_seq (je_sl (je_var 0) (jp_some (je_bin op_add4 ok_add (je_var 1) (je_int))) (jp_none))) (jg_name (i := 5) c.nd rfl (by first | exact Or.inl rfl | exact Or.inr rfl)) (jss_cons (js_set (i := 6) c rfl (by first | exact Or.inl rfl | exact Or.inr rfl) (je_bin op_mul4 ok_mul (je_lst (jao_cons (je_int) (jao_nil))) (je_bin op_add4 ok_add (je_var 1) (je_int)))) (jss_cons (js_for c (ji_rg2 T.z_range (ja_cons (je_bin op_add4 ok_add (je_var 1) (je_int)) (ja_cons (je_callB call_len ok_len T.z_len (by decide +kernel) (ja_cons (je_var 5) (ja_nil))) (ja_nil)))) (jg_name (i := 7) c.nd rfl (by first | exact Or.inl rfl | exact Or.inr rfl)) (jss_one (js_app (i := 6) rfl (by first | exact Or.inl rfl | exact Or.inr (Or.inl rfl) | exact Or.inr (Or.inr rfl)) (je_bin op_divX ok_div (je_bin op_sub ok_sub (je_bin op_mul4 ok_mul (je_ix (je_var 5) (je_var 7)) (je_ix (je_var 4) (je_var 1))) (je_bin op_mul4 ok_mul (je_ix (je_var 5) (je_var 1)) (je_ix (je_var 4) (je_var 7)))) (je_var 2))))) (jss_one (js_frz 6 (js_app (i := 3) rfl (by first | exact Or.inl rfl | exact Or.inr (Or.inl rfl) | exact Or.inr (Or.inr rfl)) (je_var 6))))))) (jss_one (js_retV 3))))) (fun _ _ => .inr rfl)
set_option maxHeartbeats 4000000 in
theorem ok_determinant (T : Tx K mg) (G_look_at_table : FnOk P w K mg base (L2.CX P w) 1 T.a_look_at_table T.d_look_at_table ["table"] (spD K T.cls 1 g_look_at_table)) (G_first_row_with : FnOk P w K mg base (L2.CX P w) 1 T.a_first_row_with T.d_first_row_with ["rows", "at"] (spD K T.cls 2 g_first_row_with)) (G_cleared : FnOk P w K mg base (L2.CX P w) 1 T.a_cleared T.d_cleared ["rows", "at", "ahead"] (spD K T.cls 3 g_cleared)) : FnOk P w K mg base (L2.CX P w) 2 T.a_determinant T.d_determinant ["table"] (spD K T.cls 1 g_determinant) :=
  fnD_ok T.F_determinant sc_determinant rfl (fun cdv A outer s H E c => jss_cons (js_exp (je_own (c.mono (by decide)) G_look_at_table T.m_look_at_table T.k_look_at_table T.b_look_at_table (ja_cons (je_var 0) (ja_nil)) (alS (al0)))) (jss_cons (js_setLcI (i := 1) [("row", 6)] c rfl rfl (sw_true rfl rfl rfl (by decide +kernel)) (ji_seq (je_var 0)) (blkOk_by (N := N_determinant) (sc := defScope s_determinant) (by decide +kernel)) (fun _ _ _ _ _ => jg_name (i := 6) c.nd rfl (by first | exact Or.inl rfl | exact Or.inr rfl)) (fun _ _ _ _ _ c => jts_nil) (fun _ _ _ _ _ c => je_callTy call_list_of ok_list T.z_list (by decide +kernel) (ja_cons (je_var 6) (ja_nil))) (by decide)) (jss_cons (js_setF (i := 2) c rfl (by first | exact Or.inl rfl | exact Or.inr rfl) (je_int)) (jss_cons (js_setF (i := 3) c rfl (by first | exact Or.inl rfl | exact Or.inr rfl) (je_int)) (jss_cons (js_for c (ji_rg1 T.z_range (ja_cons (je_callB call_len ok_len T.z_len (by decide +kernel) (ja_cons (je_var 1) (ja_nil))) (ja_nil))) (jg_name (i := 4) c.nd rfl (by first | exact Or.inl rfl | exact Or.inr rfl)) (jss_cons (js_setF (i := 5) c rfl (by first | exact Or.inl rfl | exact Or.inr rfl) (je_own (c.mono (by decide)) G_first_row_with T.m_first_row_with T.k_first_row_with T.b_first_row_with (ja_cons (je_var 1) (ja_cons (je_var 4) (ja_nil))) (alS (alS (al0))))) (jss_cons (js_if (jt_cmp op_isN ok_isN (je_var 5) (je_non) (nomark _)) (jss_one (js_ret (je_int))) (jss_nil)) (jss_cons (js_if (jt_cmp (op_ne4 c.eq) ok_ne (je_var 5) (je_var 4) (nomark _)) (jss_cons (js_swp (i := 1) c rfl (by first | exact Or.inl rfl | exact Or.inr (Or.inl rfl) | exact Or.inr (Or.inr rfl)) (je_tup (jao_cons (je_ix (je_var 1) (je_var 5)) (jao_cons (je_ix (je_var 1) (je_var 4)) (jao_nil)))) (je_var 4) (je_var 5)) (jss_one (js_setF (i := 2) c rfl (by first | exact Or.inl rfl | exact Or.inr rfl) (je_un un_neg ok_neg (je_var 2))))) (jss_nil)) (jss_cons (js_frz 1 (js_set (i := 1) c rfl (by first | exact Or.inl rfl | exact Or.inr rfl) (je_bin op_add4 ok_add (je_sl (je_var 1) (jp_none) (jp_some (je_bin op_add4 ok_add (je_var 4) (je_int)))) (je_own (c.mono (by decide)) G_cleared T.m_cleared T.k_cleared T.b_cleared (ja_cons (je_var 1) (ja_cons (je_var 4) (ja_cons (je_var 3) (ja_nil)))) (alS (alS (alS (al0)))))))) (jss_one (js_setF (i := 3) c rfl (by first | exact Or.inl rfl | exact Or.inr rfl) (je_ix (je_ix (je_var 1) (je_var 4)) (je_var 4))))))))) (jss_one (js_ret (je_bin op_mul4 ok_mul (je_var 2) (je_var 3))))))))) (fun _ _ => .inr rfl)
set_option maxHeartbeats 4000000 in
theorem ok_Web_init (T : Tx K mg) : FnOk P w K mg base (L2.CX P w) 1 T.a_Web_init T.d_Web_init ["self", "places", "ties"] (spI K T.cls 14 2 g_Web_init) :=
  fnI_ok T.F_Web_init sc_Web_init rfl (fun cdv A outer s H E c => jss_cons (js_if (jt_w (jw_or (jt_not (jt_chain op_le op_le ok_le ok_le (je_int) (je_var 1) (je_gint T.v_MOST_PLACES))) (jw_or1 (jt_cmp op_gt ok_gt (je_callB call_len ok_len T.z_len (by decide +kernel) (ja_cons (je_var 2) (ja_nil))) (je_gint T.v_MOST_TIES) (nomark _))))) (jss_one (js_raise c T.e_BadWeb)) (jss_nil)) (jss_cons (js_for c (ji_seq (je_var 2)) (jg_tup c.calm (jgs_cons (jg_name (i := 3) c.nd rfl (by first | exact Or.inl rfl | exact Or.inr rfl)) (jgs_cons (jg_name (i := 4) c.nd rfl (by first | exact Or.inl rfl | exact Or.inr rfl)) (jgs_nil)))) (jss_one (js_if (jt_w (jw_or (jt_not (jt_chain op_le op_lt ok_le ok_lt (je_int) (je_var 3) (je_var 1))) (jw_or1 (jt_not (jt_chain op_le op_lt ok_le ok_lt (je_int) (je_var 4) (je_var 1)))))) (jss_one (js_raise c T.e_BadWeb)) (jss_nil)))) (jss_cons (js_fld (i := 0) T.o_Web (j := 0) rfl (by decide) rfl (by first | exact Or.inl rfl | exact Or.inr (Or.inl rfl) | exact Or.inr (Or.inr rfl)) (je_var 1)) (jss_one (js_fld (i := 0) T.o_Web (j := 1) rfl (by decide) rfl (by first | exact Or.inl rfl | exact Or.inr (Or.inl rfl) | exact Or.inr (Or.inr rfl)) (je_callTy call_list_of ok_list T.z_list (by decide +kernel) (ja_cons (je_var 2) (ja_nil)))))))) (mirI_ok)
set_option maxHeartbeats 4000000 in
theorem ok_marks_over (T : Tx K mg) : FnOk P w K mg base (L2.CX P w) 1 T.a_marks_over T.d_marks_over ["web", "ties"] (spD K T.cls 2 g_marks_over) :=
  fnD_ok T.F_marks_over sc_marks_over rfl (fun cdv A outer s H E c => jss_cons (js_setF (i := 2) c rfl (by first | exact Or.inl rfl | exact Or.inr rfl) (je_lr1 c T.z_list T.z_range (je_fld T.o_Web (i := 0) rfl (je_var 0)))) (jss_cons (js_for c (ji_seq (je_var 1)) (jg_name (i := 3) c.nd rfl (by first | exact Or.inl rfl | exact Or.inr rfl)) (jss_cons (js_asgT (je_ix (je_fld T.o_Web (i := 1) rfl (je_var 0)) (je_var 3)) (jg_tup c.calm (jgs_cons (jg_name (i := 4) c.nd rfl (by first | exact Or.inl rfl | exact Or.inr rfl)) (jgs_cons (jg_name (i := 5) c.nd rfl (by first | exact Or.inl rfl | exact Or.inr rfl)) (jgs_nil))))) (jss_cons (js_setF (i := 6) c rfl (by first | exact Or.inl rfl | exact Or.inr rfl) (je_callB (call_min2 c.calm) ok_min2 T.z_min (by decide +kernel) (ja_cons (je_ix (je_var 2) (je_var 4)) (ja_cons (je_ix (je_var 2) (je_var 5)) (ja_nil))))) (jss_cons (js_setF (i := 7) c rfl (by first | exact Or.inl rfl | exact Or.inr rfl) (je_callB (call_max2 c.calm) ok_max2 T.z_max (by decide +kernel) (ja_cons (je_ix (je_var 2) (je_var 4)) (ja_cons (je_ix (je_var 2) (je_var 5)) (ja_nil))))) (jss_one (js_setLcF (i := 2) [("mark", 8)] c rfl rfl (sw_true rfl rfl rfl (by decide +kernel)) (ji_seq (je_var 2)) (blkOk_by (N := N_marks_over) (sc := defScope s_marks_over) (by decide +kernel)) (fun _ _ _ _ _ => jg_name (i := 8) c.nd rfl (by first | exact Or.inl rfl | exact Or.inr rfl)) (fun _ _ _ _ _ c => jts_nil) (fun _ _ _ _ _ c => je_if (jt_cmp (op_eq4 c.eq) ok_eq (je_var 8) (je_var 7) (nomark _)) (je_var 6) (je_var 8)) (by decide))))))) (jss_one (js_retV 2)))) (fun _ _ => .inr rfl)
set_option maxHeartbeats 4000000 in
theorem ok_is_tree (T : Tx K mg) (G_marks_over : FnOk P w K mg base (L2.CX P w) 1 T.a_marks_over T.d_marks_over ["web", "ties"] (spD K T.cls 2 g_marks_over)) : FnOk P w K mg base (L2.CX P w) 2 T.a_is_tree T.d_is_tree ["web", "ties"] (spD K T.cls 2 g_is_tree) :=
  fnD_ok T.F_is_tree sc_is_tree rfl (fun cdv A outer s H E c => jss_cons (js_if (jt_cmp (op_ne4 c.eq) ok_ne (je_callB call_len ok_len T.z_len (by decide +kernel) (ja_cons (je_var 1) (ja_nil))) (je_bin op_sub ok_sub (je_fld T.o_Web (i := 0) rfl (je_var 0)) (je_int)) (nomark _)) (jss_one (js_ret (je_bl))) (jss_nil)) (jss_cons (js_setF (i := 2) c rfl (by first | exact Or.inl rfl | exact Or.inr rfl) (je_un un_neg ok_neg (je_int))) (jss_cons (js_for c (ji_seq (je_var 1)) (jg_name (i := 3) c.nd rfl (by first | exact Or.inl rfl | exact Or.inr rfl)) (jss_cons (js_if (jt_w (jw_or (jt_cmp op_le ok_le (je_var 3) (je_var 2) (nomark _)) (jw_or1 (jt_cmp op_ge ok_ge (je_var 3) (je_callB call_len ok_len T.z_len (by decide +kernel) (ja_cons (je_fld T.o_Web (i := 1) rfl (je_var 0)) (ja_nil))) (nomark _))))) (jss_one (js_ret (je_bl))) (jss_nil)) (jss_one (js_setF (i := 2) c rfl (by first | exact Or.inl rfl | exact Or.inr rfl) (je_var 3))))) (jss_one (js_ret (je_cmp (op_eq4 c.eq) ok_eq (je_lenset c T.z_len T.z_set (je_own (c.mono (by decide)) G_marks_over T.m_marks_over T.k_marks_over T.b_marks_over (ja_cons (je_var 0) (ja_cons (je_var 1) (ja_nil))) (alS (alS (al0))))) (je_int) (nomark _))))))) (fun _ _ => .inr rfl)
set_option maxHeartbeats 4000000 in
theorem ok_look_at_tree (T : Tx K mg) (G_is_tree : FnOk P w K mg base (L2.CX P w) 2 T.a_is_tree T.d_is_tree ["web", "ties"] (spD K T.cls 2 g_is_tree)) : FnOk P w K mg base (L2.CX P w) 3 T.a_look_at_tree T.d_look_at_tree ["web", "tree"] (spD K T.cls 2 g_look_at_tree) :=
  fnD_ok T.F_look_at_tree sc_look_at_tree rfl (fun cdv A outer s H E c => jss_one (js_if (jt_not (jt_truth (je_own (c.mono (by decide)) G_is_tree T.m_is_tree T.k_is_tree T.b_is_tree (ja_cons (je_var 0) (ja_cons (je_var 1) (ja_nil))) (alS (alS (al0)))))) (jss_one (js_raise c T.e_NoTree)) (jss_nil))) (fun _ _ => .inr rfl)
set_option maxHeartbeats 4000000 in
theorem ok_without_tie (T : Tx K mg) : FnOk P w K mg base (L2.CX P w) 1 T.a_without_tie T.d_without_tie ["ties", "tie"] (spD K T.cls 2 g_without_tie) :=
  fnD_ok T.F_without_tie sc_without_tie rfl (fun cdv A outer s H E c => jss_one (js_ret (je_callTy call_tuple_of ok_tuple T.z_tuple (by decide +kernel) (ja_cons (je_lc [("other", 2)] c (ji_seq (je_var 0)) (blkOk_by (N := N_without_tie) (sc := defScope s_without_tie) (by decide +kernel)) (fun _ _ _ _ _ => jg_name (i := 2) c.nd rfl (by first | exact Or.inl rfl | exact Or.inr rfl)) (fun _ _ _ _ _ c => jts_one (jt_cmp (op_ne4 c.eq) ok_ne (je_var 2) (je_var 1) (nomark _))) (fun _ _ _ _ _ c => je_var 2) (by decide)) (ja_nil))))) (fun _ _ => .inr rfl)
set_option maxHeartbeats 4000000 in
theorem ok_cut_of (T : Tx K mg) (G_look_at_tree : FnOk P w K mg base (L2.CX P w) 3 T.a_look_at_tree T.d_look_at_tree ["web", "tree"] (spD K T.cls 2 g_look_at_tree)) (G_marks_over : FnOk P w K mg base (L2.CX P w) 1 T.a_marks_over T.d_marks_over ["web", "ties"] (spD K T.cls 2 g_marks_over)) (G_without_tie : FnOk P w K mg base (L2.CX P w) 1 T.a_without_tie T.d_without_tie ["ties", "tie"] (spD K T.cls 2 g_without_tie)) : FnOk P w K mg base (L2.CX P w) 4 T.a_cut_of T.d_cut_of ["web", "tree", "tie"] (spD K T.cls 3 g_cut_of) :=
  fnD_ok T.F_cut_of sc_cut_of rfl (fun cdv A outer s H E c => jss_cons (js_exp (je_own (c.mono (by decide)) G_look_at_tree T.m_look_at_tree T.k_look_at_tree T.b_look_at_tree (ja_cons (je_var 0) (ja_cons (je_var 1) (ja_nil))) (alS (alS (al0))))) (jss_cons (js_if (jt_cmp op_notIn_seq ok_nin (je_var 2) (je_var 1) (by rfl)) (jss_one (js_raise c T.e_NoTie)) (jss_nil)) (jss_cons (js_setF (i := 3) c rfl (by first | exact Or.inl rfl | exact Or.inr rfl) (je_own (c.mono (by decide)) G_marks_over T.m_marks_over T.k_marks_over T.b_marks_over (ja_cons (je_var 0) (ja_cons (je_own (c.mono (by decide)) G_without_tie T.m_without_tie T.k_without_tie T.b_without_tie (ja_cons (je_var 1) (ja_cons (je_var 2) (ja_nil))) (alS (alS (al0)))) (ja_nil))) (alS (alS (al0))))) (jss_one (js_ret (je_callTy call_tuple_of ok_tuple T.z_tuple (by decide +kernel) (ja_cons (je_lc [("k", 4), ("ends", 5)] c (ji_enm T.z_enumerate (ja_cons (je_fld T.o_Web (i := 1) rfl (je_var 0)) (ja_nil))) (blkOk_by (N := N_cut_of) (sc := defScope s_cut_of) (by decide +kernel)) (fun _ _ _ _ _ => jg_tup c.calm (jgs_cons (jg_name (i := 4) c.nd rfl (by first | exact Or.inl rfl | exact Or.inr rfl)) (jgs_cons (jg_name (i := 5) c.nd rfl (by first | exact Or.inl rfl | exact Or.inr rfl)) (jgs_nil)))) (fun _ _ _ _ _ c => jts_one (jt_cmp (op_ne4 c.eq) ok_ne (je_ix (je_var 3) (je_ix (je_var 5) (je_int))) (je_ix (je_var 3) (je_ix (je_var 5) (je_int))) (nomark _))) (fun _ _ _ _ _ c => je_var 4) (by decide)) (ja_nil)))))))) (fun _ _ => .inr rfl)
set_option maxHeartbeats 4000000 in
theorem ok_exchanges_of (T : Tx K mg) (G_look_at_tree : FnOk P w K mg base (L2.CX P w) 3 T.a_look_at_tree T.d_look_at_tree ["web", "tree"] (spD K T.cls 2 g_look_at_tree)) (G_cut_of : FnOk P w K mg base (L2.CX P w) 4 T.a_cut_of T.d_cut_of ["web", "tree", "tie"] (spD K T.cls 3 g_cut_of)) : FnOk P w K mg base (L2.CX P w) 5 T.a_exchanges_of T.d_exchanges_of ["web", "tree"] (spD K T.cls 2 g_exchanges_of) :=
  fnD_ok T.F_exchanges_of sc_exchanges_of rfl (fun cdv A outer s H E c => jss_cons (js_exp (je_own (c.mono (by decide)) G_look_at_tree T.m_look_at_tree T.k_look_at_tree T.b_look_at_tree (ja_cons (je_var 0) (ja_cons (je_var 1) (ja_nil))) (alS (alS (al0))))) (jss_cons (js_set (i := 2) c rfl (by first | exact Or.inl rfl | exact Or.inr rfl) (je_lst (jao_nil))) (jss_cons (js_for c (ji_seq (je_var 1)) (jg_name (i := 3) c.nd rfl (by first | exact Or.inl rfl | exact Or.inr rfl)) (jss_one (js_ext (i := 2) rfl (by first | exact Or.inl rfl | exact Or.inr (Or.inl rfl) | exact Or.inr (Or.inr rfl)) (je_lc [("into", 4)] c (ji_seq (je_own (c.mono (by decide)) G_cut_of T.m_cut_of T.k_cut_of T.b_cut_of (ja_cons (je_var 0) (ja_cons (je_var 1) (ja_cons (je_var 3) (ja_nil)))) (alS (alS (alS (al0)))))) (blkOk_by (N := N_exchanges_of) (sc := defScope s_exchanges_of) (by decide +kernel)) (fun _ _ _ _ _ => jg_name (i := 4) c.nd rfl (by first | exact Or.inl rfl | exact Or.inr rfl)) (fun _ _ _ _ _ c => jts_one (jt_cmp (op_ne4 c.eq) ok_ne (je_var 4) (je_var 3) (nomark _))) (fun _ _ _ _ _ c => je_tup (jao_cons (je_var 3) (jao_cons (je_var 4) (jao_nil)))) (by decide))))) (jss_one (js_retV 2))))) (fun _ _ => .inr rfl)
set_option maxHeartbeats 4000000 in
theorem ok_look_at_lengths (T : Tx K mg) : FnOk P w K mg base (L2.CX P w) 1 T.a_look_at_lengths T.d_look_at_lengths ["web", "lengths"] (spD K T.cls 2 g_look_at_lengths) :=
  fnD_ok T.F_look_at_lengths sc_look_at_lengths rfl (fun cdv A outer s H E c => jss_one (js_if (jt_cmp (op_ne4 c.eq) ok_ne (je_callB call_len ok_len T.z_len (by decide +kernel) (ja_cons (je_var 1) (ja_nil))) (je_callB call_len ok_len T.z_len (by decide +kernel) (ja_cons (je_fld T.o_Web (i := 1) rfl (je_var 0)) (ja_nil))) (nomark _)) (jss_one (js_raise c T.e_BadRow)) (jss_nil))) (fun _ _ => .inr rfl)
set_option maxHeartbeats 4000000 in
theorem ok_heads_joined (T : Tx K mg) : FnOk P w K mg base (L2.CX P w) 1 T.a_heads_joined T.d_heads_joined ["heads", "ends"] (spD K T.cls 2 g_heads_joined) :=
  fnD_ok T.F_heads_joined sc_heads_joined rfl (fun cdv A outer s H E c => jss_cons (js_setF (i := 2) c rfl (by first | exact Or.inl rfl | exact Or.inr rfl) (je_ix (je_var 0) (je_ix (je_var 1) (je_int)))) (jss_cons (js_setF (i := 3) c rfl (by first | exact Or.inl rfl | exact Or.inr rfl) (je_ix (je_var 0) (je_ix (je_var 1) (je_int)))) (jss_one (js_ret (je_lc [("head", 4)] c (ji_seq (je_var 0)) (blkOk_by (N := N_heads_joined) (sc := defScope s_heads_joined) (by decide +kernel)) (fun _ _ _ _ _ => jg_name (i := 4) c.nd rfl (by first | exact Or.inl rfl | exact Or.inr rfl)) (fun _ _ _ _ _ c => jts_nil) (fun _ _ _ _ _ c => je_if (jt_cmp (op_eq4 c.eq) ok_eq (je_var 4) (je_var 3) (nomark _)) (je_var 2) (je_var 4)) (by decide)))))) (fun _ _ => .inr rfl)
set_option maxHeartbeats 4000000 in
theorem ok_gains_of (T : Tx K mg) (G_look_at_lengths : FnOk P w K mg base (L2.CX P w) 1 T.a_look_at_lengths T.d_look_at_lengths ["web", "lengths"] (spD K T.cls 2 g_look_at_lengths)) (G_exchanges_of : FnOk P w K mg base (L2.CX P w) 5 T.a_exchanges_of T.d_exchanges_of ["web", "tree"] (spD K T.cls 2 g_exchanges_of)) : FnOk P w K mg base (L2.CX P w) 6 T.a_gains_of T.d_gains_of ["web", "lengths", "tree"] (spD K T.cls 3 g_gains_of) :=
  fnD_ok T.F_gains_of sc_gains_of rfl (fun cdv A outer s H E c => jss_cons (js_exp (je_own (c.mono (by decide)) G_look_at_lengths T.m_look_at_lengths T.k_look_at_lengths T.b_look_at_lengths (ja_cons (je_var 0) (ja_cons (je_var 1) (ja_nil))) (alS (alS (al0))))) (jss_one (js_ret (je_lc [("pair", 3)] c (ji_seq (je_own (c.mono (by decide)) G_exchanges_of T.m_exchanges_of T.k_exchanges_of T.b_exchanges_of (ja_cons (je_var 0) (ja_cons (je_var 2) (ja_nil))) (alS (alS (al0))))) (blkOk_by (N := N_gains_of) (sc := defScope s_gains_of) (by decide +kernel)) (fun _ _ _ _ _ => jg_name (i := 3) c.nd rfl (by first | exact Or.inl rfl | exact Or.inr rfl)) (fun _ _ _ _ _ c => jts_one (jt_cmp op_lt ok_lt (je_ix (je_var 1) (je_ix (je_var 3) (je_int))) (je_ix (je_var 1) (je_ix (je_var 3) (je_int))) (nomark _))) (fun _ _ _ _ _ c => je_var 3) (by decide))))) (fun _ _ => .inr rfl)
set_option maxHeartbeats 4000000 in
theorem ok_is_cheapest (T : Tx K mg) (G_gains_of : FnOk P w K mg base (L2.CX P w) 6 T.a_gains_of T.d_gains_of ["web", "lengths", "tree"] (spD K T.cls 3 g_gains_of)) : FnOk P w K mg base (L2.CX P w) 7 T.a_is_cheapest T.d_is_cheapest ["web", "lengths", "tree"] (spD K T.cls 3 g_is_cheapest) :=
  fnD_ok T.F_is_cheapest sc_is_cheapest rfl (fun cdv A outer s H E c => jss_one (js_ret (je_cmp (op_eq4 c.eq) ok_eq (je_callB call_len ok_len T.z_len (by decide +kernel) (ja_cons (je_own (c.mono (by decide)) G_gains_of T.m_gains_of T.k_gains_of T.b_gains_of (ja_cons (je_var 0) (ja_cons (je_var 1) (ja_cons (je_var 2) (ja_nil)))) (alS (alS (alS (al0))))) (ja_nil))) (je_int) (nomark _)))) (fun _ _ => .inr rfl)
set_option maxHeartbeats 4000000 in
theorem ok_ways_to_join (T : Tx K mg) (G_heads_joined : FnOk P w K mg base (L2.CX P w) 1 T.a_heads_joined T.d_heads_joined ["heads", "ends"] (spD K T.cls 2 g_heads_joined)) (G_determinant : FnOk P w K mg base (L2.CX P w) 2 T.a_determinant T.d_determinant ["table"] (spD K T.cls 1 g_determinant)) : FnOk P w K mg base (L2.CX P w) 3 T.a_ways_to_join T.d_ways_to_join ["pairs"] (spD K T.cls 1 g_ways_to_join) :=
  fnD_ok T.F_ways_to_join sc_ways_to_join rfl (fun cdv A outer s H E c => jss_cons (js_setF (i := 1) c rfl (by first | exact Or.inl rfl | exact Or.inr rfl) (je_sortedset c T.z_sorted T.z_set (je_bin op_add4 ok_add (je_lc [("pair", 4)] c (ji_seq (je_var 0)) (blkOk_by (N := N_ways_to_join) (sc := defScope s_ways_to_join) (by decide +kernel)) (fun _ _ _ _ _ => jg_name (i := 4) c.nd rfl (by first | exact Or.inl rfl | exact Or.inr rfl)) (fun _ _ _ _ _ c => jts_nil) (fun _ _ _ _ _ c => je_ix (je_var 4) (je_int)) (by decide)) (je_lc [("pair", 4)] c (ji_seq (je_var 0)) (blkOk_by (N := N_ways_to_join) (sc := defScope s_ways_to_join) (by decide +kernel)) (fun _ _ _ _ _ => jg_name (i := 4) c.nd rfl (by first | exact Or.inl rfl | exact Or.inr rfl)) (fun _ _ _ _ _ c => jts_nil) (fun _ _ _ _ _ c => je_ix (je_var 4) (je_int)) (by decide))))) (jss_cons (js_setF (i := 2) c rfl (by first | exact Or.inl rfl | exact Or.inr rfl) (je_lr1 c T.z_list T.z_range (je_callB call_len ok_len T.z_len (by decide +kernel) (ja_cons (je_var 1) (ja_nil))))) (jss_cons (js_set (i := 3) c rfl (by first | exact Or.inl rfl | exact Or.inr rfl) (je_lc [("name", 8)] c (ji_seq (je_var 1)) (blkOk_by (N := N_ways_to_join) (sc := defScope s_ways_to_join) (by decide +kernel)) (fun _ _ _ _ _ => jg_name (i := 8) c.nd rfl (by first | exact Or.inl rfl | exact Or.inr rfl)) (fun _ _ _ _ _ c => jts_nil) (fun _ _ _ _ _ c => je_bin op_mul4 ok_mul (je_lst (jao_cons (je_int) (jao_nil))) (je_callB call_len ok_len T.z_len (by decide +kernel) (ja_cons (je_var 1) (ja_nil)))) (by decide))) (jss_cons (js_for c (ji_seq (je_var 0)) (jg_name (i := 4) c.nd rfl (by first | exact Or.inl rfl | exact Or.inr rfl)) (jss_cons (js_setF (i := 5) c rfl (by first | exact Or.inl rfl | exact Or.inr rfl) (je_index (je_var 1) (je_ix (je_var 4) (je_int)))) (jss_cons (js_setF (i := 6) c rfl (by first | exact Or.inl rfl | exact Or.inr rfl) (je_index (je_var 1) (je_ix (je_var 4) (je_int)))) (jss_cons (js_aug2 (i := 3) (j1 := 5) (j2 := 5) ip_add rfl (by first | exact Or.inl rfl | exact Or.inr (Or.inl rfl) | exact Or.inr (Or.inr rfl)) rfl (by first | exact Or.inl rfl | exact Or.inr (Or.inl rfl) | exact Or.inr (Or.inr rfl)) rfl (by first | exact Or.inl rfl | exact Or.inr (Or.inl rfl) | exact Or.inr (Or.inr rfl)) (je_int)) (jss_cons (js_aug2 (i := 3) (j1 := 6) (j2 := 6) ip_add rfl (by first | exact Or.inl rfl | exact Or.inr (Or.inl rfl) | exact Or.inr (Or.inr rfl)) rfl (by first | exact Or.inl rfl | exact Or.inr (Or.inl rfl) | exact Or.inr (Or.inr rfl)) rfl (by first | exact Or.inl rfl | exact Or.inr (Or.inl rfl) | exact Or.inr (Or.inr rfl)) (je_int)) (jss_cons (js_aug2 (i := 3) (j1 := 5) (j2 := 6) ip_sub rfl (by first | exact Or.inl rfl | exact Or.inr (Or.inl rfl) | exact Or.inr (Or.inr rfl)) rfl (by first | exact Or.inl rfl | exact Or.inr (Or.inl rfl) | exact Or.inr (Or.inr rfl)) rfl (by first | exact Or.inl rfl | exact Or.inr (Or.inl rfl) | exact Or.inr (Or.inr rfl)) (je_int)) (jss_cons (js_aug2 (i := 3) (j1 := 6) (j2 := 5) ip_sub rfl (by first | exact Or.inl rfl | exact Or.inr (Or.inl rfl) | exact Or.inr (Or.inr rfl)) rfl (by first | exact Or.inl rfl | exact Or.inr (Or.inl rfl) | exact Or.inr (Or.inr rfl)) rfl (by first | exact Or.inl rfl | exact Or.inr (Or.inl rfl) | exact Or.inr (Or.inr rfl)) (je_int)) (jss_one (js_setF (i := 2) c rfl (by first | exact Or.inl rfl | exact Or.inr rfl) (je_own (c.mono (by decide)) G_heads_joined T.m_heads_joined T.k_heads_joined T.b_heads_joined (ja_cons (je_var 2) (ja_cons (je_tup (jao_cons (je_var 5) (jao_cons (je_var 6) (jao_nil)))) (ja_nil))) (alS (alS (al0))))))))))))) (jss_cons (js_setF (i := 7) c rfl (by first | exact Or.inl rfl | exact Or.inr rfl) (je_lc [("home", 9)] c (ji_rg1 T.z_range (ja_cons (je_callB call_len ok_len T.z_len (by decide +kernel) (ja_cons (je_var 1) (ja_nil))) (ja_nil))) (blkOk_by (N := N_ways_to_join) (sc := defScope s_ways_to_join) (by decide +kernel)) (fun _ _ _ _ _ => jg_name (i := 9) c.nd rfl (by first | exact Or.inl rfl | exact Or.inr rfl)) (fun _ _ _ _ _ c => jts_one (jt_cmp (op_ne4 c.eq) ok_ne (je_ix (je_var 2) (je_var 9)) (je_var 9) (nomark _))) (fun _ _ _ _ _ c => je_var 9) (by decide))) (jss_one (js_ret (je_own (c.mono (by decide)) G_determinant T.m_determinant T.k_determinant T.b_determinant (ja_cons (je_lc [("one", 5)] c (ji_seq (je_var 7)) (blkOk_by (N := N_ways_to_join) (sc := defScope s_ways_to_join) (by decide +kernel)) (fun _ _ _ _ _ => jg_name (i := 5) c.nd rfl (by first | exact Or.inl rfl | exact Or.inr rfl)) (fun _ _ _ _ _ c => jts_nil) (fun _ _ _ _ _ c => je_lc [("other", 6)] c (ji_seq (je_var 7)) (blkOk_by (by kernel_rfl)) (fun _ _ _ _ _ => jg_name (i := 6) c.nd rfl (by first | exact Or.inl rfl | exact Or.inr rfl)) (fun _ _ _ _ _ c => jts_nil) (fun _ _ _ _ _ c => je_ix (je_ix (je_var 3) (je_var 5)) (je_var 6)) (by decide)) (by decide)) (ja_nil)) (alS (al0)))))))))) (fun _ _ => .inr rfl)
set_option maxHeartbeats 4000000 in
theorem ok_layer_ways (T : Tx K mg) (G_heads_joined : FnOk P w K mg base (L2.CX P w) 1 T.a_heads_joined T.d_heads_joined ["heads", "ends"] (spD K T.cls 2 g_heads_joined)) (G_ways_to_join : FnOk P w K mg base (L2.CX P w) 3 T.a_ways_to_join T.d_ways_to_join ["pairs"] (spD K T.cls 1 g_ways_to_join)) : FnOk P w K mg base (L2.CX P w) 4 T.a_layer_ways T.d_layer_ways ["web", "heads", "layer", "inside", "outside"] (spD K T.cls 5 g_layer_ways) :=
  fnD_ok T.F_layer_ways sc_layer_ways rfl (fun cdv A outer s H E c => jss_cons (js_setF (i := 5) c rfl (by first | exact Or.inl rfl | exact Or.inr rfl) (je_var 1)) (jss_cons (js_for c (ji_seq (je_var 2)) (jg_name (i := 6) c.nd rfl (by first | exact Or.inl rfl | exact Or.inr rfl)) (jss_one (js_if (jt_cmp op_in_seq ok_in (je_var 6) (je_var 3) (by rfl)) (jss_cons (js_setF (i := 7) c rfl (by first | exact Or.inl rfl | exact Or.inr rfl) (je_own (c.mono (by decide)) G_heads_joined T.m_heads_joined T.k_heads_joined T.b_heads_joined (ja_cons (je_var 5) (ja_cons (je_ix (je_fld T.o_Web (i := 1) rfl (je_var 0)) (je_var 6)) (ja_nil))) (alS (alS (al0))))) (jss_cons (js_if (jt_cmp (op_eq4 c.eq) ok_eq (je_var 7) (je_var 5) (nomark _)) (jss_one (js_ret (je_int))) (jss_nil)) (jss_one (js_setF (i := 5) c rfl (by first | exact Or.inl rfl | exact Or.inr rfl) (je_var 7))))) (jss_nil)))) (jss_cons (js_set (i := 8) c rfl (by first | exact Or.inl rfl | exact Or.inr rfl) (je_lst (jao_nil))) (jss_cons (js_setF (i := 9) c rfl (by first | exact Or.inl rfl | exact Or.inr rfl) (je_var 5)) (jss_cons (js_for c (ji_seq (je_var 2)) (jg_name (i := 6) c.nd rfl (by first | exact Or.inl rfl | exact Or.inr rfl)) (jss_cons (js_setF (i := 10) c rfl (by first | exact Or.inl rfl | exact Or.inr rfl) (je_ix (je_var 5) (je_ix (je_ix (je_fld T.o_Web (i := 1) rfl (je_var 0)) (je_var 6)) (je_int)))) (jss_cons (js_setF (i := 11) c rfl (by first | exact Or.inl rfl | exact Or.inr rfl) (je_ix (je_var 5) (je_ix (je_ix (je_fld T.o_Web (i := 1) rfl (je_var 0)) (je_var 6)) (je_int)))) (jss_one (js_if (jt_w (jw_and (jt_cmp (op_ne4 c.eq) ok_ne (je_var 10) (je_var 11) (nomark _)) (jw_and1 (jt_cmp op_notIn_seq ok_nin (je_var 6) (je_var 4) (by rfl))))) (jss_cons (js_app (i := 8) rfl (by first | exact Or.inl rfl | exact Or.inr (Or.inl rfl) | exact Or.inr (Or.inr rfl)) (je_tup (jao_cons (je_var 10) (jao_cons (je_var 11) (jao_nil))))) (jss_one (js_setF (i := 9) c rfl (by first | exact Or.inl rfl | exact Or.inr rfl) (je_own (c.mono (by decide)) G_heads_joined T.m_heads_joined T.k_heads_joined T.b_heads_joined (ja_cons (je_var 9) (ja_cons (je_ix (je_fld T.o_Web (i := 1) rfl (je_var 0)) (je_var 6)) (ja_nil))) (alS (alS (al0))))))) (jss_nil)))))) (jss_cons (js_for c (ji_seq (je_var 2)) (jg_name (i := 6) c.nd rfl (by first | exact Or.inl rfl | exact Or.inr rfl)) (jss_one (js_if (jt_cmp (op_ne4 c.eq) ok_ne (je_ix (je_var 9) (je_ix (je_ix (je_fld T.o_Web (i := 1) rfl (je_var 0)) (je_var 6)) (je_int))) (je_ix (je_var 9) (je_ix (je_ix (je_fld T.o_Web (i := 1) rfl (je_var 0)) (je_var 6)) (je_int))) (nomark _)) (jss_one (js_ret (je_int))) (jss_nil)))) (jss_one (js_ret (je_own (c.mono (by decide)) G_ways_to_join T.m_ways_to_join T.k_ways_to_join T.b_ways_to_join (ja_cons (je_var 8) (ja_nil)) (alS (al0))))))))))) (fun _ _ => .inr rfl)
set_option maxHeartbeats 4000000 in
theorem ok_cheapest_with (T : Tx K mg) (G_layer_ways : FnOk P w K mg base (L2.CX P w) 4 T.a_layer_ways T.d_layer_ways ["web", "heads", "layer", "inside", "outside"] (spD K T.cls 5 g_layer_ways)) (G_heads_joined : FnOk P w K mg base (L2.CX P w) 1 T.a_heads_joined T.d_heads_joined ["heads", "ends"] (spD K T.cls 2 g_heads_joined)) : FnOk P w K mg base (L2.CX P w) 5 T.a_cheapest_with T.d_cheapest_with ["web", "lengths", "inside", "outside"] (spD K T.cls 4 g_cheapest_with) :=
  fnD_ok T.F_cheapest_with sc_cheapest_with rfl (fun cdv A outer s H E c => jss_cons (js_setF (i := 4) c rfl (by first | exact Or.inl rfl | exact Or.inr rfl) (je_lr1 c T.z_list T.z_range (je_fld T.o_Web (i := 0) rfl (je_var 0)))) (jss_cons (js_setF (i := 5) c rfl (by first | exact Or.inl rfl | exact Or.inr rfl) (je_int)) (jss_cons (js_for c (ji_seq (je_sortedset c T.z_sorted T.z_set (je_var 1))) (jg_name (i := 6) c.nd rfl (by first | exact Or.inl rfl | exact Or.inr rfl)) (jss_cons (js_setLcF (i := 7) [("tie", 8)] c rfl rfl (sw_true rfl rfl rfl (by decide +kernel)) (ji_rg1 T.z_range (ja_cons (je_callB call_len ok_len T.z_len (by decide +kernel) (ja_cons (je_var 1) (ja_nil))) (ja_nil))) (blkOk_by (N := N_cheapest_with) (sc := defScope s_cheapest_with) (by decide +kernel)) (fun _ _ _ _ _ => jg_name (i := 8) c.nd rfl (by first | exact Or.inl rfl | exact Or.inr rfl)) (fun _ _ _ _ _ c => jts_one (jt_cmp (op_eq4 c.eq) ok_eq (je_ix (je_var 1) (je_var 8)) (je_var 6) (nomark _))) (fun _ _ _ _ _ c => je_var 8) (by decide)) (jss_cons (js_setF (i := 5) c rfl (by first | exact Or.inl rfl | exact Or.inr rfl) (je_bin op_mul4 ok_mul (je_var 5) (je_own (c.mono (by decide)) G_layer_ways T.m_layer_ways T.k_layer_ways T.b_layer_ways (ja_cons (je_var 0) (ja_cons (je_var 4) (ja_cons (je_var 7) (ja_cons (je_var 2) (ja_cons (je_var 3) (ja_nil)))))) (alS (alS (alS (alS (alS (al0))))))))) (jss_one (js_for c (ji_seq (je_var 7)) (jg_name (i := 8) c.nd rfl (by first | exact Or.inl rfl | exact Or.inr rfl)) (jss_one (js_setF (i := 4) c rfl (by first | exact Or.inl rfl | exact Or.inr rfl) (je_own (c.mono (by decide)) G_heads_joined T.m_heads_joined T.k_heads_joined T.b_heads_joined (ja_cons (je_var 4) (ja_cons (je_ix (je_fld T.o_Web (i := 1) rfl (je_var 0)) (je_var 8)) (ja_nil))) (alS (alS (al0))))))))))) (jss_cons (js_if (jt_cmp op_gt ok_gt (je_lenset c T.z_len T.z_set (je_var 4)) (je_int) (nomark _)) (jss_one (js_ret (je_int))) (jss_nil)) (jss_one (js_retV 5)))))) (fun _ _ => .inr rfl)
set_option maxHeartbeats 4000000 in
theorem ok_cheapest_count (T : Tx K mg) (G_look_at_lengths : FnOk P w K mg base (L2.CX P w) 1 T.a_look_at_lengths T.d_look_at_lengths ["web", "lengths"] (spD K T.cls 2 g_look_at_lengths)) (G_cheapest_with : FnOk P w K mg base (L2.CX P w) 5 T.a_cheapest_with T.d_cheapest_with ["web", "lengths", "inside", "outside"] (spD K T.cls 4 g_cheapest_with)) : FnOk P w K mg base (L2.CX P w) 6 T.a_cheapest_count T.d_cheapest_count ["web", "lengths"] (spD K T.cls 2 g_cheapest_count) :=
  fnD_ok T.F_cheapest_count sc_cheapest_count rfl (fun cdv A outer s H E c => jss_cons (js_exp (je_own (c.mono (by decide)) G_look_at_lengths T.m_look_at_lengths T.k_look_at_lengths T.b_look_at_lengths (ja_cons (je_var 0) (ja_cons (je_var 1) (ja_nil))) (alS (alS (al0))))) (jss_one (js_ret (je_own (c.mono (by decide)) G_cheapest_with T.m_cheapest_with T.k_cheapest_with T.b_cheapest_with (ja_cons (je_var 0) (ja_cons (je_var 1) (ja_cons (je_tup (jao_nil)) (ja_cons (je_tup (jao_nil)) (ja_nil))))) (alS (alS (alS (alS (al0))))))))) (fun _ _ => .inr rfl)
set_option maxHeartbeats 4000000 in
theorem ok_cheapest_at (T : Tx K mg) (G_cheapest_count : FnOk P w K mg base (L2.CX P w) 6 T.a_cheapest_count T.d_cheapest_count ["web", "lengths"] (spD K T.cls 2 g_cheapest_count)) (G_cheapest_with : FnOk P w K mg base (L2.CX P w) 5 T.a_cheapest_with T.d_cheapest_with ["web", "lengths", "inside", "outside"] (spD K T.cls 4 g_cheapest_with)) : FnOk P w K mg base (L2.CX P w) 7 T.a_cheapest_at T.d_cheapest_at ["web", "lengths", "number"] (spD K T.cls 3 g_cheapest_at) :=
  fnD_ok T.F_cheapest_at sc_cheapest_at rfl (fun cdv A outer s H E c => jss_cons (js_setF (i := 3) c rfl (by first | exact Or.inl rfl | exact Or.inr rfl) (je_own (c.mono (by decide)) G_cheapest_count T.m_cheapest_count T.k_cheapest_count T.b_cheapest_count (ja_cons (je_var 0) (ja_cons (je_var 1) (ja_nil))) (alS (alS (al0))))) (jss_cons (js_if (jt_w (jw_or (jt_cmp op_lt ok_lt (je_var 2) (je_int) (nomark _)) (jw_or1 (jt_cmp op_ge ok_ge (je_var 2) (je_var 3) (nomark _))))) (jss_one (js_raise c T.e_NoSuch)) (jss_nil)) (jss_cons (js_setF (i := 4) c rfl (by first | exact Or.inl rfl | exact Or.inr rfl) (je_tup (jao_nil))) (jss_cons (js_setF (i := 5) c rfl (by first | exact Or.inl rfl | exact Or.inr rfl) (je_tup (jao_nil))) (jss_cons (js_for c (ji_rg1 T.z_range (ja_cons (je_callB call_len ok_len T.z_len (by decide +kernel) (ja_cons (je_fld T.o_Web (i := 1) rfl (je_var 0)) (ja_nil))) (ja_nil))) (jg_name (i := 6) c.nd rfl (by first | exact Or.inl rfl | exact Or.inr rfl)) (jss_cons (js_setF (i := 7) c rfl (by first | exact Or.inl rfl | exact Or.inr rfl) (je_own (c.mono (by decide)) G_cheapest_with T.m_cheapest_with T.k_cheapest_with T.b_cheapest_with (ja_cons (je_var 0) (ja_cons (je_var 1) (ja_cons (je_bin op_add4 ok_add (je_var 4) (je_tup (jao_cons (je_var 6) (jao_nil)))) (ja_cons (je_var 5) (ja_nil))))) (alS (alS (alS (alS (al0))))))) (jss_one (js_if (jt_cmp op_lt ok_lt (je_var 2) (je_var 7) (nomark _)) (jss_one (js_setF (i := 4) c rfl (by first | exact Or.inl rfl | exact Or.inr rfl) (je_bin op_add4 ok_add (je_var 4) (je_tup (jao_cons (je_var 6) (jao_nil)))))) (jss_cons (js_setF (i := 2) c rfl (by first | exact Or.inl rfl | exact Or.inr rfl) (je_bin op_sub ok_sub (je_var 2) (je_var 7))) (jss_one (js_setF (i := 5) c rfl (by first | exact Or.inl rfl | exact Or.inr rfl) (je_bin op_add4 ok_add (je_var 5) (je_tup (jao_cons (je_var 6) (jao_nil))))))))))) (jss_one (js_retV 4))))))) (fun _ _ => .inr rfl)
set_option maxHeartbeats 4000000 in
theorem ok_cheapest_number (T : Tx K mg) (G_look_at_lengths : FnOk P w K mg base (L2.CX P w) 1 T.a_look_at_lengths T.d_look_at_lengths ["web", "lengths"] (spD K T.cls 2 g_look_at_lengths)) (G_is_tree : FnOk P w K mg base (L2.CX P w) 2 T.a_is_tree T.d_is_tree ["web", "ties"] (spD K T.cls 2 g_is_tree)) (G_is_cheapest : FnOk P w K mg base (L2.CX P w) 7 T.a_is_cheapest T.d_is_cheapest ["web", "lengths", "tree"] (spD K T.cls 3 g_is_cheapest)) (G_cheapest_with : FnOk P w K mg base (L2.CX P w) 5 T.a_cheapest_with T.d_cheapest_with ["web", "lengths", "inside", "outside"] (spD K T.cls 4 g_cheapest_with)) : FnOk P w K mg base (L2.CX P w) 8 T.a_cheapest_number T.d_cheapest_number ["web", "lengths", "tree"] (spD K T.cls 3 g_cheapest_number) :=
  fnD_ok T.F_cheapest_number sc_cheapest_number rfl (fun cdv A outer s H E c => jss_cons (js_exp (je_own (c.mono (by decide)) G_look_at_lengths T.m_look_at_lengths T.k_look_at_lengths T.b_look_at_lengths (ja_cons (je_var 0) (ja_cons (je_var 1) (ja_nil))) (alS (alS (al0))))) (jss_cons (js_if (jt_w (jw_or (jt_not (jt_truth (je_own (c.mono (by decide)) G_is_tree T.m_is_tree T.k_is_tree T.b_is_tree (ja_cons (je_var 0) (ja_cons (je_var 2) (ja_nil))) (alS (alS (al0)))))) (jw_or1 (jt_not (jt_truth (je_own (c.mono (by decide)) G_is_cheapest T.m_is_cheapest T.k_is_cheapest T.b_is_cheapest (ja_cons (je_var 0) (ja_cons (je_var 1) (ja_cons (je_var 2) (ja_nil)))) (alS (alS (alS (al0)))))))))) (jss_one (js_raise c T.e_NoTree)) (jss_nil)) (jss_cons (js_setF (i := 3) c rfl (by first | exact Or.inl rfl | exact Or.inr rfl) (je_int)) (jss_cons (js_setF (i := 4) c rfl (by first | exact Or.inl rfl | exact Or.inr rfl) (je_tup (jao_nil))) (jss_cons (js_setF (i := 5) c rfl (by first | exact Or.inl rfl | exact Or.inr rfl) (je_tup (jao_nil))) (jss_cons (js_for c (ji_rg1 T.z_range (ja_cons (je_callB call_len ok_len T.z_len (by decide +kernel) (ja_cons (je_fld T.o_Web (i := 1) rfl (je_var 0)) (ja_nil))) (ja_nil))) (jg_name (i := 6) c.nd rfl (by first | exact Or.inl rfl | exact Or.inr rfl)) (jss_one (js_if (jt_cmp op_in_seq ok_in (je_var 6) (je_var 2) (by rfl)) (jss_one (js_setF (i := 4) c rfl (by first | exact Or.inl rfl | exact Or.inr rfl) (je_bin op_add4 ok_add (je_var 4) (je_tup (jao_cons (je_var 6) (jao_nil)))))) (jss_cons (js_setF (i := 3) c rfl (by first | exact Or.inl rfl | exact Or.inr rfl) (je_bin op_add4 ok_add (je_var 3) (je_own (c.mono (by decide)) G_cheapest_with T.m_cheapest_with T.k_cheapest_with T.b_cheapest_with (ja_cons (je_var 0) (ja_cons (je_var 1) (ja_cons (je_bin op_add4 ok_add (je_var 4) (je_tup (jao_cons (je_var 6) (jao_nil)))) (ja_cons (je_var 5) (ja_nil))))) (alS (alS (alS (alS (al0)))))))) (jss_one (js_setF (i := 5) c rfl (by first | exact Or.inl rfl | exact Or.inr rfl) (je_bin op_add4 ok_add (je_var 5) (je_tup (jao_cons (je_var 6) (jao_nil)))))))))) (jss_one (js_retV 3)))))))) (fun _ _ => .inr rfl)
set_option maxHeartbeats 4000000 in
theorem ok_law_at (T : Tx K mg) : FnOk P w K mg base (L2.CX P w) 1 T.a_law_at T.d_law_at ["script", "k"] (spD K T.cls 2 g_law_at) :=
  fnD_ok T.F_law_at sc_law_at rfl (fun cdv A outer s H E c => jss_cons (js_if (jt_cmp op_lt ok_lt (je_var 1) (je_callB call_len ok_len T.z_len (by decide +kernel) (ja_cons (je_var 0) (ja_nil))) (nomark _)) (jss_one (js_ret (je_ix (je_var 0) (je_var 1)))) (jss_nil)) (jss_one (js_ret (je_int)))) (fun _ _ => .inr rfl)
set_option maxHeartbeats 4000000 in
theorem ok_law_stir (T : Tx K mg) : FnOk P w K mg base (L2.CX P w) 1 T.a_law_stir T.d_law_stir ["cell", "k"] (spD K T.cls 2 g_law_stir) :=
  fnD_ok T.F_law_stir sc_law_stir rfl (fun cdv A outer s H E c => jss_cons (js_setF (i := 2) c rfl (by first | exact Or.inl rfl | exact Or.inr rfl) (je_bin op_modX ok_mod (je_bin op_mul4 ok_mul (je_bin op_add4 ok_add (je_bin op_add4 ok_add (je_bin op_modX ok_mod (je_var 0) (je_bin op_pow ok_pow (je_int) (je_int))) (je_bin op_mul4 ok_mul (je_int) (je_var 1))) (je_int)) (je_int)) (je_int))) (jss_cons (js_setF (i := 2) c rfl (by first | exact Or.inl rfl | exact Or.inr rfl) (je_bin op_modX ok_mod (je_bin op_mul4 ok_mul (je_var 2) (je_var 2)) (je_int))) (jss_one (js_ret (je_bin op_divX ok_div (je_bin op_modX ok_mod (je_bin op_mul4 ok_mul (je_bin op_add4 ok_add (je_var 2) (je_bin op_mul4 ok_mul (je_int) (je_bin op_add4 ok_add (je_var 1) (je_int)))) (je_int)) (je_int)) (je_int)))))) (fun _ _ => .inr rfl)
set_option maxHeartbeats 4000000 in
theorem ok_law_numbers_v3 (T : Tx K mg) : FnOk P w K mg base (L2.CX P w) 1 T.a_law_numbers_v3 T.d_law_numbers_v3 ["script", "start", "most"] (spD K T.cls 3 g_law_numbers_v3) :=
  fnD_ok T.F_law_numbers_v3 sc_law_numbers_v3 rfl (fun cdv A outer s H E c => jss_cons (js_set (i := 3) c rfl (by first | exact Or.inl rfl | exact Or.inr rfl) (je_lst (jao_nil))) (jss_cons (js_for c (ji_rg2 T.z_range (ja_cons (je_var 1) (ja_cons (je_callB call_len ok_len T.z_len (by decide +kernel) (ja_cons (je_var 0) (ja_nil))) (ja_nil)))) (jg_name (i := 4) c.nd rfl (by first | exact Or.inl rfl | exact Or.inr rfl)) (jss_cons (js_setF (i := 5) c rfl (by first | exact Or.inl rfl | exact Or.inr rfl) (je_bin op_modX ok_mod (je_ix (je_var 0) (je_var 4)) (je_bin op_pow ok_pow (je_int) (je_int)))) (jss_one (js_if (jt_cmp op_lt ok_lt (je_callB call_len ok_len T.z_len (by decide +kernel) (ja_cons (je_var 3) (ja_nil))) (je_var 2) (nomark _)) (jss_one (js_app (i := 3) rfl (by first | exact Or.inl rfl | exact Or.inr (Or.inl rfl) | exact Or.inr (Or.inr rfl)) (je_var 5))) (jss_one (js_setIx (i := 3) rfl (by first | exact Or.inl rfl | exact Or.inr (Or.inl rfl) | exact Or.inr (Or.inr rfl)) (je_bin op_modX ok_mod (je_bin op_add4 ok_add (je_bin op_mul4 ok_mul (je_ix (je_var 3) (je_bin op_modX ok_mod (je_var 4) (je_var 2))) (je_int)) (je_var 5)) (je_bin op_pow ok_pow (je_int) (je_int))) (je_bin op_modX ok_mod (je_var 4) (je_var 2)))))))) (jss_one (js_retV 3)))) (fun _ _ => .inr rfl)
set_option maxHeartbeats 4000000 in
theorem ok_law_digits (T : Tx K mg) (G_law_stir : FnOk P w K mg base (L2.CX P w) 1 T.a_law_stir T.d_law_stir ["cell", "k"] (spD K T.cls 2 g_law_stir)) : FnOk P w K mg base (L2.CX P w) 2 T.a_law_digits T.d_law_digits ["cell", "most_places", "most_ties"] (spD K T.cls 3 g_law_digits) :=
  fnD_ok T.F_law_digits sc_law_digits rfl (fun cdv A outer s H E c => jss_cons (js_setF (i := 3) c rfl (by first | exact Or.inl rfl | exact Or.inr rfl) (je_bin op_add4 ok_add (je_int) (je_bin op_modX ok_mod (je_var 0) (je_var 1)))) (jss_cons (js_setF (i := 4) c rfl (by first | exact Or.inl rfl | exact Or.inr rfl) (je_bin op_divX ok_div (je_var 0) (je_var 1))) (jss_cons (js_set (i := 5) c rfl (by first | exact Or.inl rfl | exact Or.inr rfl) (je_lst (jao_nil))) (jss_cons (js_setF (i := 6) c rfl (by first | exact Or.inl rfl | exact Or.inr rfl) (je_bin op_divX ok_div (je_var 4) (je_bin op_add4 ok_add (je_var 2) (je_int)))) (jss_cons (js_for c (ji_rg1 T.z_range (ja_cons (je_bin op_modX ok_mod (je_var 4) (je_bin op_add4 ok_add (je_var 2) (je_int))) (ja_nil))) (jg_name (i := 7) c.nd rfl (by first | exact Or.inl rfl | exact Or.inr rfl)) (jss_cons (js_if (jt_cmp op_in_seq ok_in (je_var 6) (je_lst (jao_cons (je_int) (jao_cons (je_un un_neg ok_neg (je_int)) (jao_nil)))) (by rfl)) (jss_one (js_app (i := 5) rfl (by first | exact Or.inl rfl | exact Or.inr (Or.inl rfl) | exact Or.inr (Or.inr rfl)) (je_tup (jao_cons (je_bin op_modX ok_mod (je_own (c.mono (by decide)) G_law_stir T.m_law_stir T.k_law_stir T.b_law_stir (ja_cons (je_var 4) (ja_cons (je_bin op_mul4 ok_mul (je_int) (je_var 7)) (ja_nil))) (alS (alS (al0)))) (je_var 3)) (jao_cons (je_bin op_modX ok_mod (je_own (c.mono (by decide)) G_law_stir T.m_law_stir T.k_law_stir T.b_law_stir (ja_cons (je_var 4) (ja_cons (je_bin op_add4 ok_add (je_bin op_mul4 ok_mul (je_int) (je_var 7)) (je_int)) (ja_nil))) (alS (alS (al0)))) (je_var 3)) (jao_nil)))))) (jss_one (js_app (i := 5) rfl (by first | exact Or.inl rfl | exact Or.inr (Or.inl rfl) | exact Or.inr (Or.inr rfl)) (je_tup (jao_cons (je_bin op_modX ok_mod (je_var 6) (je_var 3)) (jao_cons (je_bin op_modX ok_mod (je_bin op_divX ok_div (je_var 6) (je_var 3)) (je_var 3)) (jao_nil))))))) (jss_one (js_setF (i := 6) c rfl (by first | exact Or.inl rfl | exact Or.inr rfl) (je_bin op_divX ok_div (je_var 6) (je_bin op_mul4 ok_mul (je_var 3) (je_var 3))))))) (jss_one (js_frz 5 (js_ret (je_tup (jao_cons (je_var 3) (jao_cons (je_var 5) (jao_nil)))))))))))) (fun _ _ => .inr rfl)
set_option maxHeartbeats 4000000 in
theorem ok_law_web_v3 (T : Tx K mg) (G_law_at : FnOk P w K mg base (L2.CX P w) 1 T.a_law_at T.d_law_at ["script", "k"] (spD K T.cls 2 g_law_at)) (G_law_digits : FnOk P w K mg base (L2.CX P w) 2 T.a_law_digits T.d_law_digits ["cell", "most_places", "most_ties"] (spD K T.cls 3 g_law_digits)) (G_law_numbers_v3 : FnOk P w K mg base (L2.CX P w) 1 T.a_law_numbers_v3 T.d_law_numbers_v3 ["script", "start", "most"] (spD K T.cls 3 g_law_numbers_v3)) (G_law_stir : FnOk P w K mg base (L2.CX P w) 1 T.a_law_stir T.d_law_stir ["cell", "k"] (spD K T.cls 2 g_law_stir)) : FnOk P w K mg base (L2.CX P w) 3 T.a_law_web_v3 T.d_law_web_v3 ["script", "most_places", "most_ties"] (spD K T.cls 3 g_law_web_v3) :=
  fnD_ok T.F_law_web_v3 sc_law_web_v3 rfl (fun cdv A outer s H E c => jss_cons (js_setF (i := 3) c rfl (by first | exact Or.inl rfl | exact Or.inr rfl) (je_own (c.mono (by decide)) G_law_at T.m_law_at T.k_law_at T.b_law_at (ja_cons (je_var 0) (ja_cons (je_int) (ja_nil))) (alS (alS (al0))))) (jss_cons (js_if (jt_cmp (op_eq4 c.eq) ok_eq (je_bin op_modX ok_mod (je_var 3) (je_int)) (je_int) (nomark _)) (jss_one (js_ret (je_own (c.mono (by decide)) G_law_digits T.m_law_digits T.k_law_digits T.b_law_digits (ja_cons (je_own (c.mono (by decide)) G_law_at T.m_law_at T.k_law_at T.b_law_at (ja_cons (je_var 0) (ja_cons (je_int) (ja_nil))) (alS (alS (al0)))) (ja_cons (je_var 1) (ja_cons (je_var 2) (ja_nil)))) (alS (alS (alS (al0))))))) (jss_nil)) (jss_cons (js_setF (i := 4) c rfl (by first | exact Or.inl rfl | exact Or.inr rfl) (je_bin op_add4 ok_add (je_int) (je_bin op_modX ok_mod (je_bin op_divX ok_div (je_var 3) (je_int)) (je_var 1)))) (jss_cons (js_set (i := 5) c rfl (by first | exact Or.inl rfl | exact Or.inr rfl) (je_lst (jao_nil))) (jss_cons (js_for c (ji_enm T.z_enumerate (ja_cons (je_own (c.mono (by decide)) G_law_numbers_v3 T.m_law_numbers_v3 T.k_law_numbers_v3 T.b_law_numbers_v3 (ja_cons (je_var 0) (ja_cons (je_int) (ja_cons (je_var 2) (ja_nil)))) (alS (alS (alS (al0))))) (ja_nil))) (jg_tup c.calm (jgs_cons (jg_name (i := 6) c.nd rfl (by first | exact Or.inl rfl | exact Or.inr rfl)) (jgs_cons (jg_name (i := 7) c.nd rfl (by first | exact Or.inl rfl | exact Or.inr rfl)) (jgs_nil)))) (jss_cons (js_setF (i := 8) c rfl (by first | exact Or.inl rfl | exact Or.inr rfl) (je_bin op_modX ok_mod (je_own (c.mono (by decide)) G_law_stir T.m_law_stir T.k_law_stir T.b_law_stir (ja_cons (je_var 7) (ja_cons (je_int) (ja_nil))) (alS (alS (al0)))) (je_var 4))) (jss_cons (js_setF (i := 9) c rfl (by first | exact Or.inl rfl | exact Or.inr rfl) (je_bin op_modX ok_mod (je_own (c.mono (by decide)) G_law_stir T.m_law_stir T.k_law_stir T.b_law_stir (ja_cons (je_var 7) (ja_cons (je_int) (ja_nil))) (alS (alS (al0)))) (je_var 4))) (jss_cons (js_if (jt_w (jw_and (jt_cmp op_lt ok_lt (je_bin op_add4 ok_add (je_var 6) (je_int)) (je_var 4) (nomark _)) (jw_and1 (jt_cmp op_gt ok_gt (je_bin op_modX ok_mod (je_own (c.mono (by decide)) G_law_stir T.m_law_stir T.k_law_stir T.b_law_stir (ja_cons (je_var 7) (ja_cons (je_int) (ja_nil))) (alS (alS (al0)))) (je_int)) (je_int) (nomark _))))) (jss_cons (js_setF (i := 8) c rfl (by first | exact Or.inl rfl | exact Or.inr rfl) (je_bin op_modX ok_mod (je_own (c.mono (by decide)) G_law_stir T.m_law_stir T.k_law_stir T.b_law_stir (ja_cons (je_var 7) (ja_cons (je_int) (ja_nil))) (alS (alS (al0)))) (je_bin op_add4 ok_add (je_var 6) (je_int)))) (jss_one (js_setF (i := 9) c rfl (by first | exact Or.inl rfl | exact Or.inr rfl) (je_bin op_add4 ok_add (je_var 6) (je_int))))) (jss_nil)) (jss_one (js_app (i := 5) rfl (by first | exact Or.inl rfl | exact Or.inr (Or.inl rfl) | exact Or.inr (Or.inr rfl)) (je_ix (je_lst (jao_cons (je_tup (jao_cons (je_var 8) (jao_cons (je_var 9) (jao_nil)))) (jao_cons (je_tup (jao_cons (je_var 9) (jao_cons (je_var 8) (jao_nil)))) (jao_nil)))) (je_bin op_modX ok_mod (je_own (c.mono (by decide)) G_law_stir T.m_law_stir T.k_law_stir T.b_law_stir (ja_cons (je_var 7) (ja_cons (je_int) (ja_nil))) (alS (alS (al0)))) (je_int))))))))) (jss_one (js_frz 5 (js_ret (je_tup (jao_cons (je_var 4) (jao_cons (je_var 5) (jao_nil)))))))))))) (fun _ _ => .inr rfl)
set_option maxHeartbeats 4000000 in
theorem ok_law_trees_v3 (T : Tx K mg) : FnOk P w K mg base (L2.CX P w) 1 T.a_law_trees_v3 T.d_law_trees_v3 ["places", "ties"] (spD K T.cls 2 g_law_trees_v3) :=
  fnD_ok T.F_law_trees_v3 sc_law_trees_v3 rfl (fun cdv A outer s H E c => jss_cons (js_setF (i := 2) c rfl (by first | exact Or.inl rfl | exact Or.inr rfl) (je_lst (jao_cons (je_tup (jao_cons (je_tup (jao_nil)) (jao_cons (je_tr1 c T.z_tuple T.z_range (je_var 0)) (jao_nil)))) (jao_nil)))) (jss_cons (js_for c (ji_rg1 T.z_range (ja_cons (je_bin op_sub ok_sub (je_var 0) (je_int)) (ja_nil))) (jg_name (i := 3) c.nd rfl (by first | exact Or.inl rfl | exact Or.inr rfl)) (jss_cons (js_set (i := 4) c rfl (by first | exact Or.inl rfl | exact Or.inr rfl) (je_lst (jao_nil))) (jss_cons (js_for c (ji_seq (je_var 2)) (jg_tup c.calm (jgs_cons (jg_name (i := 5) c.nd rfl (by first | exact Or.inl rfl | exact Or.inr rfl)) (jgs_cons (jg_name (i := 6) c.nd rfl (by first | exact Or.inl rfl | exact Or.inr rfl)) (jgs_nil)))) (jss_one (js_for c (ji_rg2 T.z_range (ja_cons (je_bin op_add4 ok_add (je_callB (cr_max3 c.calm c.eq65) ok_max3 T.z_max (by decide +kernel) (ja_cons (je_bin op_add4 ok_add (je_tup (jao_cons (je_un un_neg ok_neg (je_int)) (jao_nil))) (je_var 5)) (ja_nil))) (je_int)) (ja_cons (je_callB call_len ok_len T.z_len (by decide +kernel) (ja_cons (je_var 1) (ja_nil))) (ja_nil)))) (jg_name (i := 7) c.nd rfl (by first | exact Or.inl rfl | exact Or.inr rfl)) (jss_cons (js_setF (i := 8) c rfl (by first | exact Or.inl rfl | exact Or.inr rfl) (je_ix (je_var 6) (je_ix (je_ix (je_var 1) (je_var 7)) (je_int)))) (jss_cons (js_setF (i := 9) c rfl (by first | exact Or.inl rfl | exact Or.inr rfl) (je_ix (je_var 6) (je_ix (je_ix (je_var 1) (je_var 7)) (je_int)))) (jss_one (js_if (jt_cmp (op_ne4 c.eq) ok_ne (je_var 8) (je_var 9) (nomark _)) (jss_cons (js_setF (i := 10) c rfl (by first | exact Or.inl rfl | exact Or.inr rfl) (je_callTy call_tuple_of ok_tuple T.z_tuple (by decide +kernel) (ja_cons (je_lc [("head", 11)] c (ji_seq (je_var 6)) (blkOk_by (N := N_law_trees_v3) (sc := defScope s_law_trees_v3) (by decide +kernel)) (fun _ _ _ _ _ => jg_name (i := 11) c.nd rfl (by first | exact Or.inl rfl | exact Or.inr rfl)) (fun _ _ _ _ _ c => jts_nil) (fun _ _ _ _ _ c => je_if (jt_cmp (op_eq4 c.eq) ok_eq (je_var 11) (je_var 9) (nomark _)) (je_var 8) (je_var 11)) (by decide)) (ja_nil)))) (jss_one (js_app (i := 4) rfl (by first | exact Or.inl rfl | exact Or.inr (Or.inl rfl) | exact Or.inr (Or.inr rfl)) (je_tup (jao_cons (je_bin op_add4 ok_add (je_var 5) (je_tup (jao_cons (je_var 7) (jao_nil)))) (jao_cons (je_var 10) (jao_nil))))))) (jss_nil)))))))) (jss_one (js_frz 4 (js_setF (i := 2) c rfl (by first | exact Or.inl rfl | exact Or.inr rfl) (je_var 4))))))) (jss_one (js_ret (je_lc [("part", 5), ("heads", 6)] c (ji_seq (je_var 2)) (blkOk_by (N := N_law_trees_v3) (sc := defScope s_law_trees_v3) (by decide +kernel)) (fun _ _ _ _ _ => jg_tup c.calm (jgs_cons (jg_name (i := 5) c.nd rfl (by first | exact Or.inl rfl | exact Or.inr rfl)) (jgs_cons (jg_name (i := 6) c.nd rfl (by first | exact Or.inl rfl | exact Or.inr rfl)) (jgs_nil)))) (fun _ _ _ _ _ c => jts_nil) (fun _ _ _ _ _ c => je_var 5) (by decide)))))) (fun _ _ => .inr rfl)
set_option maxHeartbeats 4000000 in
theorem ok_law_lengths (T : Tx K mg) (G_law_at : FnOk P w K mg base (L2.CX P w) 1 T.a_law_at T.d_law_at ["script", "k"] (spD K T.cls 2 g_law_at)) (G_law_stir : FnOk P w K mg base (L2.CX P w) 1 T.a_law_stir T.d_law_stir ["cell", "k"] (spD K T.cls 2 g_law_stir)) : FnOk P w K mg base (L2.CX P w) 2 T.a_law_lengths T.d_law_lengths ["script", "count"] (spD K T.cls 2 g_law_lengths) :=
  fnD_ok T.F_law_lengths sc_law_lengths rfl (fun cdv A outer s H E c => jss_cons (js_setF (i := 2) c rfl (by first | exact Or.inl rfl | exact Or.inr rfl) (je_own (c.mono (by decide)) G_law_at T.m_law_at T.k_law_at T.b_law_at (ja_cons (je_var 0) (ja_cons (je_int) (ja_nil))) (alS (alS (al0))))) (jss_cons (js_setF (i := 3) c rfl (by first | exact Or.inl rfl | exact Or.inr rfl) (je_bin op_divX ok_div (je_var 2) (je_int))) (jss_cons (js_set (i := 4) c rfl (by first | exact Or.inl rfl | exact Or.inr rfl) (je_lst (jao_nil))) (jss_cons (js_for c (ji_rg1 T.z_range (ja_cons (je_var 1) (ja_nil))) (jg_name (i := 5) c.nd rfl (by first | exact Or.inl rfl | exact Or.inr rfl)) (jss_cons (js_if (jt_w (jw_and (jt_cmp (op_eq4 c.eq) ok_eq (je_bin op_modX ok_mod (je_var 2) (je_int)) (je_int) (nomark _)) (jw_and1 (jt_cmp op_in_seq ok_in (je_var 3) (je_lst (jao_cons (je_int) (jao_cons (je_un un_neg ok_neg (je_int)) (jao_nil)))) (by rfl))))) (jss_one (js_app (i := 4) rfl (by first | exact Or.inl rfl | exact Or.inr (Or.inl rfl) | exact Or.inr (Or.inr rfl)) (je_bin op_sub ok_sub (je_bin op_modX ok_mod (je_own (c.mono (by decide)) G_law_stir T.m_law_stir T.k_law_stir T.b_law_stir (ja_cons (je_var 2) (ja_cons (je_bin op_add4 ok_add (je_int) (je_var 5)) (ja_nil))) (alS (alS (al0)))) (je_int)) (je_int)))) (jss_one (js_if (jt_cmp (op_eq4 c.eq) ok_eq (je_bin op_modX ok_mod (je_var 2) (je_int)) (je_int) (nomark _)) (jss_one (js_app (i := 4) rfl (by first | exact Or.inl rfl | exact Or.inr (Or.inl rfl) | exact Or.inr (Or.inr rfl)) (je_bin op_sub ok_sub (je_bin op_modX ok_mod (je_var 3) (je_int)) (je_int)))) (jss_one (js_if (jt_cmp (op_eq4 c.eq) ok_eq (je_bin op_modX ok_mod (je_bin op_divX ok_div (je_var 2) (je_int)) (je_int)) (je_int) (nomark _)) (jss_cons (js_setF (i := 6) c rfl (by first | exact Or.inl rfl | exact Or.inr rfl) (je_bin op_mul4 ok_mul (je_bin op_add4 ok_add (je_bin op_add4 ok_add (je_bin op_modX ok_mod (je_var 2) (je_bin op_pow ok_pow (je_int) (je_int))) (je_bin op_mul4 ok_mul (je_int) (je_var 5))) (je_int)) (je_bin op_pow ok_pow (je_bin op_add4 ok_add (je_int) (je_bin op_mul4 ok_mul (je_int) (je_var 5))) (je_int)))) (jss_one (js_app (i := 4) rfl (by first | exact Or.inl rfl | exact Or.inr (Or.inl rfl) | exact Or.inr (Or.inr rfl)) (je_bin op_sub ok_sub (je_bin op_modX ok_mod (je_var 6) (je_bin op_pow ok_pow (je_int) (je_int))) (je_bin op_mul4 ok_mul (je_int) (je_bin op_pow ok_pow (je_int) (je_int))))))) (jss_one (js_app (i := 4) rfl (by first | exact Or.inl rfl | exact Or.inr (Or.inl rfl) | exact Or.inr (Or.inr rfl)) (je_bin op_sub ok_sub (je_bin op_modX ok_mod (je_own (c.mono (by decide)) G_law_stir T.m_law_stir T.k_law_stir T.b_law_stir (ja_cons (je_var 2) (ja_cons (je_bin op_add4 ok_add (je_int) (je_var 5)) (ja_nil))) (alS (alS (al0)))) (je_ix (je_lst (jao_cons (je_int) (jao_cons (je_int) (jao_nil)))) (je_bin op_modX ok_mod (je_bin op_divX ok_div (je_var 2) (je_int)) (je_int)))) (je_int))))))))) (jss_one (js_setF (i := 3) c rfl (by first | exact Or.inl rfl | exact Or.inr rfl) (je_bin op_divX ok_div (je_var 3) (je_int)))))) (jss_one (js_retV 4)))))) (fun _ _ => .inr rfl)
theorem catch_law_kind (T : Tx K mg) : ∀ c g, f_law_kind_hh c g ≠ .bad → PySem.W.exmOne K (excV T.cls c) (.ref T.C_WebError) = some true := by
  intro c g h
  match c with
  | 1 => rw [T.e_BadWeb.v]; exact T.ct_BadWeb_WebError
  | 4 => rw [T.e_NoTree.v]; exact T.ct_NoTree_WebError
  | 5 => rw [T.e_NoTie.v]; exact T.ct_NoTie_WebError
  | 6 => rw [T.e_NoSuch.v]; exact T.ct_NoSuch_WebError
  | 7 => rw [T.e_NotSquare.v]; exact T.ct_NotSquare_WebError
  | 9 => rw [T.e_BadRow.v]; exact T.ct_BadRow_WebError
  | 0 => exact absurd (by simp [f_law_kind_hh, f_law_kind_h, unO]) h
  | 2 => exact absurd (by simp [f_law_kind_hh, f_law_kind_h, unO]) h
  | 3 => exact absurd (by simp [f_law_kind_hh, f_law_kind_h, unO]) h
  | 8 => exact absurd (by simp [f_law_kind_hh, f_law_kind_h, unO]) h
  | z + 10 => exact absurd (by simp [f_law_kind_hh, f_law_kind_h, unO]) h
set_option maxHeartbeats 4000000 in
theorem ok_law_kind (T : Tx K mg) (G_cheapest_at : FnOk P w K mg base (L2.CX P w) 7 T.a_cheapest_at T.d_cheapest_at ["web", "lengths", "number"] (spD K T.cls 3 g_cheapest_at)) (G_cheapest_number : FnOk P w K mg base (L2.CX P w) 8 T.a_cheapest_number T.d_cheapest_number ["web", "lengths", "tree"] (spD K T.cls 3 g_cheapest_number)) : FnOk P w K mg base (L2.CX P w) 9 T.a_law_kind T.d_law_kind ["deed", "web", "lengths", "what"] (spD K T.cls 4 g_law_kind) :=
  fnD_ok T.F_law_kind sc_law_kind rfl (fun cdv A outer s H E c => jss_cons (js_setF (i := 4) c rfl (by first | exact Or.inl rfl | exact Or.inr rfl) (je_lst (jao_nil))) (jss_cons (js_try (i := 5) c rfl rfl rfl rfl T.m_WebError (catch_law_kind T) (fun W pn xe c => jss_one (js_if (jt_cmp (op_eq4 c.eq) ok_eq (je_var 0) (je_int) (nomark _)) (jss_one (js_exp (je_own (c.mono (by decide)) G_cheapest_at T.m_cheapest_at T.k_cheapest_at T.b_cheapest_at (ja_cons (je_var 1) (ja_cons (je_var 2) (ja_cons (je_var 3) (ja_nil)))) (alS (alS (alS (al0))))))) (jss_one (js_exp (je_own (c.mono (by decide)) G_cheapest_number T.m_cheapest_number T.k_cheapest_number T.b_cheapest_number (ja_cons (je_var 1) (ja_cons (je_var 2) (ja_cons (je_var 3) (ja_nil)))) (alS (alS (alS (al0))))))))) (by have nd := c.nd; exact (fun ci ad oe pn hz hf => by
    match ci, hz with
    | 1, hz => (rw [T.e_BadWeb.v] at hz; exact jss_one (js_setFN (i := 4) nd rfl (by first | exact Or.inl rfl | exact Or.inr rfl) (je_lst (jao_cons (je_is T.xc_BadWeb hz hf T.z_isinstance (i := 5) rfl (Or.inl rfl) (by decide) (by decide) (pe_glob (v := .ref T.C_NoSuch) (by rfl) T.m_NoSuch rfl) (fun _ h => h) T.is_BadWeb_NoSuch) (jao_cons (je_is T.xc_BadWeb hz hf T.z_isinstance (i := 5) rfl (Or.inl rfl) (by decide) (by decide) (pe_glob (v := .ref T.C_NoTree) (by rfl) T.m_NoTree rfl) (fun _ h => h) T.is_BadWeb_NoTree) (jao_cons (je_is T.xc_BadWeb hz hf T.z_isinstance (i := 5) rfl (Or.inl rfl) (by decide) (by decide) (pe_bltn (v := .ty "ValueError") (by rfl) T.z_ValueError (by decide +kernel) rfl) (fun _ h => h) T.is_BadWeb_ValueError) (jao_nil)))))))
    | 4, hz => (rw [T.e_NoTree.v] at hz; exact jss_one (js_setFN (i := 4) nd rfl (by first | exact Or.inl rfl | exact Or.inr rfl) (je_lst (jao_cons (je_is T.xc_NoTree hz hf T.z_isinstance (i := 5) rfl (Or.inl rfl) (by decide) (by decide) (pe_glob (v := .ref T.C_NoSuch) (by rfl) T.m_NoSuch rfl) (fun _ h => h) T.is_NoTree_NoSuch) (jao_cons (je_is T.xc_NoTree hz hf T.z_isinstance (i := 5) rfl (Or.inl rfl) (by decide) (by decide) (pe_glob (v := .ref T.C_NoTree) (by rfl) T.m_NoTree rfl) (fun _ h => h) T.is_NoTree_NoTree) (jao_cons (je_is T.xc_NoTree hz hf T.z_isinstance (i := 5) rfl (Or.inl rfl) (by decide) (by decide) (pe_bltn (v := .ty "ValueError") (by rfl) T.z_ValueError (by decide +kernel) rfl) (fun _ h => h) T.is_NoTree_ValueError) (jao_nil)))))))
    | 5, hz => (rw [T.e_NoTie.v] at hz; exact jss_one (js_setFN (i := 4) nd rfl (by first | exact Or.inl rfl | exact Or.inr rfl) (je_lst (jao_cons (je_is T.xc_NoTie hz hf T.z_isinstance (i := 5) rfl (Or.inl rfl) (by decide) (by decide) (pe_glob (v := .ref T.C_NoSuch) (by rfl) T.m_NoSuch rfl) (fun _ h => h) T.is_NoTie_NoSuch) (jao_cons (je_is T.xc_NoTie hz hf T.z_isinstance (i := 5) rfl (Or.inl rfl) (by decide) (by decide) (pe_glob (v := .ref T.C_NoTree) (by rfl) T.m_NoTree rfl) (fun _ h => h) T.is_NoTie_NoTree) (jao_cons (je_is T.xc_NoTie hz hf T.z_isinstance (i := 5) rfl (Or.inl rfl) (by decide) (by decide) (pe_bltn (v := .ty "ValueError") (by rfl) T.z_ValueError (by decide +kernel) rfl) (fun _ h => h) T.is_NoTie_ValueError) (jao_nil)))))))
    | 6, hz => (rw [T.e_NoSuch.v] at hz; exact jss_one (js_setFN (i := 4) nd rfl (by first | exact Or.inl rfl | exact Or.inr rfl) (je_lst (jao_cons (je_is T.xc_NoSuch hz hf T.z_isinstance (i := 5) rfl (Or.inl rfl) (by decide) (by decide) (pe_glob (v := .ref T.C_NoSuch) (by rfl) T.m_NoSuch rfl) (fun _ h => h) T.is_NoSuch_NoSuch) (jao_cons (je_is T.xc_NoSuch hz hf T.z_isinstance (i := 5) rfl (Or.inl rfl) (by decide) (by decide) (pe_glob (v := .ref T.C_NoTree) (by rfl) T.m_NoTree rfl) (fun _ h => h) T.is_NoSuch_NoTree) (jao_cons (je_is T.xc_NoSuch hz hf T.z_isinstance (i := 5) rfl (Or.inl rfl) (by decide) (by decide) (pe_bltn (v := .ty "ValueError") (by rfl) T.z_ValueError (by decide +kernel) rfl) (fun _ h => h) T.is_NoSuch_ValueError) (jao_nil)))))))
    | 7, hz => (rw [T.e_NotSquare.v] at hz; exact jss_one (js_setFN (i := 4) nd rfl (by first | exact Or.inl rfl | exact Or.inr rfl) (je_lst (jao_cons (je_is T.xc_NotSquare hz hf T.z_isinstance (i := 5) rfl (Or.inl rfl) (by decide) (by decide) (pe_glob (v := .ref T.C_NoSuch) (by rfl) T.m_NoSuch rfl) (fun _ h => h) T.is_NotSquare_NoSuch) (jao_cons (je_is T.xc_NotSquare hz hf T.z_isinstance (i := 5) rfl (Or.inl rfl) (by decide) (by decide) (pe_glob (v := .ref T.C_NoTree) (by rfl) T.m_NoTree rfl) (fun _ h => h) T.is_NotSquare_NoTree) (jao_cons (je_is T.xc_NotSquare hz hf T.z_isinstance (i := 5) rfl (Or.inl rfl) (by decide) (by decide) (pe_bltn (v := .ty "ValueError") (by rfl) T.z_ValueError (by decide +kernel) rfl) (fun _ h => h) T.is_NotSquare_ValueError) (jao_nil)))))))
    | 9, hz => (rw [T.e_BadRow.v] at hz; exact jss_one (js_setFN (i := 4) nd rfl (by first | exact Or.inl rfl | exact Or.inr rfl) (je_lst (jao_cons (je_is T.xc_BadRow hz hf T.z_isinstance (i := 5) rfl (Or.inl rfl) (by decide) (by decide) (pe_glob (v := .ref T.C_NoSuch) (by rfl) T.m_NoSuch rfl) (fun _ h => h) T.is_BadRow_NoSuch) (jao_cons (je_is T.xc_BadRow hz hf T.z_isinstance (i := 5) rfl (Or.inl rfl) (by decide) (by decide) (pe_glob (v := .ref T.C_NoTree) (by rfl) T.m_NoTree rfl) (fun _ h => h) T.is_BadRow_NoTree) (jao_cons (je_is T.xc_BadRow hz hf T.z_isinstance (i := 5) rfl (Or.inl rfl) (by decide) (by decide) (pe_bltn (v := .ty "ValueError") (by rfl) T.z_ValueError (by decide +kernel) rfl) (fun _ h => h) T.is_BadRow_ValueError) (jao_nil)))))))
    | 0, _ => exact jss_never
    | 2, _ => exact jss_never
    | 3, _ => exact jss_never
    | 8, _ => exact jss_never
    | z + 10, _ => exact jss_never)) (heq_law_kind)) (jss_one (js_retV 4)))) (fun _ _ => .inr rfl)
set_option maxHeartbeats 4000000 in
theorem ok_law_refusals_right (T : Tx K mg) (G_law_kind : FnOk P w K mg base (L2.CX P w) 9 T.a_law_kind T.d_law_kind ["deed", "web", "lengths", "what"] (spD K T.cls 4 g_law_kind)) : FnOk P w K mg base (L2.CX P w) 10 T.a_law_refusals_right T.d_law_refusals_right ["web", "lengths", "cheap", "trees", "cell"] (spD K T.cls 5 g_law_refusals_right) :=
  fnD_ok T.F_law_refusals_right sc_law_refusals_right rfl (fun cdv A outer s H E c => jss_cons (js_for c (ji_seq (je_lst (jao_cons (je_un un_neg ok_neg (je_int)) (jao_cons (je_callB call_len ok_len T.z_len (by decide +kernel) (ja_cons (je_var 2) (ja_nil))) (jao_cons (je_bin op_add4 ok_add (je_bin op_add4 ok_add (je_callB call_len ok_len T.z_len (by decide +kernel) (ja_cons (je_var 2) (ja_nil))) (je_int)) (je_bin op_modX ok_mod (je_callB call_abs ok_abs T.z_abs (by decide +kernel) (ja_cons (je_var 4) (ja_nil))) (je_bin op_pow ok_pow (je_int) (je_int)))) (jao_cons (je_bin op_sub ok_sub (je_un un_neg ok_neg (je_callB call_len ok_len T.z_len (by decide +kernel) (ja_cons (je_var 2) (ja_nil)))) (je_int)) (jao_nil))))))) (jg_name (i := 5) c.nd rfl (by first | exact Or.inl rfl | exact Or.inr rfl)) (jss_one (js_if (jt_cmp (op_ne4 c.eq) ok_ne (je_own (c.mono (by decide)) G_law_kind T.m_law_kind T.k_law_kind T.b_law_kind (ja_cons (je_int) (ja_cons (je_var 0) (ja_cons (je_var 1) (ja_cons (je_var 5) (ja_nil))))) (alS (alS (alS (alS (al0)))))) (je_lst (jao_cons (je_bl) (jao_cons (je_bl) (jao_cons (je_bl) (jao_nil))))) (nomark _)) (jss_one (js_ret (je_bl))) (jss_nil)))) (jss_cons (js_setLcF (i := 6) [("tree", 8)] c rfl rfl (sw_true rfl rfl rfl (by decide +kernel)) (ji_seq (je_var 3)) (blkOk_by (N := N_law_refusals_right) (sc := defScope s_law_refusals_right) (by decide +kernel)) (fun _ _ _ _ _ => jg_name (i := 8) c.nd rfl (by first | exact Or.inl rfl | exact Or.inr rfl)) (fun _ _ _ _ _ c => jts_one (jt_cmp (op_nin5 c.eq65) ok_nin2 (je_var 8) (je_var 2) (by rfl))) (fun _ _ _ _ _ c => je_var 8) (by decide)) (jss_cons (js_setF (i := 7) c rfl (by first | exact Or.inl rfl | exact Or.inr rfl) (je_bin op_add4 ok_add (je_bin op_add4 ok_add (je_sl (je_var 6) (jp_none) (jp_some (je_int))) (je_sl (je_var 6) (jp_some (je_un un_neg ok_neg (je_int))) (jp_none))) (je_lst (jao_cons (je_tup (jao_cons (je_callB call_len ok_len T.z_len (by decide +kernel) (ja_cons (je_var 1) (ja_nil))) (jao_nil))) (jao_cons (je_tup (jao_cons (je_int) (jao_cons (je_int) (jao_nil)))) (jao_cons (je_tr1 c T.z_tuple T.z_range (je_bin op_add4 ok_add (je_callB call_len ok_len T.z_len (by decide +kernel) (ja_cons (je_var 1) (ja_nil))) (je_int))) (jao_nil))))))) (jss_one (js_ret (je_callB (cr_all c.calm) ok_all T.z_all (by decide +kernel) (ja_cons (je_lc [("tree", 8)] c (ji_seq (je_var 7)) (blkOk_by (N := N_law_refusals_right) (sc := defScope s_law_refusals_right) (by decide +kernel)) (fun _ _ _ _ _ => jg_name (i := 8) c.nd rfl (by first | exact Or.inl rfl | exact Or.inr rfl)) (fun _ _ _ _ _ c => jts_nil) (fun _ _ _ _ _ c => je_cmp (op_eq4 c.eq) ok_eq (je_own (c.mono (by decide)) G_law_kind T.m_law_kind T.k_law_kind T.b_law_kind (ja_cons (je_int) (ja_cons (je_var 0) (ja_cons (je_var 1) (ja_cons (je_var 8) (ja_nil))))) (alS (alS (alS (alS (al0)))))) (je_lst (jao_cons (je_bl) (jao_cons (je_bl) (jao_cons (je_bl) (jao_nil))))) (nomark _)) (by decide)) (ja_nil)))))))) (fun _ _ => .inr rfl)
set_option maxHeartbeats 4000000 in
theorem ok_law_k63 (T : Tx K mg) (G_law_web_v3 : FnOk P w K mg base (L2.CX P w) 3 T.a_law_web_v3 T.d_law_web_v3 ["script", "most_places", "most_ties"] (spD K T.cls 3 g_law_web_v3)) (G_Web_init : FnOk P w K mg base (L2.CX P w) 1 T.a_Web_init T.d_Web_init ["self", "places", "ties"] (spI K T.cls 14 2 g_Web_init)) (G_law_lengths : FnOk P w K mg base (L2.CX P w) 2 T.a_law_lengths T.d_law_lengths ["script", "count"] (spD K T.cls 2 g_law_lengths)) (G_law_trees_v3 : FnOk P w K mg base (L2.CX P w) 1 T.a_law_trees_v3 T.d_law_trees_v3 ["places", "ties"] (spD K T.cls 2 g_law_trees_v3)) (G_cheapest_count : FnOk P w K mg base (L2.CX P w) 6 T.a_cheapest_count T.d_cheapest_count ["web", "lengths"] (spD K T.cls 2 g_cheapest_count)) (G_law_stir : FnOk P w K mg base (L2.CX P w) 1 T.a_law_stir T.d_law_stir ["cell", "k"] (spD K T.cls 2 g_law_stir)) (G_cheapest_at : FnOk P w K mg base (L2.CX P w) 7 T.a_cheapest_at T.d_cheapest_at ["web", "lengths", "number"] (spD K T.cls 3 g_cheapest_at)) (G_cheapest_number : FnOk P w K mg base (L2.CX P w) 8 T.a_cheapest_number T.d_cheapest_number ["web", "lengths", "tree"] (spD K T.cls 3 g_cheapest_number)) (G_law_refusals_right : FnOk P w K mg base (L2.CX P w) 10 T.a_law_refusals_right T.d_law_refusals_right ["web", "lengths", "cheap", "trees", "cell"] (spD K T.cls 5 g_law_refusals_right)) (G_law_at : FnOk P w K mg base (L2.CX P w) 1 T.a_law_at T.d_law_at ["script", "k"] (spD K T.cls 2 g_law_at)) : FnOk P w K mg base (L2.CX P w) 11 T.a_law_k63 T.d_law_k63 ["script"] (spD K T.cls 1 g_law_k63) :=
  fnD_ok T.F_law_k63 sc_law_k63 rfl (fun cdv A outer s H E c => jss_cons (js_asgT (je_own (c.mono (by decide)) G_law_web_v3 T.m_law_web_v3 T.k_law_web_v3 T.b_law_web_v3 (ja_cons (je_var 0) (ja_cons (je_int) (ja_cons (je_int) (ja_nil)))) (alS (alS (alS (al0))))) (jg_tup c.calm (jgs_cons (jg_name (i := 1) c.nd rfl (by first | exact Or.inl rfl | exact Or.inr rfl)) (jgs_cons (jg_name (i := 2) c.nd rfl (by first | exact Or.inl rfl | exact Or.inr rfl)) (jgs_nil))))) (jss_cons (js_setF (i := 3) c rfl (by first | exact Or.inl rfl | exact Or.inr rfl) (je_make (c.mono (by decide)) T.o_Web.e T.mk_Web G_Web_init T.m_Web T.b_Web_init (ja_cons (je_var 1) (ja_cons (je_callTy call_list_of ok_list T.z_list (by decide +kernel) (ja_cons (je_var 2) (ja_nil))) (ja_nil))) (alS (alS (al0))))) (jss_cons (js_setF (i := 4) c rfl (by first | exact Or.inl rfl | exact Or.inr rfl) (je_own (c.mono (by decide)) G_law_lengths T.m_law_lengths T.k_law_lengths T.b_law_lengths (ja_cons (je_var 0) (ja_cons (je_callB call_len ok_len T.z_len (by decide +kernel) (ja_cons (je_var 2) (ja_nil))) (ja_nil))) (alS (alS (al0))))) (jss_cons (js_setF (i := 5) c rfl (by first | exact Or.inl rfl | exact Or.inr rfl) (je_own (c.mono (by decide)) G_law_trees_v3 T.m_law_trees_v3 T.k_law_trees_v3 T.b_law_trees_v3 (ja_cons (je_var 1) (ja_cons (je_var 2) (ja_nil))) (alS (alS (al0))))) (jss_cons (js_setF (i := 6) c rfl (by first | exact Or.inl rfl | exact Or.inr rfl) (je_lc [("tree", 11)] c (ji_seq (je_var 5)) (blkOk_by (N := N_law_k63) (sc := defScope s_law_k63) (by decide +kernel)) (fun _ _ _ _ _ => jg_name (i := 11) c.nd rfl (by first | exact Or.inl rfl | exact Or.inr rfl)) (fun _ _ _ _ _ c => jts_nil) (fun _ _ _ _ _ c => je_callB (cr_sum c.calm) ok_sum T.z_sum (by decide +kernel) (ja_cons (je_lc [("tie", 12)] c (ji_seq (je_var 11)) (blkOk_by (by kernel_rfl)) (fun _ _ _ _ _ => jg_name (i := 12) c.nd rfl (by first | exact Or.inl rfl | exact Or.inr rfl)) (fun _ _ _ _ _ c => jts_nil) (fun _ _ _ _ _ c => je_ix (je_var 4) (je_var 12)) (by decide)) (ja_nil))) (by decide))) (jss_cons (js_setF (i := 7) c rfl (by first | exact Or.inl rfl | exact Or.inr rfl) (je_lc [("tree", 11), ("rank", 13)] c (ji_zip T.z_zip (ja_cons (je_var 5) (ja_cons (je_var 6) (ja_nil)))) (blkOk_by (N := N_law_k63) (sc := defScope s_law_k63) (by decide +kernel)) (fun _ _ _ _ _ => jg_tup c.calm (jgs_cons (jg_name (i := 11) c.nd rfl (by first | exact Or.inl rfl | exact Or.inr rfl)) (jgs_cons (jg_name (i := 13) c.nd rfl (by first | exact Or.inl rfl | exact Or.inr rfl)) (jgs_nil)))) (fun _ _ _ _ _ c => jts_one (jt_cmp (op_eq4 c.eq) ok_eq (je_var 13) (je_callB (cr_min3 c.calm c.eq65) ok_min3 T.z_min (by decide +kernel) (ja_cons (je_var 6) (ja_nil))) (nomark _))) (fun _ _ _ _ _ c => je_var 11) (by decide))) (jss_cons (js_setF (i := 8) c rfl (by first | exact Or.inl rfl | exact Or.inr rfl) (je_own (c.mono (by decide)) G_cheapest_count T.m_cheapest_count T.k_cheapest_count T.b_cheapest_count (ja_cons (je_var 3) (ja_cons (je_var 4) (ja_nil))) (alS (alS (al0))))) (jss_cons (js_if (jt_w (jw_or (jt_truth (je_isT T.z_isinstance T.z_bool (by decide +kernel) (je_var 8))) (jw_or (jt_not (jt_truth (je_isT T.z_isinstance T.z_int (by decide +kernel) (je_var 8)))) (jw_or1 (jt_cmp (op_ne4 c.eq) ok_ne (je_var 8) (je_callB call_len ok_len T.z_len (by decide +kernel) (ja_cons (je_var 7) (ja_nil))) (nomark _)))))) (jss_one (js_ret (je_bl))) (jss_nil)) (jss_cons (js_setF (i := 9) c rfl (by first | exact Or.inl rfl | exact Or.inr rfl) (je_lr1 c T.z_list T.z_range (je_callB call_len ok_len T.z_len (by decide +kernel) (ja_cons (je_var 7) (ja_nil))))) (jss_cons (js_if (jt_cmp op_gt ok_gt (je_callB call_len ok_len T.z_len (by decide +kernel) (ja_cons (je_var 7) (ja_nil))) (je_int) (nomark _)) (jss_one (js_setF (i := 9) c rfl (by first | exact Or.inl rfl | exact Or.inr rfl) (je_bin op_add4 ok_add (je_lst (jao_cons (je_int) (jao_cons (je_int) (jao_cons (je_bin op_sub ok_sub (je_callB call_len ok_len T.z_len (by decide +kernel) (ja_cons (je_var 7) (ja_nil))) (je_int)) (jao_nil))))) (je_lc [("cell", 14)] c (ji_seq (je_sl (je_var 0) (jp_none) (jp_some (je_int)))) (blkOk_by (N := N_law_k63) (sc := defScope s_law_k63) (by decide +kernel)) (fun _ _ _ _ _ => jg_name (i := 14) c.nd rfl (by first | exact Or.inl rfl | exact Or.inr rfl)) (fun _ _ _ _ _ c => jts_nil) (fun _ _ _ _ _ c => je_bin op_modX ok_mod (je_own (c.mono (by decide)) G_law_stir T.m_law_stir T.k_law_stir T.b_law_stir (ja_cons (je_var 14) (ja_cons (je_int) (ja_nil))) (alS (alS (al0)))) (je_callB call_len ok_len T.z_len (by decide +kernel) (ja_cons (je_var 7) (ja_nil)))) (by decide))))) (jss_nil)) (jss_cons (js_for c (ji_seq (je_var 9)) (jg_name (i := 10) c.nd rfl (by first | exact Or.inl rfl | exact Or.inr rfl)) (jss_cons (js_if (jt_cmp (op_ne4 c.eq) ok_ne (je_own (c.mono (by decide)) G_cheapest_at T.m_cheapest_at T.k_cheapest_at T.b_cheapest_at (ja_cons (je_var 3) (ja_cons (je_var 4) (ja_cons (je_var 10) (ja_nil)))) (alS (alS (alS (al0))))) (je_ix (je_var 7) (je_var 10)) (nomark _)) (jss_one (js_ret (je_bl))) (jss_nil)) (jss_one (js_for c (ji_seq (je_lst (jao_cons (je_ix (je_var 7) (je_var 10)) (jao_cons (je_callTy call_list_of ok_list T.z_list (by decide +kernel) (ja_cons (je_ix (je_var 7) (je_var 10)) (ja_nil))) (jao_nil))))) (jg_name (i := 11) c.nd rfl (by first | exact Or.inl rfl | exact Or.inr rfl)) (jss_one (js_if (jt_cmp (op_ne4 c.eq) ok_ne (je_own (c.mono (by decide)) G_cheapest_number T.m_cheapest_number T.k_cheapest_number T.b_cheapest_number (ja_cons (je_var 3) (ja_cons (je_var 4) (ja_cons (je_var 11) (ja_nil)))) (alS (alS (alS (al0))))) (je_var 10) (nomark _)) (jss_one (js_ret (je_bl))) (jss_nil))))))) (jss_one (js_ret (je_own (c.mono (by decide)) G_law_refusals_right T.m_law_refusals_right T.k_law_refusals_right T.b_law_refusals_right (ja_cons (je_var 3) (ja_cons (je_var 4) (ja_cons (je_var 7) (ja_cons (je_var 5) (ja_cons (je_own (c.mono (by decide)) G_law_at T.m_law_at T.k_law_at T.b_law_at (ja_cons (je_var 0) (ja_cons (je_int) (ja_nil))) (alS (alS (al0)))) (ja_nil)))))) (alS (alS (alS (alS (alS (al0)))))))))))))))))))) (fun _ _ => .inr rfl)
set_option maxHeartbeats 8000000 in
theorem all_mk {K : PySem.W.Frag} {h : Heap} {mg : Str → Option Value} (X : K.In h) (G : h.Ns mainGlobals mg) {C_WebError C_BadWeb C_NoTree C_NoTie C_NoSuch C_NotSquare C_BadRow C_Web a_look_at_table a_first_row_with a_cleared a_determinant a_Web_init a_marks_over a_is_tree a_look_at_tree a_without_tie a_cut_of a_exchanges_of a_look_at_lengths a_heads_joined a_gains_of a_is_cheapest a_ways_to_join a_layer_ways a_cheapest_with a_cheapest_count a_cheapest_at a_cheapest_number a_law_at a_law_stir a_law_numbers_v3 a_law_digits a_law_web_v3 a_law_trees_v3 a_law_lengths a_law_kind a_law_refusals_right a_law_k63 : Addr} {od_look_at_table an_look_at_table od_first_row_with an_first_row_with od_cleared an_cleared od_determinant an_determinant od_Web_init an_Web_init od_marks_over an_marks_over od_is_tree an_is_tree od_look_at_tree an_look_at_tree od_without_tie an_without_tie od_cut_of an_cut_of od_exchanges_of an_exchanges_of od_look_at_lengths an_look_at_lengths od_heads_joined an_heads_joined od_gains_of an_gains_of od_is_cheapest an_is_cheapest od_ways_to_join an_ways_to_join od_layer_ways an_layer_ways od_cheapest_with an_cheapest_with od_cheapest_count an_cheapest_count od_cheapest_at an_cheapest_at od_cheapest_number an_cheapest_number od_law_at an_law_at od_law_stir an_law_stir od_law_numbers_v3 an_law_numbers_v3 od_law_digits an_law_digits od_law_web_v3 an_law_web_v3 od_law_trees_v3 an_law_trees_v3 od_law_lengths an_law_lengths od_law_kind an_law_kind od_law_refusals_right an_law_refusals_right od_law_k63 an_law_k63 : Option Addr} {sl_look_at_table sl_first_row_with sl_cleared sl_determinant sl_Web_init sl_marks_over sl_is_tree sl_look_at_tree sl_without_tie sl_cut_of sl_exchanges_of sl_look_at_lengths sl_heads_joined sl_gains_of sl_is_cheapest sl_ways_to_join sl_layer_ways sl_cheapest_with sl_cheapest_count sl_cheapest_at sl_cheapest_number sl_law_at sl_law_stir sl_law_numbers_v3 sl_law_digits sl_law_web_v3 sl_law_trees_v3 sl_law_lengths sl_law_kind sl_law_refusals_right sl_law_k63 : Array (Option Value)} {oc_look_at_table kV_look_at_table dc_look_at_table pm_look_at_table cd_look_at_table ct_look_at_table oc_first_row_with kV_first_row_with dc_first_row_with pm_first_row_with cd_first_row_with ct_first_row_with oc_cleared kV_cleared dc_cleared pm_cleared cd_cleared ct_cleared oc_determinant kV_determinant dc_determinant pm_determinant cd_determinant ct_determinant oc_Web_init kV_Web_init dc_Web_init pm_Web_init cd_Web_init ct_Web_init oc_marks_over kV_marks_over dc_marks_over pm_marks_over cd_marks_over ct_marks_over oc_is_tree kV_is_tree dc_is_tree pm_is_tree cd_is_tree ct_is_tree oc_look_at_tree kV_look_at_tree dc_look_at_tree pm_look_at_tree cd_look_at_tree ct_look_at_tree oc_without_tie kV_without_tie dc_without_tie pm_without_tie cd_without_tie ct_without_tie oc_cut_of kV_cut_of dc_cut_of pm_cut_of cd_cut_of ct_cut_of oc_exchanges_of kV_exchanges_of dc_exchanges_of pm_exchanges_of cd_exchanges_of ct_exchanges_of oc_look_at_lengths kV_look_at_lengths dc_look_at_lengths pm_look_at_lengths cd_look_at_lengths ct_look_at_lengths oc_heads_joined kV_heads_joined dc_heads_joined pm_heads_joined cd_heads_joined ct_heads_joined oc_gains_of kV_gains_of dc_gains_of pm_gains_of cd_gains_of ct_gains_of oc_is_cheapest kV_is_cheapest dc_is_cheapest pm_is_cheapest cd_is_cheapest ct_is_cheapest oc_ways_to_join kV_ways_to_join dc_ways_to_join pm_ways_to_join cd_ways_to_join ct_ways_to_join oc_layer_ways kV_layer_ways dc_layer_ways pm_layer_ways cd_layer_ways ct_layer_ways oc_cheapest_with kV_cheapest_with dc_cheapest_with pm_cheapest_with cd_cheapest_with ct_cheapest_with oc_cheapest_count kV_cheapest_count dc_cheapest_count pm_cheapest_count cd_cheapest_count ct_cheapest_count oc_cheapest_at kV_cheapest_at dc_cheapest_at pm_cheapest_at cd_cheapest_at ct_cheapest_at oc_cheapest_number kV_cheapest_number dc_cheapest_number pm_cheapest_number cd_cheapest_number ct_cheapest_number oc_law_at kV_law_at dc_law_at pm_law_at cd_law_at ct_law_at oc_law_stir kV_law_stir dc_law_stir pm_law_stir cd_law_stir ct_law_stir oc_law_numbers_v3 kV_law_numbers_v3 dc_law_numbers_v3 pm_law_numbers_v3 cd_law_numbers_v3 ct_law_numbers_v3 oc_law_digits kV_law_digits dc_law_digits pm_law_digits cd_law_digits ct_law_digits oc_law_web_v3 kV_law_web_v3 dc_law_web_v3 pm_law_web_v3 cd_law_web_v3 ct_law_web_v3 oc_law_trees_v3 kV_law_trees_v3 dc_law_trees_v3 pm_law_trees_v3 cd_law_trees_v3 ct_law_trees_v3 oc_law_lengths kV_law_lengths dc_law_lengths pm_law_lengths cd_law_lengths ct_law_lengths oc_law_kind kV_law_kind dc_law_kind pm_law_kind cd_law_kind ct_law_kind oc_law_refusals_right kV_law_refusals_right dc_law_refusals_right pm_law_refusals_right cd_law_refusals_right ct_law_refusals_right oc_law_k63 kV_law_k63 dc_law_k63 pm_law_k63 cd_law_k63 ct_law_k63 : Value} {t_MOST_PLACES t_MOST_TIES : Tok}
    (a_WebError : PySem.W.nsIn K mainGlobals "WebError" = some (some (.ref C_WebError)))
    (x_WebError : PySem.W.excIn K C_WebError [.type "ValueError", .type "Exception", .type "BaseException", .type "object"] "ValueError.__new__" = true)
    (kx_WebError : PySem.W.keepIn K (.ref C_WebError) = true)
    (bx_WebError : PySem.W.subIn K (.ref C_WebError) (.type "BaseException") = some true)
    (tx_WebError : PySem.W.typeIn K (.ref C_WebError) = some (.type "type"))
    (a_BadWeb : PySem.W.nsIn K mainGlobals "BadWeb" = some (some (.ref C_BadWeb)))
    (x_BadWeb : PySem.W.excIn K C_BadWeb [.type "ValueError", .type "Exception", .type "BaseException", .type "object"] "ValueError.__new__" = true)
    (kx_BadWeb : PySem.W.keepIn K (.ref C_BadWeb) = true)
    (bx_BadWeb : PySem.W.subIn K (.ref C_BadWeb) (.type "BaseException") = some true)
    (tx_BadWeb : PySem.W.typeIn K (.ref C_BadWeb) = some (.type "type"))
    (a_NoTree : PySem.W.nsIn K mainGlobals "NoTree" = some (some (.ref C_NoTree)))
    (x_NoTree : PySem.W.excIn K C_NoTree [.type "ValueError", .type "Exception", .type "BaseException", .type "object"] "ValueError.__new__" = true)
    (kx_NoTree : PySem.W.keepIn K (.ref C_NoTree) = true)
    (bx_NoTree : PySem.W.subIn K (.ref C_NoTree) (.type "BaseException") = some true)
    (tx_NoTree : PySem.W.typeIn K (.ref C_NoTree) = some (.type "type"))
    (a_NoTie : PySem.W.nsIn K mainGlobals "NoTie" = some (some (.ref C_NoTie)))
    (x_NoTie : PySem.W.excIn K C_NoTie [.type "ValueError", .type "Exception", .type "BaseException", .type "object"] "ValueError.__new__" = true)
    (kx_NoTie : PySem.W.keepIn K (.ref C_NoTie) = true)
    (bx_NoTie : PySem.W.subIn K (.ref C_NoTie) (.type "BaseException") = some true)
    (tx_NoTie : PySem.W.typeIn K (.ref C_NoTie) = some (.type "type"))
    (a_NoSuch : PySem.W.nsIn K mainGlobals "NoSuch" = some (some (.ref C_NoSuch)))
    (x_NoSuch : PySem.W.excIn K C_NoSuch [.type "ValueError", .type "Exception", .type "BaseException", .type "object"] "ValueError.__new__" = true)
    (kx_NoSuch : PySem.W.keepIn K (.ref C_NoSuch) = true)
    (bx_NoSuch : PySem.W.subIn K (.ref C_NoSuch) (.type "BaseException") = some true)
    (tx_NoSuch : PySem.W.typeIn K (.ref C_NoSuch) = some (.type "type"))
    (a_NotSquare : PySem.W.nsIn K mainGlobals "NotSquare" = some (some (.ref C_NotSquare)))
    (x_NotSquare : PySem.W.excIn K C_NotSquare [.type "ValueError", .type "Exception", .type "BaseException", .type "object"] "ValueError.__new__" = true)
    (kx_NotSquare : PySem.W.keepIn K (.ref C_NotSquare) = true)
    (bx_NotSquare : PySem.W.subIn K (.ref C_NotSquare) (.type "BaseException") = some true)
    (tx_NotSquare : PySem.W.typeIn K (.ref C_NotSquare) = some (.type "type"))
    (a_BadRow : PySem.W.nsIn K mainGlobals "BadRow" = some (some (.ref C_BadRow)))
    (x_BadRow : PySem.W.excIn K C_BadRow [.type "ValueError", .type "Exception", .type "BaseException", .type "object"] "ValueError.__new__" = true)
    (kx_BadRow : PySem.W.keepIn K (.ref C_BadRow) = true)
    (bx_BadRow : PySem.W.subIn K (.ref C_BadRow) (.type "BaseException") = some true)
    (tx_BadRow : PySem.W.typeIn K (.ref C_BadRow) = some (.type "type"))
    (su_BadWeb_WebError : PySem.W.subIn K (.ref C_BadWeb) (.ref C_WebError) = some true)
    (su_NoTree_WebError : PySem.W.subIn K (.ref C_NoTree) (.ref C_WebError) = some true)
    (su_NoTie_WebError : PySem.W.subIn K (.ref C_NoTie) (.ref C_WebError) = some true)
    (su_NoSuch_WebError : PySem.W.subIn K (.ref C_NoSuch) (.ref C_WebError) = some true)
    (su_NotSquare_WebError : PySem.W.subIn K (.ref C_NotSquare) (.ref C_WebError) = some true)
    (su_BadRow_WebError : PySem.W.subIn K (.ref C_BadRow) (.ref C_WebError) = some true)
    (hd_WebError : PySem.W.hasDictIn K C_WebError = true)
    (e6 : PySem.W.specialIn K (.builtin "object.__class__") "__get__" = some (some (.builtin "getset_descriptor.__get__")))
    (e7 : PySem.W.takesIn K (.builtin "object.__class__") = some true)
    (e0_BadWeb : PySem.W.findIn K (.ref C_BadWeb) "__getattribute__" = some (some (.builtin "BaseException.__getattribute__")))
    (e1_BadWeb : PySem.W.findIn K (.ref C_BadWeb) "__getattr__" = some none)
    (e3_BadWeb : PySem.W.hasDictIn K C_BadWeb = true)
    (e4_BadWeb : PySem.W.findIn K (.ref C_BadWeb) "__class__" = some (some (.builtin "object.__class__")))
    (e7_BadWeb : PySem.W.mroIn K C_BadWeb (.type "object") = some true)
    (e0_NoTree : PySem.W.findIn K (.ref C_NoTree) "__getattribute__" = some (some (.builtin "BaseException.__getattribute__")))
    (e1_NoTree : PySem.W.findIn K (.ref C_NoTree) "__getattr__" = some none)
    (e3_NoTree : PySem.W.hasDictIn K C_NoTree = true)
    (e4_NoTree : PySem.W.findIn K (.ref C_NoTree) "__class__" = some (some (.builtin "object.__class__")))
    (e7_NoTree : PySem.W.mroIn K C_NoTree (.type "object") = some true)
    (e0_NoTie : PySem.W.findIn K (.ref C_NoTie) "__getattribute__" = some (some (.builtin "BaseException.__getattribute__")))
    (e1_NoTie : PySem.W.findIn K (.ref C_NoTie) "__getattr__" = some none)
    (e3_NoTie : PySem.W.hasDictIn K C_NoTie = true)
    (e4_NoTie : PySem.W.findIn K (.ref C_NoTie) "__class__" = some (some (.builtin "object.__class__")))
    (e7_NoTie : PySem.W.mroIn K C_NoTie (.type "object") = some true)
    (e0_NoSuch : PySem.W.findIn K (.ref C_NoSuch) "__getattribute__" = some (some (.builtin "BaseException.__getattribute__")))
    (e1_NoSuch : PySem.W.findIn K (.ref C_NoSuch) "__getattr__" = some none)
    (e3_NoSuch : PySem.W.hasDictIn K C_NoSuch = true)
    (e4_NoSuch : PySem.W.findIn K (.ref C_NoSuch) "__class__" = some (some (.builtin "object.__class__")))
    (e7_NoSuch : PySem.W.mroIn K C_NoSuch (.type "object") = some true)
    (e0_NotSquare : PySem.W.findIn K (.ref C_NotSquare) "__getattribute__" = some (some (.builtin "BaseException.__getattribute__")))
    (e1_NotSquare : PySem.W.findIn K (.ref C_NotSquare) "__getattr__" = some none)
    (e3_NotSquare : PySem.W.hasDictIn K C_NotSquare = true)
    (e4_NotSquare : PySem.W.findIn K (.ref C_NotSquare) "__class__" = some (some (.builtin "object.__class__")))
    (e7_NotSquare : PySem.W.mroIn K C_NotSquare (.type "object") = some true)
    (e0_BadRow : PySem.W.findIn K (.ref C_BadRow) "__getattribute__" = some (some (.builtin "BaseException.__getattribute__")))
    (e1_BadRow : PySem.W.findIn K (.ref C_BadRow) "__getattr__" = some none)
    (e3_BadRow : PySem.W.hasDictIn K C_BadRow = true)
    (e4_BadRow : PySem.W.findIn K (.ref C_BadRow) "__class__" = some (some (.builtin "object.__class__")))
    (e7_BadRow : PySem.W.mroIn K C_BadRow (.type "object") = some true)
    (is_BadWeb_NoSuch : PySem.W.kitOne K (.ref C_BadWeb) (.ref C_NoSuch) = some false)
    (is_NoTree_NoSuch : PySem.W.kitOne K (.ref C_NoTree) (.ref C_NoSuch) = some false)
    (is_NoTie_NoSuch : PySem.W.kitOne K (.ref C_NoTie) (.ref C_NoSuch) = some false)
    (is_NoSuch_NoSuch : PySem.W.kitOne K (.ref C_NoSuch) (.ref C_NoSuch) = some true)
    (is_NotSquare_NoSuch : PySem.W.kitOne K (.ref C_NotSquare) (.ref C_NoSuch) = some false)
    (is_BadRow_NoSuch : PySem.W.kitOne K (.ref C_BadRow) (.ref C_NoSuch) = some false)
    (is_BadWeb_NoTree : PySem.W.kitOne K (.ref C_BadWeb) (.ref C_NoTree) = some false)
    (is_NoTree_NoTree : PySem.W.kitOne K (.ref C_NoTree) (.ref C_NoTree) = some true)
    (is_NoTie_NoTree : PySem.W.kitOne K (.ref C_NoTie) (.ref C_NoTree) = some false)
    (is_NoSuch_NoTree : PySem.W.kitOne K (.ref C_NoSuch) (.ref C_NoTree) = some false)
    (is_NotSquare_NoTree : PySem.W.kitOne K (.ref C_NotSquare) (.ref C_NoTree) = some false)
    (is_BadRow_NoTree : PySem.W.kitOne K (.ref C_BadRow) (.ref C_NoTree) = some false)
    (is_BadWeb_ValueError : PySem.W.kitOne K (.ref C_BadWeb) (.type "ValueError") = some true)
    (is_NoTree_ValueError : PySem.W.kitOne K (.ref C_NoTree) (.type "ValueError") = some true)
    (is_NoTie_ValueError : PySem.W.kitOne K (.ref C_NoTie) (.type "ValueError") = some true)
    (is_NoSuch_ValueError : PySem.W.kitOne K (.ref C_NoSuch) (.type "ValueError") = some true)
    (is_NotSquare_ValueError : PySem.W.kitOne K (.ref C_NotSquare) (.type "ValueError") = some true)
    (is_BadRow_ValueError : PySem.W.kitOne K (.ref C_BadRow) (.type "ValueError") = some true)
    (a_Web : PySem.W.nsIn K mainGlobals "Web" = some (some (.ref C_Web)))
    (pg_Web : PySem.W.plainGet K C_Web Str.empty = true)
    (hd_Web : PySem.W.hasDictIn K C_Web = true)
    (po_Web : PySem.W.plainOver K C_Web = true)
    (sa_Web : PySem.W.findIn K (.ref C_Web) "__setattr__" = some (some (.builtin "object.__setattr__")))
    (mk_Web : PySem.W.makesIn K C_Web = true)
    (kc_Web : PySem.W.keepIn K (.ref C_Web) = true)
    (na_Web_places : PySem.W.findIn K (.ref C_Web) "places" = some none)
    (na_Web_ties : PySem.W.findIn K (.ref C_Web) "ties" = some none)
    (n_look_at_table : PySem.W.nsIn K mainGlobals "look_at_table" = some (some (.ref a_look_at_table)))
    (l_look_at_table : K.lookup a_look_at_table = some ⟨oc_look_at_table, od_look_at_table, .func (PySem.W.fnOf "look_at_table" "look_at_table" (defArgs s_look_at_table) (defBody s_look_at_table) (defScope s_look_at_table) .none kV_look_at_table dc_look_at_table pm_look_at_table an_look_at_table cd_look_at_table ct_look_at_table), sl_look_at_table⟩)
    (c_look_at_table : PySem.W.codeIn K cd_look_at_table "look_at_table" = true)
    (k_look_at_table : PySem.W.keepIn K (.ref a_look_at_table) = true)
    (n_first_row_with : PySem.W.nsIn K mainGlobals "first_row_with" = some (some (.ref a_first_row_with)))
    (l_first_row_with : K.lookup a_first_row_with = some ⟨oc_first_row_with, od_first_row_with, .func (PySem.W.fnOf "first_row_with" "first_row_with" (defArgs s_first_row_with) (defBody s_first_row_with) (defScope s_first_row_with) .none kV_first_row_with dc_first_row_with pm_first_row_with an_first_row_with cd_first_row_with ct_first_row_with), sl_first_row_with⟩)
    (c_first_row_with : PySem.W.codeIn K cd_first_row_with "first_row_with" = true)
    (k_first_row_with : PySem.W.keepIn K (.ref a_first_row_with) = true)
    (n_cleared : PySem.W.nsIn K mainGlobals "cleared" = some (some (.ref a_cleared)))
    (l_cleared : K.lookup a_cleared = some ⟨oc_cleared, od_cleared, .func (PySem.W.fnOf "cleared" "cleared" (defArgs s_cleared) (defBody s_cleared) (defScope s_cleared) .none kV_cleared dc_cleared pm_cleared an_cleared cd_cleared ct_cleared), sl_cleared⟩)
    (c_cleared : PySem.W.codeIn K cd_cleared "cleared" = true)
    (k_cleared : PySem.W.keepIn K (.ref a_cleared) = true)
    (n_determinant : PySem.W.nsIn K mainGlobals "determinant" = some (some (.ref a_determinant)))
    (l_determinant : K.lookup a_determinant = some ⟨oc_determinant, od_determinant, .func (PySem.W.fnOf "determinant" "determinant" (defArgs s_determinant) (defBody s_determinant) (defScope s_determinant) .none kV_determinant dc_determinant pm_determinant an_determinant cd_determinant ct_determinant), sl_determinant⟩)
    (c_determinant : PySem.W.codeIn K cd_determinant "determinant" = true)
    (k_determinant : PySem.W.keepIn K (.ref a_determinant) = true)
    (n_Web_init : PySem.W.findIn K (.ref C_Web) "__init__" = some (some (.ref a_Web_init)))
    (i_Web_init : PySem.W.isFn K (.ref a_Web_init) = true)
    (l_Web_init : K.lookup a_Web_init = some ⟨oc_Web_init, od_Web_init, .func (PySem.W.fnOf "__init__" "Web.__init__" (defArgs s_Web_init) (defBody s_Web_init) (defScope s_Web_init) .none kV_Web_init dc_Web_init pm_Web_init an_Web_init cd_Web_init ct_Web_init), sl_Web_init⟩)
    (c_Web_init : PySem.W.codeIn K cd_Web_init "Web.__init__" = true)
    (k_Web_init : PySem.W.keepIn K (.ref a_Web_init) = true)
    (n_marks_over : PySem.W.nsIn K mainGlobals "marks_over" = some (some (.ref a_marks_over)))
    (l_marks_over : K.lookup a_marks_over = some ⟨oc_marks_over, od_marks_over, .func (PySem.W.fnOf "marks_over" "marks_over" (defArgs s_marks_over) (defBody s_marks_over) (defScope s_marks_over) .none kV_marks_over dc_marks_over pm_marks_over an_marks_over cd_marks_over ct_marks_over), sl_marks_over⟩)
    (c_marks_over : PySem.W.codeIn K cd_marks_over "marks_over" = true)
    (k_marks_over : PySem.W.keepIn K (.ref a_marks_over) = true)
    (n_is_tree : PySem.W.nsIn K mainGlobals "is_tree" = some (some (.ref a_is_tree)))
    (l_is_tree : K.lookup a_is_tree = some ⟨oc_is_tree, od_is_tree, .func (PySem.W.fnOf "is_tree" "is_tree" (defArgs s_is_tree) (defBody s_is_tree) (defScope s_is_tree) .none kV_is_tree dc_is_tree pm_is_tree an_is_tree cd_is_tree ct_is_tree), sl_is_tree⟩)
    (c_is_tree : PySem.W.codeIn K cd_is_tree "is_tree" = true)
    (k_is_tree : PySem.W.keepIn K (.ref a_is_tree) = true)
    (n_look_at_tree : PySem.W.nsIn K mainGlobals "look_at_tree" = some (some (.ref a_look_at_tree)))
    (l_look_at_tree : K.lookup a_look_at_tree = some ⟨oc_look_at_tree, od_look_at_tree, .func (PySem.W.fnOf "look_at_tree" "look_at_tree" (defArgs s_look_at_tree) (defBody s_look_at_tree) (defScope s_look_at_tree) .none kV_look_at_tree dc_look_at_tree pm_look_at_tree an_look_at_tree cd_look_at_tree ct_look_at_tree), sl_look_at_tree⟩)
    (c_look_at_tree : PySem.W.codeIn K cd_look_at_tree "look_at_tree" = true)
    (k_look_at_tree : PySem.W.keepIn K (.ref a_look_at_tree) = true)
    (n_without_tie : PySem.W.nsIn K mainGlobals "without_tie" = some (some (.ref a_without_tie)))
    (l_without_tie : K.lookup a_without_tie = some ⟨oc_without_tie, od_without_tie, .func (PySem.W.fnOf "without_tie" "without_tie" (defArgs s_without_tie) (defBody s_without_tie) (defScope s_without_tie) .none kV_without_tie dc_without_tie pm_without_tie an_without_tie cd_without_tie ct_without_tie), sl_without_tie⟩)
    (c_without_tie : PySem.W.codeIn K cd_without_tie "without_tie" = true)
    (k_without_tie : PySem.W.keepIn K (.ref a_without_tie) = true)
    (n_cut_of : PySem.W.nsIn K mainGlobals "cut_of" = some (some (.ref a_cut_of)))
    (l_cut_of : K.lookup a_cut_of = some ⟨oc_cut_of, od_cut_of, .func (PySem.W.fnOf "cut_of" "cut_of" (defArgs s_cut_of) (defBody s_cut_of) (defScope s_cut_of) .none kV_cut_of dc_cut_of pm_cut_of an_cut_of cd_cut_of ct_cut_of), sl_cut_of⟩)
    (c_cut_of : PySem.W.codeIn K cd_cut_of "cut_of" = true)
    (k_cut_of : PySem.W.keepIn K (.ref a_cut_of) = true)
    (n_exchanges_of : PySem.W.nsIn K mainGlobals "exchanges_of" = some (some (.ref a_exchanges_of)))
    (l_exchanges_of : K.lookup a_exchanges_of = some ⟨oc_exchanges_of, od_exchanges_of, .func (PySem.W.fnOf "exchanges_of" "exchanges_of" (defArgs s_exchanges_of) (defBody s_exchanges_of) (defScope s_exchanges_of) .none kV_exchanges_of dc_exchanges_of pm_exchanges_of an_exchanges_of cd_exchanges_of ct_exchanges_of), sl_exchanges_of⟩)
    (c_exchanges_of : PySem.W.codeIn K cd_exchanges_of "exchanges_of" = true)
    (k_exchanges_of : PySem.W.keepIn K (.ref a_exchanges_of) = true)
    (n_look_at_lengths : PySem.W.nsIn K mainGlobals "look_at_lengths" = some (some (.ref a_look_at_lengths)))
    (l_look_at_lengths : K.lookup a_look_at_lengths = some ⟨oc_look_at_lengths, od_look_at_lengths, .func (PySem.W.fnOf "look_at_lengths" "look_at_lengths" (defArgs s_look_at_lengths) (defBody s_look_at_lengths) (defScope s_look_at_lengths) .none kV_look_at_lengths dc_look_at_lengths pm_look_at_lengths an_look_at_lengths cd_look_at_lengths ct_look_at_lengths), sl_look_at_lengths⟩)
    (c_look_at_lengths : PySem.W.codeIn K cd_look_at_lengths "look_at_lengths" = true)
    (k_look_at_lengths : PySem.W.keepIn K (.ref a_look_at_lengths) = true)
    (n_heads_joined : PySem.W.nsIn K mainGlobals "heads_joined" = some (some (.ref a_heads_joined)))
    (l_heads_joined : K.lookup a_heads_joined = some ⟨oc_heads_joined, od_heads_joined, .func (PySem.W.fnOf "heads_joined" "heads_joined" (defArgs s_heads_joined) (defBody s_heads_joined) (defScope s_heads_joined) .none kV_heads_joined dc_heads_joined pm_heads_joined an_heads_joined cd_heads_joined ct_heads_joined), sl_heads_joined⟩)
    (c_heads_joined : PySem.W.codeIn K cd_heads_joined "heads_joined" = true)
    (k_heads_joined : PySem.W.keepIn K (.ref a_heads_joined) = true)
    (n_gains_of : PySem.W.nsIn K mainGlobals "gains_of" = some (some (.ref a_gains_of)))
    (l_gains_of : K.lookup a_gains_of = some ⟨oc_gains_of, od_gains_of, .func (PySem.W.fnOf "gains_of" "gains_of" (defArgs s_gains_of) (defBody s_gains_of) (defScope s_gains_of) .none kV_gains_of dc_gains_of pm_gains_of an_gains_of cd_gains_of ct_gains_of), sl_gains_of⟩)
    (c_gains_of : PySem.W.codeIn K cd_gains_of "gains_of" = true)
    (k_gains_of : PySem.W.keepIn K (.ref a_gains_of) = true)
    (n_is_cheapest : PySem.W.nsIn K mainGlobals "is_cheapest" = some (some (.ref a_is_cheapest)))
    (l_is_cheapest : K.lookup a_is_cheapest = some ⟨oc_is_cheapest, od_is_cheapest, .func (PySem.W.fnOf "is_cheapest" "is_cheapest" (defArgs s_is_cheapest) (defBody s_is_cheapest) (defScope s_is_cheapest) .none kV_is_cheapest dc_is_cheapest pm_is_cheapest an_is_cheapest cd_is_cheapest ct_is_cheapest), sl_is_cheapest⟩)
    (c_is_cheapest : PySem.W.codeIn K cd_is_cheapest "is_cheapest" = true)
    (k_is_cheapest : PySem.W.keepIn K (.ref a_is_cheapest) = true)
    (n_ways_to_join : PySem.W.nsIn K mainGlobals "ways_to_join" = some (some (.ref a_ways_to_join)))
    (l_ways_to_join : K.lookup a_ways_to_join = some ⟨oc_ways_to_join, od_ways_to_join, .func (PySem.W.fnOf "ways_to_join" "ways_to_join" (defArgs s_ways_to_join) (defBody s_ways_to_join) (defScope s_ways_to_join) .none kV_ways_to_join dc_ways_to_join pm_ways_to_join an_ways_to_join cd_ways_to_join ct_ways_to_join), sl_ways_to_join⟩)
    (c_ways_to_join : PySem.W.codeIn K cd_ways_to_join "ways_to_join" = true)
    (k_ways_to_join : PySem.W.keepIn K (.ref a_ways_to_join) = true)
    (n_layer_ways : PySem.W.nsIn K mainGlobals "layer_ways" = some (some (.ref a_layer_ways)))
    (l_layer_ways : K.lookup a_layer_ways = some ⟨oc_layer_ways, od_layer_ways, .func (PySem.W.fnOf "layer_ways" "layer_ways" (defArgs s_layer_ways) (defBody s_layer_ways) (defScope s_layer_ways) .none kV_layer_ways dc_layer_ways pm_layer_ways an_layer_ways cd_layer_ways ct_layer_ways), sl_layer_ways⟩)
    (c_layer_ways : PySem.W.codeIn K cd_layer_ways "layer_ways" = true)
    (k_layer_ways : PySem.W.keepIn K (.ref a_layer_ways) = true)
    (n_cheapest_with : PySem.W.nsIn K mainGlobals "cheapest_with" = some (some (.ref a_cheapest_with)))
    (l_cheapest_with : K.lookup a_cheapest_with = some ⟨oc_cheapest_with, od_cheapest_with, .func (PySem.W.fnOf "cheapest_with" "cheapest_with" (defArgs s_cheapest_with) (defBody s_cheapest_with) (defScope s_cheapest_with) .none kV_cheapest_with dc_cheapest_with pm_cheapest_with an_cheapest_with cd_cheapest_with ct_cheapest_with), sl_cheapest_with⟩)
    (c_cheapest_with : PySem.W.codeIn K cd_cheapest_with "cheapest_with" = true)
    (k_cheapest_with : PySem.W.keepIn K (.ref a_cheapest_with) = true)
    (n_cheapest_count : PySem.W.nsIn K mainGlobals "cheapest_count" = some (some (.ref a_cheapest_count)))
    (l_cheapest_count : K.lookup a_cheapest_count = some ⟨oc_cheapest_count, od_cheapest_count, .func (PySem.W.fnOf "cheapest_count" "cheapest_count" (defArgs s_cheapest_count) (defBody s_cheapest_count) (defScope s_cheapest_count) .none kV_cheapest_count dc_cheapest_count pm_cheapest_count an_cheapest_count cd_cheapest_count ct_cheapest_count), sl_cheapest_count⟩)
    (c_cheapest_count : PySem.W.codeIn K cd_cheapest_count "cheapest_count" = true)
    (k_cheapest_count : PySem.W.keepIn K (.ref a_cheapest_count) = true)
    (n_cheapest_at : PySem.W.nsIn K mainGlobals "cheapest_at" = some (some (.ref a_cheapest_at)))
    (l_cheapest_at : K.lookup a_cheapest_at = some ⟨oc_cheapest_at, od_cheapest_at, .func (PySem.W.fnOf "cheapest_at" "cheapest_at" (defArgs s_cheapest_at) (defBody s_cheapest_at) (defScope s_cheapest_at) .none kV_cheapest_at dc_cheapest_at pm_cheapest_at an_cheapest_at cd_cheapest_at ct_cheapest_at), sl_cheapest_at⟩)
    (c_cheapest_at : PySem.W.codeIn K cd_cheapest_at "cheapest_at" = true)
    (k_cheapest_at : PySem.W.keepIn K (.ref a_cheapest_at) = true)
    (n_cheapest_number : PySem.W.nsIn K mainGlobals "cheapest_number" = some (some (.ref a_cheapest_number)))
    (l_cheapest_number : K.lookup a_cheapest_number = some ⟨oc_cheapest_number, od_cheapest_number, .func (PySem.W.fnOf "cheapest_number" "cheapest_number" (defArgs s_cheapest_number) (defBody s_cheapest_number) (defScope s_cheapest_number) .none kV_cheapest_number dc_cheapest_number pm_cheapest_number an_cheapest_number cd_cheapest_number ct_cheapest_number), sl_cheapest_number⟩)
    (c_cheapest_number : PySem.W.codeIn K cd_cheapest_number "cheapest_number" = true)
    (k_cheapest_number : PySem.W.keepIn K (.ref a_cheapest_number) = true)
    (n_law_at : PySem.W.nsIn K mainGlobals "_law_at" = some (some (.ref a_law_at)))
    (l_law_at : K.lookup a_law_at = some ⟨oc_law_at, od_law_at, .func (PySem.W.fnOf "_law_at" "_law_at" (defArgs s_law_at) (defBody s_law_at) (defScope s_law_at) .none kV_law_at dc_law_at pm_law_at an_law_at cd_law_at ct_law_at), sl_law_at⟩)
    (c_law_at : PySem.W.codeIn K cd_law_at "_law_at" = true)
    (k_law_at : PySem.W.keepIn K (.ref a_law_at) = true)
    (n_law_stir : PySem.W.nsIn K mainGlobals "_law_stir" = some (some (.ref a_law_stir)))
    (l_law_stir : K.lookup a_law_stir = some ⟨oc_law_stir, od_law_stir, .func (PySem.W.fnOf "_law_stir" "_law_stir" (defArgs s_law_stir) (defBody s_law_stir) (defScope s_law_stir) .none kV_law_stir dc_law_stir pm_law_stir an_law_stir cd_law_stir ct_law_stir), sl_law_stir⟩)
    (c_law_stir : PySem.W.codeIn K cd_law_stir "_law_stir" = true)
    (k_law_stir : PySem.W.keepIn K (.ref a_law_stir) = true)
    (n_law_numbers_v3 : PySem.W.nsIn K mainGlobals "_law_numbers" = some (some (.ref a_law_numbers_v3)))
    (l_law_numbers_v3 : K.lookup a_law_numbers_v3 = some ⟨oc_law_numbers_v3, od_law_numbers_v3, .func (PySem.W.fnOf "_law_numbers" "_law_numbers" (defArgs s_law_numbers_v3) (defBody s_law_numbers_v3) (defScope s_law_numbers_v3) .none kV_law_numbers_v3 dc_law_numbers_v3 pm_law_numbers_v3 an_law_numbers_v3 cd_law_numbers_v3 ct_law_numbers_v3), sl_law_numbers_v3⟩)
    (c_law_numbers_v3 : PySem.W.codeIn K cd_law_numbers_v3 "_law_numbers" = true)
    (k_law_numbers_v3 : PySem.W.keepIn K (.ref a_law_numbers_v3) = true)
    (n_law_digits : PySem.W.nsIn K mainGlobals "_law_digits" = some (some (.ref a_law_digits)))
    (l_law_digits : K.lookup a_law_digits = some ⟨oc_law_digits, od_law_digits, .func (PySem.W.fnOf "_law_digits" "_law_digits" (defArgs s_law_digits) (defBody s_law_digits) (defScope s_law_digits) .none kV_law_digits dc_law_digits pm_law_digits an_law_digits cd_law_digits ct_law_digits), sl_law_digits⟩)
    (c_law_digits : PySem.W.codeIn K cd_law_digits "_law_digits" = true)
    (k_law_digits : PySem.W.keepIn K (.ref a_law_digits) = true)
    (n_law_web_v3 : PySem.W.nsIn K mainGlobals "_law_web" = some (some (.ref a_law_web_v3)))
    (l_law_web_v3 : K.lookup a_law_web_v3 = some ⟨oc_law_web_v3, od_law_web_v3, .func (PySem.W.fnOf "_law_web" "_law_web" (defArgs s_law_web_v3) (defBody s_law_web_v3) (defScope s_law_web_v3) .none kV_law_web_v3 dc_law_web_v3 pm_law_web_v3 an_law_web_v3 cd_law_web_v3 ct_law_web_v3), sl_law_web_v3⟩)
    (c_law_web_v3 : PySem.W.codeIn K cd_law_web_v3 "_law_web" = true)
    (k_law_web_v3 : PySem.W.keepIn K (.ref a_law_web_v3) = true)
    (n_law_trees_v3 : PySem.W.nsIn K mainGlobals "_law_trees" = some (some (.ref a_law_trees_v3)))
    (l_law_trees_v3 : K.lookup a_law_trees_v3 = some ⟨oc_law_trees_v3, od_law_trees_v3, .func (PySem.W.fnOf "_law_trees" "_law_trees" (defArgs s_law_trees_v3) (defBody s_law_trees_v3) (defScope s_law_trees_v3) .none kV_law_trees_v3 dc_law_trees_v3 pm_law_trees_v3 an_law_trees_v3 cd_law_trees_v3 ct_law_trees_v3), sl_law_trees_v3⟩)
    (c_law_trees_v3 : PySem.W.codeIn K cd_law_trees_v3 "_law_trees" = true)
    (k_law_trees_v3 : PySem.W.keepIn K (.ref a_law_trees_v3) = true)
    (n_law_lengths : PySem.W.nsIn K mainGlobals "_law_lengths" = some (some (.ref a_law_lengths)))
    (l_law_lengths : K.lookup a_law_lengths = some ⟨oc_law_lengths, od_law_lengths, .func (PySem.W.fnOf "_law_lengths" "_law_lengths" (defArgs s_law_lengths) (defBody s_law_lengths) (defScope s_law_lengths) .none kV_law_lengths dc_law_lengths pm_law_lengths an_law_lengths cd_law_lengths ct_law_lengths), sl_law_lengths⟩)
    (c_law_lengths : PySem.W.codeIn K cd_law_lengths "_law_lengths" = true)
    (k_law_lengths : PySem.W.keepIn K (.ref a_law_lengths) = true)
    (n_law_kind : PySem.W.nsIn K mainGlobals "_law_kind" = some (some (.ref a_law_kind)))
    (l_law_kind : K.lookup a_law_kind = some ⟨oc_law_kind, od_law_kind, .func (PySem.W.fnOf "_law_kind" "_law_kind" (defArgs s_law_kind) (defBody s_law_kind) (defScope s_law_kind) .none kV_law_kind dc_law_kind pm_law_kind an_law_kind cd_law_kind ct_law_kind), sl_law_kind⟩)
    (c_law_kind : PySem.W.codeIn K cd_law_kind "_law_kind" = true)
    (k_law_kind : PySem.W.keepIn K (.ref a_law_kind) = true)
    (n_law_refusals_right : PySem.W.nsIn K mainGlobals "_law_refusals_right" = some (some (.ref a_law_refusals_right)))
    (l_law_refusals_right : K.lookup a_law_refusals_right = some ⟨oc_law_refusals_right, od_law_refusals_right, .func (PySem.W.fnOf "_law_refusals_right" "_law_refusals_right" (defArgs s_law_refusals_right) (defBody s_law_refusals_right) (defScope s_law_refusals_right) .none kV_law_refusals_right dc_law_refusals_right pm_law_refusals_right an_law_refusals_right cd_law_refusals_right ct_law_refusals_right), sl_law_refusals_right⟩)
    (c_law_refusals_right : PySem.W.codeIn K cd_law_refusals_right "_law_refusals_right" = true)
    (k_law_refusals_right : PySem.W.keepIn K (.ref a_law_refusals_right) = true)
    (n_law_k63 : PySem.W.nsIn K mainGlobals "law" = some (some (.ref a_law_k63)))
    (l_law_k63 : K.lookup a_law_k63 = some ⟨oc_law_k63, od_law_k63, .func (PySem.W.fnOf "law" "law" (defArgs s_law_k63) (defBody s_law_k63) (defScope s_law_k63) .none kV_law_k63 dc_law_k63 pm_law_k63 an_law_k63 cd_law_k63 ct_law_k63), sl_law_k63⟩)
    (c_law_k63 : PySem.W.codeIn K cd_law_k63 "law" = true)
    (k_law_k63 : PySem.W.keepIn K (.ref a_law_k63) = true)
    (v_MOST_PLACES : PySem.W.nsIn K mainGlobals "MOST_PLACES" = some (some (.int 14 t_MOST_PLACES)))
    (v_MOST_TIES : PySem.W.nsIn K mainGlobals "MOST_TIES" = some (some (.int 30 t_MOST_TIES)))
    (z_ValueError : PySem.W.nsIn K mainGlobals "ValueError" = some none)
    (z_abs : PySem.W.nsIn K mainGlobals "abs" = some none)
    (z_all : PySem.W.nsIn K mainGlobals "all" = some none)
    (z_bool : PySem.W.nsIn K mainGlobals "bool" = some none)
    (z_enumerate : PySem.W.nsIn K mainGlobals "enumerate" = some none)
    (z_int : PySem.W.nsIn K mainGlobals "int" = some none)
    (z_isinstance : PySem.W.nsIn K mainGlobals "isinstance" = some none)
    (z_len : PySem.W.nsIn K mainGlobals "len" = some none)
    (z_list : PySem.W.nsIn K mainGlobals "list" = some none)
    (z_max : PySem.W.nsIn K mainGlobals "max" = some none)
    (z_min : PySem.W.nsIn K mainGlobals "min" = some none)
    (z_range : PySem.W.nsIn K mainGlobals "range" = some none)
    (z_set : PySem.W.nsIn K mainGlobals "set" = some none)
    (z_sorted : PySem.W.nsIn K mainGlobals "sorted" = some none)
    (z_sum : PySem.W.nsIn K mainGlobals "sum" = some none)
    (z_tuple : PySem.W.nsIn K mainGlobals "tuple" = some none)
    (z_zip : PySem.W.nsIn K mainGlobals "zip" = some none)
    : ∃ T : Tx K mg, mg "law" = some (.ref T.a_law_k63) ∧ ∀ (s : Shared) (v : Value), BindsTo s T.d_law_k63 ⟨[v], []⟩ [("script", v)] := by
  refine ⟨{
    C_WebError := C_WebError,
    C_BadWeb := C_BadWeb,
    C_NoTree := C_NoTree,
    C_NoTie := C_NoTie,
    C_NoSuch := C_NoSuch,
    C_NotSquare := C_NotSquare,
    C_BadRow := C_BadRow,
    C_Web := C_Web,
    a_look_at_table := a_look_at_table,
    d_look_at_table := PySem.W.fnOf "look_at_table" "look_at_table" (defArgs s_look_at_table) (defBody s_look_at_table) (defScope s_look_at_table) .none kV_look_at_table dc_look_at_table pm_look_at_table an_look_at_table cd_look_at_table ct_look_at_table,
    a_first_row_with := a_first_row_with,
    d_first_row_with := PySem.W.fnOf "first_row_with" "first_row_with" (defArgs s_first_row_with) (defBody s_first_row_with) (defScope s_first_row_with) .none kV_first_row_with dc_first_row_with pm_first_row_with an_first_row_with cd_first_row_with ct_first_row_with,
    a_cleared := a_cleared,
    d_cleared := PySem.W.fnOf "cleared" "cleared" (defArgs s_cleared) (defBody s_cleared) (defScope s_cleared) .none kV_cleared dc_cleared pm_cleared an_cleared cd_cleared ct_cleared,
    a_determinant := a_determinant,
    d_determinant := PySem.W.fnOf "determinant" "determinant" (defArgs s_determinant) (defBody s_determinant) (defScope s_determinant) .none kV_determinant dc_determinant pm_determinant an_determinant cd_determinant ct_determinant,
    a_Web_init := a_Web_init,
    d_Web_init := PySem.W.fnOf "__init__" "Web.__init__" (defArgs s_Web_init) (defBody s_Web_init) (defScope s_Web_init) .none kV_Web_init dc_Web_init pm_Web_init an_Web_init cd_Web_init ct_Web_init,
    a_marks_over := a_marks_over,
    d_marks_over := PySem.W.fnOf "marks_over" "marks_over" (defArgs s_marks_over) (defBody s_marks_over) (defScope s_marks_over) .none kV_marks_over dc_marks_over pm_marks_over an_marks_over cd_marks_over ct_marks_over,
    a_is_tree := a_is_tree,
    d_is_tree := PySem.W.fnOf "is_tree" "is_tree" (defArgs s_is_tree) (defBody s_is_tree) (defScope s_is_tree) .none kV_is_tree dc_is_tree pm_is_tree an_is_tree cd_is_tree ct_is_tree,
    a_look_at_tree := a_look_at_tree,
    d_look_at_tree := PySem.W.fnOf "look_at_tree" "look_at_tree" (defArgs s_look_at_tree) (defBody s_look_at_tree) (defScope s_look_at_tree) .none kV_look_at_tree dc_look_at_tree pm_look_at_tree an_look_at_tree cd_look_at_tree ct_look_at_tree,
    a_without_tie := a_without_tie,
    d_without_tie := PySem.W.fnOf "without_tie" "without_tie" (defArgs s_without_tie) (defBody s_without_tie) (defScope s_without_tie) .none kV_without_tie dc_without_tie pm_without_tie an_without_tie cd_without_tie ct_without_tie,
    a_cut_of := a_cut_of,
    d_cut_of := PySem.W.fnOf "cut_of" "cut_of" (defArgs s_cut_of) (defBody s_cut_of) (defScope s_cut_of) .none kV_cut_of dc_cut_of pm_cut_of an_cut_of cd_cut_of ct_cut_of,
    a_exchanges_of := a_exchanges_of,
    d_exchanges_of := PySem.W.fnOf "exchanges_of" "exchanges_of" (defArgs s_exchanges_of) (defBody s_exchanges_of) (defScope s_exchanges_of) .none kV_exchanges_of dc_exchanges_of pm_exchanges_of an_exchanges_of cd_exchanges_of ct_exchanges_of,
    a_look_at_lengths := a_look_at_lengths,
    d_look_at_lengths := PySem.W.fnOf "look_at_lengths" "look_at_lengths" (defArgs s_look_at_lengths) (defBody s_look_at_lengths) (defScope s_look_at_lengths) .none kV_look_at_lengths dc_look_at_lengths pm_look_at_lengths an_look_at_lengths cd_look_at_lengths ct_look_at_lengths,
    a_heads_joined := a_heads_joined,
    d_heads_joined := PySem.W.fnOf "heads_joined" "heads_joined" (defArgs s_heads_joined) (defBody s_heads_joined) (defScope s_heads_joined) .none kV_heads_joined dc_heads_joined pm_heads_joined an_heads_joined cd_heads_joined ct_heads_joined,
    a_gains_of := a_gains_of,
    d_gains_of := PySem.W.fnOf "gains_of" "gains_of" (defArgs s_gains_of) (defBody s_gains_of) (defScope s_gains_of) .none kV_gains_of dc_gains_of pm_gains_of an_gains_of cd_gains_of ct_gains_of,
    a_is_cheapest := a_is_cheapest,
    d_is_cheapest := PySem.W.fnOf "is_cheapest" "is_cheapest" (defArgs s_is_cheapest) (defBody s_is_cheapest) (defScope s_is_cheapest) .none kV_is_cheapest dc_is_cheapest pm_is_cheapest an_is_cheapest cd_is_cheapest ct_is_cheapest,
    a_ways_to_join := a_ways_to_join,
    d_ways_to_join := PySem.W.fnOf "ways_to_join" "ways_to_join" (defArgs s_ways_to_join) (defBody s_ways_to_join) (defScope s_ways_to_join) .none kV_ways_to_join dc_ways_to_join pm_ways_to_join an_ways_to_join cd_ways_to_join ct_ways_to_join,
    a_layer_ways := a_layer_ways,
    d_layer_ways := PySem.W.fnOf "layer_ways" "layer_ways" (defArgs s_layer_ways) (defBody s_layer_ways) (defScope s_layer_ways) .none kV_layer_ways dc_layer_ways pm_layer_ways an_layer_ways cd_layer_ways ct_layer_ways,
    a_cheapest_with := a_cheapest_with,
    d_cheapest_with := PySem.W.fnOf "cheapest_with" "cheapest_with" (defArgs s_cheapest_with) (defBody s_cheapest_with) (defScope s_cheapest_with) .none kV_cheapest_with dc_cheapest_with pm_cheapest_with an_cheapest_with cd_cheapest_with ct_cheapest_with,
    a_cheapest_count := a_cheapest_count,
    d_cheapest_count := PySem.W.fnOf "cheapest_count" "cheapest_count" (defArgs s_cheapest_count) (defBody s_cheapest_count) (defScope s_cheapest_count) .none kV_cheapest_count dc_cheapest_count pm_cheapest_count an_cheapest_count cd_cheapest_count ct_cheapest_count,
    a_cheapest_at := a_cheapest_at,
    d_cheapest_at := PySem.W.fnOf "cheapest_at" "cheapest_at" (defArgs s_cheapest_at) (defBody s_cheapest_at) (defScope s_cheapest_at) .none kV_cheapest_at dc_cheapest_at pm_cheapest_at an_cheapest_at cd_cheapest_at ct_cheapest_at,
    a_cheapest_number := a_cheapest_number,
    d_cheapest_number := PySem.W.fnOf "cheapest_number" "cheapest_number" (defArgs s_cheapest_number) (defBody s_cheapest_number) (defScope s_cheapest_number) .none kV_cheapest_number dc_cheapest_number pm_cheapest_number an_cheapest_number cd_cheapest_number ct_cheapest_number,
    a_law_at := a_law_at,
    d_law_at := PySem.W.fnOf "_law_at" "_law_at" (defArgs s_law_at) (defBody s_law_at) (defScope s_law_at) .none kV_law_at dc_law_at pm_law_at an_law_at cd_law_at ct_law_at,
    a_law_stir := a_law_stir,
    d_law_stir := PySem.W.fnOf "_law_stir" "_law_stir" (defArgs s_law_stir) (defBody s_law_stir) (defScope s_law_stir) .none kV_law_stir dc_law_stir pm_law_stir an_law_stir cd_law_stir ct_law_stir,
    a_law_numbers_v3 := a_law_numbers_v3,
    d_law_numbers_v3 := PySem.W.fnOf "_law_numbers" "_law_numbers" (defArgs s_law_numbers_v3) (defBody s_law_numbers_v3) (defScope s_law_numbers_v3) .none kV_law_numbers_v3 dc_law_numbers_v3 pm_law_numbers_v3 an_law_numbers_v3 cd_law_numbers_v3 ct_law_numbers_v3,
    a_law_digits := a_law_digits,
    d_law_digits := PySem.W.fnOf "_law_digits" "_law_digits" (defArgs s_law_digits) (defBody s_law_digits) (defScope s_law_digits) .none kV_law_digits dc_law_digits pm_law_digits an_law_digits cd_law_digits ct_law_digits,
    a_law_web_v3 := a_law_web_v3,
    d_law_web_v3 := PySem.W.fnOf "_law_web" "_law_web" (defArgs s_law_web_v3) (defBody s_law_web_v3) (defScope s_law_web_v3) .none kV_law_web_v3 dc_law_web_v3 pm_law_web_v3 an_law_web_v3 cd_law_web_v3 ct_law_web_v3,
    a_law_trees_v3 := a_law_trees_v3,
    d_law_trees_v3 := PySem.W.fnOf "_law_trees" "_law_trees" (defArgs s_law_trees_v3) (defBody s_law_trees_v3) (defScope s_law_trees_v3) .none kV_law_trees_v3 dc_law_trees_v3 pm_law_trees_v3 an_law_trees_v3 cd_law_trees_v3 ct_law_trees_v3,
    a_law_lengths := a_law_lengths,
    d_law_lengths := PySem.W.fnOf "_law_lengths" "_law_lengths" (defArgs s_law_lengths) (defBody s_law_lengths) (defScope s_law_lengths) .none kV_law_lengths dc_law_lengths pm_law_lengths an_law_lengths cd_law_lengths ct_law_lengths,
    a_law_kind := a_law_kind,
    d_law_kind := PySem.W.fnOf "_law_kind" "_law_kind" (defArgs s_law_kind) (defBody s_law_kind) (defScope s_law_kind) .none kV_law_kind dc_law_kind pm_law_kind an_law_kind cd_law_kind ct_law_kind,
    a_law_refusals_right := a_law_refusals_right,
    d_law_refusals_right := PySem.W.fnOf "_law_refusals_right" "_law_refusals_right" (defArgs s_law_refusals_right) (defBody s_law_refusals_right) (defScope s_law_refusals_right) .none kV_law_refusals_right dc_law_refusals_right pm_law_refusals_right an_law_refusals_right cd_law_refusals_right ct_law_refusals_right,
    a_law_k63 := a_law_k63,
    d_law_k63 := PySem.W.fnOf "law" "law" (defArgs s_law_k63) (defBody s_law_k63) (defScope s_law_k63) .none kV_law_k63 dc_law_k63 pm_law_k63 an_law_k63 cd_law_k63 ct_law_k63,
    t_MOST_PLACES := t_MOST_PLACES,
    t_MOST_TIES := t_MOST_TIES,
    m_WebError := PySem.W.mg_of X G a_WebError,
    x_WebError := x_WebError,
    kx_WebError := kx_WebError,
    bx_WebError := bx_WebError,
    tx_WebError := tx_WebError,
    m_BadWeb := PySem.W.mg_of X G a_BadWeb,
    x_BadWeb := x_BadWeb,
    kx_BadWeb := kx_BadWeb,
    bx_BadWeb := bx_BadWeb,
    tx_BadWeb := tx_BadWeb,
    m_NoTree := PySem.W.mg_of X G a_NoTree,
    x_NoTree := x_NoTree,
    kx_NoTree := kx_NoTree,
    bx_NoTree := bx_NoTree,
    tx_NoTree := tx_NoTree,
    m_NoTie := PySem.W.mg_of X G a_NoTie,
    x_NoTie := x_NoTie,
    kx_NoTie := kx_NoTie,
    bx_NoTie := bx_NoTie,
    tx_NoTie := tx_NoTie,
    m_NoSuch := PySem.W.mg_of X G a_NoSuch,
    x_NoSuch := x_NoSuch,
    kx_NoSuch := kx_NoSuch,
    bx_NoSuch := bx_NoSuch,
    tx_NoSuch := tx_NoSuch,
    m_NotSquare := PySem.W.mg_of X G a_NotSquare,
    x_NotSquare := x_NotSquare,
    kx_NotSquare := kx_NotSquare,
    bx_NotSquare := bx_NotSquare,
    tx_NotSquare := tx_NotSquare,
    m_BadRow := PySem.W.mg_of X G a_BadRow,
    x_BadRow := x_BadRow,
    kx_BadRow := kx_BadRow,
    bx_BadRow := bx_BadRow,
    tx_BadRow := tx_BadRow,
    ct_BadWeb_WebError := PySem.W.exm_ref bx_WebError hd_WebError tx_WebError su_BadWeb_WebError,
    ct_NoTree_WebError := PySem.W.exm_ref bx_WebError hd_WebError tx_WebError su_NoTree_WebError,
    ct_NoTie_WebError := PySem.W.exm_ref bx_WebError hd_WebError tx_WebError su_NoTie_WebError,
    ct_NoSuch_WebError := PySem.W.exm_ref bx_WebError hd_WebError tx_WebError su_NoSuch_WebError,
    ct_NotSquare_WebError := PySem.W.exm_ref bx_WebError hd_WebError tx_WebError su_NotSquare_WebError,
    ct_BadRow_WebError := PySem.W.exm_ref bx_WebError hd_WebError tx_WebError su_BadRow_WebError,
    xc_BadWeb := ⟨e0_BadWeb, e1_BadWeb, bx_BadWeb, e3_BadWeb, e4_BadWeb, e6, e7, e7_BadWeb⟩,
    xc_NoTree := ⟨e0_NoTree, e1_NoTree, bx_NoTree, e3_NoTree, e4_NoTree, e6, e7, e7_NoTree⟩,
    xc_NoTie := ⟨e0_NoTie, e1_NoTie, bx_NoTie, e3_NoTie, e4_NoTie, e6, e7, e7_NoTie⟩,
    xc_NoSuch := ⟨e0_NoSuch, e1_NoSuch, bx_NoSuch, e3_NoSuch, e4_NoSuch, e6, e7, e7_NoSuch⟩,
    xc_NotSquare := ⟨e0_NotSquare, e1_NotSquare, bx_NotSquare, e3_NotSquare, e4_NotSquare, e6, e7, e7_NotSquare⟩,
    xc_BadRow := ⟨e0_BadRow, e1_BadRow, bx_BadRow, e3_BadRow, e4_BadRow, e6, e7, e7_BadRow⟩,
    is_BadWeb_NoSuch := is_BadWeb_NoSuch,
    is_NoTree_NoSuch := is_NoTree_NoSuch,
    is_NoTie_NoSuch := is_NoTie_NoSuch,
    is_NoSuch_NoSuch := is_NoSuch_NoSuch,
    is_NotSquare_NoSuch := is_NotSquare_NoSuch,
    is_BadRow_NoSuch := is_BadRow_NoSuch,
    is_BadWeb_NoTree := is_BadWeb_NoTree,
    is_NoTree_NoTree := is_NoTree_NoTree,
    is_NoTie_NoTree := is_NoTie_NoTree,
    is_NoSuch_NoTree := is_NoSuch_NoTree,
    is_NotSquare_NoTree := is_NotSquare_NoTree,
    is_BadRow_NoTree := is_BadRow_NoTree,
    is_BadWeb_ValueError := is_BadWeb_ValueError,
    is_NoTree_ValueError := is_NoTree_ValueError,
    is_NoTie_ValueError := is_NoTie_ValueError,
    is_NoSuch_ValueError := is_NoSuch_ValueError,
    is_NotSquare_ValueError := is_NotSquare_ValueError,
    is_BadRow_ValueError := is_BadRow_ValueError,
    m_Web := PySem.W.mg_of X G a_Web,
    cl_Web := ⟨pg_Web, hd_Web, po_Web, sa_Web⟩,
    na_Web_places := na_Web_places,
    na_Web_ties := na_Web_ties,
    mk_Web := ⟨mk_Web, n_Web_init, i_Web_init, kc_Web⟩,
    F_look_at_table := fun_mk (st := s_look_at_table) l_look_at_table c_look_at_table k_look_at_table,
    b_look_at_table := (fun_mk (st := s_look_at_table) l_look_at_table c_look_at_table k_look_at_table).binds (ps := ["table"]) fun _ _ _ _ _ _ us hl => match us, hl with | [_], _ => rfl,
    m_look_at_table := PySem.W.mg_of X G n_look_at_table,
    k_look_at_table := k_look_at_table,
    F_first_row_with := fun_mk (st := s_first_row_with) l_first_row_with c_first_row_with k_first_row_with,
    b_first_row_with := (fun_mk (st := s_first_row_with) l_first_row_with c_first_row_with k_first_row_with).binds (ps := ["rows", "at"]) fun _ _ _ _ _ _ us hl => match us, hl with | [_, _], _ => rfl,
    m_first_row_with := PySem.W.mg_of X G n_first_row_with,
    k_first_row_with := k_first_row_with,
    F_cleared := fun_mk (st := s_cleared) l_cleared c_cleared k_cleared,
    b_cleared := (fun_mk (st := s_cleared) l_cleared c_cleared k_cleared).binds (ps := ["rows", "at", "ahead"]) fun _ _ _ _ _ _ us hl => match us, hl with | [_, _, _], _ => rfl,
    m_cleared := PySem.W.mg_of X G n_cleared,
    k_cleared := k_cleared,
    F_determinant := fun_mk (st := s_determinant) l_determinant c_determinant k_determinant,
    b_determinant := (fun_mk (st := s_determinant) l_determinant c_determinant k_determinant).binds (ps := ["table"]) fun _ _ _ _ _ _ us hl => match us, hl with | [_], _ => rfl,
    m_determinant := PySem.W.mg_of X G n_determinant,
    k_determinant := k_determinant,
    F_Web_init := fun_mk (st := s_Web_init) l_Web_init c_Web_init k_Web_init,
    b_Web_init := (fun_mk (st := s_Web_init) l_Web_init c_Web_init k_Web_init).binds (ps := ["self", "places", "ties"]) fun _ _ _ _ _ _ us hl => match us, hl with | [_, _, _], _ => rfl,
    k_Web_init := k_Web_init,
    F_marks_over := fun_mk (st := s_marks_over) l_marks_over c_marks_over k_marks_over,
    b_marks_over := (fun_mk (st := s_marks_over) l_marks_over c_marks_over k_marks_over).binds (ps := ["web", "ties"]) fun _ _ _ _ _ _ us hl => match us, hl with | [_, _], _ => rfl,
    m_marks_over := PySem.W.mg_of X G n_marks_over,
    k_marks_over := k_marks_over,
    F_is_tree := fun_mk (st := s_is_tree) l_is_tree c_is_tree k_is_tree,
    b_is_tree := (fun_mk (st := s_is_tree) l_is_tree c_is_tree k_is_tree).binds (ps := ["web", "ties"]) fun _ _ _ _ _ _ us hl => match us, hl with | [_, _], _ => rfl,
    m_is_tree := PySem.W.mg_of X G n_is_tree,
    k_is_tree := k_is_tree,
    F_look_at_tree := fun_mk (st := s_look_at_tree) l_look_at_tree c_look_at_tree k_look_at_tree,
    b_look_at_tree := (fun_mk (st := s_look_at_tree) l_look_at_tree c_look_at_tree k_look_at_tree).binds (ps := ["web", "tree"]) fun _ _ _ _ _ _ us hl => match us, hl with | [_, _], _ => rfl,
    m_look_at_tree := PySem.W.mg_of X G n_look_at_tree,
    k_look_at_tree := k_look_at_tree,
    F_without_tie := fun_mk (st := s_without_tie) l_without_tie c_without_tie k_without_tie,
    b_without_tie := (fun_mk (st := s_without_tie) l_without_tie c_without_tie k_without_tie).binds (ps := ["ties", "tie"]) fun _ _ _ _ _ _ us hl => match us, hl with | [_, _], _ => rfl,
    m_without_tie := PySem.W.mg_of X G n_without_tie,
    k_without_tie := k_without_tie,
    F_cut_of := fun_mk (st := s_cut_of) l_cut_of c_cut_of k_cut_of,
    b_cut_of := (fun_mk (st := s_cut_of) l_cut_of c_cut_of k_cut_of).binds (ps := ["web", "tree", "tie"]) fun _ _ _ _ _ _ us hl => match us, hl with | [_, _, _], _ => rfl,
    m_cut_of := PySem.W.mg_of X G n_cut_of,
    k_cut_of := k_cut_of,
    F_exchanges_of := fun_mk (st := s_exchanges_of) l_exchanges_of c_exchanges_of k_exchanges_of,
    b_exchanges_of := (fun_mk (st := s_exchanges_of) l_exchanges_of c_exchanges_of k_exchanges_of).binds (ps := ["web", "tree"]) fun _ _ _ _ _ _ us hl => match us, hl with | [_, _], _ => rfl,
    m_exchanges_of := PySem.W.mg_of X G n_exchanges_of,
    k_exchanges_of := k_exchanges_of,
    F_look_at_lengths := fun_mk (st := s_look_at_lengths) l_look_at_lengths c_look_at_lengths k_look_at_lengths,
    b_look_at_lengths := (fun_mk (st := s_look_at_lengths) l_look_at_lengths c_look_at_lengths k_look_at_lengths).binds (ps := ["web", "lengths"]) fun _ _ _ _ _ _ us hl => match us, hl with | [_, _], _ => rfl,
    m_look_at_lengths := PySem.W.mg_of X G n_look_at_lengths,
    k_look_at_lengths := k_look_at_lengths,
    F_heads_joined := fun_mk (st := s_heads_joined) l_heads_joined c_heads_joined k_heads_joined,
    b_heads_joined := (fun_mk (st := s_heads_joined) l_heads_joined c_heads_joined k_heads_joined).binds (ps := ["heads", "ends"]) fun _ _ _ _ _ _ us hl => match us, hl with | [_, _], _ => rfl,
    m_heads_joined := PySem.W.mg_of X G n_heads_joined,
    k_heads_joined := k_heads_joined,
    F_gains_of := fun_mk (st := s_gains_of) l_gains_of c_gains_of k_gains_of,
    b_gains_of := (fun_mk (st := s_gains_of) l_gains_of c_gains_of k_gains_of).binds (ps := ["web", "lengths", "tree"]) fun _ _ _ _ _ _ us hl => match us, hl with | [_, _, _], _ => rfl,
    m_gains_of := PySem.W.mg_of X G n_gains_of,
    k_gains_of := k_gains_of,
    F_is_cheapest := fun_mk (st := s_is_cheapest) l_is_cheapest c_is_cheapest k_is_cheapest,
    b_is_cheapest := (fun_mk (st := s_is_cheapest) l_is_cheapest c_is_cheapest k_is_cheapest).binds (ps := ["web", "lengths", "tree"]) fun _ _ _ _ _ _ us hl => match us, hl with | [_, _, _], _ => rfl,
    m_is_cheapest := PySem.W.mg_of X G n_is_cheapest,
    k_is_cheapest := k_is_cheapest,
    F_ways_to_join := fun_mk (st := s_ways_to_join) l_ways_to_join c_ways_to_join k_ways_to_join,
    b_ways_to_join := (fun_mk (st := s_ways_to_join) l_ways_to_join c_ways_to_join k_ways_to_join).binds (ps := ["pairs"]) fun _ _ _ _ _ _ us hl => match us, hl with | [_], _ => rfl,
    m_ways_to_join := PySem.W.mg_of X G n_ways_to_join,
    k_ways_to_join := k_ways_to_join,
    F_layer_ways := fun_mk (st := s_layer_ways) l_layer_ways c_layer_ways k_layer_ways,
    b_layer_ways := (fun_mk (st := s_layer_ways) l_layer_ways c_layer_ways k_layer_ways).binds (ps := ["web", "heads", "layer", "inside", "outside"]) fun _ _ _ _ _ _ us hl => match us, hl with | [_, _, _, _, _], _ => rfl,
    m_layer_ways := PySem.W.mg_of X G n_layer_ways,
    k_layer_ways := k_layer_ways,
    F_cheapest_with := fun_mk (st := s_cheapest_with) l_cheapest_with c_cheapest_with k_cheapest_with,
    b_cheapest_with := (fun_mk (st := s_cheapest_with) l_cheapest_with c_cheapest_with k_cheapest_with).binds (ps := ["web", "lengths", "inside", "outside"]) fun _ _ _ _ _ _ us hl => match us, hl with | [_, _, _, _], _ => rfl,
    m_cheapest_with := PySem.W.mg_of X G n_cheapest_with,
    k_cheapest_with := k_cheapest_with,
    F_cheapest_count := fun_mk (st := s_cheapest_count) l_cheapest_count c_cheapest_count k_cheapest_count,
    b_cheapest_count := (fun_mk (st := s_cheapest_count) l_cheapest_count c_cheapest_count k_cheapest_count).binds (ps := ["web", "lengths"]) fun _ _ _ _ _ _ us hl => match us, hl with | [_, _], _ => rfl,
    m_cheapest_count := PySem.W.mg_of X G n_cheapest_count,
    k_cheapest_count := k_cheapest_count,
    F_cheapest_at := fun_mk (st := s_cheapest_at) l_cheapest_at c_cheapest_at k_cheapest_at,
    b_cheapest_at := (fun_mk (st := s_cheapest_at) l_cheapest_at c_cheapest_at k_cheapest_at).binds (ps := ["web", "lengths", "number"]) fun _ _ _ _ _ _ us hl => match us, hl with | [_, _, _], _ => rfl,
    m_cheapest_at := PySem.W.mg_of X G n_cheapest_at,
    k_cheapest_at := k_cheapest_at,
    F_cheapest_number := fun_mk (st := s_cheapest_number) l_cheapest_number c_cheapest_number k_cheapest_number,
    b_cheapest_number := (fun_mk (st := s_cheapest_number) l_cheapest_number c_cheapest_number k_cheapest_number).binds (ps := ["web", "lengths", "tree"]) fun _ _ _ _ _ _ us hl => match us, hl with | [_, _, _], _ => rfl,
    m_cheapest_number := PySem.W.mg_of X G n_cheapest_number,
    k_cheapest_number := k_cheapest_number,
    F_law_at := fun_mk (st := s_law_at) l_law_at c_law_at k_law_at,
    b_law_at := (fun_mk (st := s_law_at) l_law_at c_law_at k_law_at).binds (ps := ["script", "k"]) fun _ _ _ _ _ _ us hl => match us, hl with | [_, _], _ => rfl,
    m_law_at := PySem.W.mg_of X G n_law_at,
    k_law_at := k_law_at,
    F_law_stir := fun_mk (st := s_law_stir) l_law_stir c_law_stir k_law_stir,
    b_law_stir := (fun_mk (st := s_law_stir) l_law_stir c_law_stir k_law_stir).binds (ps := ["cell", "k"]) fun _ _ _ _ _ _ us hl => match us, hl with | [_, _], _ => rfl,
    m_law_stir := PySem.W.mg_of X G n_law_stir,
    k_law_stir := k_law_stir,
    F_law_numbers_v3 := fun_mk (st := s_law_numbers_v3) l_law_numbers_v3 c_law_numbers_v3 k_law_numbers_v3,
    b_law_numbers_v3 := (fun_mk (st := s_law_numbers_v3) l_law_numbers_v3 c_law_numbers_v3 k_law_numbers_v3).binds (ps := ["script", "start", "most"]) fun _ _ _ _ _ _ us hl => match us, hl with | [_, _, _], _ => rfl,
    m_law_numbers_v3 := PySem.W.mg_of X G n_law_numbers_v3,
    k_law_numbers_v3 := k_law_numbers_v3,
    F_law_digits := fun_mk (st := s_law_digits) l_law_digits c_law_digits k_law_digits,
    b_law_digits := (fun_mk (st := s_law_digits) l_law_digits c_law_digits k_law_digits).binds (ps := ["cell", "most_places", "most_ties"]) fun _ _ _ _ _ _ us hl => match us, hl with | [_, _, _], _ => rfl,
    m_law_digits := PySem.W.mg_of X G n_law_digits,
    k_law_digits := k_law_digits,
    F_law_web_v3 := fun_mk (st := s_law_web_v3) l_law_web_v3 c_law_web_v3 k_law_web_v3,
    b_law_web_v3 := (fun_mk (st := s_law_web_v3) l_law_web_v3 c_law_web_v3 k_law_web_v3).binds (ps := ["script", "most_places", "most_ties"]) fun _ _ _ _ _ _ us hl => match us, hl with | [_, _, _], _ => rfl,
    m_law_web_v3 := PySem.W.mg_of X G n_law_web_v3,
    k_law_web_v3 := k_law_web_v3,
    F_law_trees_v3 := fun_mk (st := s_law_trees_v3) l_law_trees_v3 c_law_trees_v3 k_law_trees_v3,
    b_law_trees_v3 := (fun_mk (st := s_law_trees_v3) l_law_trees_v3 c_law_trees_v3 k_law_trees_v3).binds (ps := ["places", "ties"]) fun _ _ _ _ _ _ us hl => match us, hl with | [_, _], _ => rfl,
    m_law_trees_v3 := PySem.W.mg_of X G n_law_trees_v3,
    k_law_trees_v3 := k_law_trees_v3,
    F_law_lengths := fun_mk (st := s_law_lengths) l_law_lengths c_law_lengths k_law_lengths,
    b_law_lengths := (fun_mk (st := s_law_lengths) l_law_lengths c_law_lengths k_law_lengths).binds (ps := ["script", "count"]) fun _ _ _ _ _ _ us hl => match us, hl with | [_, _], _ => rfl,
    m_law_lengths := PySem.W.mg_of X G n_law_lengths,
    k_law_lengths := k_law_lengths,
    F_law_kind := fun_mk (st := s_law_kind) l_law_kind c_law_kind k_law_kind,
    b_law_kind := (fun_mk (st := s_law_kind) l_law_kind c_law_kind k_law_kind).binds (ps := ["deed", "web", "lengths", "what"]) fun _ _ _ _ _ _ us hl => match us, hl with | [_, _, _, _], _ => rfl,
    m_law_kind := PySem.W.mg_of X G n_law_kind,
    k_law_kind := k_law_kind,
    F_law_refusals_right := fun_mk (st := s_law_refusals_right) l_law_refusals_right c_law_refusals_right k_law_refusals_right,
    b_law_refusals_right := (fun_mk (st := s_law_refusals_right) l_law_refusals_right c_law_refusals_right k_law_refusals_right).binds (ps := ["web", "lengths", "cheap", "trees", "cell"]) fun _ _ _ _ _ _ us hl => match us, hl with | [_, _, _, _, _], _ => rfl,
    m_law_refusals_right := PySem.W.mg_of X G n_law_refusals_right,
    k_law_refusals_right := k_law_refusals_right,
    F_law_k63 := fun_mk (st := s_law_k63) l_law_k63 c_law_k63 k_law_k63,
    b_law_k63 := (fun_mk (st := s_law_k63) l_law_k63 c_law_k63 k_law_k63).binds (ps := ["script"]) fun _ _ _ _ _ _ us hl => match us, hl with | [_], _ => rfl,
    m_law_k63 := PySem.W.mg_of X G n_law_k63,
    k_law_k63 := k_law_k63,
    v_MOST_PLACES := PySem.W.mg_of X G v_MOST_PLACES,
    v_MOST_TIES := PySem.W.mg_of X G v_MOST_TIES,
    z_ValueError := PySem.W.mg_none_of X G z_ValueError,
    z_abs := PySem.W.mg_none_of X G z_abs,
    z_all := PySem.W.mg_none_of X G z_all,
    z_bool := PySem.W.mg_none_of X G z_bool,
    z_enumerate := PySem.W.mg_none_of X G z_enumerate,
    z_int := PySem.W.mg_none_of X G z_int,
    z_isinstance := PySem.W.mg_none_of X G z_isinstance,
    z_len := PySem.W.mg_none_of X G z_len,
    z_list := PySem.W.mg_none_of X G z_list,
    z_max := PySem.W.mg_none_of X G z_max,
    z_min := PySem.W.mg_none_of X G z_min,
    z_range := PySem.W.mg_none_of X G z_range,
    z_set := PySem.W.mg_none_of X G z_set,
    z_sorted := PySem.W.mg_none_of X G z_sorted,
    z_sum := PySem.W.mg_none_of X G z_sum,
    z_tuple := PySem.W.mg_none_of X G z_tuple,
    z_zip := PySem.W.mg_none_of X G z_zip }, PySem.W.mg_of X G n_law_k63, fun s v => .of_eq rfl⟩
def spLaw (K : PySem.W.Frag) : Sp := fun vs H Q _ => ∃ (a : Addr) (ns : List Int), vs = [.ref a] ∧ SqL K H a (ns.map V.int) ∧ ns.length ≤ 63 ∧ ∀ v H', v = .bl true → Q v H'
set_option maxHeartbeats 8000000 in
theorem law_ok (T : Tx K mg) : FnOk P w K mg base (L2.CX P w) 11 T.a_law_k63 T.d_law_k63 ["script"] (spLaw K) := by
  have G_look_at_table := ok_look_at_table (P := P) (w := w) (base := base) T
  have G_first_row_with := ok_first_row_with (P := P) (w := w) (base := base) T
  have G_cleared := ok_cleared (P := P) (w := w) (base := base) T
  have G_determinant := ok_determinant (P := P) (w := w) (base := base) T G_look_at_table G_first_row_with G_cleared
  have G_Web_init := ok_Web_init (P := P) (w := w) (base := base) T
  have G_marks_over := ok_marks_over (P := P) (w := w) (base := base) T
  have G_is_tree := ok_is_tree (P := P) (w := w) (base := base) T G_marks_over
  have G_look_at_tree := ok_look_at_tree (P := P) (w := w) (base := base) T G_is_tree
  have G_without_tie := ok_without_tie (P := P) (w := w) (base := base) T
  have G_cut_of := ok_cut_of (P := P) (w := w) (base := base) T G_look_at_tree G_marks_over G_without_tie
  have G_exchanges_of := ok_exchanges_of (P := P) (w := w) (base := base) T G_look_at_tree G_cut_of
  have G_look_at_lengths := ok_look_at_lengths (P := P) (w := w) (base := base) T
  have G_heads_joined := ok_heads_joined (P := P) (w := w) (base := base) T
  have G_gains_of := ok_gains_of (P := P) (w := w) (base := base) T G_look_at_lengths G_exchanges_of
  have G_is_cheapest := ok_is_cheapest (P := P) (w := w) (base := base) T G_gains_of
  have G_ways_to_join := ok_ways_to_join (P := P) (w := w) (base := base) T G_heads_joined G_determinant
  have G_layer_ways := ok_layer_ways (P := P) (w := w) (base := base) T G_heads_joined G_ways_to_join
  have G_cheapest_with := ok_cheapest_with (P := P) (w := w) (base := base) T G_layer_ways G_heads_joined
  have G_cheapest_count := ok_cheapest_count (P := P) (w := w) (base := base) T G_look_at_lengths G_cheapest_with
  have G_cheapest_at := ok_cheapest_at (P := P) (w := w) (base := base) T G_cheapest_count G_cheapest_with
  have G_cheapest_number := ok_cheapest_number (P := P) (w := w) (base := base) T G_look_at_lengths G_is_tree G_is_cheapest G_cheapest_with
  have G_law_at := ok_law_at (P := P) (w := w) (base := base) T
  have G_law_stir := ok_law_stir (P := P) (w := w) (base := base) T
  have G_law_numbers_v3 := ok_law_numbers_v3 (P := P) (w := w) (base := base) T
  have G_law_digits := ok_law_digits (P := P) (w := w) (base := base) T G_law_stir
  have G_law_web_v3 := ok_law_web_v3 (P := P) (w := w) (base := base) T G_law_at G_law_digits G_law_numbers_v3 G_law_stir
  have G_law_trees_v3 := ok_law_trees_v3 (P := P) (w := w) (base := base) T
  have G_law_lengths := ok_law_lengths (P := P) (w := w) (base := base) T G_law_at G_law_stir
  have G_law_kind := ok_law_kind (P := P) (w := w) (base := base) T G_cheapest_at G_cheapest_number
  have G_law_refusals_right := ok_law_refusals_right (P := P) (w := w) (base := base) T G_law_kind
  have G_law_k63 := ok_law_k63 (P := P) (w := w) (base := base) T G_law_web_v3 G_Web_init G_law_lengths G_law_trees_v3 G_cheapest_count G_law_stir G_cheapest_at G_cheapest_number G_law_refusals_right G_law_at
  refine G_law_k63.imp fun vs H Q E q => ?_
  obtain ⟨a, ns, rfl, hS, hl, k⟩ := q
  have e := law_sp (K := K) (cls := T.cls) (g := g_law_k63) (H := H) (true_law_k63 ns hl) hS
  obtain ⟨F, ds, h1, h2, h3, h4⟩ := e
  refine ⟨F, ds, h1, h2, h3, ?_⟩
  cases eg : g_law_k63 ds with
  | ok d => rw [eg] at h4; exact fun v F' H' O' x y z => k v H' (h4 v F' H' O' x y z)
  | xc c => rw [eg] at h4; exact fun F' H' x => (h4 F' H' x).elim
  | bad => rw [eg] at h4; exact h4.elim
end
theorem walk {l : PySem.W.OpenLaw} {q : Program} {loose : List Str} {XP : (Str → Option Value) → Heap → Prop} {YP : World → Heap → Prop} {d : DefRec} {K : Params → PySem.W.Frag} (hn : l.most = some 63) (hdf : d.params.defaults = []) (hname : d.name = "law")
    (hY : ∀ (w : World) (h : Heap), YP w h → (K w.params).In h)
    (F : ∀ (w : World) (mg : Str → Option Value) (h : Heap), (K w.params).In h → h.Ns mainGlobals mg → ∃ T : Tx (K w.params) mg, mg "law" = some (.ref T.a_law_k63) ∧ ∀ (s : Shared) (v : Value), BindsTo s T.d_law_k63 ⟨[v], []⟩ [("script", v)]) :
    PySem.W.WalkO q loose XP YP l.row.toRowW d [] (fun f vs => PySem.call f vs) :=
  L2.walk_of (n := 63) (k := 11) (x := "script") (CX := fun w => L2.CX l.prog w) (sp := fun w => spLaw (K w.params)) hn (by decide) hdf ⟨rfl, by decide, by decide⟩ hY (fun w mg fa h KX G hmg => by
    obtain ⟨T, h1, h2⟩ := F w mg h KX G
    rw [hname, h1] at hmg
    cases hmg
    exact ⟨T.d_law_k63, h2, fun base _ _ => law_ok T⟩) (fun _ _ a ns hl _ hS => ⟨a, ns, rfl, hS, hl, fun _ _ h => h⟩) fun _ _ _ _ _ z => law_cx z
end Lw
open PySem PySem.W PyProof.Rows in
set_option maxRecDepth 100000 in
set_option maxHeartbeats 0 in
theorem PySem.Challenge.cw_spanrow_k63_whole_cheapest_ones_by_trial_holds : PySem.Challenge.rw_spanrow_k63_whole_cheapest_ones_by_trial.Holds := by
  w_on; o_law; k_head; (case hw => w_witness2)
  k_fill
  refine Lw.walk (l := PySem.Challenge.rw_spanrow_k63_whole_cheapest_ones_by_trial) rfl rfl rfl (fun w h Y => PySem.W.kIn_of Y) ?F
  case F =>
    intro w mg h KX G
    refine' Lw.all_mk KX G ?a_WebError ?x_WebError ?kx_WebError ?bx_WebError ?tx_WebError ?a_BadWeb ?x_BadWeb ?kx_BadWeb ?bx_BadWeb ?tx_BadWeb ?a_NoTree ?x_NoTree ?kx_NoTree ?bx_NoTree ?tx_NoTree ?a_NoTie ?x_NoTie ?kx_NoTie ?bx_NoTie ?tx_NoTie ?a_NoSuch ?x_NoSuch ?kx_NoSuch ?bx_NoSuch ?tx_NoSuch ?a_NotSquare ?x_NotSquare ?kx_NotSquare ?bx_NotSquare ?tx_NotSquare ?a_BadRow ?x_BadRow ?kx_BadRow ?bx_BadRow ?tx_BadRow ?su_BadWeb_WebError ?su_NoTree_WebError ?su_NoTie_WebError ?su_NoSuch_WebError ?su_NotSquare_WebError ?su_BadRow_WebError ?hd_WebError ?e6 ?e7 ?e0_BadWeb ?e1_BadWeb ?e3_BadWeb ?e4_BadWeb ?e7_BadWeb ?e0_NoTree ?e1_NoTree ?e3_NoTree ?e4_NoTree ?e7_NoTree ?e0_NoTie ?e1_NoTie ?e3_NoTie ?e4_NoTie ?e7_NoTie ?e0_NoSuch ?e1_NoSuch ?e3_NoSuch ?e4_NoSuch ?e7_NoSuch ?e0_NotSquare ?e1_NotSquare ?e3_NotSquare ?e4_NotSquare ?e7_NotSquare ?e0_BadRow ?e1_BadRow ?e3_BadRow ?e4_BadRow ?e7_BadRow ?is_BadWeb_NoSuch ?is_NoTree_NoSuch ?is_NoTie_NoSuch ?is_NoSuch_NoSuch ?is_NotSquare_NoSuch ?is_BadRow_NoSuch ?is_BadWeb_NoTree ?is_NoTree_NoTree ?is_NoTie_NoTree ?is_NoSuch_NoTree ?is_NotSquare_NoTree ?is_BadRow_NoTree ?is_BadWeb_ValueError ?is_NoTree_ValueError ?is_NoTie_ValueError ?is_NoSuch_ValueError ?is_NotSquare_ValueError ?is_BadRow_ValueError ?a_Web ?pg_Web ?hd_Web ?po_Web ?sa_Web ?mk_Web ?kc_Web ?na_Web_places ?na_Web_ties ?n_look_at_table ?l_look_at_table ?c_look_at_table ?k_look_at_table ?n_first_row_with ?l_first_row_with ?c_first_row_with ?k_first_row_with ?n_cleared ?l_cleared ?c_cleared ?k_cleared ?n_determinant ?l_determinant ?c_determinant ?k_determinant ?n_Web_init ?i_Web_init ?l_Web_init ?c_Web_init ?k_Web_init ?n_marks_over ?l_marks_over ?c_marks_over ?k_marks_over ?n_is_tree ?l_is_tree ?c_is_tree ?k_is_tree ?n_look_at_tree ?l_look_at_tree ?c_look_at_tree ?k_look_at_tree ?n_without_tie ?l_without_tie ?c_without_tie ?k_without_tie ?n_cut_of ?l_cut_of ?c_cut_of ?k_cut_of ?n_exchanges_of ?l_exchanges_of ?c_exchanges_of ?k_exchanges_of ?n_look_at_lengths ?l_look_at_lengths ?c_look_at_lengths ?k_look_at_lengths ?n_heads_joined ?l_heads_joined ?c_heads_joined ?k_heads_joined ?n_gains_of ?l_gains_of ?c_gains_of ?k_gains_of ?n_is_cheapest ?l_is_cheapest ?c_is_cheapest ?k_is_cheapest ?n_ways_to_join ?l_ways_to_join ?c_ways_to_join ?k_ways_to_join ?n_layer_ways ?l_layer_ways ?c_layer_ways ?k_layer_ways ?n_cheapest_with ?l_cheapest_with ?c_cheapest_with ?k_cheapest_with ?n_cheapest_count ?l_cheapest_count ?c_cheapest_count ?k_cheapest_count ?n_cheapest_at ?l_cheapest_at ?c_cheapest_at ?k_cheapest_at ?n_cheapest_number ?l_cheapest_number ?c_cheapest_number ?k_cheapest_number ?n_law_at ?l_law_at ?c_law_at ?k_law_at ?n_law_stir ?l_law_stir ?c_law_stir ?k_law_stir ?n_law_numbers_v3 ?l_law_numbers_v3 ?c_law_numbers_v3 ?k_law_numbers_v3 ?n_law_digits ?l_law_digits ?c_law_digits ?k_law_digits ?n_law_web_v3 ?l_law_web_v3 ?c_law_web_v3 ?k_law_web_v3 ?n_law_trees_v3 ?l_law_trees_v3 ?c_law_trees_v3 ?k_law_trees_v3 ?n_law_lengths ?l_law_lengths ?c_law_lengths ?k_law_lengths ?n_law_kind ?l_law_kind ?c_law_kind ?k_law_kind ?n_law_refusals_right ?l_law_refusals_right ?c_law_refusals_right ?k_law_refusals_right ?n_law_k63 ?l_law_k63 ?c_law_k63 ?k_law_k63 ?v_MOST_PLACES ?v_MOST_TIES ?z_ValueError ?z_abs ?z_all ?z_bool ?z_enumerate ?z_int ?z_isinstance ?z_len ?z_list ?z_max ?z_min ?z_range ?z_set ?z_sorted ?z_sum ?z_tuple ?z_zip
    (case a_WebError => k_is)
    (case x_WebError => k_exc)
    (case kx_WebError => k_is)
    (case bx_WebError => k_is)
    (case tx_WebError => k_is)
    (case a_BadWeb => k_is)
    (case x_BadWeb => k_exc)
    (case kx_BadWeb => k_is)
    (case bx_BadWeb => k_is)
    (case tx_BadWeb => k_is)
    (case a_NoTree => k_is)
    (case x_NoTree => k_exc)
    (case kx_NoTree => k_is)
    (case bx_NoTree => k_is)
    (case tx_NoTree => k_is)
    (case a_NoTie => k_is)
    (case x_NoTie => k_exc)
    (case kx_NoTie => k_is)
    (case bx_NoTie => k_is)
    (case tx_NoTie => k_is)
    (case a_NoSuch => k_is)
    (case x_NoSuch => k_exc)
    (case kx_NoSuch => k_is)
    (case bx_NoSuch => k_is)
    (case tx_NoSuch => k_is)
    (case a_NotSquare => k_is)
    (case x_NotSquare => k_exc)
    (case kx_NotSquare => k_is)
    (case bx_NotSquare => k_is)
    (case tx_NotSquare => k_is)
    (case a_BadRow => k_is)
    (case x_BadRow => k_exc)
    (case kx_BadRow => k_is)
    (case bx_BadRow => k_is)
    (case tx_BadRow => k_is)
    (case su_BadWeb_WebError => k_is)
    (case su_NoTree_WebError => k_is)
    (case su_NoTie_WebError => k_is)
    (case su_NoSuch_WebError => k_is)
    (case su_NotSquare_WebError => k_is)
    (case su_BadRow_WebError => k_is)
    (case hd_WebError => k_is)
    (case e6 => k_is)
    (case e7 => k_is)
    (case e0_BadWeb => k_is)
    (case e1_BadWeb => k_is)
    (case e3_BadWeb => k_is)
    (case e4_BadWeb => k_is)
    (case e7_BadWeb => k_is)
    (case e0_NoTree => k_is)
    (case e1_NoTree => k_is)
    (case e3_NoTree => k_is)
    (case e4_NoTree => k_is)
    (case e7_NoTree => k_is)
    (case e0_NoTie => k_is)
    (case e1_NoTie => k_is)
    (case e3_NoTie => k_is)
    (case e4_NoTie => k_is)
    (case e7_NoTie => k_is)
    (case e0_NoSuch => k_is)
    (case e1_NoSuch => k_is)
    (case e3_NoSuch => k_is)
    (case e4_NoSuch => k_is)
    (case e7_NoSuch => k_is)
    (case e0_NotSquare => k_is)
    (case e1_NotSquare => k_is)
    (case e3_NotSquare => k_is)
    (case e4_NotSquare => k_is)
    (case e7_NotSquare => k_is)
    (case e0_BadRow => k_is)
    (case e1_BadRow => k_is)
    (case e3_BadRow => k_is)
    (case e4_BadRow => k_is)
    (case e7_BadRow => k_is)
    (case is_BadWeb_NoSuch => kit_is)
    (case is_NoTree_NoSuch => kit_is)
    (case is_NoTie_NoSuch => kit_is)
    (case is_NoSuch_NoSuch => kit_is)
    (case is_NotSquare_NoSuch => kit_is)
    (case is_BadRow_NoSuch => kit_is)
    (case is_BadWeb_NoTree => kit_is)
    (case is_NoTree_NoTree => kit_is)
    (case is_NoTie_NoTree => kit_is)
    (case is_NoSuch_NoTree => kit_is)
    (case is_NotSquare_NoTree => kit_is)
    (case is_BadRow_NoTree => kit_is)
    (case is_BadWeb_ValueError => kit_is)
    (case is_NoTree_ValueError => kit_is)
    (case is_NoTie_ValueError => kit_is)
    (case is_NoSuch_ValueError => kit_is)
    (case is_NotSquare_ValueError => kit_is)
    (case is_BadRow_ValueError => kit_is)
    (case a_Web => k_is)
    (case pg_Web => k_is)
    (case hd_Web => k_is)
    (case po_Web => k_is)
    (case sa_Web => k_is)
    (case mk_Web => k_is)
    (case kc_Web => k_is)
    (case na_Web_places => k_is)
    (case na_Web_ties => k_is)
    (case n_look_at_table => k_is)
    (case l_look_at_table => k_is)
    (case c_look_at_table => k_is)
    (case k_look_at_table => k_is)
    (case n_first_row_with => k_is)
    (case l_first_row_with => k_is)
    (case c_first_row_with => k_is)
    (case k_first_row_with => k_is)
    (case n_cleared => k_is)
    (case l_cleared => k_is)
    (case c_cleared => k_is)
    (case k_cleared => k_is)
    (case n_determinant => k_is)
    (case l_determinant => k_is)
    (case c_determinant => k_is)
    (case k_determinant => k_is)
    (case n_Web_init => k_is)
    (case i_Web_init => k_is)
    (case l_Web_init => k_is)
    (case c_Web_init => k_is)
    (case k_Web_init => k_is)
    (case n_marks_over => k_is)
    (case l_marks_over => k_is)
    (case c_marks_over => k_is)
    (case k_marks_over => k_is)
    (case n_is_tree => k_is)
    (case l_is_tree => k_is)
    (case c_is_tree => k_is)
    (case k_is_tree => k_is)
    (case n_look_at_tree => k_is)
    (case l_look_at_tree => k_is)
    (case c_look_at_tree => k_is)
    (case k_look_at_tree => k_is)
    (case n_without_tie => k_is)
    (case l_without_tie => k_is)
    (case c_without_tie => k_is)
    (case k_without_tie => k_is)
    (case n_cut_of => k_is)
    (case l_cut_of => k_is)
    (case c_cut_of => k_is)
    (case k_cut_of => k_is)
    (case n_exchanges_of => k_is)
    (case l_exchanges_of => k_is)
    (case c_exchanges_of => k_is)
    (case k_exchanges_of => k_is)
    (case n_look_at_lengths => k_is)
    (case l_look_at_lengths => k_is)
    (case c_look_at_lengths => k_is)
    (case k_look_at_lengths => k_is)
    (case n_heads_joined => k_is)
    (case l_heads_joined => k_is)
    (case c_heads_joined => k_is)
    (case k_heads_joined => k_is)
    (case n_gains_of => k_is)
    (case l_gains_of => k_is)
    (case c_gains_of => k_is)
    (case k_gains_of => k_is)
    (case n_is_cheapest => k_is)
    (case l_is_cheapest => k_is)
    (case c_is_cheapest => k_is)
    (case k_is_cheapest => k_is)
    (case n_ways_to_join => k_is)
    (case l_ways_to_join => k_is)
    (case c_ways_to_join => k_is)
    (case k_ways_to_join => k_is)
    (case n_layer_ways => k_is)
    (case l_layer_ways => k_is)
    (case c_layer_ways => k_is)
    (case k_layer_ways => k_is)
    (case n_cheapest_with => k_is)
    (case l_cheapest_with => k_is)
    (case c_cheapest_with => k_is)
    (case k_cheapest_with => k_is)
    (case n_cheapest_count => k_is)
    (case l_cheapest_count => k_is)
    (case c_cheapest_count => k_is)
    (case k_cheapest_count => k_is)
    (case n_cheapest_at => k_is)
    (case l_cheapest_at => k_is)
    (case c_cheapest_at => k_is)
    (case k_cheapest_at => k_is)
    (case n_cheapest_number => k_is)
    (case l_cheapest_number => k_is)
    (case c_cheapest_number => k_is)
    (case k_cheapest_number => k_is)
    (case n_law_at => k_is)
    (case l_law_at => k_is)
    (case c_law_at => k_is)
    (case k_law_at => k_is)
    (case n_law_stir => k_is)
    (case l_law_stir => k_is)
    (case c_law_stir => k_is)
    (case k_law_stir => k_is)
    (case n_law_numbers_v3 => k_is)
    (case l_law_numbers_v3 => k_is)
    (case c_law_numbers_v3 => k_is)
    (case k_law_numbers_v3 => k_is)
    (case n_law_digits => k_is)
    (case l_law_digits => k_is)
    (case c_law_digits => k_is)
    (case k_law_digits => k_is)
    (case n_law_web_v3 => k_is)
    (case l_law_web_v3 => k_is)
    (case c_law_web_v3 => k_is)
    (case k_law_web_v3 => k_is)
    (case n_law_trees_v3 => k_is)
    (case l_law_trees_v3 => k_is)
    (case c_law_trees_v3 => k_is)
    (case k_law_trees_v3 => k_is)
    (case n_law_lengths => k_is)
    (case l_law_lengths => k_is)
    (case c_law_lengths => k_is)
    (case k_law_lengths => k_is)
    (case n_law_kind => k_is)
    (case l_law_kind => k_is)
    (case c_law_kind => k_is)
    (case k_law_kind => k_is)
    (case n_law_refusals_right => k_is)
    (case l_law_refusals_right => k_is)
    (case c_law_refusals_right => k_is)
    (case k_law_refusals_right => k_is)
    (case n_law_k63 => k_is)
    (case l_law_k63 => k_is)
    (case c_law_k63 => k_is)
    (case k_law_k63 => k_is)
    (case v_MOST_PLACES => k_is)
    (case v_MOST_TIES => k_is)
    (case z_ValueError => k_is)
    (case z_abs => k_is)
    (case z_all => k_is)
    (case z_bool => k_is)
    (case z_enumerate => k_is)
    (case z_int => k_is)
    (case z_isinstance => k_is)
    (case z_len => k_is)
    (case z_list => k_is)
    (case z_max => k_is)
    (case z_min => k_is)
    (case z_range => k_is)
    (case z_set => k_is)
    (case z_sorted => k_is)
    (case z_sum => k_is)
    (case z_tuple => k_is)
    (case z_zip => k_is)
