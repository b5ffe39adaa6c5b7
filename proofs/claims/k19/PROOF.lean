import PyProof.Rows.All
import Wide.All
import OpenK.AllK
import Wide.FinOn
import HandS.ForMost
import HandS.ForExc
import HandS.TupAny
import HandS.Wide
import HandS.SortInts
import HandS.ExcIs
import HandS.TryOnly
import HandS.Rev
import HandS.RevRange
import HandS.WordsExc
import HandS.SetFor
import HandS.Strs
import HandS.Conv
import HandS.IsInst
import HandS.RevTup
import HandS.NamedTupSort
import HandS.SortRule
import HandS.Deep
import HandS.WideBits
import KE.DataMinMax
import HandS.Iter
import KE.GoesMore
import KE.SortData
import HandS.More
import HandS.Dict
import HandS.Zip
import KE.GoesZip
import KE.KTurns
import KE.KTupSum
import HandS.TupLe
import KE.KDictSum
import KE.DataFind
import HandS.EndBits
import KE.RegKIsAll
import PySem.Challenge.RW_spanrow_k19_pull_tables_and_counts
set_option Elab.async false
set_option linter.all false
set_option maxRecDepth 100000
namespace DL
open PySem L2

inductive D where
  | un | non | bl (b : Bool) | int (i : Int) | str (x : Str)
  | sc (xs : List D) | ls (xs : List D) | tp (xs : List D) | ob (c : Nat) (fs : List D)
  | ol (xs : List D) | bo (xs : List D)
  | od (ks : List Key) (xs : List D) | bd (ks : List Key) (xs : List D)
  | oo (o : Option Addr) (c : Nat) (fs : List D) | bb (c : Nat) (fs : List D)
  | rf (a : Addr)

abbrev Cls := Nat → Option (Addr × List Str)
abbrev Env := List D

inductive Res (α : Type) where
  | ok (a : α) | xc (c : Nat) | bad
inductive Out where
  | nx (g : Env) | rt (d : D) | bk (g : Env) | ct (g : Env) | xc (c : Nat) (g : Env) | bad

def excV (cls : Cls) (c : Nat) : Value := match cls c with
  | some (C, _) => .ref C
  | none => .none

mutual
inductive Rp (K : PySem.W.Frag) (cls : Cls) (F : Hp) : V → D → Prop
  | non : Rp K cls F .non .non
  | bl (b : Bool) : Rp K cls F (.bl b) (.bl b)
  | int (i : Int) : Rp K cls F (.int i) (.int i)
  | str (x : Str) : Rp K cls F (.str x) (.str x)
  | rf (a : Addr) : Rp K cls F (.ref a) (.rf a)
  | sc {a : Addr} {vs : List V} {ds : List D} : SqL K F a vs → Rps K cls F vs ds → Rp K cls F (.ref a) (.sc ds)
  | ls {a : Addr} {vs : List V} {ds : List D} : F a = some (.lst vs) → Rps K cls F vs ds → Rp K cls F (.ref a) (.ls ds)
  | tp {a : Addr} {vs : List V} {ds : List D} : SqT K F a vs → Rps K cls F vs ds → Rp K cls F (.ref a) (.tp ds)
  | ob {a C dx : Addr} {c : Nat} {ns : List Str} {vs : List V} {ds : List D} : cls c = some (C, ns) → F a = some (.ins C dx (ns.zip vs)) → vs.length ≤ ns.length → Rps K cls F vs ds → Rp K cls F (.ref a) (.ob c ds)
inductive Rps (K : PySem.W.Frag) (cls : Cls) (F : Hp) : List V → List D → Prop
  | nil : Rps K cls F [] []
  | cons {v : V} {d : D} {vs : List V} {ds : List D} : Rp K cls F v d → Rps K cls F vs ds → Rps K cls F (v :: vs) (d :: ds)
end

mutual
inductive Ow (K : PySem.W.Frag) (cls : Cls) (F H : Hp) : V → D → List Addr → Prop
  | sh {v : V} {d : D} : Rp K cls F v d → Ow K cls F H v d []
  | ol {a : Addr} {vs : List V} {ds : List D} {O : List Addr} : F a = none → H a = some (.lst vs) → a ∉ O → Ows K cls F H vs ds O → Ow K cls F H (.ref a) (.ol ds) (a :: O)
  | od {a : Addr} {ks : List Key} {vs : List V} {ds : List D} {O : List Addr} : F a = none → H a = some (.dK (ks.zip vs)) → ks.length = vs.length → a ∉ O → Ows K cls F H vs ds O → Ow K cls F H (.ref a) (.od ks ds) (a :: O)
  | oo {o : Option Addr} {a C dx : Addr} {c : Nat} {ns : List Str} {vs : List V} {ds : List D} {O : List Addr} : (∀ x, o = some x → x = a) → cls c = some (C, ns) → F a = none → H a = some (.ins C dx (ns.zip vs)) → vs.length ≤ ns.length → a ∉ O → Ows K cls F H vs ds O → Ow K cls F H (.ref a) (.oo o c ds) (a :: O)
inductive Ows (K : PySem.W.Frag) (cls : Cls) (F H : Hp) : List V → List D → List Addr → Prop
  | nil : Ows K cls F H [] [] []
  | cons {v : V} {d : D} {vs : List V} {ds : List D} {O1 O2 O : List Addr} : Ow K cls F H v d O1 → Ows K cls F H vs ds O2 → (∀ a ∈ O1, a ∉ O2) → O = O1 ++ O2 → Ows K cls F H (v :: vs) (d :: ds) O
end

mutual
inductive Bo (K : PySem.W.Frag) (cls : Cls) (F H : Hp) : V → D → Prop
  | sh {v : V} {d : D} : Rp K cls F v d → Bo K cls F H v d
  | bo {a : Addr} {vs : List V} {ds : List D} : H a = some (.lst vs) → Bos K cls F H vs ds → Bo K cls F H (.ref a) (.bo ds)
  | bd {a : Addr} {ks : List Key} {vs : List V} {ds : List D} : H a = some (.dK (ks.zip vs)) → ks.length = vs.length → Bos K cls F H vs ds → Bo K cls F H (.ref a) (.bd ks ds)
  | bb {a C dx : Addr} {c : Nat} {ns : List Str} {vs : List V} {ds : List D} : cls c = some (C, ns) → H a = some (.ins C dx (ns.zip vs)) → vs.length ≤ ns.length → Bos K cls F H vs ds → Bo K cls F H (.ref a) (.bb c ds)
inductive Bos (K : PySem.W.Frag) (cls : Cls) (F H : Hp) : List V → List D → Prop
  | nil : Bos K cls F H [] []
  | cons {v : V} {d : D} {vs : List V} {ds : List D} : Bo K cls F H v d → Bos K cls F H vs ds → Bos K cls F H (v :: vs) (d :: ds)
end

def Tm (K : PySem.W.Frag) (cls : Cls) (F H : Hp) (v : V) (d : D) (O : List Addr) : Prop := Ow K cls F H v d O ∨ (Bo K cls F H v d ∧ O = [])

inductive Sts (K : PySem.W.Frag) (cls : Cls) (F H : Hp) : St → Env → List Addr → Prop
  | nil : Sts K cls F H [] [] []
  | un {o : Option V} {σ : St} {g : Env} {O : List Addr} : Sts K cls F H σ g O → Sts K cls F H (o :: σ) (.un :: g) O
  | cons {v : V} {d : D} {σ : St} {g : Env} {O1 O2 O : List Addr} : Ow K cls F H v d O1 → Sts K cls F H σ g O2 → (∀ a ∈ O1, a ∉ O2) → O = O1 ++ O2 → Sts K cls F H (some v :: σ) (d :: g) O

def Fresh (H : Hp) (O : List Addr) : Prop := ∀ a ∈ O, H a = none

structure Ext (F H F' H' : Hp) : Prop where
  ff : Same F F'
  hh : Same H H'
  fh : Same F' H'
  ow : ∀ a, F a = none → H a ≠ none → F' a = none

structure SExt (F H : Hp) (O : List Addr) (F' H' : Hp) (O' : List Addr) : Prop where
  ff : Same F F'
  fh : Same F' H'
  fr : ∀ a o, H a = some o → a ∉ O → H' a = some o
  ow : ∀ a, F a = none → H a ≠ none → a ∉ O → F' a = none
  oo : ∀ a ∈ O', a ∈ O ∨ H a = none

section
variable {K : PySem.W.Frag} {cls : Cls} {F H F' H' F'' H'' : Hp} {O O' O'' : List Addr}

theorem Ext.refl (s : Same F H) : Ext F H F H := ⟨.refl F, .refl H, s, fun _ h _ => h⟩
theorem Ext.trans (x : Ext F H F' H') (y : Ext F' H' F'' H'') : Ext F H F'' H'' :=
  ⟨x.ff.trans y.ff, x.hh.trans y.hh, y.fh, fun a h1 h2 => y.ow a (x.ow a h1 h2) (fun e => by
    cases q : H a with
    | none => exact h2 q
    | some o => rw [x.hh a o q] at e; cases e)⟩
theorem Ext.some (x : Ext F H F' H') {a : Addr} (h : H a ≠ none) : H' a ≠ none := fun e => by
  cases q : H a with
  | none => exact h q
  | some o => rw [x.hh a o q] at e; cases e
theorem Ext.fresh (x : Ext F H F' H') (h : Fresh H' O) : Fresh H O := fun a ha => x.hh.free (h a ha)
theorem Fresh.mono (s : Same H H') (h : Fresh H' O) : Fresh H O := fun a ha => s.free (h a ha)
theorem Fresh.nil : Fresh H [] := fun _ h => nomatch h
theorem SExt.refl (s : Same F H) : SExt F H O F H O := ⟨.refl F, s, fun _ _ h _ => h, fun _ h _ _ => h, fun _ h => .inl h⟩
theorem SExt.trans (x : SExt F H O F' H' O') (y : SExt F' H' O' F'' H'' O'') : SExt F H O F'' H'' O'' := by
  have no : ∀ a o, H a = .some o → a ∉ O → a ∉ O' := fun a o h n h' => by
    rcases x.oo a h' with e | e
    · exact n e
    · rw [h] at e; cases e
  have ne : ∀ a, H a ≠ none → ∃ o, H a = .some o := fun a h => by
    cases q : H a with
    | none => exact (h q).elim
    | some o => exact ⟨o, rfl⟩
  refine ⟨x.ff.trans y.ff, y.fh, fun a o h n => y.fr a o (x.fr a o h n) (no a o h n), fun a h1 h2 n => ?_, fun a h => ?_⟩
  · obtain ⟨o, q⟩ := ne a h2
    exact y.ow a (x.ow a h1 h2 n) (by rw [x.fr a o q n]; exact fun e => nomatch e) (no a o q n)
  · rcases y.oo a h with e | e
    · exact x.oo a e
    · cases q : H a with
      | none => exact .inr rfl
      | some o =>
        by_cases n : a ∈ O
        · exact .inl n
        · rw [x.fr a o q n] at e; cases e
theorem Ext.sext (x : Ext F H F' H') (h : ∀ a ∈ O', a ∈ O ∨ H a = none) : SExt F H O F' H' O' := ⟨x.ff, x.fh, fun a o e _ => x.hh a o e, fun a h1 h2 _ => x.ow a h1 h2, h⟩
theorem SExt.ext (x : SExt F H [] F' H' O') : Ext F H F' H' := ⟨x.ff, fun a o e => x.fr a o e (by simp), x.fh, fun a h1 h2 => x.ow a h1 h2 (by simp)⟩

mutual
theorem Rp.mono (s : Same F F') : ∀ {v : V} {d : D}, Rp K cls F v d → Rp K cls F' v d
  | _, _, .non => .non
  | _, _, .bl b => .bl b
  | _, _, .int i => .int i
  | _, _, .str x => .str x
  | _, _, .rf x => .rf x
  | _, _, .sc h r => .sc (s.seq h) (Rps.mono s r)
  | _, _, .ls h r => .ls (s _ _ h) (Rps.mono s r)
  | _, _, .tp h r => .tp (by
      rcases h with (h | ⟨o, h⟩) | h
      · exact .inl (.inl (s _ _ h))
      · exact .inl (.inr ⟨o, s _ _ h⟩)
      · exact .inr h) (Rps.mono s r)
  | _, _, .ob c h l r => .ob c (s _ _ h) l (Rps.mono s r)
theorem Rps.mono (s : Same F F') : ∀ {v : List V} {d : List D}, Rps K cls F v d → Rps K cls F' v d
  | _, _, .nil => .nil
  | _, _, .cons h r => .cons (Rp.mono s h) (Rps.mono s r)
end
mutual
theorem Ow.frame (s : Same F F') : ∀ {v : V} {d : D} {O : List Addr}, Ow K cls F H v d O → (∀ a ∈ O, H' a = H a ∧ F' a = none) → Ow K cls F' H' v d O
  | _, _, _, .sh r, _ => .sh (r.mono s)
  | _, _, _, .ol h1 h2 h3 r, k => .ol (k _ (by simp)).2 ((k _ (by simp)).1.trans h2) h3 (Ows.frame s r fun a ha => k a (by simp [ha]))
  | _, _, _, .od h1 h2 hl h3 r, k => .od (k _ (by simp)).2 ((k _ (by simp)).1.trans h2) hl h3 (Ows.frame s r fun a ha => k a (by simp [ha]))
  | _, _, _, .oo ho hc h1 h2 hl h3 r, k => .oo ho hc (k _ (by simp)).2 ((k _ (by simp)).1.trans h2) hl h3 (Ows.frame s r fun a ha => k a (by simp [ha]))
theorem Ows.frame (s : Same F F') : ∀ {v : List V} {d : List D} {O : List Addr}, Ows K cls F H v d O → (∀ a ∈ O, H' a = H a ∧ F' a = none) → Ows K cls F' H' v d O
  | _, _, _, .nil, _ => .nil
  | _, _, _, .cons h r dj e, k => .cons (Ow.frame s h fun a ha => k a (by simp [e, ha])) (Ows.frame s r fun a ha => k a (by simp [e, ha])) dj e
end
mutual
theorem Ow.dom : ∀ {v : V} {d : D} {O : List Addr}, Ow K cls F H v d O → ∀ a ∈ O, F a = none ∧ H a ≠ none
  | _, _, _, .sh r, _, h => nomatch h
  | _, _, _, .ol h1 h2 h3 r, a, h => by
    rcases List.mem_cons.mp h with rfl | h
    · exact ⟨h1, by rw [h2]; exact fun e => nomatch e⟩
    · exact Ows.dom r a h
  | _, _, _, .od h1 h2 hl h3 r, a, h => by
    rcases List.mem_cons.mp h with rfl | h
    · exact ⟨h1, by rw [h2]; exact fun e => nomatch e⟩
    · exact Ows.dom r a h
  | _, _, _, .oo ho hc h1 h2 hl h3 r, a, h => by
    rcases List.mem_cons.mp h with rfl | h
    · exact ⟨h1, by rw [h2]; exact fun e => nomatch e⟩
    · exact Ows.dom r a h
theorem Ows.dom : ∀ {v : List V} {d : List D} {O : List Addr}, Ows K cls F H v d O → ∀ a ∈ O, F a = none ∧ H a ≠ none
  | _, _, _, .nil, _, h => nomatch h
  | _, _, _, .cons h r dj e, a, ha => by
    rw [e] at ha
    rcases List.mem_append.mp ha with q | q
    · exact Ow.dom h a q
    · exact Ows.dom r a q
end
theorem Ext.get (x : Ext F H F' H') {a : Addr} (h1 : F a = none) (h2 : H a ≠ none) : H' a = H a ∧ F' a = none := by
  refine ⟨?_, x.ow a h1 h2⟩
  cases q : H a with
  | none => exact (h2 q).elim
  | some o => exact x.hh a o q
theorem Ow.ext (x : Ext F H F' H') {v : V} {d : D} (h : Ow K cls F H v d O) : Ow K cls F' H' v d O :=
  h.frame x.ff fun a ha => x.get (h.dom a ha).1 (h.dom a ha).2
theorem Ows.ext (x : Ext F H F' H') {v : List V} {d : List D} (h : Ows K cls F H v d O) : Ows K cls F' H' v d O :=
  h.frame x.ff fun a ha => x.get (h.dom a ha).1 (h.dom a ha).2
mutual
theorem Bo.ext (x : Ext F H F' H') : ∀ {v : V} {d : D}, Bo K cls F H v d → Bo K cls F' H' v d
  | _, _, .sh r => .sh (r.mono x.ff)
  | _, _, .bo h r => .bo (x.hh _ _ h) (Bos.ext x r)
  | _, _, .bd h l r => .bd (x.hh _ _ h) l (Bos.ext x r)
  | _, _, .bb hc h l r => .bb hc (x.hh _ _ h) l (Bos.ext x r)
theorem Bos.ext (x : Ext F H F' H') : ∀ {v : List V} {d : List D}, Bos K cls F H v d → Bos K cls F' H' v d
  | _, _, .nil => .nil
  | _, _, .cons h r => .cons (Bo.ext x h) (Bos.ext x r)
end
theorem Tm.ext (x : Ext F H F' H') {v : V} {d : D} (h : Tm K cls F H v d O) : Tm K cls F' H' v d O := by
  rcases h with h | ⟨h, e⟩
  · exact .inl (h.ext x)
  · exact .inr ⟨h.ext x, e⟩
theorem Sts.dom : ∀ {σ : St} {g : Env} {O : List Addr}, Sts K cls F H σ g O → ∀ a ∈ O, F a = none ∧ H a ≠ none
  | _, _, _, .nil, _, h => nomatch h
  | _, _, _, .un r, a, h => r.dom a h
  | _, _, _, .cons h r dj e, a, ha => by
    rw [e] at ha
    rcases List.mem_append.mp ha with q | q
    · exact Ow.dom h a q
    · exact Sts.dom r a q
theorem Sts.frame (s : Same F F') : ∀ {σ : St} {g : Env} {O : List Addr}, Sts K cls F H σ g O → (∀ a ∈ O, H' a = H a ∧ F' a = none) → Sts K cls F' H' σ g O
  | _, _, _, .nil, _ => .nil
  | _, _, _, .un r, k => .un (r.frame s k)
  | _, _, _, .cons h r dj e, k => .cons (h.frame s fun a ha => k a (by simp [e, ha])) (r.frame s fun a ha => k a (by simp [e, ha])) dj e
theorem Sts.ext (x : Ext F H F' H') {σ : St} {g : Env} (h : Sts K cls F H σ g O) : Sts K cls F' H' σ g O :=
  h.frame x.ff fun a ha => x.get (h.dom a ha).1 (h.dom a ha).2
theorem Sts.len : ∀ {σ : St} {g : Env} {O : List Addr}, Sts K cls F H σ g O → σ.length = g.length
  | _, _, _, .nil => rfl
  | _, _, _, .un r => by simp [r.len]
  | _, _, _, .cons h r dj e => by simp [r.len]

theorem Sts.at : ∀ {σ : St} {g : Env} {O : List Addr} (i : Nat), Sts K cls F H σ g O → i < g.length → ∃ O1 : List Addr, (∀ a ∈ O1, a ∈ O) ∧
    (g[i]? = some .un ∧ O1 = [] ∨ ∃ v d, σ[i]? = some (some v) ∧ g[i]? = some d ∧ Ow K cls F H v d O1) ∧
    (∀ (F' H' : Hp) (v' : V) (d' : D) (O1' : List Addr), (∀ b ∈ O, b ∉ O1 → H' b = H b ∧ F' b = none) → Same F F' → Ow K cls F' H' v' d' O1' → (∀ a ∈ O1', a ∈ O → a ∈ O1) →
      ∃ O'', Sts K cls F' H' (σ.set i (some v')) (g.set i d') O'' ∧ ∀ a ∈ O'', a ∈ O ∨ a ∈ O1') ∧
    (∀ (F' H' : Hp) (o : Option V), (∀ b ∈ O, b ∉ O1 → H' b = H b ∧ F' b = none) → Same F F' →
      ∃ O'', Sts K cls F' H' (σ.set i o) (g.set i .un) O'' ∧ (∀ a ∈ O'', a ∈ O) ∧ ∀ a ∈ O'', a ∉ O1)
  | _, _, _, i, .nil, h => absurd h (Nat.not_lt_zero i)
  | _, _, _, 0, .un (o := o) (O := O) r, _ => by
    refine ⟨[], fun _ h => (nomatch h), .inl ⟨rfl, rfl⟩, fun F' H' v' d' O1' k s w dj => ⟨O1' ++ O, ?_, fun a ha => ?_⟩, fun F' H' o' k s => ⟨O, ?_, fun _ h => h, fun _ _ h => (nomatch h)⟩⟩
    · exact .cons w (r.frame s fun a ha => k a ha (by simp)) (fun a h1 h2 => (nomatch (dj a h1 h2))) rfl
    · rcases List.mem_append.mp ha with q | q
      · exact .inr q
      · exact .inl q
    · exact .un (r.frame s fun a ha => k a ha (by simp))
  | _, _, _, 0, .cons (v := v) (d := d) (O1 := O1) (O2 := O2) h r dj e, _ => by
    subst e
    refine ⟨O1, fun a h => List.mem_append_left _ h, .inr ⟨v, d, rfl, rfl, h⟩, fun F' H' v' d' O1' k s w dj' => ⟨O1' ++ O2, ?_, fun a ha => ?_⟩, fun F' H' o' k s => ⟨O2, ?_, fun a h => List.mem_append_right _ h, fun a h1 h2 => dj a h2 h1⟩⟩
    · refine .cons w (r.frame s fun a ha => k a (List.mem_append_right _ ha) fun q => dj a q ha) (fun a h1 h2 => ?_) rfl
      exact dj a (dj' a h1 (List.mem_append_right _ h2)) h2
    · rcases List.mem_append.mp ha with q | q
      · exact .inr q
      · exact .inl (List.mem_append_right _ q)
    · exact .un (r.frame s fun a ha => k a (List.mem_append_right _ ha) fun q => dj a q ha)
  | _, _, _, i + 1, .un (o := o) (O := O) r, hi => by
    obtain ⟨O1, h1, h2, h3, h4⟩ := r.at i (Nat.lt_of_succ_lt_succ hi)
    refine ⟨O1, h1, by simpa using h2, fun F' H' v' d' O1' k s w dj => ?_, fun F' H' o' k s => ?_⟩
    · obtain ⟨O'', q1, q2⟩ := h3 F' H' v' d' O1' k s w dj
      exact ⟨O'', .un q1, q2⟩
    · obtain ⟨O'', q1, q2⟩ := h4 F' H' o' k s
      exact ⟨O'', .un q1, q2⟩
  | _, _, _, i + 1, .cons (v := v) (d := d) (O1 := P1) (O2 := P2) h r dj e, hi => by
    subst e
    obtain ⟨O1, h1, h2, h3, h4⟩ := r.at i (Nat.lt_of_succ_lt_succ hi)
    have n1 : ∀ a ∈ P1, a ∉ O1 := fun a q q' => dj a q (h1 a q')
    refine ⟨O1, fun a q => List.mem_append_right _ (h1 a q), by simpa using h2, fun F' H' v' d' O1' k s w dj' => ?_, fun F' H' o' k s => ?_⟩
    · obtain ⟨O'', q1, q2⟩ := h3 F' H' v' d' O1' (fun b hb => k b (List.mem_append_right _ hb)) s w fun a q q' => dj' a q (List.mem_append_right _ q')
      refine ⟨P1 ++ O'', .cons (h.frame s fun a ha => k a (List.mem_append_left _ ha) (n1 a ha)) q1 (fun a ha hb => ?_) rfl, fun a ha => ?_⟩
      · rcases q2 a hb with z | z
        · exact dj a ha z
        · exact n1 a ha (dj' a z (List.mem_append_left _ ha))
      · rcases List.mem_append.mp ha with z | z
        · exact .inl (List.mem_append_left _ z)
        · rcases q2 a z with z | z
          · exact .inl (List.mem_append_right _ z)
          · exact .inr z
    · obtain ⟨O'', q1, q2, q3⟩ := h4 F' H' o' (fun b hb => k b (List.mem_append_right _ hb)) s
      refine ⟨P1 ++ O'', .cons (h.frame s fun a ha => k a (List.mem_append_left _ ha) (n1 a ha)) q1 (fun a ha hb => dj a ha (q2 a hb)) rfl, fun a ha => ?_, fun a ha hb => ?_⟩
      · rcases List.mem_append.mp ha with z | z
        · exact List.mem_append_left _ z
        · exact List.mem_append_right _ (q2 a z)
      · rcases List.mem_append.mp ha with z | z
        · exact n1 a z hb
        · exact q3 a z hb

mutual
/-- a value all of whose lists are shared from now on -/
def frz : D → D
  | .ol xs => .ls (frzs xs)
  | .oo _ c xs => .ob c (frzs xs)
  | d => d
def frzs : List D → List D
  | [] => []
  | d :: ds => frz d :: frzs ds
end
mutual
/-- how an owned value is read -/
def brw : D → D
  | .ol xs => .bo (brws xs)
  | .od ks xs => .bd ks (brws xs)
  | .oo _ c xs => .bb c (brws xs)
  | d => d
def brws : List D → List D
  | [] => []
  | d :: ds => brw d :: brws ds
end
mutual
/-- a borrowed value as plain data -/
def pln : D → D
  | .bo xs => .ls (plns xs)
  | .bb c xs => .ob c (plns xs)
  | d => d
def plns : List D → List D
  | [] => []
  | d :: ds => pln d :: plns ds
end
mutual
theorem Ow.brw (s : Same F H) : ∀ {v : V} {d : D} {O : List Addr}, Ow K cls F H v d O → Bo K cls F H v (brw d)
  | _, _, _, .sh r => by cases r <;> exact .sh (by first | assumption | constructor <;> assumption | constructor)
  | _, _, _, .ol h1 h2 h3 r => .bo h2 (Ows.brws s r)
  | _, _, _, .od h1 h2 hl h3 r => .bd h2 hl (Ows.brws s r)
  | _, _, _, .oo ho hc h1 h2 hl h3 r => .bb hc h2 hl (Ows.brws s r)
theorem Ows.brws (s : Same F H) : ∀ {v : List V} {d : List D} {O : List Addr}, Ows K cls F H v d O → Bos K cls F H v (brws d)
  | _, _, _, .nil => .nil
  | _, _, _, .cons h r _ _ => .cons (Ow.brw s h) (Ows.brws s r)
end
end
end DL

namespace DL
open PySem L2

def Res.bind {α β : Type} (r : Res α) (f : α → Res β) : Res β := match r with
  | .ok a => f a
  | .xc c => .xc c
  | .bad => .bad
@[simp] theorem Res.bind_ok {α β : Type} (a : α) (f : α → Res β) : (Res.ok a).bind f = f a := rfl
@[simp] theorem Res.bind_xc {α β : Type} (c : Nat) (f : α → Res β) : (Res.xc c : Res α).bind f = .xc c := rfl
@[simp] theorem Res.bind_bad {α β : Type} (f : α → Res β) : (Res.bad : Res α).bind f = .bad := rfl
def Res.of {α : Type} : Option α → Res α
  | some a => .ok a
  | none => .bad
@[simp] theorem Res.of_some {α : Type} (a : α) : Res.of (some a) = .ok a := rfl
@[simp] theorem Res.of_none {α : Type} : Res.of (none : Option α) = .bad := rfl

mutual
@[simp] def nod : D → Bool
  | .od _ _ => false
  | .ol xs => nods xs
  | .oo _ _ xs => nods xs
  | _ => true
@[simp] def nods : List D → Bool
  | [] => true
  | d :: ds => nod d && nods ds
end
section
variable {K : PySem.W.Frag} {cls : Cls} {F H F' H' F'' H'' : Hp} {O O' O'' : List Addr}
mutual
theorem Ow.freeze (s : Same F F') : ∀ {v : V} {d : D} {O : List Addr}, Ow K cls F H v d O → (∀ a ∈ O, F' a = H a) → nod d = true → Rp K cls F' v (frz d)
  | _, d, _, .sh r, _, _ => by
    have r' := r.mono s
    cases r <;> (simp only [frz]; exact r')
  | _, _, _, .ol (ds := ds) h1 h2 h3 r, k, n => by
    simp only [frz]
    exact .ls ((k _ (by simp)).trans h2) (Ows.freeze s r (fun a ha => k a (by simp [ha])) (by simpa using n))
  | _, _, _, .od h1 h2 hl h3 r, k, n => by simp at n
  | _, _, _, .oo (ds := ds) ho hc h1 h2 hl h3 r, k, n => by
    simp only [frz]
    exact .ob hc ((k _ (by simp)).trans h2) hl (Ows.freeze s r (fun a ha => k a (by simp [ha])) (by simpa using n))
theorem Ows.freeze (s : Same F F') : ∀ {v : List V} {d : List D} {O : List Addr}, Ows K cls F H v d O → (∀ a ∈ O, F' a = H a) → nods d = true → Rps K cls F' v (frzs d)
  | _, _, _, .nil, _, _ => .nil
  | _, _, _, .cons h r dj e, k, n => by
    simp only [nods, Bool.and_eq_true] at n
    simp only [frzs]
    exact .cons (Ow.freeze s h (fun a ha => k a (by simp [e, ha])) n.1) (Ows.freeze s r (fun a ha => k a (by simp [e, ha])) n.2)
end
def addF (F H : Hp) (O : List Addr) : Hp := fun a => if a ∈ O then H a else F a
theorem addF_ext {F0 H0 : Hp} (x : Ext F0 H0 F H) (f : Fresh H0 O) (n : ∀ a ∈ O, F a = none) : Ext F0 H0 (addF F H O) H := by
  have s1 : Same F (addF F H O) := fun a o e => by
    unfold addF
    split
    · rename_i q; rw [n a q] at e; cases e
    · exact e
  refine ⟨x.ff.trans s1, x.hh, fun a o e => ?_, fun a h1 h2 => ?_⟩
  · unfold addF at e
    split at e
    · exact e
    · exact x.fh a o e
  · unfold addF
    rw [if_neg (fun q => h2 (f a q))]
    exact x.ow a h1 h2
theorem addF_same (n : ∀ a ∈ O, F a = none) : Same F (addF F H O) := fun a o e => by
  unfold addF
  split
  · rename_i q; rw [n a q] at e; cases e
  · exact e
theorem addF_at : ∀ a ∈ O, addF F H O a = H a := fun a h => by unfold addF; rw [if_pos h]
theorem addF_no {a : Addr} (h : a ∉ O) : addF F H O a = F a := by unfold addF; rw [if_neg h]

def opd (d : D) : D := if nod d = true then frz d else brw d
theorem Rp.opd {v : V} {d : D} (r : Rp K cls F v d) : opd d = d := by cases r <;> rfl
theorem Bo.opd {v : V} {d : D} (r : Bo K cls F H v d) : opd d = d := by
  cases r with
  | sh r => exact r.opd
  | bo => rfl
  | bd => rfl
  | bb => rfl
@[simp] theorem opd_un : opd .un = .un := rfl
@[simp] theorem opd_non : opd .non = .non := rfl
@[simp] theorem opd_bl {b} : opd (.bl b) = .bl b := rfl
@[simp] theorem opd_int {b} : opd (.int b) = .int b := rfl
@[simp] theorem opd_str {b} : opd (.str b) = .str b := rfl
@[simp] theorem opd_sc {b} : opd (.sc b) = .sc b := rfl
@[simp] theorem opd_ls {b} : opd (.ls b) = .ls b := rfl
@[simp] theorem opd_tp {b} : opd (.tp b) = .tp b := rfl
@[simp] theorem opd_ob {c b} : opd (.ob c b) = .ob c b := rfl
@[simp] theorem opd_bo {b} : opd (.bo b) = .bo b := rfl
@[simp] theorem opd_bd {c b} : opd (.bd c b) = .bd c b := rfl
@[simp] theorem opd_od {c b} : opd (.od c b) = .bd c (brws b) := rfl
@[simp] theorem opd_rf {b} : opd (.rf b) = .rf b := rfl
@[simp] theorem opd_bb {c b} : opd (.bb c b) = .bb c b := rfl
@[simp] theorem opd_oo {o c b} : opd (.oo o c b) = if nods b = true then .ob c (frzs b) else .bb c (brws b) := rfl
@[simp] theorem opd_ol {b} : opd (.ol b) = if nods b = true then .ls (frzs b) else .bo (brws b) := by
  rfl
theorem Tm.operand {F0 H0 : Hp} {v : V} {d : D} (x : Ext F0 H0 F H) (f : Fresh H0 O) (t : Tm K cls F H v d O) : ∃ F', Ext F0 H0 F' H ∧ Same F F' ∧ (∀ a, a ∉ O → F' a = F a) ∧ Bo K cls F' H v (opd d) := by
  rcases t with t | ⟨t, e⟩
  · by_cases n : nod d = true
    · refine ⟨addF F H O, addF_ext x f fun a ha => (t.dom a ha).1, addF_same fun a ha => (t.dom a ha).1, fun a ha => addF_no ha, ?_⟩
      unfold DL.opd
      rw [if_pos n]
      exact .sh (t.freeze (addF_same fun a ha => (t.dom a ha).1) addF_at n)
    · refine ⟨F, x, .refl F, fun _ _ => rfl, ?_⟩
      unfold DL.opd
      rw [if_neg n]
      exact t.brw x.fh
  · refine ⟨F, x, .refl F, fun _ _ => rfl, ?_⟩
    rw [t.opd]
    exact t

@[simp] def kp : D → Res D
  | .bo _ => .bad
  | .bd _ _ => .bad
  | .bb _ _ => .bad
  | d => .ok d
theorem Tm.keep {v : V} {d d' : D} (t : Tm K cls F H v d O) (e : kp d = .ok d') : Ow K cls F H v d' O := by
  rcases t with t | ⟨t, rfl⟩
  · have : d' = d := by
      cases t with
      | sh r => cases r <;> (simp at e; exact e.symm)
      | ol => simp at e; exact e.symm
      | od => simp at e; exact e.symm
      | oo => simp at e; exact e.symm
    rw [this]; exact t
  · cases t with
    | sh r =>
      have : d' = d := by cases r <;> (simp at e; exact e.symm)
      rw [this]; exact .sh r
    | bo => simp at e
    | bd => simp at e
    | bb => simp at e

def PostE (K : PySem.W.Frag) (cls : Cls) (W : WX) (σ : St) (F H : Hp) (Q : VK) : Res D → Prop
  | .ok d => ∀ v F' H' O', Ext F H F' H' → Fresh H O' → Tm K cls F' H' v d O' → Q v H'
  | .xc c => ∀ F' H', Ext F H F' H' → W (excV cls c) none σ H'
  | .bad => False
def PostB (K : PySem.W.Frag) (cls : Cls) (W : WX) (σ : St) (F H : Hp) (Q : VK) : Res D → Prop
  | .ok d => ∀ v F' H', Ext F H F' H' → Bo K cls F' H' v d → Q v H'
  | .xc c => ∀ F' H', Ext F H F' H' → W (excV cls c) none σ H'
  | .bad => False
def PostO (K : PySem.W.Frag) (cls : Cls) (W : WX) (σ : St) (F H : Hp) (Q : VK) : Res D → Prop
  | .ok d => ∀ v F' H' O', Ext F H F' H' → Fresh H O' → Ow K cls F' H' v d O' → Q v H'
  | .xc c => ∀ F' H', Ext F H F' H' → W (excV cls c) none σ H'
  | .bad => False
def PostT (cls : Cls) (W : WX) (σ : St) (F H : Hp) (Q : Bool → Hp → Prop) : Res Bool → Prop
  | .ok b => ∀ F' H', Ext F H F' H' → Q b H'
  | .xc c => ∀ F' H', Ext F H F' H' → W (excV cls c) none σ H'
  | .bad => False
def PostA (K : PySem.W.Frag) (cls : Cls) (W : WX) (σ : St) (F H : Hp) (Q : List V → Hp → Prop) : Res (List D) → Prop
  | .ok d => ∀ v F' H', Ext F H F' H' → Bos K cls F' H' v d → Q v H'
  | .xc c => ∀ F' H', Ext F H F' H' → W (excV cls c) none σ H'
  | .bad => False
def PostAO (K : PySem.W.Frag) (cls : Cls) (W : WX) (σ : St) (F H : Hp) (Q : List V → Hp → Prop) : Res (List D) → Prop
  | .ok d => ∀ v F' H' O', Ext F H F' H' → Fresh H O' → Ows K cls F' H' v d O' → Q v H'
  | .xc c => ∀ F' H', Ext F H F' H' → W (excV cls c) none σ H'
  | .bad => False
def DE (K : PySem.W.Frag) (cls : Cls) (W : WX) (t : TE) (f : Env → Res D) : Prop :=
  ∀ σ F H g O Q, Same F H → Sts K cls F H σ g O → PostE K cls W σ F H Q (f g) → t σ H Q
def DB (K : PySem.W.Frag) (cls : Cls) (W : WX) (t : TE) (f : Env → Res D) : Prop :=
  ∀ σ F H g O Q, Same F H → Sts K cls F H σ g O → PostB K cls W σ F H Q (f g) → t σ H Q
def DO (K : PySem.W.Frag) (cls : Cls) (W : WX) (t : TE) (f : Env → Res D) : Prop :=
  ∀ σ F H g O Q, Same F H → Sts K cls F H σ g O → PostO K cls W σ F H Q (f g) → t σ H Q
def DT (K : PySem.W.Frag) (cls : Cls) (W : WX) (t : TT) (f : Env → Res Bool) : Prop :=
  ∀ σ F H g O Q, Same F H → Sts K cls F H σ g O → PostT cls W σ F H Q (f g) → t σ H Q
def DA (K : PySem.W.Frag) (cls : Cls) (W : WX) (t : TA) (f : Env → Res (List D)) : Prop :=
  ∀ σ F H g O Q, Same F H → Sts K cls F H σ g O → PostA K cls W σ F H Q (f g) → t σ H Q
def DAO (K : PySem.W.Frag) (cls : Cls) (W : WX) (t : TA) (f : Env → Res (List D)) : Prop :=
  ∀ σ F H g O Q, Same F H → Sts K cls F H σ g O → PostAO K cls W σ F H Q (f g) → t σ H Q

def bF (f : Env → Res D) : Env → Res D := fun g => (f g).bind fun d => .ok (opd d)
def oF (f : Env → Res D) : Env → Res D := fun g => (f g).bind kp
section
variable {f : Env → Res D} {g : Env}
theorem bF_ok {d : D} (e : f g = .ok d) : bF f g = .ok (opd d) := by unfold bF; rw [e]; rfl
theorem bF_xc {d : Nat} (e : f g = .xc d) : bF f g = .xc d := by unfold bF; rw [e]; rfl
theorem bF_bad (e : f g = .bad) : bF f g = .bad := by unfold bF; rw [e]; rfl
theorem oF_ok {d : D} (e : f g = .ok d) : oF f g = kp d := by unfold oF; rw [e]; rfl
theorem oF_xc {d : Nat} (e : f g = .xc d) : oF f g = .xc d := by unfold oF; rw [e]; rfl
theorem oF_bad (e : f g = .bad) : oF f g = .bad := by unfold oF; rw [e]; rfl
end
theorem kp_ok {d : D} : kp d = .ok d ∨ kp d = .bad := by cases d <;> simp
theorem DE.toB {W : WX} {t : TE} {f : Env → Res D} (h : DE K cls W t f) : DB K cls W t (bF f) := by
  intro σ F H g O Q s st p
  refine h σ F H g O Q s st ?_
  cases e : f g with
  | ok d =>
    rw [bF_ok e] at p
    intro v F' H' O' x fr tm
    obtain ⟨F2, x2, _, _, b⟩ := tm.operand x fr
    exact p v F2 H' x2 b
  | xc c => rw [bF_xc e] at p; exact p
  | bad => rw [bF_bad e] at p; exact p
theorem DE.toO {W : WX} {t : TE} {f : Env → Res D} (h : DE K cls W t f) : DO K cls W t (oF f) := by
  intro σ F H g O Q s st p
  refine h σ F H g O Q s st ?_
  cases e : f g with
  | ok d =>
    rw [oF_ok e] at p
    intro v F' H' O' x fr tm
    rcases kp_ok (d := d) with e2 | e2
    · rw [e2] at p; exact p v F' H' O' x fr (tm.keep e2)
    · rw [e2] at p; exact p.elim
  | xc c => rw [oF_xc e] at p; exact p
  | bad => rw [oF_bad e] at p; exact p

theorem PostE.mono {W : WX} {σ : St} {F H F1 H1 : Hp} {Q : VK} {r : Res D} (x : Ext F H F1 H1) (p : PostE K cls W σ F H Q r) : PostE K cls W σ F1 H1 Q r := by
  cases r with
  | ok d => exact fun v F' H' O' y fr tm => p v F' H' O' (x.trans y) (fr.mono x.hh) tm
  | xc c => exact fun F' H' y => p F' H' (x.trans y)
  | bad => exact p
theorem PostT.mono {W : WX} {σ : St} {F H F1 H1 : Hp} {Q : Bool → Hp → Prop} {r : Res Bool} (x : Ext F H F1 H1) (p : PostT cls W σ F H Q r) : PostT cls W σ F1 H1 Q r := by
  cases r with
  | ok d => exact fun F' H' y => p F' H' (x.trans y)
  | xc c => exact fun F' H' y => p F' H' (x.trans y)
  | bad => exact p
theorem PostA.mono {W : WX} {σ : St} {F H F1 H1 : Hp} {Q : List V → Hp → Prop} {r : Res (List D)} (x : Ext F H F1 H1) (p : PostA K cls W σ F H Q r) : PostA K cls W σ F1 H1 Q r := by
  cases r with
  | ok d => exact fun v F' H' y tm => p v F' H' (x.trans y) tm
  | xc c => exact fun F' H' y => p F' H' (x.trans y)
  | bad => exact p
theorem PostAO.mono {W : WX} {σ : St} {F H F1 H1 : Hp} {Q : List V → Hp → Prop} {r : Res (List D)} (x : Ext F H F1 H1) (p : PostAO K cls W σ F H Q r) : PostAO K cls W σ F1 H1 Q r := by
  cases r with
  | ok d => exact fun v F' H' O' y fr tm => p v F' H' O' (x.trans y) (fr.mono x.hh) tm
  | xc c => exact fun F' H' y => p F' H' (x.trans y)
  | bad => exact p

structure JE (X : Cx) (cls : Cls) (W : WX) (e : Expr) (f : Env → Res D) : Prop where
  ex : ∃ t, PE X e t ∧ DE X.K cls W t f
structure JT (X : Cx) (cls : Cls) (W : WX) (e : Expr) (f : Env → Res Bool) : Prop where
  ex : ∃ t, PT X e t ∧ DT X.K cls W t f
structure JW (X : Cx) (cls : Cls) (W : WX) (e : Expr) (f : Env → Res Bool) : Prop where
  ex : ∃ t, PW X e t ∧ DT X.K cls W t f
structure JA (X : Cx) (cls : Cls) (W : WX) (e : List Expr) (f : Env → Res (List D)) : Prop where
  ex : ∃ t, PA X e t ∧ DA X.K cls W t f
structure JAO (X : Cx) (cls : Cls) (W : WX) (e : List Expr) (f : Env → Res (List D)) : Prop where
  ex : ∃ t, PA X e t ∧ DAO X.K cls W t f
end

section
variable {X : Cx} {cls : Cls} {W : WX} {a b c : Expr} {es : List Expr} {fa fb fc : Env → Res D} {fs : Env → Res (List D)} {pos : Pos}
@[simp] def gv (g : Env) (i : Nat) : Res D := match g[i]? with
  | some .un => .bad
  | some d => .ok (brw d)
  | none => .bad
def eVar (i : Nat) : Env → Res D := fun g => gv g i
@[simp] theorem eVar_ (i : Nat) (g : Env) : eVar i g = gv g i := rfl
theorem de_var {K : PySem.W.Frag} (i : Nat) : DE K cls W (tVar i) (eVar i) := by
  intro σ F H g O Q s st p
  unfold eVar gv at p
  cases e : g[i]? with
  | none => rw [e] at p; exact p.elim
  | some d =>
    have hi : i < g.length := (List.getElem?_eq_some_iff.mp e).1
    obtain ⟨O1, h1, h2, _⟩ := st.at i hi
    rcases h2 with ⟨h2, _⟩ | ⟨v, d', h2, h3, ow⟩
    · rw [e] at h2; cases h2; rw [e] at p; exact p.elim
    · rw [e] at h3; cases h3
      refine ⟨v, h2, ?_⟩
      rw [e] at p
      have q : PostE K cls W σ F H Q (.ok (brw d)) := by
        cases d <;> first | exact p | exact p.elim
      exact q v F H [] (.refl s) Fresh.nil (.inr ⟨ow.brw s, rfl⟩)
theorem je_var (i : Nat) {x : Str} (hN : X.N[i]? = some x := by rfl) (hv : Vis X.env.scope x := by first | exact Or.inl rfl | exact Or.inr (Or.inl rfl) | exact Or.inr (Or.inr rfl)) (hd : (x == ("__debug__" : Str)) = false := by decide)
    (hcd : (x == ("__classdict__" : Str)) = false := by decide) : JE X cls W (.Name x pos) (eVar i) := ⟨_, pe_var hN hv hd hcd, de_var i⟩
def eC (d : D) : Env → Res D := fun _ => .ok d
@[simp] theorem eC_ (d : D) (g : Env) : eC d g = .ok d := rfl
theorem de_c {K : PySem.W.Frag} {v : V} {d : D} (h : ∀ F, Rp K cls F v d) : DE K cls W (tC v) (eC d) := by
  intro σ F H g O Q s st p
  exact p v F H [] (.refl s) Fresh.nil (.inl (.sh (h F)))
theorem je_int {i : Int} {j} : JE X cls W (.Constant (.int i) j pos) (eC (.int i)) := ⟨_, pe_int, de_c fun _ => .int i⟩
theorem je_bl {i : Bool} {j} : JE X cls W (.Constant (.bool i) j pos) (eC (.bl i)) := ⟨_, pe_bl, de_c fun _ => .bl i⟩
theorem je_non {j} : JE X cls W (.Constant .none j pos) (eC .non) := ⟨_, pe_non, de_c fun _ => .non⟩
theorem je_gint {x : Str} {i : Int} {t : Tok} (hm : X.mg x = some (.int i t)) (hg : Gl X x := by rfl) (hd : (x == ("__debug__" : Str)) = false := by decide) : JE X cls W (.Name x pos) (eC (.int i)) :=
  ⟨_, pe_glob (v := .int i) hg hm ⟨t, rfl⟩ hd, de_c fun _ => .int i⟩
def R2Ok (K : PySem.W.Frag) (cls : Cls) (r : R2) (op : D → D → Option D) : Prop :=
  ∀ F H x y a b d Q, Same F H → Bo K cls F H x a → Bo K cls F H y b → op a b = some d → (∀ v F' H' O', Ext F H F' H' → Fresh H O' → Tm K cls F' H' v d O' → Q v H') → r x y H Q
def eBin (op : D → D → Option D) (fa fb : Env → Res D) : Env → Res D := fun g => (fa g).bind fun a => (fb g).bind fun b => .of (op (opd a) (opd b))
@[simp] theorem eBin_ (op : D → D → Option D) (fa fb : Env → Res D) (g : Env) : eBin op fa fb g = (fa g).bind fun a => (fb g).bind fun b => .of (op (opd a) (opd b)) := rfl
theorem de_bin {K : PySem.W.Frag} {r : R2} {op : D → D → Option D} {ta tb : TE} (hr : R2Ok K cls r op) (ha : DE K cls W ta fa) (hb : DE K cls W tb fb) : DE K cls W (tOp r ta tb) (eBin op fa fb) := by
  intro σ F H g O Q s st p
  have e0 : eBin op fa fb g = (fa g).bind fun a => (fb g).bind fun b => .of (op (opd a) (opd b)) := rfl
  rw [e0] at p
  refine ha.toB σ F H g O _ s st ?_
  cases ea : fa g with
  | xc c => rw [ea] at p; rw [bF_xc ea]; exact p
  | bad => rw [ea] at p; exact p.elim
  | ok a =>
    rw [ea] at p
    rw [bF_ok ea]
    intro x F1 H1 x1 b1
    refine hb.toB σ F1 H1 g O _ x1.fh (st.ext x1) ?_
    simp only [Res.bind] at p
    cases eb : fb g with
    | xc c => rw [eb] at p; rw [bF_xc eb]; exact p.mono x1
    | bad => rw [eb] at p; exact p.elim
    | ok b =>
      rw [eb] at p
      rw [bF_ok eb]
      simp only [] at p
      intro y F2 H2 x2 b2
      cases eo : op (opd a) (opd b) with
      | none => rw [eo] at p; exact p.elim
      | some d =>
        rw [eo] at p
        exact hr F2 H2 x y _ _ d Q x2.fh (b1.ext x2) b2 eo fun v F' H' O' x3 fr tm => p v F' H' O' (x1.trans (x2.trans x3)) (fr.mono (x1.trans x2).hh) tm
theorem je_bin {o : Operator} {r : R2} {op : D → D → Option D} (ho : OpR X (binaryOp o) r) (hr : R2Ok X.K cls r op) (ha : JE X cls W a fa) (hb : JE X cls W b fb) : JE X cls W (.BinOp a o b pos) (eBin op fa fb) := by
  obtain ⟨ta, pa, da⟩ := ha.ex
  obtain ⟨tb, pb, db⟩ := hb.ex
  exact ⟨_, pe_op ho pa pb, de_bin hr da db⟩
def C2Ok (K : PySem.W.Frag) (cls : Cls) (r : R2) (op : D → D → Option Bool) : Prop :=
  ∀ F H x y a b d Q, Same F H → Bo K cls F H x a → Bo K cls F H y b → op a b = some d → Q (.bl d) H → r x y H Q
def tC2 (op : D → D → Option Bool) (fa fb : Env → Res D) : Env → Res Bool := fun g => (fa g).bind fun a => (fb g).bind fun b => .of (op (opd a) (opd b))
@[simp] theorem tC2_ (op : D → D → Option Bool) (fa fb : Env → Res D) (g : Env) : tC2 op fa fb g = (fa g).bind fun a => (fb g).bind fun b => .of (op (opd a) (opd b)) := rfl
def eB (f : Env → Res Bool) : Env → Res D := fun g => (f g).bind fun b => .ok (.bl b)
@[simp] theorem eB_ (f : Env → Res Bool) (g : Env) : eB f g = (f g).bind fun b => .ok (.bl b) := rfl
theorem de_c2 {K : PySem.W.Frag} {r : R2} {op : D → D → Option Bool} {ta tb : TE} (hr : C2Ok K cls r op) (ha : DE K cls W ta fa) (hb : DE K cls W tb fb) : DE K cls W (tOp r ta tb) (eB (tC2 op fa fb)) := by
  have h : R2Ok K cls r (fun a b => (op a b).map D.bl) := fun F H x y a b d Q s b1 b2 e q => by
    have e : (op a b).map D.bl = some d := e
    cases eo : op a b with
    | none => rw [eo] at e; cases e
    | some k =>
      rw [eo] at e
      cases e
      exact hr F H x y a b k Q s b1 b2 eo (q _ F H [] (.refl s) Fresh.nil (.inl (.sh (.bl k))))
  have q := de_bin (W := W) h ha hb
  have e : eBin (fun a b => (op a b).map D.bl) fa fb = eB (tC2 op fa fb) := by
    funext g
    unfold eBin eB tC2
    cases fa g with
    | ok a =>
      cases fb g with
      | ok b => simp only [Res.bind]; cases op (opd a) (opd b) <;> rfl
      | xc c => rfl
      | bad => rfl
    | xc c => rfl
    | bad => rfl
  rw [e] at q
  exact q
theorem dt_of {K : PySem.W.Frag} {t : TE} {f : Env → Res Bool} (h : DE K cls W t (eB f)) : DT K cls W (tTest t) f := by
  intro σ F H g O Q s st p
  refine h σ F H g O _ s st ?_
  unfold eB
  cases e : f g with
  | ok k =>
    rw [e] at p
    intro v F' H' O' x fr tm
    have : v = .bl k := by
      rcases tm with t | ⟨t, _⟩
      · cases t with
        | sh r => cases r; rfl
      · cases t with
        | sh r => cases r; rfl
    subst this
    exact ⟨k, rfl, p F' H' x⟩
  | xc c => rw [e] at p; exact p
  | bad => rw [e] at p; exact p
theorem je_cmp {o : CmpOp} {r : R2} {op : D → D → Option Bool} (ho : OpR X (compareOp o) r) (hr : C2Ok X.K cls r op) (ha : JE X cls W a fa) (hb : JE X cls W b fb) (hm : behindInMarks o b = false) : JE X cls W (.Compare a [o] [b] pos) (eB (tC2 op fa fb)) := by
  obtain ⟨ta, pa, da⟩ := ha.ex
  obtain ⟨tb, pb, db⟩ := hb.ex
  exact ⟨_, pe_cmpR ho pa pb hm, de_c2 hr da db⟩
theorem jt_cmp {o : CmpOp} {r : R2} {op : D → D → Option Bool} (ho : OpR X (compareOp o) r) (hr : C2Ok X.K cls r op) (ha : JE X cls W a fa) (hb : JE X cls W b fb) (hm : behindInMarks o b = false) : JT X cls W (.Compare a [o] [b] pos) (tC2 op fa fb) := by
  obtain ⟨ta, pa, da⟩ := ha.ex
  obtain ⟨tb, pb, db⟩ := hb.ex
  exact ⟨_, pt_cmpR ho pa pb hm, dt_of (de_c2 hr da db)⟩
end
end DL

namespace DL
open PySem L2
section
variable {K : PySem.W.Frag} {cls : Cls} {W : WX} {X : Cx} {a b c : Expr} {es : List Expr} {fa fb fc : Env → Res D} {ga gb : Env → Res Bool} {fs : Env → Res (List D)} {pos : Pos}
  {F H F1 H1 : Hp} {Q : VK} {σ : St}

def R1Ok (K : PySem.W.Frag) (cls : Cls) (r : V → Hp → VK → Prop) (op : D → Option D) : Prop :=
  ∀ F H x a d Q, Same F H → Bo K cls F H x a → op a = some d → (∀ v F' H' O', Ext F H F' H' → Fresh H O' → Tm K cls F' H' v d O' → Q v H') → r x H Q
def eUn (op : D → Option D) (fa : Env → Res D) : Env → Res D := fun g => (fa g).bind fun a => .of (op (opd a))
@[simp] theorem eUn_ (op : D → Option D) (fa : Env → Res D) (g : Env) : eUn op fa g = (fa g).bind fun a => .of (op (opd a)) := rfl
theorem de_un {r : V → Hp → VK → Prop} {op : D → Option D} {ta : TE} (hr : R1Ok K cls r op) (ha : DE K cls W ta fa) : DE K cls W (tUn r ta) (eUn op fa) := by
  intro σ F H g O Q s st p
  rw [eUn_] at p
  refine ha.toB σ F H g O _ s st ?_
  cases ea : fa g with
  | xc c => rw [ea] at p; rw [bF_xc ea]; exact p
  | bad => rw [ea] at p; exact p.elim
  | ok a =>
    rw [ea] at p
    rw [bF_ok ea]
    simp only [Res.bind] at p
    intro x F1 H1 x1 b1
    cases eo : op (opd a) with
    | none => rw [eo] at p; exact p.elim
    | some d =>
      rw [eo] at p
      exact hr F1 H1 x _ d Q x1.fh b1 eo fun v F' H' O' x3 fr tm => p v F' H' O' (x1.trans x3) (fr.mono x1.hh) tm
theorem je_un {o : UnaryOp} {r : V → Hp → VK → Prop} {op : D → Option D} (ho : UnR X (unaryOp o) r) (hr : R1Ok X.K cls r op) (ha : JE X cls W a fa) : JE X cls W (.UnaryOp o a pos) (eUn op fa) := by
  obtain ⟨ta, pa, da⟩ := ha.ex
  exact ⟨_, pe_un ho pa, de_un hr da⟩

def tru : D → Option Bool
  | .non => some false
  | .bl b => some b
  | .int i => some (i != 0)
  | .str y => if y.length ≤ 1000000 then some ((y.length : Int) != 0) else none
  | .sc xs => some (!xs.isEmpty)
  | .ls xs => some (!xs.isEmpty)
  | .bo xs => some (!xs.isEmpty)
  | .tp xs => some (!xs.isEmpty)
  | .bd ks xs => some (!ks.isEmpty)
  | _ => none
theorem Rps.empty {vs : List V} {ds : List D} (h : Rps K cls F vs ds) : (!vs.isEmpty) = !ds.isEmpty := by cases h <;> rfl
theorem Bos.empty {vs : List V} {ds : List D} (h : Bos K cls F H vs ds) : (!vs.isEmpty) = !ds.isEmpty := by cases h <;> rfl
theorem sameL {a : Addr} {xs : List V} (s : Same F H) (h : SqL K F a xs) : SqL K H a xs := s.seq h
theorem sameT {a : Addr} {xs : List V} (s : Same F H) (h : SqT K F a xs) : SqT K H a xs := by
  rcases h with (h | ⟨o, h⟩) | h
  · exact .inl (.inl (s _ _ h))
  · exact .inl (.inr ⟨o, s _ _ h⟩)
  · exact .inr h
theorem lim_line : (1000000 : Nat) < sizeLine := by rw [sizeLine_eq]; decide
theorem Bo.tru {v : V} {d : D} {k : Bool} (s : Same F H) (b : Bo K cls F H v d) (e : tru d = some k) : TruV K v H k := by
  cases b with
  | sh r =>
    cases r with
    | non => cases e; rfl
    | bl => cases e; rfl
    | int => cases e; rfl
    | str y =>
      have e : (if y.length ≤ 1000000 then some ((y.length : Int) != 0) else none) = some k := e
      split at e
      · rename_i hy
        cases e
        exact ⟨Nat.le_trans hy (Nat.le_of_lt lim_line), rfl⟩
      · cases e
    | sc h r => cases e; exact .inl ⟨_, sameL s h, r.empty.symm⟩
    | ls h r => cases e; exact .inl ⟨_, SqL.of (s _ _ h), r.empty.symm⟩
    | tp h r => cases e; exact .inr (.inl ⟨_, sameT s h, r.empty.symm⟩)
    | ob => cases e
    | rf => cases e
  | bo h r => cases e; exact .inl ⟨_, SqL.of h, r.empty.symm⟩
  | bd h l r =>
    cases e
    refine .inr (.inr ⟨_, h, ?_⟩)
    rename_i a ks vs ds
    cases ks <;> cases vs <;> first | rfl | (simp at l)
  | bb => cases e
def tTr (fa : Env → Res D) : Env → Res Bool := fun g => (fa g).bind fun a => .of (tru (opd a))
@[simp] theorem tTr_ (fa : Env → Res D) (g : Env) : tTr fa g = (fa g).bind fun a => .of (tru (opd a)) := rfl
theorem jt_truth (ha : JE X cls W a fa) (he : ∀ whole, isTrue a X.env whole = (do let v ← whole; standAt a.pos; holding [v] (truthy v)) := by intro _; rfl) : JT X cls W a (tTr fa) := by
  obtain ⟨ta, pa, da⟩ := ha.ex
  refine ⟨_, pt_truth pa he, ?_⟩
  intro σ F H g O Q s st p
  rw [tTr_] at p
  refine da.toB σ F H g O _ s st ?_
  cases ea : fa g with
  | xc c => rw [ea] at p; rw [bF_xc ea]; exact p
  | bad => rw [ea] at p; exact p.elim
  | ok a =>
    rw [ea] at p
    rw [bF_ok ea]
    simp only [Res.bind] at p
    intro x F1 H1 x1 b1
    cases eo : tru (opd a) with
    | none => rw [eo] at p; exact p.elim
    | some d =>
      rw [eo] at p
      exact ⟨d, b1.tru x1.fh eo, p F1 H1 x1⟩
def tAn (ga gb : Env → Res Bool) : Env → Res Bool := fun g => (ga g).bind fun k => if k = true then gb g else .ok false
def tOr_ (ga gb : Env → Res Bool) : Env → Res Bool := fun g => (ga g).bind fun k => if k = true then .ok true else gb g
def tNo (ga : Env → Res Bool) : Env → Res Bool := fun g => (ga g).bind fun k => .ok (!k)
@[simp] theorem tAn_ (ga gb : Env → Res Bool) (g : Env) : tAn ga gb g = (ga g).bind fun k => if k = true then gb g else .ok false := rfl
@[simp] theorem tOr__ (ga gb : Env → Res Bool) (g : Env) : tOr_ ga gb g = (ga g).bind fun k => if k = true then .ok true else gb g := rfl
@[simp] theorem tNo_ (ga : Env → Res Bool) (g : Env) : tNo ga g = (ga g).bind fun k => .ok (!k) := rfl
theorem DT.go {t : TT} (ha : DT K cls W t ga) {σ : St} {F H : Hp} {g : Env} {O : List Addr} {Q : Bool → Hp → Prop} (s : Same F H) (st : Sts K cls F H σ g O)
    (hx : ∀ c, ga g = .xc c → ∀ F' H', Ext F H F' H' → W (excV cls c) none σ H') (hb : ga g ≠ .bad) (hk : ∀ k, ga g = .ok k → ∀ F' H', Ext F H F' H' → Q k H') : t σ H Q := by
  refine ha σ F H g O Q s st ?_
  cases e : ga g with
  | ok k => exact hk k e
  | xc c => exact hx c e
  | bad => exact (hb e).elim
theorem dt_and {ta tb : TT} (ha : DT K cls W ta ga) (hb : DT K cls W tb gb) : DT K cls W (tAnd ta tb) (tAn ga gb) := by
  intro σ F H g O Q s st p
  rw [tAn_] at p
  refine ha.go s st (fun c e => by rw [e] at p; exact p) (fun e => by rw [e] at p; exact p) fun k e F1 H1 x => ?_
  rw [e] at p
  simp only [Res.bind] at p
  cases k with
  | true =>
    rw [if_pos rfl] at p
    rw [if_pos rfl]
    exact hb σ F1 H1 g O Q x.fh (st.ext x) (p.mono x)
  | false =>
    rw [if_neg (by decide)] at p
    rw [if_neg (by decide)]
    exact p F1 H1 x
theorem dt_or {ta tb : TT} (ha : DT K cls W ta ga) (hb : DT K cls W tb gb) : DT K cls W (tOr ta tb) (tOr_ ga gb) := by
  intro σ F H g O Q s st p
  rw [tOr__] at p
  refine ha.go s st (fun c e => by rw [e] at p; exact p) (fun e => by rw [e] at p; exact p) fun k e F1 H1 x => ?_
  rw [e] at p
  simp only [Res.bind] at p
  cases k with
  | true =>
    rw [if_pos rfl] at p
    rw [if_pos rfl]
    exact p F1 H1 x
  | false =>
    rw [if_neg (by decide)] at p
    rw [if_neg (by decide)]
    exact hb σ F1 H1 g O Q x.fh (st.ext x) (p.mono x)
theorem dt_not {ta : TT} (ha : DT K cls W ta ga) : DT K cls W (tNot ta) (tNo ga) := by
  intro σ F H g O Q s st p
  rw [tNo_] at p
  refine ha.go s st (fun c e => by rw [e] at p; exact p) (fun e => by rw [e] at p; exact p) fun k e F1 H1 x => ?_
  rw [e] at p
  exact p F1 H1 x
theorem jw_and1 (h : JT X cls W a ga) : JW X cls W (.BoolOp .And [a] pos) ga := by
  obtain ⟨ta, pa, da⟩ := h.ex
  exact ⟨_, pw_and1 pa, da⟩
theorem jw_or1 (h : JT X cls W a ga) : JW X cls W (.BoolOp .Or [a] pos) ga := by
  obtain ⟨ta, pa, da⟩ := h.ex
  exact ⟨_, pw_or1 pa, da⟩
theorem jw_and (h : JT X cls W a ga) (h2 : JW X cls W (.BoolOp .And (b :: es) pos) gb) : JW X cls W (.BoolOp .And (a :: b :: es) pos) (tAn ga gb) := by
  obtain ⟨ta, pa, da⟩ := h.ex
  obtain ⟨tb, pb, db⟩ := h2.ex
  exact ⟨_, pw_and pa pb, dt_and da db⟩
theorem jw_or (h : JT X cls W a ga) (h2 : JW X cls W (.BoolOp .Or (b :: es) pos) gb) : JW X cls W (.BoolOp .Or (a :: b :: es) pos) (tOr_ ga gb) := by
  obtain ⟨ta, pa, da⟩ := h.ex
  obtain ⟨tb, pb, db⟩ := h2.ex
  exact ⟨_, pw_or pa pb, dt_or da db⟩
theorem jt_w (h : JW X cls W a ga) : JT X cls W a ga := by
  obtain ⟨ta, pa, da⟩ := h.ex
  exact ⟨_, pa.pt, da⟩
theorem jt_not (h : JT X cls W a ga) : JT X cls W (.UnaryOp .Not a pos) (tNo ga) := by
  obtain ⟨ta, pa, da⟩ := h.ex
  exact ⟨_, pt_not pa, dt_not da⟩
theorem DE.goB {t : TE} (ha : DE K cls W t (eB ga)) {σ : St} {F H : Hp} {g : Env} {O : List Addr} {Q : VK} (s : Same F H) (st : Sts K cls F H σ g O)
    (hx : ∀ c, ga g = .xc c → ∀ F' H', Ext F H F' H' → W (excV cls c) none σ H') (hb : ga g ≠ .bad) (hk : ∀ k, ga g = .ok k → ∀ F' H', Ext F H F' H' → Q (.bl k) H') : t σ H Q := by
  refine ha σ F H g O Q s st ?_
  rw [eB_]
  cases e : ga g with
  | ok k =>
    intro v F' H' O' x fr tm
    have : v = .bl k := by
      rcases tm with t | ⟨t, _⟩
      · cases t with
        | sh r => cases r; rfl
      · cases t with
        | sh r => cases r; rfl
    subst this
    exact hk k e F' H' x
  | xc c => exact hx c e
  | bad => exact (hb e).elim
theorem PostE.bl {k : Bool} {g : Env} (p : PostE K cls W σ F H Q (.ok (.bl k))) (x : Ext F H F1 H1) : Q (.bl k) H1 := p _ F1 H1 [] x Fresh.nil (.inl (.sh (.bl k)))
theorem de_and {ta tb : TE} (ha : DE K cls W ta (eB ga)) (hb : DE K cls W tb (eB gb)) : DE K cls W (tAndV ta tb) (eB (tAn ga gb)) := by
  intro σ F H g O Q s st p
  rw [eB_, tAn_] at p
  refine ha.goB s st (fun c e => by rw [e] at p; exact p) (fun e => by rw [e] at p; exact p) fun k e F1 H1 x => ?_
  rw [e] at p
  simp only [Res.bind] at p
  refine ⟨k, rfl, ?_⟩
  cases k with
  | true =>
    rw [if_pos rfl] at p
    rw [if_pos rfl]
    exact hb σ F1 H1 g O Q x.fh (st.ext x) (PostE.mono x p)
  | false =>
    rw [if_neg (by decide)] at p
    rw [if_neg (by decide)]
    exact p _ F1 H1 [] x Fresh.nil (.inl (.sh (.bl false)))
theorem de_not {ta : TE} (ha : DE K cls W ta (eB ga)) : DE K cls W (tNotV ta) (eB (tNo ga)) := by
  intro σ F H g O Q s st p
  rw [eB_, tNo_] at p
  refine ha.goB s st (fun c e => by rw [e] at p; exact p) (fun e => by rw [e] at p; exact p) fun k e F1 H1 x => ?_
  rw [e] at p
  exact ⟨k, rfl, p _ F1 H1 [] x Fresh.nil (.inl (.sh (.bl (!k))))⟩
theorem je_one {op} (h : JE X cls W a fa) : JE X cls W (.BoolOp op [a] pos) fa := by
  obtain ⟨ta, pa, da⟩ := h.ex
  exact ⟨_, pe_one pa, da⟩
theorem je_and (h : JE X cls W a (eB ga)) (h2 : JE X cls W (.BoolOp .And (b :: es) pos) (eB gb)) : JE X cls W (.BoolOp .And (a :: b :: es) pos) (eB (tAn ga gb)) := by
  obtain ⟨ta, pa, da⟩ := h.ex
  obtain ⟨tb, pb, db⟩ := h2.ex
  exact ⟨_, pe_and pa pb, de_and da db⟩
theorem je_not (h : JE X cls W a (eB ga)) : JE X cls W (.UnaryOp .Not a pos) (eB (tNo ga)) := by
  obtain ⟨ta, pa, da⟩ := h.ex
  exact ⟨_, pe_not pa, de_not da⟩
@[simp] def blv : D → Res Bool
  | .bl b => .ok b
  | _ => .bad
def tV (fa : Env → Res D) : Env → Res Bool := fun g => (fa g).bind blv
@[simp] theorem tV_ (fa : Env → Res D) (g : Env) : tV fa g = (fa g).bind blv := rfl
theorem je_tV (h : JE X cls W a fa) : JE X cls W a (eB (tV fa)) := by
  obtain ⟨ta, pa, da⟩ := h.ex
  refine ⟨ta, pa, ?_⟩
  intro σ F H g O Q s st p
  refine da σ F H g O Q s st ?_
  rw [eB_, tV_] at p
  cases e : fa g with
  | ok d =>
    rw [e] at p
    cases d <;> first | exact p | exact p.elim
  | xc c => rw [e] at p; exact p
  | bad => rw [e] at p; exact p
def eIf (ga : Env → Res Bool) (fa fb : Env → Res D) : Env → Res D := fun g => (ga g).bind fun k => if k = true then fa g else fb g
@[simp] theorem eIf_ (ga : Env → Res Bool) (fa fb : Env → Res D) (g : Env) : eIf ga fa fb g = (ga g).bind fun k => if k = true then fa g else fb g := rfl
def tCh (op op' : D → D → Option Bool) (fa fb fc : Env → Res D) : Env → Res Bool := fun g => (fa g).bind fun a => (fb g).bind fun b => (Res.of (op (opd a) (opd b))).bind fun k => if k = true then (fc g).bind fun c => .of (op' (opd b) (opd c)) else .ok false
@[simp] theorem tCh_ (op op' : D → D → Option Bool) (fa fb fc : Env → Res D) (g : Env) : tCh op op' fa fb fc g = (fa g).bind fun a => (fb g).bind fun b => (Res.of (op (opd a) (opd b))).bind fun k => if k = true then (fc g).bind fun c => .of (op' (opd b) (opd c)) else .ok false := rfl
theorem DE.go {t : TE} (ha : DE K cls W t fa) {σ : St} {F H : Hp} {g : Env} {O : List Addr} {Q : VK} (s : Same F H) (st : Sts K cls F H σ g O)
    (hx : ∀ c, fa g = .xc c → ∀ F' H', Ext F H F' H' → W (excV cls c) none σ H') (hb : fa g ≠ .bad) (hk : ∀ d, fa g = .ok d → ∀ v F' H', Ext F H F' H' → Bo K cls F' H' v (opd d) → Q v H') : t σ H Q := by
  refine ha.toB σ F H g O Q s st ?_
  cases e : fa g with
  | ok k => rw [bF_ok e]; exact hk k e
  | xc c => rw [bF_xc e]; exact hx c e
  | bad => exact (hb e).elim
theorem DE.goO {t : TE} (ha : DE K cls W t fa) {σ : St} {F H : Hp} {g : Env} {O : List Addr} {Q : VK} (s : Same F H) (st : Sts K cls F H σ g O)
    (hx : ∀ c, fa g = .xc c → ∀ F' H', Ext F H F' H' → W (excV cls c) none σ H') (hb : (fa g).bind kp ≠ .bad) (hk : ∀ d, (fa g).bind kp = .ok d → ∀ v F' H' O', Ext F H F' H' → Fresh H O' → Ow K cls F' H' v d O' → Q v H') : t σ H Q := by
  refine ha.toO σ F H g O Q s st ?_
  cases e : fa g with
  | ok k =>
    rw [oF_ok e]
    rw [e] at hb hk
    rcases kp_ok (d := k) with e2 | e2
    · rw [e2]; exact hk k e2
    · exact (hb e2).elim
  | xc c => rw [oF_xc e]; exact hx c e
  | bad => rw [e] at hb; exact (hb rfl).elim
theorem dt_chain {r r' : R2} {op op' : D → D → Option Bool} {ta tb tc : TE} (hr : C2Ok K cls r op) (hr' : C2Ok K cls r' op') (ha : DE K cls W ta fa) (hb : DE K cls W tb fb) (hc : DE K cls W tc fc) :
    DE K cls W (tChain r r' ta tb tc) (eB (tCh op op' fa fb fc)) := by
  intro σ F H g O Q s st p
  rw [eB_, tCh_] at p
  refine ha.go s st (fun c e => by rw [e] at p; exact p) (fun e => by rw [e] at p; exact p) fun da ea va F1 H1 x1 b1 => ?_
  rw [ea] at p
  simp only [Res.bind] at p
  refine hb.go x1.fh (st.ext x1) (fun c e F' H' x => by rw [e] at p; exact p F' H' (x1.trans x)) (fun e => by rw [e] at p; exact p) fun db eb vb F2 H2 x2 b2 => ?_
  rw [eb] at p
  simp only [] at p
  cases eo : op (opd da) (opd db) with
  | none => rw [eo] at p; exact p.elim
  | some k =>
    rw [eo] at p
    simp only [Res.of] at p
    refine hr F2 H2 va vb _ _ k _ x2.fh (b1.ext x2) b2 eo ⟨k, rfl, ?_⟩
    cases k with
    | true =>
      rw [if_pos rfl] at p
      rw [if_pos rfl]
      have x12 := x1.trans x2
      refine hc.go x2.fh ((st.ext x1).ext x2) (fun c e F' H' x => by rw [e] at p; exact p F' H' (x12.trans x)) (fun e => by rw [e] at p; exact p) fun dc ec vc F3 H3 x3 b3 => ?_
      rw [ec] at p
      simp only [] at p
      cases eo' : op' (opd db) (opd dc) with
      | none => rw [eo'] at p; exact p.elim
      | some k' =>
        rw [eo'] at p
        exact hr' F3 H3 vb vc _ _ k' _ x3.fh (b2.ext x3) b3 eo' (p _ F3 H3 [] (x12.trans x3) Fresh.nil (.inl (.sh (.bl k'))))
    | false =>
      rw [if_neg (by decide)] at p
      rw [if_neg (by decide)]
      exact p _ F2 H2 [] (x1.trans x2) Fresh.nil (.inl (.sh (.bl false)))
theorem jt_chain {o o' : CmpOp} {r r' : R2} {op op' : D → D → Option Bool} (ho : OpR X (compareOp o) r) (ho' : OpR X (compareOp o') r') (hr : C2Ok X.K cls r op) (hr' : C2Ok X.K cls r' op') (ha : JE X cls W a fa) (hb : JE X cls W b fb) (hc : JE X cls W c fc)
    (hm : lastMarks [o, o'] [b, c] = false := by with_unfolding_all rfl) : JT X cls W (.Compare a [o, o'] [b, c] pos) (tCh op op' fa fb fc) := by
  obtain ⟨ta, pa, da⟩ := ha.ex
  obtain ⟨tb, pb, db⟩ := hb.ex
  obtain ⟨tc, pc, dc⟩ := hc.ex
  exact ⟨_, pt_chain ho ho' pa pb pc hm, dt_of (dt_chain hr hr' da db dc)⟩
end
end DL

namespace DL
open PySem L2
def shd1 : D → Bool
  | .bo _ => false
  | .bd _ _ => false
  | .bb _ _ => false
  | _ => true
@[simp] theorem shd1_bo {b} : shd1 (.bo b) = false := rfl
@[simp] theorem shd1_bd {k b} : shd1 (.bd k b) = false := rfl
@[simp] theorem shd1_bb {k b} : shd1 (.bb k b) = false := rfl
@[simp] theorem shd1_un : shd1 .un = true := rfl
@[simp] theorem shd1_non : shd1 .non = true := rfl
@[simp] theorem shd1_bl {b} : shd1 (.bl b) = true := rfl
@[simp] theorem shd1_int {b} : shd1 (.int b) = true := rfl
@[simp] theorem shd1_str {b} : shd1 (.str b) = true := rfl
@[simp] theorem shd1_sc {b} : shd1 (.sc b) = true := rfl
@[simp] theorem shd1_ls {b} : shd1 (.ls b) = true := rfl
@[simp] theorem shd1_tp {b} : shd1 (.tp b) = true := rfl
@[simp] theorem shd1_ob {k b} : shd1 (.ob k b) = true := rfl
@[simp] theorem shd1_rf {b} : shd1 (.rf b) = true := rfl
def shd (l : List D) : Bool := l.all shd1
@[simp] theorem shd_nil : shd [] = true := rfl
@[simp] theorem shd_cons (d : D) (l : List D) : shd (d :: l) = (shd1 d && shd l) := rfl
@[simp] def lsv : D → Option (List D)
  | .ls xs => some xs
  | .bo xs => if shd xs = true then some xs else none
  | _ => none
@[simp] def sqL : D → Option (List D)
  | .ls xs => some xs
  | .sc xs => some xs
  | .bo xs => some xs
  | _ => none
@[simp] def sqK : D → Option (List D)
  | .ls xs => some xs
  | .sc xs => some xs
  | .bo xs => if shd xs = true then some xs else none
  | _ => none
@[simp] def intOf : D → Option Int
  | .int i => some i
  | _ => none
@[simp] def strOf : D → Option Str
  | .str i => some i
  | _ => none
@[simp] def blOf : D → Option Bool
  | .bl i => some i
  | _ => none
def intsOf : List D → Option (List Int)
  | [] => some []
  | d :: ds => match intOf d, intsOf ds with
    | some i, some is => some (i :: is)
    | _, _ => none
def strsOf : List D → Option (List Str)
  | [] => some []
  | d :: ds => match strOf d, strsOf ds with
    | some i, some is => some (i :: is)
    | _, _ => none
def blsOf : List D → Option (List Bool)
  | [] => some []
  | d :: ds => match blOf d, blsOf ds with
    | some i, some is => some (i :: is)
    | _, _ => none
theorem intsOf_eq : ∀ {ds : List D} {ns : List Int}, intsOf ds = some ns → ds = ns.map D.int
  | [], ns, h => by simp [intsOf] at h; subst h; rfl
  | d :: ds, ns, h => by
    unfold intsOf at h
    cases d <;> simp at h
    cases q : intsOf ds with
    | none => rw [q] at h; simp at h
    | some is => rw [q] at h; simp at h; subst h; rw [intsOf_eq q]; rfl
theorem strsOf_eq : ∀ {ds : List D} {ns : List Str}, strsOf ds = some ns → ds = ns.map D.str
  | [], ns, h => by simp [strsOf] at h; subst h; rfl
  | d :: ds, ns, h => by
    unfold strsOf at h
    cases d <;> simp at h
    cases q : strsOf ds with
    | none => rw [q] at h; simp at h
    | some is => rw [q] at h; simp at h; subst h; rw [strsOf_eq q]; rfl
theorem blsOf_eq : ∀ {ds : List D} {ns : List Bool}, blsOf ds = some ns → ds = ns.map D.bl
  | [], ns, h => by simp [blsOf] at h; subst h; rfl
  | d :: ds, ns, h => by
    unfold blsOf at h
    cases d <;> simp at h
    cases q : blsOf ds with
    | none => rw [q] at h; simp at h
    | some is => rw [q] at h; simp at h; subst h; rw [blsOf_eq q]; rfl
@[simp] theorem intsOf_map : ∀ ns : List Int, intsOf (ns.map D.int) = some ns
  | [] => rfl
  | n :: ns => by simp [intsOf, intsOf_map ns]
@[simp] theorem intsOf_nil : intsOf [] = some [] := rfl
@[simp] theorem intsOf_cons (i : Int) (ds : List D) : intsOf (.int i :: ds) = (intsOf ds).map (i :: ·) := by
  simp only [intsOf, intOf]; cases intsOf ds <;> rfl
@[simp] theorem strsOf_map : ∀ ns : List Str, strsOf (ns.map D.str) = some ns
  | [] => rfl
  | n :: ns => by simp [strsOf, strsOf_map ns]
@[simp] theorem strsOf_nil : strsOf [] = some [] := rfl
@[simp] theorem strsOf_cons (i : Str) (ds : List D) : strsOf (.str i :: ds) = (strsOf ds).map (i :: ·) := by
  simp only [strsOf, strOf]; cases strsOf ds <;> rfl
@[simp] theorem blsOf_map : ∀ ns : List Bool, blsOf (ns.map D.bl) = some ns
  | [] => rfl
  | n :: ns => by simp [blsOf, blsOf_map ns]
@[simp] theorem blsOf_nil : blsOf [] = some [] := rfl
@[simp] theorem blsOf_cons (i : Bool) (ds : List D) : blsOf (.bl i :: ds) = (blsOf ds).map (i :: ·) := by
  simp only [blsOf, blOf]; cases blsOf ds <;> rfl

section
variable {K : PySem.W.Frag} {cls : Cls} {W : WX} {X : Cx} {F H F' H' : Hp} {Q : VK} {σ : St}
theorem Rps.len {vs : List V} {ds : List D} (h : Rps K cls F vs ds) : vs.length = ds.length := by
  induction ds generalizing vs with
  | nil => cases h; rfl
  | cons d ds ih => cases h with | cons a b => simp [ih b]
theorem Bos.len {vs : List V} {ds : List D} (h : Bos K cls F H vs ds) : vs.length = ds.length := by
  induction ds generalizing vs with
  | nil => cases h; rfl
  | cons d ds ih => cases h with | cons a b => simp [ih b]
theorem Ows.len {vs : List V} {ds : List D} {O : List Addr} (h : Ows K cls F H vs ds O) : vs.length = ds.length := by
  induction ds generalizing vs O with
  | nil => cases h; rfl
  | cons d ds ih => cases h with | cons a b => simp [ih b]
theorem Rps.toBos {vs : List V} {ds : List D} (h : Rps K cls F vs ds) : Bos K cls F H vs ds := by
  induction ds generalizing vs with
  | nil => cases h; exact .nil
  | cons d ds ih => cases h with | cons a b => exact .cons (.sh a) (ih b)
theorem Rps.toOws {vs : List V} {ds : List D} (h : Rps K cls F vs ds) : Ows K cls F H vs ds [] := by
  induction ds generalizing vs with
  | nil => cases h; exact .nil
  | cons d ds ih => cases h with | cons a b => exact .cons (.sh a) (ih b) (fun _ q => (nomatch q)) rfl
theorem Bo.toRp {v : V} {d : D} (h : Bo K cls F H v d) (e : shd1 d = true) : Rp K cls F v d := by
  cases h with
  | sh r => exact r
  | bo => simp at e
  | bd => simp at e
  | bb => simp at e
theorem Bos.toRps {vs : List V} {ds : List D} (h : Bos K cls F H vs ds) (e : shd ds = true) : Rps K cls F vs ds := by
  induction ds generalizing vs with
  | nil => cases h; exact .nil
  | cons d ds ih =>
    cases h with
    | cons a b =>
      simp only [shd, List.all_cons, Bool.and_eq_true] at e
      exact .cons (a.toRp e.1) (ih b e.2)
theorem Bos.get : ∀ {vs : List V} {ds : List D} {i : Nat} {d : D}, Bos K cls F H vs ds → ds[i]? = some d → ∃ v, vs[i]? = some v ∧ Bo K cls F H v d
  | _, _, _, _, .nil, e => by simp at e
  | _, _, 0, _, .cons r _, e => by simp at e; subst e; exact ⟨_, rfl, r⟩
  | _, _, i + 1, _, .cons _ t, e => by
    obtain ⟨v, h1, h2⟩ := Bos.get (i := i) t (by simpa using e)
    exact ⟨v, by simpa using h1, h2⟩
theorem Rps.get : ∀ {vs : List V} {ds : List D} {i : Nat} {d : D}, Rps K cls F vs ds → ds[i]? = some d → ∃ v, vs[i]? = some v ∧ Rp K cls F v d
  | _, _, _, _, .nil, e => by simp at e
  | _, _, 0, _, .cons r _, e => by simp at e; subst e; exact ⟨_, rfl, r⟩
  | _, _, i + 1, _, .cons _ t, e => by
    obtain ⟨v, h1, h2⟩ := Rps.get (i := i) t (by simpa using e)
    exact ⟨v, by simpa using h1, h2⟩
theorem Rps.append : ∀ {vs ws : List V} {ds es : List D}, Rps K cls F vs ds → Rps K cls F ws es → Rps K cls F (vs ++ ws) (ds ++ es)
  | _, _, _, _, .nil, h => h
  | _, _, _, _, .cons a b, h => .cons a (b.append h)
theorem Rps.take : ∀ {vs : List V} {ds : List D} (n : Nat), Rps K cls F vs ds → Rps K cls F (vs.take n) (ds.take n)
  | _, _, 0, _ => by simp; exact .nil
  | _, _, n + 1, .nil => by simp; exact .nil
  | _, _, n + 1, .cons a b => .cons a (b.take n)
theorem Rps.drop : ∀ {vs : List V} {ds : List D} (n : Nat), Rps K cls F vs ds → Rps K cls F (vs.drop n) (ds.drop n)
  | _, _, 0, h => h
  | _, _, n + 1, .nil => by simp; exact .nil
  | _, _, n + 1, .cons a b => b.drop n
theorem Rps.reverse {vs : List V} {ds : List D} (h : Rps K cls F vs ds) : Rps K cls F vs.reverse ds.reverse := by
  induction ds generalizing vs with
  | nil => cases h; exact .nil
  | cons d ds ih =>
    cases h with
    | cons a b =>
      rw [List.reverse_cons, List.reverse_cons]
      exact (ih b).append (.cons a .nil)
theorem Rps.ints {vs : List V} : ∀ {ns : List Int}, Rps K cls F vs (ns.map D.int) → vs = ns.map V.int := by
  intro ns
  induction ns generalizing vs with
  | nil => intro h; cases h; rfl
  | cons n ns ih => intro h; cases h with | cons a b => cases a; rw [ih b]; rfl
theorem Bos.ints {vs : List V} : ∀ {ns : List Int}, Bos K cls F H vs (ns.map D.int) → vs = ns.map V.int := by
  intro ns
  induction ns generalizing vs with
  | nil => intro h; cases h; rfl
  | cons n ns ih => intro h; cases h with | cons a b => cases a with | sh a => cases a; rw [ih b]; rfl
theorem Bos.strs {vs : List V} : ∀ {ns : List Str}, Bos K cls F H vs (ns.map D.str) → vs = ns.map V.str := by
  intro ns
  induction ns generalizing vs with
  | nil => intro h; cases h; rfl
  | cons n ns ih => intro h; cases h with | cons a b => cases a with | sh a => cases a; rw [ih b]; rfl
theorem Bos.bls {vs : List V} : ∀ {ns : List Bool}, Bos K cls F H vs (ns.map D.bl) → vs = ns.map V.bl := by
  intro ns
  induction ns generalizing vs with
  | nil => intro h; cases h; rfl
  | cons n ns ih => intro h; cases h with | cons a b => cases a with | sh a => cases a; rw [ih b]; rfl
theorem rps_ints : ∀ {ns : List Int}, Rps K cls F (ns.map V.int) (ns.map D.int)
  | [] => .nil
  | n :: ns => .cons (.int n) rps_ints
theorem Bo.lsv {v : V} {d : D} {xs : List D} (s : Same F H) (b : Bo K cls F H v d) (e : lsv d = some xs) : ∃ a vs, v = .ref a ∧ H a = some (.lst vs) ∧ Rps K cls F vs xs := by
  cases b with
  | sh r => cases r <;> simp at e <;> (subst e; exact ⟨_, _, rfl, s _ _ (by assumption), by assumption⟩)
  | bo h r =>
    simp at e
    obtain ⟨e1, e2⟩ := e
    subst e2
    exact ⟨_, _, rfl, h, r.toRps (by simpa using e1)⟩
  | bd => simp at e
  | bb => simp at e
theorem Bo.sqL {v : V} {d : D} {xs : List D} (s : Same F H) (b : Bo K cls F H v d) (e : sqL d = some xs) : ∃ a vs, v = .ref a ∧ SqL K H a vs ∧ Bos K cls F H vs xs := by
  cases b with
  | sh r =>
    cases r <;> simp at e
    · subst e; exact ⟨_, _, rfl, s.seq (by assumption), Rps.toBos (by assumption)⟩
    · subst e; exact ⟨_, _, rfl, SqL.of (s _ _ (by assumption)), Rps.toBos (by assumption)⟩
  | bo h r => simp at e; subst e; exact ⟨_, _, rfl, SqL.of h, r⟩
  | bd => simp at e
  | bb => simp at e
theorem Bo.sqK {v : V} {d : D} {xs : List D} (s : Same F H) (b : Bo K cls F H v d) (e : sqK d = some xs) : ∃ a vs, v = .ref a ∧ SqL K H a vs ∧ Rps K cls F vs xs := by
  cases b with
  | sh r =>
    cases r <;> simp at e
    · subst e; exact ⟨_, _, rfl, s.seq (by assumption), by assumption⟩
    · subst e; exact ⟨_, _, rfl, SqL.of (s _ _ (by assumption)), by assumption⟩
  | bo h r =>
    simp at e
    obtain ⟨e1, e2⟩ := e
    subst e2
    exact ⟨_, _, rfl, SqL.of h, r.toRps (by simpa using e1)⟩
  | bd => simp at e
  | bb => simp at e
@[simp] def tpv : D → Option (List D)
  | .tp xs => some xs
  | _ => none
theorem Bo.tpv {v : V} {d : D} {xs : List D} (s : Same F H) (b : Bo K cls F H v d) (e : tpv d = some xs) : ∃ a vs, v = .ref a ∧ SqT K H a vs ∧ SqT K F a vs ∧ Rps K cls F vs xs := by
  cases b with
  | sh r => cases r <;> simp at e <;> (subst e; exact ⟨_, _, rfl, sameT s (by assumption), by assumption, by assumption⟩)
  | bo => simp at e
  | bd => simp at e
  | bb => simp at e
theorem Bo.int {v : V} {i : Int} (b : Bo K cls F H v (.int i)) : v = .int i := by cases b with | sh r => cases r; rfl
theorem Bo.str {v : V} {i : Str} (b : Bo K cls F H v (.str i)) : v = .str i := by cases b with | sh r => cases r; rfl
theorem Bo.bl {v : V} {i : Bool} (b : Bo K cls F H v (.bl i)) : v = .bl i := by cases b with | sh r => cases r; rfl
theorem Bo.non {v : V} (b : Bo K cls F H v .non) : v = .non := by cases b with | sh r => cases r; rfl

theorem upd_same' {a : Addr} {o : HO} (hn : H a = none) : Same H (upd H a o) := fun b u e => by rw [upd_ne (ne_of_none e hn)]; exact e
theorem Ext.own {a : Addr} {o : HO} (s : Same F H) (hn : H a = none) : Ext F H F (upd H a o) := ⟨.refl F, upd_same' hn, s.trans (upd_same' hn), fun _ h _ => h⟩
theorem Ext.put {a : Addr} {o : HO} (s : Same F H) (hn : H a = none) : Ext F H (upd F a o) (upd H a o) := by
  have hf : F a = none := by
    cases q : F a with
    | none => rfl
    | some u => rw [s a u q] at hn; cases hn
  refine ⟨upd_same' hf, upd_same' hn, fun b u e => ?_, fun b h1 h2 => ?_⟩
  · by_cases hb : b = a
    · subst hb; rw [upd_same] at e ⊢; exact e
    · rw [upd_ne hb] at e ⊢; exact s b u e
  · have hb : b ≠ a := fun z => h2 (by rw [z]; exact hn)
    rw [upd_ne hb]; exact h1
theorem ow_new {a : Addr} {vs : List V} {ds : List D} {O : List Addr} (s : Same F H) (hn : H a = none) (r : Ows K cls F H vs ds O) : Ow K cls F (upd H a (.lst vs)) (.ref a) (.ol ds) (a :: O) := by
  have hf : F a = none := by
    cases q : F a with
    | none => rfl
    | some u => rw [s a u q] at hn; cases hn
  have no : a ∉ O := fun q => (r.dom a q).2 hn
  exact .ol hf upd_same no (r.frame (.refl F) fun b hb => ⟨upd_ne fun z => no (z ▸ hb), (r.dom b hb).1⟩)
theorem fresh_new {a : Addr} (hn : H a = none) : Fresh H [a] := fun b hb => by simp at hb; subst hb; exact hn

@[simp] def mulOk (i j : Int) : Prop := ((-(2 ^ 64) < i ∧ i < 2 ^ 64) ∨ (-(2 ^ 64) < j ∧ j < 2 ^ 64)) ∨ i.natAbs.log2 + j.natAbs.log2 < 100000000
def divOk (j : Int) : Prop := j ≠ 0 ∧ (j.natAbs < 1073741824 ∨ j.natAbs.log2 < 9000)
instance (i j : Int) : Decidable (mulOk i j) := by unfold mulOk; infer_instance
instance (j : Int) : Decidable (divOk j) := by unfold divOk; infer_instance
instance (i j : Int) : Decidable (CPow i j) := by unfold CPow; infer_instance
def lim : Nat := 1000000
theorem lim_ok {n : Nat} (h : n ≤ lim) : n ≤ sizeLine := Nat.le_trans h (Nat.le_of_lt lim_line)
theorem lim_lt {n : Nat} (h : n < lim) : n < sizeLine := Nat.lt_trans h lim_line

def opAddL (a b : D) : Option D := match lsv a, lsv b with
    | some xs, some ys => if xs.length + ys.length ≤ lim then some (.ol (xs ++ ys)) else none
    | _, _ => none
def opAdd : D → D → Option D
  | .int i, .int j => some (.int (i + j))
  | .str x, .str y => if x.length + y.length ≤ lim then some (.str (x ++ y)) else none
  | .tp xs, .tp ys => if xs.length + ys.length ≤ lim then some (.tp (xs ++ ys)) else none
  | a, b => opAddL a b
def opSub : D → D → Option D
  | .int i, .int j => some (.int (i - j))
  | _, _ => none
def opMul : D → D → Option D
  | .int i, .int j => if mulOk i j then some (.int (i * j)) else none
  | a, .int k => match lsv a with
    | some xs => if k < 2 ^ 63 ∧ -(2 ^ 63) ≤ k ∧ xs.length * k.toNat ≤ lim then some (.ol (List.replicate k.toNat xs).flatten) else none
    | none => none
  | _, _ => none
def opDiv : D → D → Option D
  | .int i, .int j => if divOk j then some (.int (if 0 < j then i / j else i.fdiv j)) else none
  | _, _ => none
def opMod : D → D → Option D
  | .int i, .int j => if j ≠ 0 then some (.int (if 0 < j then i % j else i.fmod j)) else none
  | _, _ => none
def opPow : D → D → Option D
  | .int i, .int j => if CPow i j then some (.int (i ^ j.toNat)) else none
  | _, _ => none
def opNeg : D → Option D
  | .int i => some (.int (-i))
  | _ => none
def rAdd4 (K : PySem.W.Frag) : R2 := fun x y H Q => ((rI0 fun i j => .int (i + j)) x y H Q ∨ (∃ i j, x = .str i ∧ y = .str j ∧ i.length + j.length ≤ sizeLine ∧ Q (.str (i ++ j)) H)) ∨ (rCat x y H Q ∨ rCatA K x y H Q)
theorem op_add4 : OpR X (binaryOp .Add) (rAdd4 X.K) := (op_add.or op_add_str).or (op_cat.or op_catA)
theorem pi1 {v : V} {d : D} (s : Same F H) (r : Rp K cls F v d) (q : ∀ v F' H' O', Ext F H F' H' → Fresh H O' → Tm K cls F' H' v d O' → Q v H') : Q v H := q v F H [] (.refl s) Fresh.nil (.inl (.sh r))
theorem ok_add : R2Ok K cls (rAdd4 K) opAdd := by
  intro F H x y a b d Q s b1 b2 e q
  unfold opAdd at e
  split at e
  · cases e
    obtain rfl := b1.int
    obtain rfl := b2.int
    exact .inl (.inl ⟨_, _, rfl, rfl, pi1 s (.int _) q⟩)
  · split at e
    · rename_i h
      cases e
      obtain rfl := b1.str
      obtain rfl := b2.str
      exact .inl (.inr ⟨_, _, rfl, rfl, lim_ok h, pi1 s (.str _) q⟩)
    · cases e
  · rename_i xs ys
    split at e
    · rename_i h
      cases e
      obtain ⟨a1, vs, rfl, h1, f1, r1⟩ := b1.tpv s (xs := xs) rfl
      obtain ⟨a2, ws, rfl, h2, f2, r2⟩ := b2.tpv s (xs := ys) rfl
      have l1 := r1.len
      have l2 := r2.len
      refine .inr (.inr ⟨_, _, vs, ws, rfl, rfl, h1, h2, lim_ok (by rw [l1, l2]; exact h), fun e => ?_, fun e1 e2 => ?_, fun e1 e2 p hp => ?_⟩)
      · subst e
        cases r1
        exact pi1 s (.tp f2 r2) q
      · subst e2
        cases r2
        rw [List.append_nil] at q
        exact pi1 s (.tp f1 r1) q
      · exact q _ _ _ [] (Ext.put s hp) Fresh.nil (.inl (.sh (.tp (SqT.of upd_same) ((r1.append r2).mono (Ext.put s hp).ff))))
    · cases e
  · unfold opAddL at e
    split at e
    · rename_i xs ys q1 q2
      split at e
      · rename_i h
        cases e
        obtain ⟨a1, vs, rfl, h1, r1⟩ := b1.lsv s q1
        obtain ⟨a2, ws, rfl, h2, r2⟩ := b2.lsv s q2
        refine .inr (.inl ⟨_, _, _, _, rfl, rfl, h1, h2, lim_ok (by rw [r1.len, r2.len]; exact h), fun p hp => ?_⟩)
        exact q _ _ _ [p] (Ext.own s hp) (fresh_new hp) (.inl (ow_new s hp (r1.append r2).toOws))
      · cases e
    · cases e
theorem ok_sub : R2Ok K cls (rI0 fun i j => .int (i - j)) opSub := by
  intro F H x y a b d Q s b1 b2 e q
  unfold opSub at e
  split at e
  · cases e
    obtain rfl := b1.int
    obtain rfl := b2.int
    exact ⟨_, _, rfl, rfl, pi1 s (.int _) q⟩
  · cases e
theorem mulW_ok {a b : Int} (h : a.natAbs.log2 + b.natAbs.log2 < 100000000) : IntMulOk a b := by
  unfold IntMulOk Builtin.Int.intTooBig
  have h1 : ∀ z : Int, Builtin.Int.intBits z ≤ z.natAbs.log2 + 1 := fun z => by unfold Builtin.Int.intBits; split <;> omega
  have h3 := h1 a
  have h4 := h1 b
  have h5 := bitsLine_eq
  simp only [Bool.and_eq_true, decide_eq_true_eq]
  omega
theorem op_mulX : OpR X (binaryOp .Mult) (rI mulOk fun i j => .int (i * j)) := opI fun _ _ _ _ _ _ _ hc q => PyProof.Rows.mul_int q (by
  rcases hc with hc | hc
  · exact CMul.ok hc
  · exact mulW_ok hc)
theorem op_mul4 : OpR X (binaryOp .Mult) (fun x y H Q => (rI mulOk fun i j => .int (i * j)) x y H Q ∨ rRep x y H Q) := op_mulX.or op_rep
theorem Rps.rep {vs : List V} {ds : List D} (h : Rps K cls F vs ds) : ∀ k : Nat, Rps K cls F (List.replicate k vs).flatten (List.replicate k ds).flatten
  | 0 => by simp; exact .nil
  | k + 1 => by rw [List.replicate_succ, List.replicate_succ, List.flatten_cons, List.flatten_cons]; exact h.append (h.rep k)
theorem ok_mul : R2Ok K cls (fun x y H Q => (rI mulOk fun i j => .int (i * j)) x y H Q ∨ rRep x y H Q) opMul := by
  intro F H x y a b d Q s b1 b2 e q
  unfold opMul at e
  split at e
  · split at e
    · rename_i h
      cases e
      obtain rfl := b1.int
      obtain rfl := b2.int
      exact .inl ⟨_, _, rfl, rfl, h, pi1 s (.int _) q⟩
    · cases e
  · split at e
    · rename_i xs q1
      split at e
      · rename_i h
        cases e
        obtain rfl := b2.int
        obtain ⟨a1, vs, rfl, h1, r1⟩ := b1.lsv s q1
        refine .inr ⟨_, _, _, rfl, rfl, h1, h.2.1, h.1, lim_ok (by rw [r1.len]; exact h.2.2), fun p hp => ?_⟩
        exact q _ _ _ [p] (Ext.own s hp) (fresh_new hp) (.inl (ow_new s hp (r1.rep _).toOws))
      · cases e
    · cases e
  · cases e
theorem op_divX : OpR X (binaryOp .FloorDiv) (rI (fun _ j => divOk j) fun i j => .int (if 0 < j then i / j else i.fdiv j)) := opI fun i j _ _ _ _ _ hc q => by
  have e : (if 0 < j then i / j else i.fdiv j) = i.fdiv j := by
    split
    · rw [Int.fdiv_eq_ediv_of_nonneg i (by omega)]
    · rfl
  rw [e] at q
  rcases hc with ⟨h0, h | h⟩
  · exact PyProof.Rows.floordiv_int h0 q (.inl (PyProof.noPylong_small h))
  · exact PyProof.Rows.floordiv_int h0 q (.inl (PyProof.noPylong_of_log2 h))
theorem ok_div : R2Ok K cls (rI (fun _ j => divOk j) fun i j => .int (if 0 < j then i / j else i.fdiv j)) opDiv := by
  intro F H x y a b d Q s b1 b2 e q
  unfold opDiv at e
  split at e
  · rename_i i j
    by_cases h : divOk j
    · rw [if_pos h] at e
      cases e
      obtain rfl := b1.int
      obtain rfl := b2.int
      exact ⟨_, _, rfl, rfl, h, pi1 s (.int _) q⟩
    · rw [if_neg h] at e; cases e
  · cases e
theorem op_modX : OpR X (binaryOp .Mod) (rI (fun _ j => j ≠ 0) fun i j => .int (if 0 < j then i % j else i.fmod j)) := opI fun i j _ _ _ _ _ hc q => by
  have e : (if 0 < j then i % j else i.fmod j) = i.fmod j := by
    split
    · rw [Int.fmod_eq_emod_of_nonneg i (by omega)]
    · rfl
  rw [e] at q
  exact PyProof.Rows.mod_int' hc q
theorem ok_mod : R2Ok K cls (rI (fun _ j => j ≠ 0) fun i j => .int (if 0 < j then i % j else i.fmod j)) opMod := by
  intro F H x y a b d Q s b1 b2 e q
  unfold opMod at e
  split at e
  · rename_i i j
    by_cases h : j ≠ 0
    · rw [if_pos h] at e
      cases e
      obtain rfl := b1.int
      obtain rfl := b2.int
      exact ⟨_, _, rfl, rfl, h, pi1 s (.int _) q⟩
    · rw [if_neg h] at e; cases e
  · cases e
theorem ok_pow : R2Ok K cls (rI CPow fun i j => .int (i ^ j.toNat)) opPow := by
  intro F H x y a b d Q s b1 b2 e q
  unfold opPow at e
  split at e
  · rename_i i j
    by_cases h : CPow i j
    · rw [if_pos h] at e
      cases e
      obtain rfl := b1.int
      obtain rfl := b2.int
      exact ⟨_, _, rfl, rfl, h, pi1 s (.int _) q⟩
    · rw [if_neg h] at e; cases e
  · cases e
theorem ok_neg : R1Ok K cls (rU fun i => .int (-i)) opNeg := by
  intro F H x a d Q s b1 e q
  unfold opNeg at e
  split at e
  · cases e
    obtain rfl := b1.int
    exact ⟨_, rfl, pi1 s (.int _) q⟩
  · cases e

def cLt : D → D → Option Bool
  | .int i, .int j => some (decide (i < j))
  | _, _ => none
def cLe : D → D → Option Bool
  | .int i, .int j => some (decide (i ≤ j))
  | _, _ => none
def cGt : D → D → Option Bool
  | .int i, .int j => some (decide (j < i))
  | _, _ => none
def cGe : D → D → Option Bool
  | .int i, .int j => some (decide (j ≤ i))
  | _, _ => none
theorem ok_lt : C2Ok K cls (rI0 fun i j => .bl (decide (i < j))) cLt := by
  intro F H x y a b d Q s b1 b2 e q
  unfold cLt at e
  split at e
  · cases e
    obtain rfl := b1.int
    obtain rfl := b2.int
    exact ⟨_, _, rfl, rfl, q⟩
  · cases e
theorem ok_le : C2Ok K cls (rI0 fun i j => .bl (decide (i ≤ j))) cLe := by
  intro F H x y a b d Q s b1 b2 e q
  unfold cLe at e
  split at e
  · cases e
    obtain rfl := b1.int
    obtain rfl := b2.int
    exact ⟨_, _, rfl, rfl, q⟩
  · cases e
theorem ok_gt : C2Ok K cls (rI0 fun i j => .bl (decide (j < i))) cGt := by
  intro F H x y a b d Q s b1 b2 e q
  unfold cGt at e
  split at e
  · cases e
    obtain rfl := b1.int
    obtain rfl := b2.int
    exact ⟨_, _, rfl, rfl, q⟩
  · cases e
mutual
def toPy : D → Option PyData
  | .non => some .none
  | .bl b => some (.bool b)
  | .int i => some (.int i)
  | .str x => some (.str x)
  | .sc xs => (toPys xs).map .list
  | .ls xs => (toPys xs).map .list
  | .bo xs => (toPys xs).map .list
  | .tp xs => (toPys xs).map .tuple
  | _ => none
def toPys : List D → Option (List PyData)
  | [] => some []
  | d :: ds => match toPy d, toPys ds with
    | some p, some ps => some (p :: ps)
    | _, _ => none
end
mutual
theorem Rp.dp (s : Same F H) : ∀ {v : V} {d : D} {p : PyData}, Rp K cls F v d → toPy d = some p → Dp K H v p
  | _, _, _, .non, e => by simp [toPy] at e; subst e; exact .non
  | _, _, _, .bl b, e => by simp [toPy] at e; subst e; exact .bl b
  | _, _, _, .int b, e => by simp [toPy] at e; subst e; exact .int b
  | _, _, _, .str b, e => by simp [toPy] at e; subst e; exact .str b
  | _, _, _, .sc (ds := ds) h r, e => by
    simp [toPy] at e
    obtain ⟨ps, e1, e2⟩ := e
    subst e2
    exact .lst (s.seq h) (Rps.dp s r e1)
  | _, _, _, .ls (ds := ds) h r, e => by
    simp [toPy] at e
    obtain ⟨ps, e1, e2⟩ := e
    subst e2
    exact .lst (SqL.of (s _ _ h)) (Rps.dp s r e1)
  | _, _, _, .tp (ds := ds) h r, e => by
    simp [toPy] at e
    obtain ⟨ps, e1, e2⟩ := e
    subst e2
    exact .tup (sameT s h) (Rps.dp s r e1)
  | _, _, _, .ob .., e => by simp [toPy] at e
theorem Rps.dp (s : Same F H) : ∀ {v : List V} {d : List D} {p : List PyData}, Rps K cls F v d → toPys d = some p → DpAll K H v p
  | _, _, _, .nil, e => by simp [toPys] at e; subst e; exact .nil
  | _, _, _, .cons (d := d) (ds := ds) a b, e => by
    unfold toPys at e
    cases q1 : toPy d with
    | none => rw [q1] at e; cases e
    | some p =>
      cases q2 : toPys ds with
      | none => rw [q1, q2] at e; cases e
      | some ps =>
        rw [q1, q2] at e
        cases e
        exact .cons (Rp.dp s a q1) (Rps.dp s b q2)
end
mutual
theorem Bo.dp (s : Same F H) : ∀ {v : V} {d : D} {p : PyData}, Bo K cls F H v d → toPy d = some p → Dp K H v p
  | _, _, _, .sh r, e => r.dp s e
  | _, _, _, .bo (ds := ds) h r, e => by
    simp [toPy] at e
    obtain ⟨ps, e1, e2⟩ := e
    subst e2
    exact .lst (SqL.of h) (Bos.dp s r e1)
  | _, _, _, .bd .., e => by simp [toPy] at e
theorem Bos.dp (s : Same F H) : ∀ {v : List V} {d : List D} {p : List PyData}, Bos K cls F H v d → toPys d = some p → DpAll K H v p
  | _, _, _, .nil, e => by simp [toPys] at e; subst e; exact .nil
  | _, _, _, .cons (d := d) (ds := ds) a b, e => by
    unfold toPys at e
    cases q1 : toPy d with
    | none => rw [q1] at e; cases e
    | some p =>
      cases q2 : toPys ds with
      | none => rw [q1, q2] at e; cases e
      | some ps =>
        rw [q1, q2] at e
        cases e
        exact .cons (Bo.dp s a q1) (Bos.dp s b q2)
end
def pyEq (a b : D) : Option Bool := match toPy a, toPy b with
  | some p, some q => if SeqAt.shaped p = true ∧ SeqAt.shaped q = true then some (PyData.eqv p q) else none
  | _, _ => none
def cEq : D → D → Option Bool
  | .int i, .int j => some (decide (i = j))
  | .str i, .str j => some (decide (i = j))
  | .bl i, .bl j => some (decide (i = j))
  | .non, .non => some true
  | .non, .int _ => some false
  | .int _, .non => some false
  | .int _, .str _ => some false
  | .str _, .int _ => some false
  | .non, .str _ => some false
  | .str _, .non => some false
  | a, b => pyEq a b
def cNe (a b : D) : Option Bool := (cEq a b).map (!·)
theorem cEq_ok {x y : V} {a b : D} {k : Bool} (s : Same F H) (b1 : Bo K cls F H x a) (b2 : Bo K cls F H y b) (e : cEq a b = some k) :
    (scal x y = true ∧ decide (x = y) = k) ∨ ∃ d e, Dp K H x d ∧ Dp K H y e ∧ SeqAt.shaped d = true ∧ SeqAt.shaped e = true ∧ PyData.eqv d e = k := by
  have py : ∀ {a b : D}, Bo K cls F H x a → Bo K cls F H y b → pyEq a b = some k → ∃ d e, Dp K H x d ∧ Dp K H y e ∧ SeqAt.shaped d = true ∧ SeqAt.shaped e = true ∧ PyData.eqv d e = k := fun {a b} b1 b2 e => by
    unfold pyEq at e
    split at e
    · rename_i p q h1 h2
      split at e
      · rename_i h
        cases e
        exact ⟨p, q, b1.dp s h1, b2.dp s h2, h.1, h.2, rfl⟩
      · cases e
    · cases e
  unfold cEq at e
  split at e
  · cases e; obtain rfl := b1.int; obtain rfl := b2.int; exact .inl ⟨rfl, by simp⟩
  · cases e; obtain rfl := b1.str; obtain rfl := b2.str; exact .inl ⟨rfl, by simp⟩
  · cases e; obtain rfl := b1.bl; obtain rfl := b2.bl; exact .inl ⟨rfl, by simp⟩
  · cases e; obtain rfl := b1.non; obtain rfl := b2.non; exact .inl ⟨rfl, by simp⟩
  · cases e; obtain rfl := b1.non; obtain rfl := b2.int; exact .inl ⟨rfl, by simp⟩
  · cases e; obtain rfl := b1.int; obtain rfl := b2.non; exact .inl ⟨rfl, by simp⟩
  · cases e; obtain rfl := b1.int; obtain rfl := b2.str; exact .inl ⟨rfl, by simp⟩
  · cases e; obtain rfl := b1.str; obtain rfl := b2.int; exact .inl ⟨rfl, by simp⟩
  · cases e; obtain rfl := b1.non; obtain rfl := b2.str; exact .inl ⟨rfl, by simp⟩
  · cases e; obtain rfl := b1.str; obtain rfl := b2.non; exact .inl ⟨rfl, by simp⟩
  · exact .inr (py b1 b2 e)
theorem ok_eq : C2Ok K cls (fun x y H Q => rEq x y H Q ∨ rEqD K x y H Q) cEq := by
  intro F H x y a b d Q s b1 b2 e q
  rcases cEq_ok s b1 b2 e with ⟨h1, h2⟩ | ⟨p, r, h1, h2, h3, h4, h5⟩
  · exact .inl ⟨h1, by rw [h2]; exact q⟩
  · exact .inr ⟨p, r, h1, h2, h3, h4, by rw [h5]; exact q⟩
theorem ok_ne : C2Ok K cls (fun x y H Q => rNe x y H Q ∨ rNeD K x y H Q) cNe := by
  intro F H x y a b d Q s b1 b2 e q
  unfold cNe at e
  cases e0 : cEq a b with
  | none => rw [e0] at e; cases e
  | some k =>
    rw [e0] at e
    cases e
    rcases cEq_ok s b1 b2 e0 with ⟨h1, h2⟩ | ⟨p, r, h1, h2, h3, h4, h5⟩
    · exact .inl ⟨h1, by rw [h2]; exact q⟩
    · exact .inr ⟨p, r, h1, h2, h3, h4, by rw [h5]; exact q⟩
theorem op_eq4 (hu : X.A.units + 64 < cLine) : OpR X (compareOp .Eq) (fun x y H Q => rEq x y H Q ∨ rEqD X.K x y H Q) := op_eq.or (op_eqD hu)
theorem op_ne4 (hu : X.A.units + 64 < cLine) : OpR X (compareOp .NotEq) (fun x y H Q => rNe x y H Q ∨ rNeD X.K x y H Q) := op_ne.or (op_neD hu)
def cIsN : D → D → Option Bool
  | .un, _ => none
  | a, .non => some (match a with | .non => true | _ => false)
  | _, _ => none
def cNotN (a b : D) : Option Bool := (cIsN a b).map (!·)
theorem cIsN_ok {x y : V} {a b : D} {k : Bool} (b1 : Bo K cls F H x a) (b2 : Bo K cls F H y b) (e : cIsN a b = some k) : y = .non ∧ decide (x = .non) = k := by
  unfold cIsN at e
  split at e
  · cases e
  · obtain rfl := b2.non
    refine ⟨rfl, ?_⟩
    cases e
    cases b1 with
    | sh r => cases r <;> simp
    | bo => simp
    | bd => simp
    | bb => simp
  · cases e
theorem ok_isN : C2Ok K cls (fun x y H Q => y = .non ∧ Q (.bl (decide (x = .non))) H) cIsN := by
  intro F H x y a b d Q s b1 b2 e q
  obtain ⟨h1, h2⟩ := cIsN_ok b1 b2 e
  exact ⟨h1, by rw [h2]; exact q⟩
end
end DL

namespace DL
open PySem L2
section
variable {K : PySem.W.Frag} {cls : Cls} {W : WX} {X : Cx} {F H F' H' : Hp} {Q : VK} {σ : St} {a b c e : Expr} {es : List Expr} {fa fb fc : Env → Res D} {ga gb : Env → Res Bool} {fs : Env → Res (List D)} {pos : Pos}

theorem inV_ints (i : Int) (ns : List Int) : inV (.int i) (ns.map V.int) = decide (i ∈ ns) := by
  induction ns with
  | nil => rfl
  | cons n ns ih =>
    unfold inV at ih ⊢
    rw [List.map_cons, List.any_cons, ih]
    have : eqV (.int n) (.int i) = decide (i = n) := by
      show (n == i) = decide (i = n)
      by_cases h : n = i
      · subst h; simp
      · have h' : ¬ i = n := fun q => h q.symm
        simp [h, h']
    rw [this, ← Bool.decide_or]
    simp
theorem inV_strs (i : Str) (ns : List Str) : inV (.str i) (ns.map V.str) = decide (i ∈ ns) := by
  induction ns with
  | nil => rfl
  | cons n ns ih =>
    unfold inV at ih ⊢
    rw [List.map_cons, List.any_cons, ih]
    have : eqV (.str n) (.str i) = decide (i = n) := by
      show (n == i) = decide (i = n)
      by_cases h : n = i
      · subst h; simp
      · have h' : ¬ i = n := fun q => h q.symm
        simp [h, h']
    rw [this, ← Bool.decide_or]
    simp
@[simp] def sqA : D → Option (List D)
  | .ls xs => some xs
  | .sc xs => some xs
  | .bo xs => some xs
  | .tp xs => some xs
  | _ => none
def cIn : D → D → Option Bool
  | .int i, s => match sqA s with
    | some xs => match intsOf xs with
      | some ns => some (decide (i ∈ ns))
      | none => none
    | none => none
  | .str i, s => match sqA s with
    | some xs => match strsOf xs with
      | some ns => some (decide (i ∈ ns))
      | none => none
    | none => none
  | _, _ => none
def cNIn (a b : D) : Option Bool := (cIn a b).map (!·)
theorem Bo.sqA {v : V} {d : D} {xs : List D} (s : Same F H) (b : Bo K cls F H v d) (e : sqA d = some xs) : ∃ a vs, v = .ref a ∧ (SqL K H a vs ∨ SqT K H a vs) ∧ Bos K cls F H vs xs := by
  cases d with
  | tp ys => obtain ⟨a, vs, e1, h1, h2, r⟩ := b.tpv s (xs := xs) (by simpa using e); exact ⟨a, vs, e1, .inr h1, r.toBos⟩
  | ls ys => obtain ⟨a, vs, e1, h1, r⟩ := b.sqL s (xs := xs) (by simpa using e); exact ⟨a, vs, e1, .inl h1, r⟩
  | sc ys => obtain ⟨a, vs, e1, h1, r⟩ := b.sqL s (xs := xs) (by simpa using e); exact ⟨a, vs, e1, .inl h1, r⟩
  | bo ys => obtain ⟨a, vs, e1, h1, r⟩ := b.sqL s (xs := xs) (by simpa using e); exact ⟨a, vs, e1, .inl h1, r⟩
  | _ => simp at e
theorem flat_ints (ns : List Int) : (ns.map V.int).all flatV = true := by
  induction ns with
  | nil => rfl
  | cons n ns ih => rw [List.map_cons, List.all_cons, ih]; rfl
theorem flat_strs (ns : List Str) : (ns.map V.str).all flatV = true := by
  induction ns with
  | nil => rfl
  | cons n ns ih => rw [List.map_cons, List.all_cons, ih]; rfl
theorem cIn_ok {x y : V} {a b : D} {k : Bool} (s : Same F H) (b1 : Bo K cls F H x a) (b2 : Bo K cls F H y b) (e : cIn a b = some k) :
    ∃ p xs, y = .ref p ∧ (SqL K H p xs ∨ SqT K H p xs) ∧ flatV x = true ∧ xs.all flatV = true ∧ inV x xs = k := by
  unfold cIn at e
  split at e
  · split at e
    · rename_i xs h1
      split at e
      · rename_i ns h2
        cases e
        obtain rfl := b1.int
        obtain ⟨p, vs, rfl, h3, r⟩ := b2.sqA s h1
        rw [intsOf_eq h2] at r
        rw [r.ints] at h3
        exact ⟨p, _, rfl, h3, rfl, flat_ints ns, inV_ints _ _⟩
      · cases e
    · cases e
  · split at e
    · rename_i xs h1
      split at e
      · rename_i ns h2
        cases e
        obtain rfl := b1.str
        obtain ⟨p, vs, rfl, h3, r⟩ := b2.sqA s h1
        rw [strsOf_eq h2] at r
        rw [r.strs] at h3
        exact ⟨p, _, rfl, h3, rfl, flat_strs ns, inV_strs _ _⟩
      · cases e
    · cases e
  · cases e
theorem ok_in : C2Ok K cls (rIn K false) cIn := by
  intro F H x y a b d Q s b1 b2 e q
  obtain ⟨p, xs, e1, h1, h2, h3, h4⟩ := cIn_ok s b1 b2 e
  exact ⟨p, xs, e1, h1, h2, h3, by rw [if_neg (by decide), h4]; exact q⟩
def opIx : D → D → Option D
  | .str z, .int i => if z.length ≤ lim then (atI z.cps.toList i).map fun c => .str ⟨#[c]⟩ else none
  | a, .int i => match sqA a with
    | some xs => atI xs i
    | none => none
  | _, _ => none
theorem atI_some {α : Type} {xs : List α} {i : Int} {d : α} (h : atI xs i = some d) : ∃ j, ixN xs.length i = some j ∧ xs[j]? = some d := by
  unfold atI at h
  cases q : ixN xs.length i with
  | none => rw [q] at h; cases h
  | some j => rw [q] at h; exact ⟨j, rfl, h⟩
theorem Bos.at {vs : List V} {ds : List D} {i : Int} {d : D} (h : Bos K cls F H vs ds) (e : atI ds i = some d) : ∃ v, atI vs i = some v ∧ Bo K cls F H v d := by
  obtain ⟨j, h1, h2⟩ := atI_some e
  obtain ⟨v, h3, h4⟩ := h.get h2
  refine ⟨v, ?_, h4⟩
  unfold atI
  rw [h.len, h1]
  exact h3
theorem ok_ix : R2Ok K cls (rIx K) opIx := by
  intro F H x y a b d Q s b1 b2 e q
  unfold opIx at e
  split at e
  · rename_i z i
    by_cases h : z.length ≤ lim
    · rw [if_pos h] at e
      obtain rfl := b1.str
      obtain rfl := b2.int
      cases e0 : atI z.cps.toList i with
      | none => rw [e0] at e; cases e
      | some c =>
        rw [e0] at e
        cases e
        exact .inr (.inr ⟨z, i, c, rfl, rfl, lim_ok h, e0, pi1 s (.str _) q⟩)
    · rw [if_neg h] at e; cases e
  · split at e
    · rename_i xs h1
      obtain rfl := b2.int
      obtain ⟨p, vs, rfl, h3, r⟩ := b1.sqA s h1
      obtain ⟨v, h4, h5⟩ := r.at e
      have q' : Q v H := q v F H [] (.refl s) Fresh.nil (.inr ⟨h5, rfl⟩)
      rcases h3 with h3 | h3
      · exact .inl ⟨p, vs, _, v, rfl, rfl, h3, h4, q'⟩
      · exact .inr (.inl ⟨p, vs, _, v, rfl, rfl, h3, h4, q'⟩)
    · cases e
  · cases e
theorem je_ix (ha : JE X cls W a fa) (hb : JE X cls W b fb) (hs : PlainIx b := by exact fun _ _ => rfl) : JE X cls W (.Subscript a b pos) (eBin opIx fa fb) := by
  obtain ⟨ta, pa, da⟩ := ha.ex
  obtain ⟨tb, pb, db⟩ := hb.ex
  exact ⟨_, pe_ix ix_seq pa pb hs, de_bin ok_ix da db⟩

def sIx (n d : Nat) : Option Int → Nat := HT.sIx n d
def cut {α : Type} (xs : List α) (lo hi : Option Int) : List α := (xs.drop (HT.sIx xs.length 0 lo)).take (HT.sIx xs.length xs.length hi - HT.sIx xs.length 0 lo)
def opSl (a : D) (lo hi : Option Int) : Option D := match a with
  | .tp xs => some (.tp (cut xs lo hi))
  | a => match sqK a with
    | some xs => some (.ol (cut xs lo hi))
    | none => none
def ePart (o : Option (Env → Res D)) : Env → Res (Option Int) := fun g => match o with
  | none => .ok none
  | some f => (f g).bind fun d => (Res.of (intOf (opd d))).bind fun i => .ok (some i)
@[simp] theorem ePart_none (g : Env) : ePart none g = .ok none := rfl
@[simp] theorem ePart_some (f : Env → Res D) (g : Env) : ePart (some f) g = (f g).bind fun d => (Res.of (intOf (opd d))).bind fun i => .ok (some i) := rfl
structure JP (X : Cx) (cls : Cls) (W : WX) (e : Option Expr) (f : Env → Res (Option Int)) : Prop where
  ex : ∃ t, PO X e t ∧ ∀ σ F H g O (Q : Option Int → Hp → Prop), Same F H → Sts X.K cls F H σ g O → (match f g with
    | .ok o => ∀ F' H', Ext F H F' H' → Q o H'
    | .xc c => ∀ F' H', Ext F H F' H' → W (excV cls c) none σ H'
    | .bad => False) → t σ H Q
theorem jp_none : JP X cls W none (ePart none) := ⟨_, po_none, fun σ F H g O Q s st p => p F H (.refl s)⟩
theorem jp_some (ha : JE X cls W a fa) : JP X cls W (some a) (ePart (some fa)) := by
  obtain ⟨ta, pa, da⟩ := ha.ex
  refine ⟨_, po_some pa, fun σ F H g O Q s st p => ?_⟩
  rw [ePart_some] at p
  refine da.go s st (fun c e => by rw [e] at p; exact p) (fun e => by rw [e] at p; exact p) fun d e v F' H' x b => ?_
  rw [e] at p
  simp only [Res.bind] at p
  cases e2 : intOf (opd d) with
  | none => rw [e2] at p; exact p.elim
  | some i =>
    rw [e2] at p
    have e3 : opd d = .int i := by
      cases e4 : opd d <;> rw [e4] at e2 <;> simp at e2
      rw [e2]
    rw [e3] at b
    exact ⟨i, b.int, p F' H' x⟩
def eSl (fa : Env → Res D) (lo hi : Env → Res (Option Int)) : Env → Res D := fun g => (fa g).bind fun a => (lo g).bind fun l => (hi g).bind fun h => .of (opSl (opd a) l h)
@[simp] theorem eSl_ (fa : Env → Res D) (lo hi : Env → Res (Option Int)) (g : Env) : eSl fa lo hi g = (fa g).bind fun a => (lo g).bind fun l => (hi g).bind fun h => .of (opSl (opd a) l h) := rfl
theorem Rps.cut {vs : List V} {ds : List D} (h : Rps K cls F vs ds) (lo hi : Option Int) : Rps K cls F (cutV vs lo hi) (cut ds lo hi) := by
  unfold cutV DL.cut
  rw [h.len]
  exact (h.drop _).take _
theorem cut_whole {α : Type} {xs : List α} {lo hi : Option Int} (h : HT.sIx xs.length 0 lo = 0 ∧ HT.sIx xs.length xs.length hi = xs.length) : cut xs lo hi = xs := by
  unfold cut
  rw [h.1, h.2]
  simp
theorem je_sl {lo hi : Option Expr} {fl fh : Env → Res (Option Int)} {p2 : Pos} (ha : JE X cls W a fa) (hl : JP X cls W lo fl) (hh : JP X cls W hi fh) : JE X cls W (.Subscript a (.Slice lo hi none p2) pos) (eSl fa fl fh) := by
  obtain ⟨ta, pa, da⟩ := ha.ex
  obtain ⟨tl, pl, dl⟩ := hl.ex
  obtain ⟨th, ph, dh⟩ := hh.ex
  refine ⟨_, pe_slice (sl_list.or sl_tupA) pa pl ph, ?_⟩
  intro σ F H g O Q s st p
  rw [eSl_] at p
  refine da.go s st (fun c e => by rw [e] at p; exact p) (fun e => by rw [e] at p; exact p) fun d e v F1 H1 x1 b1 => ?_
  rw [e] at p
  simp only [Res.bind] at p
  refine dl σ F1 H1 g O _ x1.fh (st.ext x1) ?_
  cases el : fl g with
  | bad => rw [el] at p; exact p.elim
  | xc c => rw [el] at p; exact fun F' H' x => p F' H' (x1.trans x)
  | ok l =>
    rw [el] at p
    simp only [] at p ⊢
    intro F2 H2 x2
    refine dh σ F2 H2 g O _ x2.fh ((st.ext x1).ext x2) ?_
    cases eh : fh g with
    | bad => rw [eh] at p; exact p.elim
    | xc c => rw [eh] at p; exact fun F' H' x => p F' H' ((x1.trans x2).trans x)
    | ok h =>
      rw [eh] at p
      simp only [] at p ⊢
      intro F3 H3 x3
      have x23 := x2.trans x3
      have x13 := x1.trans x23
      have b3 := b1.ext x23
      cases eo : opSl (opd d) l h with
      | none => rw [eo] at p; exact p.elim
      | some r =>
        rw [eo] at p
        have q : ∀ v F' H' O', Ext F3 H3 F' H' → Fresh H3 O' → Tm X.K cls F' H' v r O' → Q v H' := fun v F' H' O' y fr tm => p v F' H' O' (x13.trans y) (fr.mono x13.hh) tm
        unfold opSl at eo
        split at eo
        · rename_i xs ed
          cases eo
          rw [ed] at b3
          obtain ⟨a1, vs, rfl, h1, f1, r1⟩ := b3.tpv x3.fh (xs := xs) rfl
          refine .inr ⟨a1, vs, rfl, h1, fun w => ?_, fun w p hp => ?_⟩
          · rw [r1.len] at w
            exact q _ F3 H3 [] (.refl x3.fh) Fresh.nil (.inl (.sh (by rw [cut_whole w]; exact .tp f1 r1)))
          · exact q _ _ _ [] (Ext.put x3.fh hp) Fresh.nil (.inl (.sh (.tp (SqT.of upd_same) ((r1.cut l h).mono (Ext.put x3.fh hp).ff))))
        · split at eo
          · rename_i xs ek
            cases eo
            obtain ⟨a1, vs, rfl, h1, r1⟩ := b3.sqK x3.fh ek
            refine .inl ⟨a1, vs, rfl, h1, fun p hp => ?_⟩
            exact q _ _ _ [p] (Ext.own x3.fh hp) (fresh_new hp) (.inl (ow_new x3.fh hp (r1.cut l h).toOws))
          · cases eo

def aNil : Env → Res (List D) := fun _ => .ok []
def aCons (fa : Env → Res D) (fs : Env → Res (List D)) : Env → Res (List D) := fun g => (fa g).bind fun a => (fs g).bind fun r => .ok (opd a :: r)
def aConsO (fa : Env → Res D) (fs : Env → Res (List D)) : Env → Res (List D) := fun g => (fa g).bind fun a => (kp a).bind fun a => (fs g).bind fun r => .ok (a :: r)
@[simp] theorem aNil_ (g : Env) : aNil g = .ok [] := rfl
@[simp] theorem aCons_ (fa : Env → Res D) (fs : Env → Res (List D)) (g : Env) : aCons fa fs g = (fa g).bind fun a => (fs g).bind fun r => .ok (opd a :: r) := rfl
@[simp] theorem aConsO_ (fa : Env → Res D) (fs : Env → Res (List D)) (g : Env) : aConsO fa fs g = (fa g).bind fun a => (kp a).bind fun a => (fs g).bind fun r => .ok (a :: r) := rfl
theorem ja_nil : JA X cls W [] aNil := ⟨_, pa_nil, fun σ F H g O Q s st p => p [] F H (.refl s) .nil⟩
theorem jao_nil : JAO X cls W [] aNil := ⟨_, pa_nil, fun σ F H g O Q s st p => p [] F H [] (.refl s) Fresh.nil .nil⟩
theorem DA.go {t : TA} (ha : DA K cls W t fs) {σ : St} {F H : Hp} {g : Env} {O : List Addr} {Q : List V → Hp → Prop} (s : Same F H) (st : Sts K cls F H σ g O)
    (hx : ∀ c, fs g = .xc c → ∀ F' H', Ext F H F' H' → W (excV cls c) none σ H') (hb : fs g ≠ .bad) (hk : ∀ d, fs g = .ok d → ∀ v F' H', Ext F H F' H' → Bos K cls F' H' v d → Q v H') : t σ H Q := by
  refine ha σ F H g O Q s st ?_
  cases e : fs g with
  | ok k => exact hk k e
  | xc c => exact hx c e
  | bad => exact (hb e).elim
theorem DAO.go {t : TA} (ha : DAO K cls W t fs) {σ : St} {F H : Hp} {g : Env} {O : List Addr} {Q : List V → Hp → Prop} (s : Same F H) (st : Sts K cls F H σ g O)
    (hx : ∀ c, fs g = .xc c → ∀ F' H', Ext F H F' H' → W (excV cls c) none σ H') (hb : fs g ≠ .bad) (hk : ∀ d, fs g = .ok d → ∀ v F' H' O', Ext F H F' H' → Fresh H O' → Ows K cls F' H' v d O' → Q v H') : t σ H Q := by
  refine ha σ F H g O Q s st ?_
  cases e : fs g with
  | ok k => exact hk k e
  | xc c => exact hx c e
  | bad => exact (hb e).elim
theorem ja_cons (ha : JE X cls W a fa) (hr : JA X cls W es fs) (hs : starEach (a :: es) X.env = (false, eval a X.env) :: starEach es X.env := by rfl) : JA X cls W (a :: es) (aCons fa fs) := by
  obtain ⟨ta, pa, da⟩ := ha.ex
  obtain ⟨tr, pr, dr⟩ := hr.ex
  refine ⟨_, pa_cons pa pr hs, ?_⟩
  intro σ F H g O Q s st p
  rw [aCons_] at p
  refine da.go s st (fun c e => by rw [e] at p; exact p) (fun e => by rw [e] at p; exact p) fun d e v F1 H1 x1 b1 => ?_
  rw [e] at p
  simp only [Res.bind] at p
  refine dr.go x1.fh (st.ext x1) (fun c e F' H' x => by rw [e] at p; exact p F' H' (x1.trans x)) (fun e => by rw [e] at p; exact p) fun ds es vs F2 H2 x2 b2 => ?_
  rw [es] at p
  exact p _ F2 H2 (x1.trans x2) (.cons (b1.ext x2) b2)
theorem jao_cons (ha : JE X cls W a fa) (hr : JAO X cls W es fs) (hs : starEach (a :: es) X.env = (false, eval a X.env) :: starEach es X.env := by rfl) : JAO X cls W (a :: es) (aConsO fa fs) := by
  obtain ⟨ta, pa, da⟩ := ha.ex
  obtain ⟨tr, pr, dr⟩ := hr.ex
  refine ⟨_, pa_cons pa pr hs, ?_⟩
  intro σ F H g O Q s st p
  rw [aConsO_] at p
  refine da.goO s st (fun c e => by rw [e] at p; exact p) (fun e => ?_) fun d e v F1 H1 O1 x1 fr1 b1 => ?_
  · cases q : fa g with
    | ok d => rw [q] at e p; simp only [Res.bind] at e p; rw [e] at p; exact p
    | xc c => rw [q] at e; cases e
    | bad => rw [q] at p; exact p
  have p : PostAO X.K cls W σ F H Q ((fs g).bind fun r => .ok (d :: r)) := by
    cases q : fa g with
    | ok d => rw [q] at e p; simp only [Res.bind] at e p; rw [e] at p; exact p
    | xc c => rw [q] at e; cases e
    | bad => rw [q] at e; cases e
  refine dr.go x1.fh (st.ext x1) (fun c e F' H' x => by rw [e] at p; exact p F' H' (x1.trans x)) (fun e => by rw [e] at p; exact p) fun ds es vs F2 H2 O2 x2 fr2 b2 => ?_
  rw [es] at p
  refine p _ F2 H2 (O1 ++ O2) (x1.trans x2) (fun a ha => ?_) (.cons (b1.ext x2) b2 (fun a h1 h2 => ?_) rfl)
  · rcases List.mem_append.mp ha with q | q
    · exact fr1 a q
    · exact x1.hh.free (fr2 a q)
  · exact (b1.dom a h1).2 (fr2 a h2)
def eLst (fs : Env → Res (List D)) : Env → Res D := fun g => (fs g).bind fun ds => if ds.length ≤ lim then .ok (.ol ds) else .bad
def eTup (fs : Env → Res (List D)) : Env → Res D := fun g => (fs g).bind fun ds => if ds.length ≤ lim ∧ nods ds = true then .ok (.tp (frzs ds)) else .bad
@[simp] theorem eLst_ (fs : Env → Res (List D)) (g : Env) : eLst fs g = (fs g).bind fun ds => if ds.length ≤ lim then .ok (.ol ds) else .bad := rfl
@[simp] theorem eTup_ (fs : Env → Res (List D)) (g : Env) : eTup fs g = (fs g).bind fun ds => if ds.length ≤ lim ∧ nods ds = true then .ok (.tp (frzs ds)) else .bad := rfl
theorem je_lst (h : JAO X cls W es fs) : JE X cls W (.List es pos) (eLst fs) := by
  obtain ⟨ta, pa, da⟩ := h.ex
  refine ⟨_, pe_lst pa, ?_⟩
  intro σ F H g O Q s st p
  rw [eLst_] at p
  refine da.go s st (fun c e => by rw [e] at p; exact p) (fun e => by rw [e] at p; exact p) fun ds e vs F1 H1 O1 x1 fr1 b1 => ?_
  rw [e] at p
  simp only [Res.bind] at p
  split at p
  · rename_i hl
    refine ⟨lim_ok (by rw [b1.len]; exact hl), fun q hq => ?_⟩
    exact p _ _ _ (q :: O1) (x1.trans (Ext.own x1.fh hq)) (fun a ha => by
      rcases List.mem_cons.mp ha with rfl | ha
      · exact x1.hh.free hq
      · exact fr1 a ha) (.inl (ow_new x1.fh hq b1))
  · exact p.elim
theorem je_tup {k : Nat} (h : JAO X cls W es fs) : JE X cls W (.Tuple es k pos) (eTup fs) := by
  obtain ⟨ta, pa, da⟩ := h.ex
  refine ⟨_, pe_tup pa, ?_⟩
  intro σ F H g O Q s st p
  rw [eTup_] at p
  refine da.go s st (fun c e => by rw [e] at p; exact p) (fun e => by rw [e] at p; exact p) fun ds e vs F1 H1 O1 x1 fr1 b1 => ?_
  rw [e] at p
  simp only [Res.bind] at p
  split at p
  · rename_i hl
    refine ⟨lim_ok (by rw [b1.len]; exact hl.1), fun q hq => ?_⟩
    have no : ∀ a ∈ O1, F1 a = none := fun a ha => (b1.dom a ha).1
    have x2 := addF_ext x1 fr1 no
    have r2 := b1.freeze (addF_same no) addF_at hl.2
    exact p _ _ _ [] (x2.trans (Ext.put x2.fh hq)) Fresh.nil (.inl (.sh (.tp (SqT.of upd_same) (r2.mono (Ext.put x2.fh hq).ff))))
  · exact p.elim

def CaOk (K : PySem.W.Frag) (cls : Cls) (r : List V → Hp → VK → Prop) (op : List D → Option D) : Prop :=
  ∀ F H vs ds d Q, Same F H → Bos K cls F H vs ds → op ds = some d → (∀ v F' H' O', Ext F H F' H' → Fresh H O' → Tm K cls F' H' v d O' → Q v H') → r vs H Q
def eCall (op : List D → Option D) (fs : Env → Res (List D)) : Env → Res D := fun g => (fs g).bind fun ds => .of (op ds)
@[simp] theorem eCall_ (op : List D → Option D) (fs : Env → Res (List D)) (g : Env) : eCall op fs g = (fs g).bind fun ds => .of (op ds) := rfl
theorem de_call {r : List V → Hp → VK → Prop} {op : List D → Option D} {t : TA} (hr : CaOk K cls r op) (ha : DA K cls W t fs) : DE K cls W (tCB r t) (eCall op fs) := by
  intro σ F H g O Q s st p
  rw [eCall_] at p
  refine ha.go s st (fun c e => by rw [e] at p; exact p) (fun e => by rw [e] at p; exact p) fun ds e vs F1 H1 x1 b1 => ?_
  rw [e] at p
  simp only [Res.bind] at p
  cases eo : op ds with
  | none => rw [eo] at p; exact p.elim
  | some d =>
    rw [eo] at p
    exact hr F1 H1 vs ds d Q x1.fh b1 eo fun v F' H' O' y fr tm => p v F' H' O' (x1.trans y) (fr.mono x1.hh) tm
theorem je_callB {x : Str} {id : String} {p : Pos} {r : List V → Hp → VK → Prop} {op : List D → Option D} (hc : CallR X (.builtin id) r) (hr : CaOk X.K cls r op) (hm : X.mg x = none) (hv : bootBuiltins x = some (.builtin id)) (ha : JA X cls W (e :: es) fs)
    (hg : Gl X x := by rfl) (hn : x ≠ "__name__" := by decide) (hdb : (x == ("__debug__" : Str)) = false := by decide)
    (he : starEach (e :: es) X.env = (false, eval e X.env) :: starEach es X.env := by rfl) (hpl : (backTo pos (starEach es X.env)).any (·.1) = false := by rfl) : JE X cls W (.Call (.Name x p) (e :: es) [] pos) (eCall op fs) := by
  obtain ⟨ta, pa, da⟩ := ha.ex
  exact ⟨_, pe_callB hc hg hm hv pa hn hdb he hpl, de_call hr da⟩
theorem je_callTy {x : Str} {T : String} {p : Pos} {r : List V → Hp → VK → Prop} {op : List D → Option D} (hc : CallR X (.type T) r) (hr : CaOk X.K cls r op) (hm : X.mg x = none) (hv : bootBuiltins x = some (.type T)) (ha : JA X cls W (e :: es) fs)
    (hg : Gl X x := by rfl) (hn : x ≠ "__name__" := by decide) (hdb : (x == ("__debug__" : Str)) = false := by decide)
    (he : starEach (e :: es) X.env = (false, eval e X.env) :: starEach es X.env := by rfl) (hpl : (backTo pos (starEach es X.env)).any (·.1) = false := by rfl) : JE X cls W (.Call (.Name x p) (e :: es) [] pos) (eCall op fs) := by
  obtain ⟨ta, pa, da⟩ := ha.ex
  exact ⟨_, pe_callTy hc hg hm hv pa hn hdb he hpl, de_call hr da⟩
def caLen : List D → Option D
  | [.str z] => if z.length ≤ lim then some (.int z.length) else none
  | [d] => match sqA d with
    | some xs => some (.int xs.length)
    | none => match d with
      | .bd ks _ => none
      | _ => none
  | _ => none
theorem Bos.one {vs : List V} {d : D} (h : Bos K cls F H vs [d]) : ∃ v, vs = [v] ∧ Bo K cls F H v d := by
  cases h with | cons a b => cases b; exact ⟨_, rfl, a⟩
theorem Bos.two {vs : List V} {d d' : D} (h : Bos K cls F H vs [d, d']) : ∃ v v', vs = [v, v'] ∧ Bo K cls F H v d ∧ Bo K cls F H v' d' := by
  cases h with | cons a b => cases b with | cons a' b' => cases b'; exact ⟨_, _, rfl, a, a'⟩
theorem ok_len : CaOk K cls (fun xs H Q => ∃ x n, xs = [x] ∧ LenV K x H n ∧ Q (.int n) H) caLen := by
  intro F H vs ds d Q s b e q
  unfold caLen at e
  split at e
  · rename_i z
    by_cases h : z.length ≤ lim
    · rw [if_pos h] at e
      cases e
      obtain ⟨v, rfl, b1⟩ := b.one
      obtain rfl := b1.str
      exact ⟨_, _, rfl, ⟨lim_ok h, rfl⟩, pi1 s (.int _) q⟩
    · rw [if_neg h] at e; cases e
  · split at e
    · rename_i xs h1
      cases e
      obtain ⟨v, rfl, b1⟩ := b.one
      obtain ⟨p, vs, rfl, h3, r⟩ := b1.sqA s h1
      have q' : Q (.int (xs.length : Int)) H := pi1 s (.int _) q
      rw [← r.len] at q'
      rcases h3 with h3 | h3
      · exact ⟨_, vs.length, rfl, .inl ⟨vs, h3, rfl⟩, q'⟩
      · exact ⟨_, vs.length, rfl, .inr ⟨vs, h3, rfl⟩, q'⟩
    · split at e <;> cases e
  · cases e
def caMax2 : List D → Option D
  | [.int i, .int j] => some (.int (if j > i then j else i))
  | _ => none
def caMin2 : List D → Option D
  | [.int i, .int j] => some (.int (if j < i then j else i))
  | _ => none
def caAbs : List D → Option D
  | [.int i] => some (.int (if i < 0 then -i else i))
  | _ => none
def caInt : List D → Option D
  | [.int i] => some (.int i)
  | [.bl k] => some (.int (if k = true then 1 else 0))
  | _ => none
theorem ok_int : CaOk K cls (fun xs H Q => (∃ i, xs = [.int i] ∧ Q (.int i) H) ∨ ∃ k, xs = [.bl k] ∧ Q (.int (if k then 1 else 0)) H) caInt := by
  intro F H vs ds d Q s b e q
  unfold caInt at e
  split at e
  · cases e
    obtain ⟨v, rfl, b1⟩ := b.one
    obtain rfl := b1.int
    exact .inl ⟨_, rfl, pi1 s (.int _) q⟩
  · cases e
    obtain ⟨v, rfl, b1⟩ := b.one
    obtain rfl := b1.bl
    exact .inr ⟨_, rfl, pi1 s (.int _) q⟩
  · cases e
@[simp] def sqKA : D → Option (List D)
  | .tp xs => some xs
  | d => sqK d
theorem Bo.sqKA {v : V} {d : D} {xs : List D} (s : Same F H) (b : Bo K cls F H v d) (e : sqKA d = some xs) : ∃ a vs, v = .ref a ∧ (SqL K H a vs ∨ SqT K H a vs) ∧ Rps K cls F vs xs := by
  cases d with
  | tp ys => obtain ⟨a, vs, e1, h1, h2, r⟩ := b.tpv s (xs := xs) (by simpa using e); exact ⟨a, vs, e1, .inr h1, r⟩
  | ls ys => obtain ⟨a, vs, e1, h1, r⟩ := b.sqK s (xs := xs) (by simpa using e); exact ⟨a, vs, e1, .inl h1, r⟩
  | sc ys => obtain ⟨a, vs, e1, h1, r⟩ := b.sqK s (xs := xs) (by simpa using e); exact ⟨a, vs, e1, .inl h1, r⟩
  | bo ys => obtain ⟨a, vs, e1, h1, r⟩ := b.sqK s (xs := xs) (by simpa using e); exact ⟨a, vs, e1, .inl h1, r⟩
  | _ => simp at e
def caList : List D → Option D
  | [d] => (sqKA d).map .ol
  | _ => none
theorem ok_list : CaOk K cls (fun xs H Q => ∃ p ys, xs = [.ref p] ∧ (SqL K H p ys ∨ SqT K H p ys) ∧ ∀ l, H l = none → Q (.ref l) (upd H l (.lst ys))) caList := by
  intro F H vs ds d Q s b e q
  unfold caList at e
  split at e
  · rename_i d0
    cases h1 : sqKA d0 with
    | none => rw [h1] at e; cases e
    | some xs =>
      rw [h1] at e
      cases e
      obtain ⟨v, rfl, b1⟩ := b.one
      obtain ⟨p, ws, rfl, h2, r⟩ := b1.sqKA s h1
      exact ⟨p, ws, rfl, h2, fun l hl => q _ _ _ [l] (Ext.own s hl) (fresh_new hl) (.inl (ow_new s hl r.toOws))⟩
  · cases e
def caTuple : List D → Option D
  | [d] => (sqKA d).map .tp
  | _ => none
def caSum : List D → Option D
  | [d] => match sqL d with
    | some xs => (intsOf xs).map fun ns => .int ns.sum
    | none => none
  | _ => none
theorem Bo.sqI {v : V} {d : D} {xs : List D} {ns : List Int} (s : Same F H) (b : Bo K cls F H v d) (e : DL.sqL d = some xs) (e2 : intsOf xs = some ns) : ∃ a, v = .ref a ∧ L2.SqL K H a (ns.map V.int) := by
  obtain ⟨a, vs, e1, h, r⟩ := Bo.sqL s b e
  rw [intsOf_eq e2] at r
  rw [r.ints] at h
  exact ⟨a, e1, h⟩
def gst : List Int → Int
  | [] => 0
  | [x] => x
  | x :: xs => if gst xs > x then gst xs else x
def lst_ : List Int → Int
  | [] => 0
  | [x] => x
  | x :: xs => if lst_ xs < x then lst_ xs else x
def caMax : List D → Option D
  | [d] => match sqL d with
    | some xs => match intsOf xs with
      | some ns => if ns.isEmpty = true then none else some (.int (gst ns))
      | none => none
    | none => none
  | _ => none
def caMin : List D → Option D
  | [d] => match sqL d with
    | some xs => match intsOf xs with
      | some ns => if ns.isEmpty = true then none else some (.int (lst_ ns))
      | none => none
    | none => none
  | _ => none
def ins (x : Int) : List Int → List Int
  | [] => [x]
  | y :: r => if x ≤ y then x :: y :: r else y :: ins x r
def srt : List Int → List Int
  | [] => []
  | x :: r => ins x (srt r)
theorem ins_perm (x : Int) : ∀ l : List Int, (ins x l).Perm (x :: l)
  | [] => List.Perm.refl _
  | y :: r => by
    unfold ins
    split
    · exact List.Perm.refl _
    · exact ((ins_perm x r).cons y).trans (List.Perm.swap x y r)
theorem srt_perm : ∀ l : List Int, (srt l).Perm l
  | [] => List.Perm.refl _
  | x :: r => (ins_perm x _).trans ((srt_perm r).cons x)
theorem ins_sorted (x : Int) : ∀ {l : List Int}, l.Pairwise (· ≤ ·) → (ins x l).Pairwise (· ≤ ·)
  | [], _ => by simp [ins]
  | y :: r, h => by
    unfold ins
    obtain ⟨h1, h2⟩ := List.pairwise_cons.mp h
    split
    · rename_i hxy
      refine List.pairwise_cons.mpr ⟨fun z hz => ?_, h⟩
      rcases List.mem_cons.mp hz with rfl | hz
      · exact hxy
      · exact Int.le_trans hxy (h1 z hz)
    · rename_i hxy
      refine List.pairwise_cons.mpr ⟨fun z hz => ?_, ins_sorted x h2⟩
      rcases List.mem_cons.mp ((ins_perm x r).mem_iff.mp hz) with rfl | hz
      · omega
      · exact h1 z hz
theorem srt_sorted : ∀ l : List Int, (srt l).Pairwise (· ≤ ·)
  | [] => List.Pairwise.nil
  | x :: r => ins_sorted x (srt_sorted r)
theorem sorted_uniq : ∀ {l m : List Int}, l.Perm m → l.Pairwise (· ≤ ·) → m.Pairwise (· ≤ ·) → l = m
  | [], m, p, _, _ => (List.nil_perm.mp p).symm
  | x :: l, [], p, _, _ => absurd p.length_eq (by simp)
  | x :: l, y :: m, p, h1, h2 => by
    obtain ⟨a1, a2⟩ := List.pairwise_cons.mp h1
    obtain ⟨b1, b2⟩ := List.pairwise_cons.mp h2
    have e : x = y := by
      have hx : x ∈ y :: m := p.mem_iff.mp List.mem_cons_self
      have hy : y ∈ x :: l := p.mem_iff.mpr List.mem_cons_self
      rcases List.mem_cons.mp hx with q | q
      · exact q
      · rcases List.mem_cons.mp hy with q' | q'
        · exact q'.symm
        · exact Int.le_antisymm (a1 y q') (b1 x q)
    subst e
    rw [sorted_uniq (List.Perm.cons_inv p) a2 b2]
theorem srt_uniq {l m : List Int} (p : l.Perm m) (h : l.Pairwise (· ≤ ·)) : l = srt m := sorted_uniq (p.trans (srt_perm m).symm) h (srt_sorted m)
theorem srt_len (l : List Int) : (srt l).length = l.length := (srt_perm l).length_eq
def caSorted : List D → Option D
  | [d] => match sqL d with
    | some xs => (intsOf xs).map fun ns => .ol ((srt ns).map D.int)
    | none => none
  | _ => none
theorem ok_sorted : CaOk K cls (rSortedI K) caSorted := by
  intro F H vs ds d Q s b e q
  unfold caSorted at e
  split at e
  · split at e
    · rename_i xs h1
      cases h2 : intsOf xs with
      | none => rw [h2] at e; cases e
      | some ns =>
        rw [h2] at e
        cases e
        obtain ⟨v, rfl, b1⟩ := b.one
        obtain ⟨a, rfl, h3⟩ := b1.sqI s h1 h2
        refine ⟨a, ns, rfl, h3, fun ns' p pm pw hp => ?_⟩
        obtain rfl := srt_uniq pm pw
        exact q _ _ _ [p] (Ext.own s hp) (fresh_new hp) (.inl (ow_new s hp rps_ints.toOws))
    · cases e
  · cases e
def caAll : List D → Option D
  | [d] => match sqL d with
    | some xs => (blsOf xs).map fun ns => .bl (ns.all id)
    | none => none
  | _ => none
theorem ok_all : CaOk K cls (rAll K) caAll := by
  intro F H vs ds d Q s b e q
  unfold caAll at e
  split at e
  · split at e
    · rename_i xs h1
      cases h2 : blsOf xs with
      | none => rw [h2] at e; cases e
      | some ns =>
        rw [h2] at e
        cases e
        obtain ⟨v, rfl, b1⟩ := b.one
        obtain ⟨a, vs, rfl, h3, r⟩ := b1.sqL s h1
        rw [blsOf_eq h2] at r
        rw [r.bls] at h3
        exact ⟨a, ns, rfl, h3, pi1 s (.bl _) q⟩
    · cases e
  · cases e
end
end DL

namespace DL
open PySem L2
theorem set_self {α : Type} : ∀ {l : List α} {i : Nat} {a : α}, l[i]? = some a → l.set i a = l
  | [], _, _, h => by simp at h
  | x :: l, 0, a, h => by simp at h; subst h; rfl
  | x :: l, i + 1, a, h => by rw [List.set_cons_succ, set_self (by simpa using h)]
structure Cn (X : Cx) (W : WX) (k : Nat) : Prop where
  tk : Takes X W
  hp : PassesOwn (model X.prog X.w) X.A X.env X.xe
  calm : X.calm = true
  nd : X.N.Nodup
  hr : Room k X.A
theorem Cn.mono {X : Cx} {W : WX} {j k : Nat} (c : Cn X W k) (h : j ≤ k) : Cn X W j := ⟨c.tk, c.hp, c.calm, c.nd, c.hr.mono h⟩
theorem Cn.eq {X : Cx} {W : WX} {k : Nat} (c : Cn X W k) : X.A.units + 64 < cLine := c.hr.units
abbrev W0 : WX := fun _ _ _ _ => False
theorem Cn.blk {X : Cx} {W : WX} {k : Nat} (c : Cn X W k) {s : Shared} {H : Hp} {scope : Scope} {cenv : PySem.Env} {fp : List Addr} : Cn (X.blk s H scope cenv fp) W0 k :=
  ⟨takes0, PassesOwn.never, c.calm, c.nd, c.hr⟩

structure ClsOk (K : PySem.W.Frag) (cls : Cls) (c : Nat) (C : Addr) (ns : List Str) : Prop where
  e : cls c = some (C, ns)
  nd : ns.Nodup
  cl : L2.Cls K C
  na : ∀ f ∈ ns, NoAttr K C f
theorem lookup_zip : ∀ {ns : List Str} {vs : List V} {i : Nat} {f : Str} {v : V}, ns.Nodup → ns[i]? = some f → vs[i]? = some v → (ns.zip vs).lookup f = some v
  | [], _, _, _, _, _, h, _ => by simp at h
  | n :: ns, [], _, _, _, _, _, h => by simp at h
  | n :: ns, w :: vs, 0, f, v, nd, h1, h2 => by
    simp at h1 h2
    subst h1 h2
    simp [List.lookup]
  | n :: ns, w :: vs, i + 1, f, v, nd, h1, h2 => by
    obtain ⟨a1, a2⟩ := List.nodup_cons.mp nd
    have h1' : ns[i]? = some f := by simpa using h1
    have : ¬ f = n := fun e => a1 (e ▸ List.mem_of_getElem? h1')
    rw [List.zip_cons_cons, List.lookup]
    have e : (f == n) = false := by simpa using this
    rw [e]
    exact lookup_zip a2 h1' (by simpa using h2)
def opFld (c i : Nat) : D → Option D
  | .ob c' ds => if c' = c then ds[i]? else none
  | .bb c' ds => if c' = c then ds[i]? else none
  | _ => none
section
variable {K : PySem.W.Frag} {cls : Cls} {W : WX} {X : Cx} {F H F' H' F1 H1 : Hp} {O O1 : List Addr} {Q : VK} {σ : St} {a b e : Expr} {es : List Expr} {fa fb fc : Env → Res D} {ga gb : Env → Res Bool} {fs : Env → Res (List D)} {pos : Pos}
theorem Bo.fld {c i : Nat} {C : Addr} {ns : List Str} {f : Str} {v : V} {d r : D} (s : Same F H) (T : ClsOk K cls c C ns) (hi : ns[i]? = some f) (b : Bo K cls F H v d) (e : opFld c i d = some r) :
    ∃ a dx fs w, v = .ref a ∧ H a = some (.ins C dx fs) ∧ fs.lookup f = some w ∧ Bo K cls F H w r := by
  cases d with
  | ob c' ds =>
    have e2 : (if c' = c then ds[i]? else none) = some r := e
    split at e2
    · rename_i hc
      subst hc
      cases b with
      | sh rr =>
        cases rr with
        | ob he hF hl hr =>
          have := he.symm.trans T.e
          cases this
          obtain ⟨w, h1, h2⟩ := hr.get e2
          exact ⟨_, _, _, w, rfl, s _ _ hF, lookup_zip T.nd hi h1, .sh h2⟩
    · cases e2
  | bb c' ds =>
    have e2 : (if c' = c then ds[i]? else none) = some r := e
    split at e2
    · rename_i hc
      subst hc
      cases b with
      | sh rr => cases rr
      | bb he hF hl hr =>
        have := he.symm.trans T.e
        cases this
        obtain ⟨w, h1, h2⟩ := hr.get e2
        exact ⟨_, _, _, w, rfl, hF, lookup_zip T.nd hi h1, h2⟩
    · cases e2
  | _ => cases e
theorem je_fld {c i : Nat} {C : Addr} {ns : List Str} {f : Str} (T : ClsOk X.K cls c C ns) (hi : ns[i]? = some f) (ha : JE X cls W a fa) (hb : attributeBase a f X.env (eval a X.env) = eval a X.env := by rfl) : JE X cls W (.Attribute a f pos) (eUn (opFld c i) fa) := by
  obtain ⟨ta, pa, da⟩ := ha.ex
  refine ⟨_, pe_fld pa hb, ?_⟩
  intro σ F H g O Q s st p
  rw [eUn_] at p
  refine da.go s st (fun c e => by rw [e] at p; exact p) (fun e => by rw [e] at p; exact p) fun d e v F1 H1 x1 b1 => ?_
  rw [e] at p
  simp only [Res.bind] at p
  cases eo : opFld c i (opd d) with
  | none => rw [eo] at p; exact p.elim
  | some r =>
    rw [eo] at p
    obtain ⟨a, dx, fs, w, rfl, h1, h2, h3⟩ := b1.fld x1.fh T hi eo
    exact ⟨_, _, _, _, w, rfl, h1, T.cl, T.na f (List.mem_of_getElem? hi), h2, p w F1 H1 [] x1 Fresh.nil (.inr ⟨h3, rfl⟩)⟩

def spD (K : PySem.W.Frag) (cls : Cls) (n : Nat) (g : List D → Res D) : Sp := fun vs H Q E => ∃ F ds, Same F H ∧ Rps K cls F vs ds ∧ ds.length = n ∧
  match g ds with
  | .ok d => ∀ v F' H' O', Ext F H F' H' → Fresh H O' → Ow K cls F' H' v d O' → Q v H'
  | .xc c => ∀ F' H', Ext F H F' H' → E (excV cls c) none H'
  | .bad => False
mutual
/-- nothing but scalars, in new lists -/
@[simp] def flat : D → Bool
  | .non => true
  | .bl _ => true
  | .int _ => true
  | .str _ => true
  | .ol xs => flats xs
  | _ => false
@[simp] def flats : List D → Bool
  | [] => true
  | d :: ds => flat d && flats ds
end
mutual
@[simp] def plok : D → Bool
  | .bd _ _ => false
  | .bo xs => ploks xs
  | .bb _ xs => ploks xs
  | _ => true
@[simp] def ploks : List D → Bool
  | [] => true
  | d :: ds => plok d && ploks ds
end
mutual
theorem Bo.pln (s : Same F H) : ∀ {v : V} {d : D}, Bo K cls F H v d → plok d = true → Rp K cls H v (pln d)
  | _, _, .sh r, _ => by
    have r' := r.mono s
    cases r <;> exact r'
  | _, _, .bo h r, e => by
    simp only [DL.pln]
    exact .ls h (Bos.plns s r (by simpa using e))
  | _, _, .bb hc h l r, e => by
    simp only [DL.pln]
    exact .ob hc h l (Bos.plns s r (by simpa using e))
  | _, _, .bd .., e => by simp at e
theorem Bos.plns (s : Same F H) : ∀ {v : List V} {d : List D}, Bos K cls F H v d → ploks d = true → Rps K cls H v (plns d)
  | _, _, .nil, _ => .nil
  | _, _, .cons a b, e => by
    simp only [ploks, Bool.and_eq_true] at e
    simp only [DL.plns]
    exact .cons (Bo.pln s a e.1) (Bos.plns s b e.2)
end
mutual
theorem Ow.flat : ∀ {v : V} {d : D} {O : List Addr}, Ow K cls F' H' v d O → flat d = true → (∀ a ∈ O, F a = none) → Ow K cls F H' v d O
  | _, _, _, .sh r, e, _ => by
    cases r with
    | non => exact .sh .non
    | bl b => exact .sh (.bl b)
    | int b => exact .sh (.int b)
    | str b => exact .sh (.str b)
    | _ => simp at e
  | _, _, _, .ol h1 h2 h3 r, e, k => .ol (k _ (by simp)) h2 h3 (Ows.flats r (by simpa using e) fun a ha => k a (by simp [ha]))
  | _, _, _, .od .., e, _ => by simp at e
  | _, _, _, .oo .., e, _ => by simp at e
theorem Ows.flats : ∀ {v : List V} {d : List D} {O : List Addr}, Ows K cls F' H' v d O → flats d = true → (∀ a ∈ O, F a = none) → Ows K cls F H' v d O
  | _, _, _, .nil, _, _ => .nil
  | _, _, _, .cons a b dj q, e, k => by
    simp only [DL.flats, Bool.and_eq_true] at e
    exact .cons (Ow.flat a e.1 fun x hx => k x (by simp [q, hx])) (Ows.flats b e.2 fun x hx => k x (by simp [q, hx])) dj q
end
def calD (g : List D → Res D) (ds : List D) : Res D :=
  if shd ds = true then g ds
  else if ploks ds = true then (g (plns ds)).bind fun d => if flat d = true then .ok d else .bad
  else .bad
def eOwn (g : List D → Res D) (fs : Env → Res (List D)) : Env → Res D := fun e => (fs e).bind fun ds => calD g ds
@[simp] theorem eOwn_ (g : List D → Res D) (fs : Env → Res (List D)) (e : Env) : eOwn g fs e = (fs e).bind fun ds => calD g ds := rfl
theorem plns_len : ∀ ds : List D, (plns ds).length = ds.length
  | [] => rfl
  | d :: ds => by simp [plns, plns_len ds]
theorem spD_call {n : Nat} {g : List D → Res D} {vs : List V} {ds : List D} {E : XK} (s : Same F H) (b : Bos K cls F H vs ds) (hn : ds.length = n)
    (p : match calD g ds with
      | .ok d => ∀ v F' H' O', Ext F H F' H' → Fresh H O' → Ow K cls F' H' v d O' → Q v H'
      | .xc c => ∀ F' H', Ext F H F' H' → E (excV cls c) none H'
      | .bad => False) : spD K cls n g vs H Q E := by
  unfold calD at p
  by_cases h1 : shd ds = true
  · rw [if_pos h1] at p
    exact ⟨F, ds, s, b.toRps h1, hn, p⟩
  · rw [if_neg h1] at p
    by_cases h2 : ploks ds = true
    · rw [if_pos h2] at p
      refine ⟨H, plns ds, .refl H, b.plns s h2, by rw [plns_len]; exact hn, ?_⟩
      have up : ∀ {F' H'}, Ext H H F' H' → Ext F H F H' := fun x => ⟨.refl F, x.hh, s.trans x.hh, fun _ h _ => h⟩
      cases e : g (plns ds) with
      | ok d =>
        rw [e] at p
        simp only [Res.bind] at p ⊢
        by_cases h3 : flat d = true
        · rw [if_pos h3] at p
          intro v F' H' O' x fr ow
          refine p v F H' O' (up x) fr (ow.flat h3 fun a ha => ?_)
          cases q : F a with
          | none => rfl
          | some o => have := fr a ha; rw [s a o q] at this; cases this
        · rw [if_neg h3] at p; exact p.elim
      | xc c =>
        rw [e] at p
        exact fun F' H' x => p F H' (up x)
      | bad => rw [e] at p; exact p.elim
    · rw [if_neg h2] at p; exact p.elim
theorem je_own {x : Str} {f : Addr} {fd : FuncData} {ps : List Str} {k n : Nat} {g : List D → Res D} {p : Pos} (c : Cn X W k) (G : FnOk X.prog X.w X.K X.mg X.base (L2.CX X.prog X.w) k f fd ps (spD X.K cls n g))
    (hm : X.mg x = some (.ref f)) (hk : PySem.W.keepIn X.K (.ref f) = true) (hb : Binds X.K fd ps []) (ha : JA X cls W (e :: es) fs) (hn : ∀ g ds, fs g = .ok ds → ds.length = n) (hg : Gl X x := by rfl)
    (hdb : (x == ("__debug__" : Str)) = false := by decide) (he : starEach (e :: es) X.env = (false, eval e X.env) :: starEach es X.env := by rfl) (hpl : (backTo pos (starEach es X.env)).any (·.1) = false := by rfl) :
    JE X cls W (.Call (.Name x p) (e :: es) [] pos) (eOwn g fs) := by
  obtain ⟨ta, pa, da⟩ := ha.ex
  refine ⟨_, pe_callS G c.hr hg hm hk hb (fun σ => passAt c.tk σ) pa hdb he hpl, ?_⟩
  intro σ F H env O Q s st p
  rw [eOwn_] at p
  refine da.go s st (fun c e => by rw [e] at p; exact p) (fun e => by rw [e] at p; exact p) fun ds e vs F1 H1 x1 b1 => ?_
  rw [e] at p
  simp only [Res.bind] at p
  refine spD_call x1.fh b1 (hn env ds e) ?_
  cases eo : calD g ds with
  | ok d => rw [eo] at p; exact fun v F' H' O' y fr ow => p v F' H' O' (x1.trans y) (fr.mono x1.hh) (.inl ow)
  | xc c => rw [eo] at p; exact fun F' H' y => p F' H' (x1.trans y)
  | bad => rw [eo] at p; exact p
theorem an_len {g : Env} {ds : List D} {n : Nat} (h : ∀ g ds, fs g = .ok ds → ds.length = n) (e : aCons fa fs g = .ok ds) : ds.length = n + 1 := by
  rw [aCons_] at e
  cases q1 : fa g with
  | ok d =>
    rw [q1] at e
    simp only [Res.bind] at e
    cases q2 : fs g with
    | ok r => rw [q2] at e; cases e; simp [h g r q2]
    | xc c => rw [q2] at e; cases e
    | bad => rw [q2] at e; cases e
  | xc c => rw [q1] at e; cases e
  | bad => rw [q1] at e; cases e
theorem al0 : ∀ g ds, aNil g = .ok ds → ds.length = 0 := fun g ds e => by cases e; rfl
theorem alS {n : Nat} (h : ∀ g ds, fs g = .ok ds → ds.length = n) : ∀ g ds, aCons fa fs g = .ok ds → ds.length = n + 1 := fun g ds e => an_len h e

def PostS (K : PySem.W.Frag) (cls : Cls) (W : WX) (D : Ends) (F H : Hp) (O : List Addr) : Out → Prop
  | .nx g => ∀ σ' F' H' O', SExt F H O F' H' O' → Sts K cls F' H' σ' g O' → D.nx σ' H'
  | .rt d => ∀ v F' H' O', SExt F H O F' H' O' → Ow K cls F' H' v d O' → D.rt v H'
  | .bk g => ∀ σ' F' H' O', SExt F H O F' H' O' → Sts K cls F' H' σ' g O' → D.bk σ' H'
  | .ct g => ∀ σ' F' H' O', SExt F H O F' H' O' → Sts K cls F' H' σ' g O' → D.ct σ' H'
  | .xc c g => ∀ σ' F' H' O', SExt F H O F' H' O' → Sts K cls F' H' σ' g O' → W (excV cls c) none σ' H'
  | .bad => False
def DS (K : PySem.W.Frag) (cls : Cls) (W : WX) (t : TS) (f : Env → Out) : Prop :=
  ∀ D σ F H g O, Same F H → Sts K cls F H σ g O → PostS K cls W D F H O (f g) → t D σ H
structure JS (X : Cx) (cls : Cls) (W : WX) (st : Stmt) (f : Env → Out) : Prop where
  ex : ∃ t, PS X st t ∧ DS X.K cls W t f
structure JSs (X : Cx) (cls : Cls) (W : WX) (st : List Stmt) (f : Env → Out) : Prop where
  ex : ∃ t, PSs X st t ∧ DS X.K cls W t f
theorem PostS.mono {D : Ends} {r : Out} (x : SExt F H O F1 H1 O1) (p : PostS K cls W D F H O r) : PostS K cls W D F1 H1 O1 r := by
  cases r with
  | nx g => exact fun σ' F' H' O' y => p σ' F' H' O' (x.trans y)
  | rt d => exact fun v F' H' O' y => p v F' H' O' (x.trans y)
  | bk g => exact fun σ' F' H' O' y => p σ' F' H' O' (x.trans y)
  | ct g => exact fun σ' F' H' O' y => p σ' F' H' O' (x.trans y)
  | xc c g => exact fun σ' F' H' O' y => p σ' F' H' O' (x.trans y)
  | bad => exact p
def Res.st {α : Type} (r : Res α) (g : Env) (f : α → Out) : Out := match r with
  | .ok a => f a
  | .xc c => .xc c g
  | .bad => .bad
@[simp] theorem Res.st_ok {α : Type} (a : α) (g : Env) (f : α → Out) : (Res.ok a).st g f = f a := rfl
@[simp] theorem Res.st_xc {α : Type} (c : Nat) (g : Env) (f : α → Out) : (Res.xc c : Res α).st g f = .xc c g := rfl
@[simp] theorem Res.st_bad {α : Type} (g : Env) (f : α → Out) : (Res.bad : Res α).st g f = .bad := rfl
theorem xc_st {D : Ends} {c : Nat} {g : Env} (st : Sts K cls F H σ g O) (p : PostS K cls W D F H O (.xc c g)) : ∀ F' H', Ext F H F' H' → W (excV cls c) none σ H' :=
  fun F' H' x => p σ F' H' O (x.sext fun a h => .inl h) (st.ext x)
def sSeq (f u : Env → Out) : Env → Out := fun g => match f g with
  | .nx g' => u g'
  | o => o
@[simp] theorem sSeq_ (f u : Env → Out) (g : Env) : sSeq f u g = match f g with
  | .nx g' => u g'
  | o => o := rfl
def sNil : Env → Out := fun g => .nx g
@[simp] theorem sNil_ (g : Env) : sNil g = .nx g := rfl
theorem ds_seq {t u : TS} {f1 f2 : Env → Out} (h1 : DS K cls W t f1) (h2 : DS K cls W u f2) : DS K cls W (tSeq t u) (sSeq f1 f2) := by
  intro D σ F H g O s st p
  rw [sSeq_] at p
  refine h1 _ σ F H g O s st ?_
  cases e : f1 g with
  | nx g' => rw [e] at p; exact fun σ' F' H' O' x st' => h2 D σ' F' H' g' O' x.fh st' (PostS.mono x p)
  | rt d => rw [e] at p; exact p
  | bk g' => rw [e] at p; exact p
  | ct g' => rw [e] at p; exact p
  | xc c g' => rw [e] at p; exact p
  | bad => rw [e] at p; exact p
theorem jss_nil : JSs X cls W [] sNil := ⟨_, pss_nil, fun D σ F H g O s st p => p σ F H O (.refl s) st⟩
theorem jss_cons {st : Stmt} {sts : List Stmt} {f1 f2 : Env → Out} (h1 : JS X cls W st f1) (h2 : JSs X cls W sts f2) : JSs X cls W (st :: sts) (sSeq f1 f2) := by
  obtain ⟨t, p, d⟩ := h1.ex
  obtain ⟨u, q, d'⟩ := h2.ex
  exact ⟨_, pss_cons p q, ds_seq d d'⟩
theorem jss_one {st : Stmt} {f1 : Env → Out} (h1 : JS X cls W st f1) : JSs X cls W [st] f1 := by
  obtain ⟨t, p, d⟩ := h1.ex
  exact ⟨_, pss_one p, d⟩
def sNever : Env → Out := fun _ => .bad
@[simp] theorem sNever_ (g : Env) : sNever g = .bad := rfl
def sBreak : Env → Out := fun g => .bk g
@[simp] theorem sBreak_ (g : Env) : sBreak g = .bk g := rfl
def sCont : Env → Out := fun g => .ct g
@[simp] theorem sCont_ (g : Env) : sCont g = .ct g := rfl
def sIf (c : Env → Res Bool) (f1 f2 : Env → Out) : Env → Out := fun g => (c g).st g fun k => if k = true then f1 g else f2 g
@[simp] theorem sIf_ (c : Env → Res Bool) (f1 f2 : Env → Out) (g : Env) : sIf c f1 f2 g = (c g).st g fun k => if k = true then f1 g else f2 g := rfl
theorem js_if {c : Expr} {s1 s2 : List Stmt} {f1 f2 : Env → Out} (hc : JT X cls W c ga) (h1 : JSs X cls W s1 f1) (h2 : JSs X cls W s2 f2) : JS X cls W (.If c s1 s2 pos) (sIf ga f1 f2) := by
  obtain ⟨tc, pc, dc⟩ := hc.ex
  obtain ⟨t1, p1, d1⟩ := h1.ex
  obtain ⟨t2, p2, d2⟩ := h2.ex
  refine ⟨_, ps_if pc p1 p2, ?_⟩
  intro D σ F H g O s st p
  rw [sIf_] at p
  refine dc.go s st (fun c e => by rw [e] at p; exact xc_st st p) (fun e => by rw [e] at p; exact p) fun k e F1 H1 x => ?_
  rw [e, Res.st_ok] at p
  have x' : SExt F H O F1 H1 O := x.sext fun a h => .inl h
  cases k with
  | true =>
    rw [if_pos rfl] at p
    rw [if_pos rfl]
    exact d1 D σ F1 H1 g O x.fh (st.ext x) (p.mono x')
  | false =>
    rw [if_neg (by decide)] at p
    rw [if_neg (by decide)]
    exact d2 D σ F1 H1 g O x.fh (st.ext x) (p.mono x')
theorem DE.goS {t : TE} (ha : DE K cls W t fa) {σ : St} {F H : Hp} {g : Env} {O : List Addr} {Q : VK} {Dn : Ends} {f : D → Out} (s : Same F H) (st : Sts K cls F H σ g O)
    (p : PostS K cls W Dn F H O (((fa g).bind kp).st g f)) (hk : ∀ d, (fa g).bind kp = .ok d → PostS K cls W Dn F H O (f d) → ∀ v F' H' O', Ext F H F' H' → Fresh H O' → Ow K cls F' H' v d O' → Q v H') : t σ H Q := by
  refine ha.goO s st (fun c e => ?_) (fun e => by rw [e] at p; exact p) fun d e => ?_
  · have e' : (fa g).bind kp = .xc c := by rw [e]; rfl
    rw [e'] at p
    exact xc_st st p
  · rw [e] at p
    exact hk d e p
def sAsg (i : Nat) (fa : Env → Res D) : Env → Out := fun g => ((fa g).bind kp).st g fun d => .nx (g.set i d)
@[simp] theorem sAsg_ (i : Nat) (fa : Env → Res D) (g : Env) : sAsg i fa g = ((fa g).bind kp).st g fun d => .nx (g.set i d) := rfl
def sAsgF (i : Nat) (fa : Env → Res D) : Env → Out := fun g => ((fa g).bind kp).st g fun d => if nod d = true then .nx (g.set i (frz d)) else .bad
@[simp] theorem sAsgF_ (i : Nat) (fa : Env → Res D) (g : Env) : sAsgF i fa g = ((fa g).bind kp).st g fun d => if nod d = true then .nx (g.set i (frz d)) else .bad := rfl
theorem Sts.put {i : Nat} {v : V} {d : D} {g : Env} {Od : List Addr} (st : Sts K cls F H σ g O) (x : Ext F H F' H') (fr : Fresh H Od) (w : Ow K cls F' H' v d Od) :
    ∃ O'', Sts K cls F' H' (σ.set i (some v)) (g.set i d) O'' ∧ SExt F H O F' H' O'' := by
  have ne : ∀ a ∈ O, H a ≠ none := fun a ha => (st.dom a ha).2
  by_cases hi : i < g.length
  · obtain ⟨O1, h1, h2, h3, h4⟩ := st.at i hi
    obtain ⟨O'', q1, q2⟩ := h3 F' H' v d Od (fun b hb _ => x.get (st.dom b hb).1 (ne b hb)) x.ff w (fun a h1 h2 => absurd (fr a h1) (ne a h2))
    exact ⟨O'', q1, x.sext fun a ha => (q2 a ha).imp id (fr a)⟩
  · have hl := st.len
    rw [List.set_eq_of_length_le (by omega), List.set_eq_of_length_le (by omega)]
    exact ⟨O, st.ext x, x.sext fun a h => .inl h⟩
theorem Sts.putS {i : Nat} {v : V} {d : D} {g : Env} (s : Same F H) (st : Sts K cls F H σ g O) (w : Rp K cls F v d) :
    ∃ O'', Sts K cls F H (σ.set i (some v)) (g.set i d) O'' ∧ SExt F H O F H O'' := st.put (.refl s) Fresh.nil (.sh w)
theorem ds_asg {t : TE} {i : Nat} (ha : DE K cls W t fa) : DS K cls W (tAsg t (gName i)) (sAsg i fa) := by
  intro D σ F H g O s st p
  refine ha.goS s st p fun d e p v F1 H1 O1 x fr w => ?_
  obtain ⟨O'', q1, q2⟩ := st.put (i := i) x fr w
  exact p _ F1 H1 O'' q2 q1
theorem ds_asgF {t : TE} {i : Nat} (ha : DE K cls W t fa) : DS K cls W (tAsg t (gName i)) (sAsgF i fa) := by
  intro D σ F H g O s st p
  refine ha.goS s st p fun d e p v F1 H1 O1 x fr w => ?_
  split at p
  · rename_i n
    have no : ∀ a ∈ O1, F1 a = none := fun a ha => (w.dom a ha).1
    have x2 := addF_ext x fr no
    obtain ⟨O'', q1, q2⟩ := st.put (i := i) x2 Fresh.nil (.sh (w.freeze (addF_same no) addF_at n))
    exact p _ _ H1 O'' q2 q1
  · exact p.elim
theorem js_set {i : Nat} {x : Str} {pos' : Pos} {k : Nat} (c : Cn X W k) (hi : X.N[i]? = some x) (hx : Loc X.env.scope x) (ha : JE X cls W a fa) (hs : swapsWith a (some (.Name x pos')) pos.line X.env = pure false := by rfl)
    (hf : X.fn x = true ∨ X.env.scope.names.lookup x = some .local := by first | exact .inl rfl | exact .inr rfl) : JS X cls W (.Assign [.Name x pos'] a pos) (sAsg i fa) := by
  obtain ⟨t, p, d⟩ := ha.ex
  exact ⟨_, ps_set c.nd hi hx p hs hf, ds_asg d⟩
theorem js_setF {i : Nat} {x : Str} {pos' : Pos} {k : Nat} (c : Cn X W k) (hi : X.N[i]? = some x) (hx : Loc X.env.scope x) (ha : JE X cls W a fa) (hs : swapsWith a (some (.Name x pos')) pos.line X.env = pure false := by rfl)
    (hf : X.fn x = true ∨ X.env.scope.names.lookup x = some .local := by first | exact .inl rfl | exact .inr rfl) : JS X cls W (.Assign [.Name x pos'] a pos) (sAsgF i fa) := by
  obtain ⟨t, p, d⟩ := ha.ex
  exact ⟨_, ps_set c.nd hi hx p hs hf, ds_asgF d⟩
def sRet (fa : Env → Res D) : Env → Out := fun g => ((fa g).bind kp).st g .rt
@[simp] theorem sRet_ (fa : Env → Res D) (g : Env) : sRet fa g = ((fa g).bind kp).st g .rt := rfl
theorem js_ret (ha : JE X cls W a fa) : JS X cls W (.Return (some a) pos) (sRet fa) := by
  obtain ⟨t, p, d⟩ := ha.ex
  refine ⟨_, ps_ret p, ?_⟩
  intro D σ F H g O s st p
  exact d.goS s st p fun d e p v F1 H1 O1 x fr w => p v F1 H1 O1 (x.sext fun a h => .inr (fr a h)) w
def sRetV (i : Nat) : Env → Out := fun g => match g[i]? with
  | some .un => .bad
  | some d => .rt d
  | none => .bad
@[simp] theorem sRetV_ (i : Nat) (g : Env) : sRetV i g = match g[i]? with
  | some .un => .bad
  | some d => .rt d
  | none => .bad := rfl
theorem js_retV (i : Nat) {x : Str} {pos' : Pos} (hN : X.N[i]? = some x := by rfl) (hv : Vis X.env.scope x := by first | exact Or.inl rfl | exact Or.inr (Or.inl rfl) | exact Or.inr (Or.inr rfl)) (hd : (x == ("__debug__" : Str)) = false := by decide)
    (hcd : (x == ("__classdict__" : Str)) = false := by decide) : JS X cls W (.Return (some (.Name x pos')) pos) (sRetV i) := by
  refine ⟨_, ps_ret (pe_var hN hv hd hcd), ?_⟩
  intro D σ F H g O s st p
  rw [sRetV_] at p
  cases e : g[i]? with
  | none => rw [e] at p; exact p.elim
  | some d =>
    have hi : i < g.length := (List.getElem?_eq_some_iff.mp e).1
    obtain ⟨O1, h1, h2, _⟩ := st.at i hi
    rcases h2 with ⟨h2, _⟩ | ⟨v, d', h2, h3, ow⟩
    · rw [e] at h2; cases h2; rw [e] at p; exact p.elim
    · rw [e] at h3; cases h3
      rw [e] at p
      have q : PostS X.K cls W D F H O (.rt d) := by cases d <;> first | exact p | exact p.elim
      exact ⟨v, h2, q v F H O1 ⟨.refl F, s, fun _ _ h _ => h, fun _ h _ _ => h, fun a ha => .inl (h1 a ha)⟩ ow⟩
def sRetN : Env → Out := fun _ => .rt .non
@[simp] theorem sRetN_ (g : Env) : sRetN g = .rt .non := rfl
def sExp (fa : Env → Res D) : Env → Out := fun g => (fa g).st g fun _ => .nx g
@[simp] theorem sExp_ (fa : Env → Res D) (g : Env) : sExp fa g = (fa g).st g fun _ => .nx g := rfl
theorem js_exp (ha : JE X cls W a fa) (hs : swapsWith a none pos.line X.env = pure false := by rfl) : JS X cls W (.Expr a pos) (sExp fa) := by
  obtain ⟨t, p, d⟩ := ha.ex
  refine ⟨_, ps_expr p hs, ?_⟩
  intro D σ F H g O s st p
  rw [sExp_] at p
  exact d.go s st (fun c e => by rw [e] at p; exact xc_st st p) (fun e => by rw [e] at p; exact p) fun d e v F1 H1 x b => by
    rw [e] at p
    exact p σ F1 H1 O (x.sext fun a h => .inl h) (st.ext x)
def frzAt (g : Env) (i : Nat) : Env := match g[i]? with
  | some d => if nod d = true then g.set i (frz d) else g
  | none => g
def sFrz (i : Nat) (f : Env → Out) : Env → Out := fun g => f (frzAt g i)
@[simp] theorem sFrz_ (i : Nat) (f : Env → Out) (g : Env) : sFrz i f g = f (frzAt g i) := rfl
theorem Sts.frzAt (s : Same F H) {g : Env} (i : Nat) (st : Sts K cls F H σ g O) : ∃ F' O', SExt F H O F' H O' ∧ Sts K cls F' H σ (frzAt g i) O' := by
  unfold DL.frzAt
  cases e : g[i]? with
  | none => exact ⟨F, O, .refl s, st⟩
  | some d =>
    simp only []
    by_cases n : nod d = true
    · rw [if_pos n]
      have hi : i < g.length := (List.getElem?_eq_some_iff.mp e).1
      obtain ⟨O1, h1, h2, h3, h4⟩ := st.at i hi
      rcases h2 with ⟨h2, _⟩ | ⟨v, d', h2, h3', ow⟩
      · rw [e] at h2; cases h2
        rw [show frz .un = .un from rfl, set_self e]
        exact ⟨F, O, .refl s, st⟩
      · rw [e] at h3'; cases h3'
        have no : ∀ a ∈ O1, F a = none := fun a ha => (ow.dom a ha).1
        obtain ⟨O'', q1, q2⟩ := h3 (addF F H O1) H v (frz d) [] (fun b hb hn => ⟨rfl, by rw [addF_no hn]; exact (st.dom b hb).1⟩) (addF_same no) (.sh (ow.freeze (addF_same no) addF_at n)) (fun _ h => nomatch h)
        rw [set_self h2] at q1
        refine ⟨_, O'', ⟨addF_same no, fun a o e => ?_, fun _ _ h _ => h, fun a ha hb hc => ?_, fun a ha => .inl ((q2 a ha).resolve_right (fun h => nomatch h))⟩, q1⟩
        · unfold addF at e
          split at e
          · exact e
          · exact s a o e
        · rw [addF_no fun q => hc (h1 a q)]; exact ha
    · rw [if_neg n]; exact ⟨F, O, .refl s, st⟩
theorem ds_frz {t : TS} {f : Env → Out} {i : Nat} (h : DS K cls W t f) : DS K cls W t (sFrz i f) := by
  intro D σ F H g O s st p
  obtain ⟨F', O', x, st'⟩ := st.frzAt s i
  exact h D σ F' H (frzAt g i) O' x.fh st' (p.mono x)
theorem js_frz {st : Stmt} {f : Env → Out} (i : Nat) (h : JS X cls W st f) : JS X cls W st (sFrz i f) := by
  obtain ⟨t, p, d⟩ := h.ex
  exact ⟨t, p, ds_frz d⟩
end
end DL

namespace DL
open PySem L2
theorem wipe_set {σ : St} {i : Nat} {o : Option V} : ∀ {vs : List Nat}, wipe (σ.set i o) vs = if i ∈ vs then wipe σ vs else (wipe σ vs).set i o
  | [] => by simp [wipe]
  | v :: vs => by
    unfold wipe
    rw [wipe_set (vs := vs)]
    by_cases h : i = v
    · subst h
      simp only [List.mem_cons, true_or, if_true]
      split
      · rfl
      · rw [List.set_set]
    · by_cases h2 : i ∈ vs
      · simp [h2]
      · have : ¬ i ∈ v :: vs := by simp [h, h2]
        rw [if_neg this, if_neg h2, List.set_comm _ _ h]
theorem wipe_in {σ : St} {i : Nat} {o : Option V} {vs : List Nat} (h : i ∈ vs) : wipe (σ.set i o) vs = wipe σ vs := by rw [wipe_set, if_pos h]
theorem wipe_wipe {σ : St} : ∀ {us vs : List Nat}, (∀ i ∈ us, i ∈ vs) → wipe (wipe σ us) vs = wipe σ vs
  | [], _, _ => rfl
  | u :: us, vs, h => by
    show wipe ((wipe σ us).set u none) vs = _
    rw [wipe_in (h u (by simp))]
    exact wipe_wipe fun i hi => h i (by simp [hi])
def wipeG (g : Env) : List Nat → Env
  | [] => g
  | v :: vs => (wipeG g vs).set v .un
@[simp] theorem wipeG_nil (g : Env) : wipeG g [] = g := rfl
@[simp] theorem wipeG_cons (g : Env) (v : Nat) (vs : List Nat) : wipeG g (v :: vs) = (wipeG g vs).set v .un := rfl
section
variable {K : PySem.W.Frag} {cls : Cls} {W : WX} {X : Cx} {F H F' H' F1 H1 : Hp} {O O1 : List Addr} {Q : VK} {σ : St} {a b e tg iter : Expr} {es : List Expr} {fa fb fc : Env → Res D} {ga gb : Env → Res Bool} {fs : Env → Res (List D)} {pos : Pos}
theorem Sts.wipe (s : Same F H) {g : Env} (st : Sts K cls F H σ g O) : ∀ vs : List Nat, ∃ O', Sts K cls F H (wipe σ vs) (wipeG g vs) O' ∧ ∀ a ∈ O', a ∈ O
  | [] => ⟨O, st, fun _ h => h⟩
  | v :: vs => by
    obtain ⟨O', st', h'⟩ := st.wipe s vs
    by_cases hi : v < (wipeG g vs).length
    · obtain ⟨O1, h1, h2, h3, h4⟩ := st'.at v hi
      obtain ⟨O'', q1, q2, _⟩ := h4 F H none (fun b hb _ => ⟨rfl, (st'.dom b hb).1⟩) (.refl F)
      exact ⟨O'', q1, fun a ha => h' a (q2 a ha)⟩
    · have hl := st'.len
      refine ⟨O', ?_, h'⟩
      show Sts K cls F H ((L2.wipe σ vs).set v none) ((wipeG g vs).set v .un) O'
      rw [List.set_eq_of_length_le (by omega), List.set_eq_of_length_le (by omega)]
      exact st'

def DG (K : PySem.W.Frag) (cls : Cls) (t : TG) (f : D → Env → Option Env) (ss : List Nat) : Prop :=
  ∀ v d σ F H g O g' Q, Same F H → Sts K cls F H σ g O → Rp K cls F v d → f d g = some g' →
    (∀ σ' O', SExt F H O F H O' → Sts K cls F H σ' g' O' → (∀ vs : List Nat, (∀ i ∈ ss, i ∈ vs) → wipe σ' vs = wipe σ vs) → Q σ' H) → t v σ H Q
def DGs (K : PySem.W.Frag) (cls : Cls) (t : TGs) (f : List D → Env → Option Env) (ss : List Nat) : Prop :=
  ∀ v d σ F H g O g' Q, Same F H → Sts K cls F H σ g O → Rps K cls F v d → f d g = some g' →
    (∀ σ' O', SExt F H O F H O' → Sts K cls F H σ' g' O' → (∀ vs : List Nat, (∀ i ∈ ss, i ∈ vs) → wipe σ' vs = wipe σ vs) → Q σ' H) → t v σ H Q
structure JG (X : Cx) (cls : Cls) (e : Expr) (f : D → Env → Option Env) (ss : List Nat) : Prop where
  ex : ∃ t, PG X e t ∧ DG X.K cls t f ss
structure JGs (X : Cx) (cls : Cls) (e : List Expr) (f : List D → Env → Option Env) (ss : List Nat) : Prop where
  ex : ∃ t, PGs X e t ∧ DGs X.K cls t f ss
def gtN (i : Nat) : D → Env → Option Env := fun d g => some (g.set i d)
@[simp] theorem gtN_ (i : Nat) (d : D) (g : Env) : gtN i d g = some (g.set i d) := rfl
def gtNil : List D → Env → Option Env := fun ds g => match ds with | [] => some g | _ => none
@[simp] theorem gtNil_nil (g : Env) : gtNil [] g = some g := rfl
def gtCons (f : D → Env → Option Env) (fs : List D → Env → Option Env) : List D → Env → Option Env := fun ds g => match ds with
  | d :: r => match f d g with
    | some g1 => fs r g1
    | none => none
  | [] => none
@[simp] theorem gtCons_cons (f : D → Env → Option Env) (fs : List D → Env → Option Env) (d : D) (r : List D) (g : Env) : gtCons f fs (d :: r) g = match f d g with
    | some g1 => fs r g1
    | none => none := rfl
def gtT (n : Nat) (fs : List D → Env → Option Env) : D → Env → Option Env := fun d g => match d with
  | .tp ds => if ds.length = n then fs ds g else none
  | .ls ds => if ds.length = n then fs ds g else none
  | _ => none
@[simp] theorem gtT_tp (n : Nat) (fs : List D → Env → Option Env) (ds : List D) (g : Env) : gtT n fs (.tp ds) g = if ds.length = n then fs ds g else none := rfl
@[simp] theorem gtT_ls (n : Nat) (fs : List D → Env → Option Env) (ds : List D) (g : Env) : gtT n fs (.ls ds) g = if ds.length = n then fs ds g else none := rfl
theorem jg_name {i : Nat} {x : Str} (hN : X.N.Nodup) (hi : X.N[i]? = some x) (hx : Loc X.env.scope x) (hf : X.fn x = true ∨ X.env.scope.names.lookup x = some .local := by first | exact .inl rfl | exact .inr rfl) : JG X cls (.Name x pos) (gtN i) [i] := by
  refine ⟨_, pg_name hN hi hx hf, ?_⟩
  intro v d σ F H g O g' Q s st r e k
  cases e
  obtain ⟨O', q1, q2⟩ := st.putS (i := i) s r
  exact k _ O' q2 q1 fun vs h => wipe_in (h i (by simp))
theorem jgs_nil : JGs X cls [] gtNil [] := by
  refine ⟨_, pgs_nil, ?_⟩
  intro v d σ F H g O g' Q s st r e k
  cases r with
  | nil => cases e; exact ⟨rfl, k σ O (.refl s) st fun _ _ => rfl⟩
  | cons => cases e
theorem jgs_cons {f : D → Env → Option Env} {fs : List D → Env → Option Env} {ss us : List Nat} (h1 : JG X cls e f ss) (h2 : JGs X cls es fs us) (hs : (assignEach (e :: es) X.env).map (·.2) = assign e X.env :: (assignEach es X.env).map (·.2) := by rfl) :
    JGs X cls (e :: es) (gtCons f fs) (ss ++ us) := by
  obtain ⟨t, p, d⟩ := h1.ex
  obtain ⟨u, q, d'⟩ := h2.ex
  refine ⟨_, pgs_cons p q hs, ?_⟩
  intro v ds σ F H g O g' Q s st r e k
  cases r with
  | nil => cases e
  | cons r1 r2 =>
    rename_i v1 d1 vs1 ds1
    rw [gtCons_cons] at e
    cases e1 : f d1 g with
    | none => rw [e1] at e; cases e
    | some g1 =>
      rw [e1] at e
      refine ⟨v1, vs1, rfl, d v1 d1 σ F H g O g1 _ s st r1 e1 fun σ1 O1 x1 st1 w1 => ?_⟩
      refine d' vs1 ds1 σ1 F H g1 O1 g' _ s st1 r2 e fun σ2 O2 x2 st2 w2 => ?_
      exact k σ2 O2 (x1.trans x2) st2 fun vs h => (w2 vs fun i hi => h i (List.mem_append_right _ hi)).trans (w1 vs fun i hi => h i (List.mem_append_left _ hi))
theorem pg_or {t u : TG} (h : PG X tg t) (h' : PG X tg u) : PG X tg (fun v σ H Q => t v σ H Q ∨ u v σ H Q) :=
  ⟨fun pins s σ H v uu Q I r q => q.elim (h.run pins s σ H v uu Q I r) (h'.run pins s σ H v uu Q I r)⟩
theorem jg_tup {kk n : Nat} {fs : List D → Env → Option Env} {ss : List Nat} (hc : X.calm = true) (h : JGs X cls es fs ss)
    (hn : (assignEach es X.env).length = n := by rfl) (hst : (assignEach es X.env).findIdx? (·.1) = none := by rfl) : JG X cls (.Tuple es kk pos) (gtT n fs) ss := by
  obtain ⟨t, p, d⟩ := h.ex
  refine ⟨_, pg_or (pg_tup hc p hn hst) (pg_lst hc p hn hst), ?_⟩
  intro v dd σ F H g O g' Q s st r e k
  cases r with
  | tp hT hr =>
    rw [gtT_tp] at e
    split at e
    · rename_i hl
      exact .inl ⟨_, _, rfl, sameT s hT, by rw [hr.len]; exact hl, d _ _ σ F H g O g' Q s st hr e k⟩
    · cases e
  | ls hT hr =>
    rw [gtT_ls] at e
    split at e
    · rename_i hl
      exact .inr ⟨_, _, rfl, SqL.of (s _ _ hT), by rw [hr.len]; exact hl, d _ _ σ F H g O g' Q s st hr e k⟩
    · cases e
  | _ => cases e
def sAsgT (tg : D → Env → Option Env) (fa : Env → Res D) : Env → Out := fun g => ((fa g).bind kp).st g fun d => if nod d = true then match tg (frz d) g with
  | some g' => .nx g'
  | none => .bad else .bad
@[simp] theorem sAsgT_ (tg : D → Env → Option Env) (fa : Env → Res D) (g : Env) : sAsgT tg fa g = ((fa g).bind kp).st g fun d => if nod d = true then match tg (frz d) g with
  | some g' => .nx g'
  | none => .bad else .bad := rfl
def sPar (i j : Nat) (fs : Env → Res (List D)) : Env → Out := fun g => (fs g).st g fun ds => if nods ds = true then match frzs ds with
  | [d, d'] => .nx ((g.set i d).set j d')
  | _ => .bad else .bad
@[simp] theorem sPar_ (i j : Nat) (fs : Env → Res (List D)) (g : Env) : sPar i j fs g = (fs g).st g fun ds => if nods ds = true then match frzs ds with
  | [d, d'] => .nx ((g.set i d).set j d')
  | _ => .bad else .bad := rfl
end
end DL

namespace DL
open PySem L2
section
variable {K : PySem.W.Frag} {cls : Cls} {W : WX} {X : Cx} {F H F' H' F1 H1 : Hp} {O O1 : List Addr} {Q : VK} {σ : St} {a b e tg iter : Expr} {es : List Expr} {fa fb fc : Env → Res D} {ga gb : Env → Res Bool} {fs : Env → Res (List D)} {pos : Pos}
structure Feeds (K : PySem.W.Frag) (cls : Cls) (F : Hp) (J : It) (ds : List D) : Prop where
  go : ∀ i d, ds[i]? = some d → ∀ F' H', Same F F' → Same F' H' → J.go i H' ∧ ∀ x H'', J.yld i H' x H'' → ∃ F'', Ext F' H' F'' H'' ∧ Rp K cls F'' x d
  stop : ∀ F' H', Same F F' → Same F' H' → J.stop ds.length H'
def PostI (K : PySem.W.Frag) (cls : Cls) (W : WX) (σ : St) (F H : Hp) (R : It → Hp → Prop) : Res (List D) → Prop
  | .ok ds => ∀ J F' H', Ext F H F' H' → Feeds K cls F' J ds → R J H'
  | .xc c => ∀ F' H', Ext F H F' H' → W (excV cls c) none σ H'
  | .bad => False
def DI (K : PySem.W.Frag) (cls : Cls) (W : WX) (wi : TI) (f : Env → Res (List D)) : Prop :=
  ∀ σ F H g O (R : It → Hp → Prop), Same F H → Sts K cls F H σ g O → PostI K cls W σ F H R (f g) → wi σ H R
structure JI (X : Cx) (cls : Cls) (W : WX) (tg e : Expr) (f : Env → Res (List D)) : Prop where
  ex : ∃ wi, PI X tg e wi ∧ DI X.K cls W wi f
theorem pi_or {w1 w2 : TI} (h1 : PI X tg iter w1) (h2 : PI X tg iter w2) : PI X tg iter (fun σ H R => w1 σ H R ∨ w2 σ H R) :=
  ⟨fun pins s σ H R I q => q.elim (h1.run pins s σ H R I) (h2.run pins s σ H R I)⟩
theorem feeds_list {a : Addr} {vs : List V} {ds : List D} (h : SqL K F a vs) (r : Rps K cls F vs ds) : Feeds K cls F (Itl K a) ds where
  go := fun i d e F' H' s1 s2 => by
    obtain ⟨v, h1, h2⟩ := r.get e
    have h' : SqL K H' a vs := (s1.trans s2).seq h
    refine ⟨⟨vs, v, h', h1⟩, fun x H'' y => ?_⟩
    obtain ⟨e1, y⟩ := y
    subst e1
    have := y vs h'
    rw [h1] at this
    cases this
    exact ⟨F', .refl s2, h2.mono s1⟩
  stop := fun F' H' s1 s2 => ⟨vs, (s1.trans s2).seq h, by rw [r.len]; exact Nat.le_refl _⟩
theorem feeds_tup {a : Addr} {vs : List V} {ds : List D} (h : SqT K F a vs) (r : Rps K cls F vs ds) : Feeds K cls F (Itt K a) ds where
  go := fun i d e F' H' s1 s2 => by
    obtain ⟨v, h1, h2⟩ := r.get e
    have h' : SqT K H' a vs := sameT (s1.trans s2) h
    refine ⟨⟨vs, v, h', h1⟩, fun x H'' y => ?_⟩
    obtain ⟨e1, y⟩ := y
    subst e1
    have := y vs h'
    rw [h1] at this
    cases this
    exact ⟨F', .refl s2, h2.mono s1⟩
  stop := fun F' H' s1 s2 => ⟨vs, sameT (s1.trans s2) h, by rw [r.len]; exact Nat.le_refl _⟩
@[simp] def lsS : D → Option (List D)
  | .ls xs => some xs
  | .sc xs => some xs
  | _ => none
theorem Bo.lsS {v : V} {d : D} {xs : List D} (b : Bo K cls F H v d) (e : lsS d = some xs) : ∃ a vs, v = .ref a ∧ SqL K F a vs ∧ Rps K cls F vs xs := by
  cases b with
  | sh r =>
    cases r <;> simp at e
    · subst e; exact ⟨_, _, rfl, by assumption, by assumption⟩
    · subst e; exact ⟨_, _, rfl, SqL.of (by assumption), by assumption⟩
  | bo => simp at e
  | bd => simp at e
  | bb => simp at e
@[simp] def sqS : D → Option (List D)
  | .ls xs => some xs
  | .sc xs => some xs
  | .tp xs => some xs
  | _ => none
def iSeq (fa : Env → Res D) : Env → Res (List D) := fun g => (fa g).bind fun a => .of (sqS (opd a))
@[simp] theorem iSeq_ (fa : Env → Res D) (g : Env) : iSeq fa g = (fa g).bind fun a => .of (sqS (opd a)) := rfl
theorem ji_seq (ha : JE X cls W iter fa) : JI X cls W tg iter (iSeq fa) := by
  obtain ⟨t, p, d⟩ := ha.ex
  refine ⟨_, pi_or (pi_list p) (pi_tup p), ?_⟩
  intro σ F H g O R s st p
  rw [iSeq_] at p
  cases ea : fa g with
  | xc c =>
    rw [ea] at p
    exact .inl (d.go s st (fun c e => by rw [ea] at e; cases e; exact p) (fun e => by rw [ea] at e; cases e) fun d e => by rw [ea] at e; cases e)
  | bad => rw [ea] at p; exact p.elim
  | ok dd =>
    rw [ea] at p
    simp only [Res.bind] at p
    have side : (∃ xs, lsS (opd dd) = some xs ∧ sqS (opd dd) = some xs) ∨ (∃ xs, tpv (opd dd) = some xs ∧ sqS (opd dd) = some xs) ∨ sqS (opd dd) = none := by
      cases opd dd <;> simp
    rcases side with ⟨xs, e1, e2⟩ | ⟨xs, e1, e2⟩ | e2
    · rw [e2] at p
      refine .inl (d.go s st (fun c e => by rw [ea] at e; cases e) (fun e => by rw [ea] at e; cases e) fun d e v F1 H1 x b => ?_)
      rw [ea] at e; cases e
      obtain ⟨a, vs, rfl, h, r⟩ := b.lsS e1
      exact ⟨a, rfl, ⟨vs, x.fh.seq h⟩, p _ F1 H1 x (feeds_list h r)⟩
    · rw [e2] at p
      refine .inr (d.go s st (fun c e => by rw [ea] at e; cases e) (fun e => by rw [ea] at e; cases e) fun d e v F1 H1 x b => ?_)
      rw [ea] at e; cases e
      obtain ⟨a, vs, rfl, h, h', r⟩ := b.tpv x.fh e1
      exact ⟨a, rfl, ⟨vs, h⟩, p _ F1 H1 x (feeds_tup h' r)⟩
    · rw [e2] at p; exact p.elim
def rng (lo : Int) (n : Nat) : List D := (List.range n).map fun i : Nat => D.int (lo + (i : Int))
theorem rng_len (lo : Int) (n : Nat) : (rng lo n).length = n := by unfold rng; simp
theorem rng_get {lo : Int} {n i : Nat} {d : D} (h : (rng lo n)[i]? = some d) : i < n ∧ d = .int (lo + (i : Int)) := by
  unfold rng at h
  rw [List.getElem?_map] at h
  by_cases hi : i < n
  · rw [List.getElem?_range hi] at h
    cases h
    exact ⟨hi, rfl⟩
  · rw [List.getElem?_eq_none (by simpa using hi)] at h; cases h
theorem feeds_rng (lo : Int) (n : Nat) : Feeds K cls F (Itr lo n) (rng lo n) where
  go := fun i d e F' H' s1 s2 => by
    obtain ⟨h1, rfl⟩ := rng_get e
    refine ⟨h1, fun x H'' y => ?_⟩
    obtain ⟨e1, e2⟩ := y
    subst e1 e2
    exact ⟨F', .refl s2, .int _⟩
  stop := fun F' H' s1 s2 => by rw [rng_len]; exact Nat.le_refl _
def rgOk (i : Int) : Prop := i.natAbs ≤ 1000000000
theorem rgOk.lo {i : Int} (h : rgOk i) : -(2 ^ 62) ≤ i := by unfold rgOk at h; omega
theorem rgOk.hi {i : Int} (h : rgOk i) : i < 2 ^ 62 := by unfold rgOk at h; omega
instance (i : Int) : Decidable (rgOk i) := by unfold rgOk; infer_instance
theorem rgOk_of {i : Int} (h : -1000000000 ≤ i) (h' : i ≤ 1000000000) : rgOk i := by unfold rgOk; omega
def iRg1 (fs : Env → Res (List D)) : Env → Res (List D) := fun g => (fs g).bind fun ds => match ds with
  | [.int j] => if rgOk j then .ok (rng 0 j.toNat) else .bad
  | _ => .bad
def iRg2 (fs : Env → Res (List D)) : Env → Res (List D) := fun g => (fs g).bind fun ds => match ds with
  | [.int i, .int j] => if rgOk i ∧ rgOk j then .ok (rng i (j - i).toNat) else .bad
  | _ => .bad
@[simp] theorem iRg1_ (fs : Env → Res (List D)) (g : Env) : iRg1 fs g = (fs g).bind fun ds => match ds with
  | [.int j] => if rgOk j then .ok (rng 0 j.toNat) else .bad
  | _ => .bad := rfl
@[simp] theorem iRg2_ (fs : Env → Res (List D)) (g : Env) : iRg2 fs g = (fs g).bind fun ds => match ds with
  | [.int i, .int j] => if rgOk i ∧ rgOk j then .ok (rng i (j - i).toNat) else .bad
  | _ => .bad := rfl
theorem ji_rg1 {p : Pos} (hm : X.mg "range" = none) (ha : JA X cls W [a] fs) (hg : Gl X "range" := by rfl) (hs : starEach [a] X.env = [(false, eval a X.env)] := by rfl) : JI X cls W tg (.Call (.Name "range" p) [a] [] pos) (iRg1 fs) := by
  obtain ⟨t, p, d⟩ := ha.ex
  refine ⟨_, pi_range1 hg hm p hs, ?_⟩
  intro σ F H g O R s st p
  rw [iRg1_] at p
  refine d.go s st (fun c e => by rw [e] at p; exact p) (fun e => by rw [e] at p; exact p) fun ds e vs F1 H1 x b => ?_
  rw [e] at p
  simp only [Res.bind] at p
  split at p
  · rename_i j
    split at p
    · rename_i hj
      obtain ⟨v, rfl, b1⟩ := b.one
      obtain rfl := b1.int
      exact ⟨j, rfl, hj.lo, hj.hi, p _ F1 H1 x (feeds_rng 0 j.toNat)⟩
    · exact p.elim
  · exact p.elim
theorem ji_rg2 {p : Pos} (hm : X.mg "range" = none) (ha : JA X cls W [a, b] fs) (hg : Gl X "range" := by rfl) (hs : starEach [a, b] X.env = [(false, eval a X.env), (false, eval b X.env)] := by rfl) (hs2 : starEach [b] X.env = [(false, eval b X.env)] := by rfl) :
    JI X cls W tg (.Call (.Name "range" p) [a, b] [] pos) (iRg2 fs) := by
  obtain ⟨t, p, d⟩ := ha.ex
  refine ⟨_, pi_range2 hg hm p hs hs2, ?_⟩
  intro σ F H g O R s st p
  rw [iRg2_] at p
  refine d.go s st (fun c e => by rw [e] at p; exact p) (fun e => by rw [e] at p; exact p) fun ds e vs F1 H1 x b => ?_
  rw [e] at p
  simp only [Res.bind] at p
  split at p
  · rename_i i j
    split at p
    · rename_i hj
      obtain ⟨v, v', rfl, b1, b2⟩ := b.two
      obtain rfl := b1.int
      obtain rfl := b2.int
      exact ⟨i, j, rfl, ⟨hj.1.lo, hj.1.hi, hj.2.lo, hj.2.hi⟩, p _ F1 H1 x (feeds_rng i _)⟩
    · exact p.elim
  · exact p.elim
def enm (i : Nat) : List D → List D
  | [] => []
  | d :: ds => .tp [.int (i : Int), d] :: enm (i + 1) ds
theorem enm_len : ∀ (ds : List D) (i : Nat), (enm i ds).length = ds.length
  | [], _ => rfl
  | d :: ds, i => by simp [enm, enm_len ds]
theorem enm_get : ∀ {ds : List D} {j i : Nat} {d : D}, (enm j ds)[i]? = some d → ∃ e, ds[i]? = some e ∧ d = .tp [.int ((j + i : Nat) : Int), e]
  | [], _, _, _, h => by simp [enm] at h
  | d :: ds, j, 0, _, h => by simp [enm] at h; exact ⟨d, rfl, by simp [← h]⟩
  | d :: ds, j, i + 1, d2, h => by
    have h' : (enm (j + 1) ds)[i]? = some d2 := by simpa [enm] using h
    obtain ⟨e, h1, h2⟩ := enm_get h'
    exact ⟨e, by simpa using h1, by rw [h2, show j + 1 + i = j + (i + 1) by omega]⟩
theorem feeds_enum {a : Addr} {vs : List V} {ds : List D} (h : SqL K F a vs) (r : Rps K cls F vs ds) : Feeds K cls F (Ite K a) (enm 0 ds) where
  go := fun i d e F' H' s1 s2 => by
    obtain ⟨d', e1, rfl⟩ := enm_get e
    obtain ⟨v, h1, h2⟩ := r.get e1
    have h' : SqL K H' a vs := (s1.trans s2).seq h
    refine ⟨⟨vs, v, h', h1⟩, fun x H'' y => ?_⟩
    obtain ⟨T, w, e1, e2, e3, y⟩ := y
    subst e1 e3
    have := y vs h'
    rw [h1] at this
    cases this
    have px := Ext.put (o := .tup [.int ((0 + i : Nat) : Int), v]) s2 e2
    rw [Nat.zero_add] at px ⊢
    exact ⟨_, px, .tp (SqT.of upd_same) (.cons (.int _) (.cons (h2.mono (s1.trans px.ff)) .nil))⟩
  stop := fun F' H' s1 s2 => ⟨vs, (s1.trans s2).seq h, by rw [enm_len, r.len]; exact Nat.le_refl _⟩
def iEnm (fs : Env → Res (List D)) : Env → Res (List D) := fun g => (fs g).bind fun ds => match ds with
  | [d] => (Res.of (lsS d)).bind fun xs => .ok (enm 0 xs)
  | _ => .bad
@[simp] theorem iEnm_ (fs : Env → Res (List D)) (g : Env) : iEnm fs g = (fs g).bind fun ds => match ds with
  | [d] => (Res.of (lsS d)).bind fun xs => .ok (enm 0 xs)
  | _ => .bad := rfl
theorem ji_enm {p tpos : Pos} {elts : List Expr} {kk : Nat} (hm : X.mg "enumerate" = none) (ha : JA X cls W [a] fs) (hg : Gl X "enumerate" := by rfl) (hs : starEach [a] X.env = [(false, eval a X.env)] := by rfl) :
    JI X cls W (.Tuple elts kk tpos) (.Call (.Name "enumerate" p) [a] [] pos) (iEnm fs) := by
  obtain ⟨t, p, d⟩ := ha.ex
  refine ⟨_, pi_enum hg hm p hs, ?_⟩
  intro σ F H g O R s st p
  rw [iEnm_] at p
  refine d.go s st (fun c e => by rw [e] at p; exact p) (fun e => by rw [e] at p; exact p) fun ds e vs F1 H1 x b => ?_
  rw [e] at p
  simp only [Res.bind] at p
  split at p
  · rename_i d1
    cases e1 : lsS d1 with
    | none => rw [e1] at p; exact p.elim
    | some xs =>
      rw [e1] at p
      simp only [Res.of] at p
      obtain ⟨v, rfl, b1⟩ := b.one
      obtain ⟨a, vs, rfl, h, r⟩ := b1.lsS e1
      exact ⟨a, vs, rfl, x.fh.seq h, p _ F1 H1 x (feeds_enum h r)⟩
  · exact p.elim
def zipD : List D → List D → List D
  | a :: xs, b :: ys => .tp [a, b] :: zipD xs ys
  | _, _ => []
def iZp (fs : Env → Res (List D)) : Env → Res (List D) := fun g => (fs g).bind fun ds => match ds with
  | [d, e] => (Res.of (lsS d)).bind fun xs => (Res.of (lsS e)).bind fun ys => .ok (zipD xs ys)
  | _ => .bad
@[simp] theorem iZp_ (fs : Env → Res (List D)) (g : Env) : iZp fs g = (fs g).bind fun ds => match ds with
  | [d, e] => (Res.of (lsS d)).bind fun xs => (Res.of (lsS e)).bind fun ys => .ok (zipD xs ys)
  | _ => .bad := rfl
def forL (tg : D → Env → Option Env) (b : Env → Out) : List D → Env → Out
  | [], g => .nx g
  | d :: ds, g => match tg d g with
    | none => .bad
    | some g1 => match b g1 with
      | .nx g' => forL tg b ds g'
      | .ct g' => forL tg b ds g'
      | .bk g' => .nx g'
      | o => o
@[simp] theorem forL_nil (tg : D → Env → Option Env) (b : Env → Out) (g : Env) : forL tg b [] g = .nx g := rfl
theorem forL_cons (tg : D → Env → Option Env) (b : Env → Out) (d : D) (ds : List D) (g : Env) : forL tg b (d :: ds) g = match tg d g with
    | none => .bad
    | some g1 => match b g1 with
      | .nx g' => forL tg b ds g'
      | .ct g' => forL tg b ds g'
      | .bk g' => .nx g'
      | o => o := rfl
def sFor (fi : Env → Res (List D)) (tg : D → Env → Option Env) (b : Env → Out) : Env → Out := fun g => (fi g).st g fun ds => forL tg b ds g
@[simp] theorem sFor_ (fi : Env → Res (List D)) (tg : D → Env → Option Env) (b : Env → Out) (g : Env) : sFor fi tg b g = (fi g).st g fun ds => forL tg b ds g := rfl
theorem ds_for {wi : TI} {t : TG} {tb : TS} {ft : D → Env → Option Env} {fbo : Env → Out} {ss : List Nat} (hi : DI K cls W wi fs) (hg : DG K cls t ft ss) (hb : DS K cls W tb fbo) : DS K cls W (tFor wi t tb) (sFor fs ft fbo) := by
  intro D σ F H g O s st p
  rw [sFor_] at p
  refine hi σ F H g O _ s st ?_
  cases e : fs g with
  | bad => rw [e] at p; exact p
  | xc c => rw [e] at p; exact xc_st st p
  | ok ds =>
    rw [e, Res.st_ok] at p
    intro J F1 H1 x1 fd
    have x1' : SExt F H O F1 H1 O := x1.sext fun a h => .inl h
    refine ⟨fun i m σ2 H2 => m = ds.length - i ∧ i ≤ ds.length ∧ ∃ F2 g2 O2, SExt F1 H1 O F2 H2 O2 ∧ Sts K cls F2 H2 σ2 g2 O2 ∧ PostS K cls W D F1 H1 O (forL ft fbo (ds.drop i) g2),
      ⟨ds.length, rfl, Nat.zero_le _, F1, g, O, .refl x1.fh, st.ext x1, by rw [List.drop_zero]; exact p.mono x1'⟩, ?_⟩
    rintro i m σ2 H2 ⟨rfl, hi, F2, g2, O2, x2, st2, p2⟩
    by_cases hlt : i < ds.length
    · have ed : ds.drop i = ds[i] :: ds.drop (i + 1) := List.drop_eq_getElem_cons hlt
      rw [ed, forL_cons] at p2
      obtain ⟨g0, y0⟩ := fd.go i ds[i] (by simp [hlt]) F2 H2 x2.ff x2.fh
      have nxt : ∀ {g' : Env} {F3 H3 O3 : _} {σ3 : St}, SExt F1 H1 O F3 H3 O3 → Sts K cls F3 H3 σ3 g' O3 → PostS K cls W D F1 H1 O (forL ft fbo (ds.drop (i + 1)) g') →
          ∃ m', m' < ds.length - i ∧ m' = ds.length - (i + 1) ∧ i + 1 ≤ ds.length ∧ ∃ F2 g2 O2, SExt F1 H1 O F2 H3 O2 ∧ Sts K cls F2 H3 σ3 g2 O2 ∧ PostS K cls W D F1 H1 O (forL ft fbo (ds.drop (i + 1)) g2) :=
        fun {g' F3 H3 O3 σ3} x st' q => ⟨ds.length - (i + 1), by omega, rfl, hlt, F3, g', O3, x, st', q⟩
      refine .inr ⟨g0, fun σ3 H3 => ∃ F3 g' O3, SExt F1 H1 O F3 H3 O3 ∧ Sts K cls F3 H3 σ3 g' O3 ∧ PostS K cls W D F1 H1 O (forL ft fbo (ds.drop (i + 1)) g'), fun σ3 H3 ⟨F3, g', O3, x, st', q⟩ => nxt x st' q, fun v H3 yv => ?_⟩
      obtain ⟨F3, x3, rv⟩ := y0 v H3 yv
      cases et : ft ds[i] g2 with
      | none => rw [et] at p2; exact p2.elim
      | some g3 =>
        rw [et] at p2
        simp only [] at p2
        refine hg v ds[i] σ2 F3 H3 g2 O2 g3 _ x3.fh (st2.ext x3) rv et fun σ4 O4 x4 st4 _ => ?_
        have x34 : SExt F1 H1 O F3 H3 O4 := x2.trans ((x3.sext fun a h => .inl h).trans x4)
        refine hb _ σ4 F3 H3 g3 O4 x3.fh st4 ?_
        cases eb : fbo g3 with
        | nx g' => rw [eb] at p2; exact fun σ5 F5 H5 O5 x5 st5 => ⟨F5, g', O5, x34.trans x5, st5, p2⟩
        | ct g' => rw [eb] at p2; exact fun σ5 F5 H5 O5 x5 st5 => ⟨F5, g', O5, x34.trans x5, st5, p2⟩
        | bk g' => rw [eb] at p2; exact fun σ5 F5 H5 O5 x5 st5 => p2 σ5 F5 H5 O5 (x34.trans x5) st5
        | rt d => rw [eb] at p2; exact fun v F5 H5 O5 x5 w => p2 v F5 H5 O5 (x34.trans x5) w
        | xc c g' => rw [eb] at p2; exact fun σ5 F5 H5 O5 x5 st5 => p2 σ5 F5 H5 O5 (x34.trans x5) st5
        | bad => rw [eb] at p2; exact p2
    · have ei : i = ds.length := by omega
      subst ei
      rw [List.drop_length] at p2
      exact .inl ⟨fd.stop F2 H2 x2.ff x2.fh, p2 σ2 F2 H2 O2 x2 st2⟩
theorem js_for {body : List Stmt} {ft : D → Env → Option Env} {fbo : Env → Out} {ss : List Nat} {k : Nat} (c : Cn X W k) (hi : JI X cls W tg iter fs) (hg : JG X cls tg ft ss) (hb : JSs X cls W body fbo)
    (hs : ∀ x, foldedSetIterable iter X.env x = pure x := by intro _; rfl) : JS X cls W (.For tg iter body [] pos) (sFor fs ft fbo) := by
  obtain ⟨wi, p, d⟩ := hi.ex
  obtain ⟨t, q, d'⟩ := hg.ex
  obtain ⟨tb, r, d''⟩ := hb.ex
  exact ⟨_, ps_for c.hp c.calm p q r hs, ds_for d d' d''⟩

def whileN (c : Env → Res Bool) (b : Env → Out) : Nat → Env → Out
  | 0, _ => .bad
  | n + 1, g => (c g).st g fun k => if k = true then match b g with
      | .nx g' => whileN c b n g'
      | .ct g' => whileN c b n g'
      | .bk g' => .nx g'
      | o => o
    else .nx g
def fuel : Nat := 1000000000
def sWhile (c : Env → Res Bool) (b : Env → Out) : Env → Out := fun g => whileN c b fuel g
@[simp] theorem sWhile_ (c : Env → Res Bool) (b : Env → Out) (g : Env) : sWhile c b g = whileN c b fuel g := rfl
def lcL (tg : D → Env → Option Env) (tt : Env → Res Bool) (te : Env → Res D) (g : Env) : List D → Res (List D)
  | [] => .ok []
  | d :: ds => match tg d g with
    | none => .bad
    | some g1 => (tt g1).bind fun b => if b = true then ((te g1).bind kp).bind fun y => (lcL tg tt te g ds).bind fun r => .ok (y :: r) else lcL tg tt te g ds
@[simp] theorem lcL_nil (tg : D → Env → Option Env) (tt : Env → Res Bool) (te : Env → Res D) (g : Env) : lcL tg tt te g [] = .ok [] := rfl
theorem lcL_cons (tg : D → Env → Option Env) (tt : Env → Res Bool) (te : Env → Res D) (g : Env) (d : D) (ds : List D) : lcL tg tt te g (d :: ds) = match tg d g with
    | none => .bad
    | some g1 => (tt g1).bind fun b => if b = true then ((te g1).bind kp).bind fun y => (lcL tg tt te g ds).bind fun r => .ok (y :: r) else lcL tg tt te g ds := rfl
def eLc (fi : Env → Res (List D)) (own : List Nat) (tg : D → Env → Option Env) (tt : Env → Res Bool) (te : Env → Res D) : Env → Res D := fun g => (fi g).bind fun ds => if ds.length ≤ lim then
  match lcL tg tt te (wipeG g own) ds with
  | .ok r => .ok (.ol r)
  | _ => .bad
  else .bad
@[simp] theorem eLc_ (fi : Env → Res (List D)) (own : List Nat) (tg : D → Env → Option Env) (tt : Env → Res Bool) (te : Env → Res D) (g : Env) : eLc fi own tg tt te g = (fi g).bind fun ds => if ds.length ≤ lim then
  match lcL tg tt te (wipeG g own) ds with
  | .ok r => .ok (.ol r)
  | _ => .bad
  else .bad := rfl
def tYesG : Env → Res Bool := fun _ => .ok true
@[simp] theorem tYesG_ (g : Env) : tYesG g = .ok true := rfl
theorem Ows.snoc {vs : List V} {ds : List D} {O1 O2 : List Addr} {v : V} {d : D} (h : Ows K cls F H vs ds O1) (w : Ow K cls F H v d O2) (dj : ∀ a ∈ O1, a ∉ O2) : Ows K cls F H (vs ++ [v]) (ds ++ [d]) (O1 ++ O2) := by
  induction ds generalizing vs O1 with
  | nil => cases h; exact .cons w .nil (fun _ _ q => nomatch q) (by simp)
  | cons d' ds ih =>
    cases h with
    | cons a b dj' e =>
      subst e
      refine .cons a (ih b fun x hx => dj x (List.mem_append_right _ hx)) (fun x h1 h2 => ?_) (by simp)
      rcases List.mem_append.mp h2 with q | q
      · exact dj' x h1 q
      · exact dj x (List.mem_append_left _ h1) q
theorem de_lc {wi : TI} {t : TG} {tt : TT} {te : TE} {ft : D → Env → Option Env} {gt : Env → Res Bool} {fe : Env → Res D} {ss own : List Nat} (hi : DI K cls W wi fs) (hg : DG K cls t ft ss) (ht : DT K cls W0 tt gt) (he : DE K cls W0 te fe) (hss : ∀ i ∈ ss, i ∈ own) :
    DE K cls W (tLc wi t tt te own) (eLc fs own ft gt fe) := by
  intro σ F H g O Q s st p
  rw [eLc_] at p
  refine hi σ F H g O _ s st ?_
  cases e : fs g with
  | bad => rw [e] at p; exact p
  | xc c => rw [e] at p; exact p
  | ok ds =>
    rw [e] at p
    simp only [Res.bind] at p
    intro J F1 H1 x1 fd A hA
    by_cases hlen : ds.length ≤ lim
    · rw [if_pos hlen] at p
      -- the env within the block
      obtain ⟨Ow1, stw, hw⟩ := (st.ext x1).wipe x1.fh own
      have fA : F1 A = none := by
        cases q : F1 A with
        | none => rfl
        | some u => rw [x1.fh A u q] at hA; cases hA
      have sA : Same H1 (upd H1 A (.lst [])) := upd_same' hA
      let Inv := fun (i : Nat) (H2 : Hp) => ∃ F2 acc es' O2, Ext F1 H1 F2 H2 ∧ H2 A = some (.lst acc) ∧ F2 A = none ∧ A ∉ O2 ∧ Fresh H1 O2 ∧ Ows K cls F2 H2 acc es' O2 ∧ es'.length ≤ i ∧
        ∃ r, lcL ft gt fe (wipeG g own) (ds.drop i) = .ok r ∧ lcL ft gt fe (wipeG g own) ds = .ok (es' ++ r)
      cases er : lcL ft gt fe (wipeG g own) ds with
      | bad => rw [er] at p; exact p.elim
      | xc c => rw [er] at p; exact p.elim
      | ok r0 =>
        rw [er] at p
        simp only [] at p
        refine ⟨fun i m H2 => m = ds.length - i ∧ i ≤ ds.length ∧ Inv i H2, ⟨ds.length, rfl, Nat.zero_le _, F1, [], [], [], Ext.own x1.fh hA, upd_same, fA, by simp, Fresh.nil, .nil, Nat.zero_le _, r0, by rw [List.drop_zero]; exact er, by simpa using er⟩, ?_⟩
        rintro i m H2 ⟨rfl, hi, F2, acc, es', O2, x2, h2, f2, n2, fr2, w2, hl2, r, e1, e2⟩
        by_cases hlt : i < ds.length
        · have ed : ds.drop i = ds[i] :: ds.drop (i + 1) := List.drop_eq_getElem_cons hlt
          rw [ed, lcL_cons] at e1
          obtain ⟨g0, y0⟩ := fd.go i ds[i] (by simp [hlt]) F2 H2 x2.ff x2.fh
          refine .inr ⟨g0, fun H3 => Inv (i + 1) H3, fun H3 q => ⟨ds.length - (i + 1), by omega, rfl, hlt, q⟩, fun v H3 yv => ?_⟩
          obtain ⟨F3, x3, rv⟩ := y0 v H3 yv
          cases et : ft ds[i] (wipeG g own) with
          | none => rw [et] at e1; cases e1
          | some g3 =>
            rw [et] at e1
            simp only [] at e1
            have stw3 := (stw.ext x2).ext x3
            refine hg v ds[i] _ F3 H3 (wipeG g own) Ow1 g3 _ x3.fh stw3 rv et fun σ4 O4 x4 st4 w4 => ⟨?_, ?_⟩
            · exact (w4 own hss).trans (wipe_wipe fun _ h => h)
            · have h3 : H3 A = some (.lst acc) := x3.hh _ _ h2
              have f3 : F3 A = none := x3.ow A f2 (by rw [h2]; exact fun e => nomatch e)
              refine ht σ4 F3 H3 g3 O4 _ x3.fh st4 ?_
              cases eb : gt g3 with
              | bad => rw [eb] at e1; cases e1
              | xc c => rw [eb] at e1; cases e1
              | ok b =>
                rw [eb, Res.bind_ok] at e1
                intro F5 H5 x5
                have h5 : H5 A = some (.lst acc) := x5.hh _ _ h3
                have f5 : F5 A = none := x5.ow A f3 (by rw [h3]; exact fun e => nomatch e)
                have x25 := x2.trans (x3.trans x5)
                cases b with
                | false =>
                  rw [if_neg (by decide)] at e1
                  rw [if_neg (by decide)]
                  exact ⟨F5, acc, es', O2, x25, h5, f5, n2, fr2, (w2.ext x3).ext x5, Nat.le_succ_of_le hl2, r, e1, e2⟩
                | true =>
                  rw [if_pos rfl] at e1
                  rw [if_pos rfl]
                  refine he.goO x5.fh (st4.ext x5) (fun c e => by rw [e] at e1; cases e1) (fun e => by rw [e] at e1; cases e1) fun d e v F6 H6 O6 x6 fr6 w6 => ?_
                  rw [e, Res.bind_ok] at e1
                  cases er2 : lcL ft gt fe (wipeG g own) (ds.drop (i + 1)) with
                  | bad => rw [er2] at e1; cases e1
                  | xc c => rw [er2] at e1; cases e1
                  | ok r2 =>
                    rw [er2] at e1
                    cases e1
                    have h6 : H6 A = some (.lst acc) := x6.hh _ _ h5
                    have f6 : F6 A = none := x6.ow A f5 (by rw [h5]; exact fun e => nomatch e)
                    have x26 := x25.trans x6
                    have n6 : A ∉ O6 := fun q => by have := fr6 A q; rw [h5] at this; cases this
                    refine ⟨acc, h6, ?_, F6, acc ++ [v], es' ++ [d], O2 ++ O6, ?_, upd_same, f6, ?_, ?_, ?_, by simp; omega, r2, er2, by rw [e2]; simp⟩
                    · rw [w2.len]; exact lim_lt (by omega)
                    · exact ⟨x26.ff, fun b o q => by rw [upd_ne (ne_of_none q hA)]; exact x26.hh b o q, fun b o q => by
                        rw [upd_ne (fun z => by rw [z, f6] at q; cases q)]; exact x26.fh b o q, x26.ow⟩
                    · intro q
                      rcases List.mem_append.mp q with q | q
                      · exact n2 q
                      · exact n6 q
                    · intro a ha
                      rcases List.mem_append.mp ha with q | q
                      · exact fr2 a q
                      · exact (x25.hh).free (fr6 a q)
                    · have w2' := ((w2.ext x3).ext x5).ext x6
                      have dj : ∀ a ∈ O2, a ∉ O6 := fun a h1 h2 => ((((w2.ext x3).ext x5).dom a h1).2) (fr6 a h2)
                      refine (w2'.snoc w6 dj).frame (.refl F6) fun a ha => ⟨upd_ne fun z => ?_, ((w2'.snoc w6 dj).dom a ha).1⟩
                      rcases List.mem_append.mp ha with q | q
                      · exact n2 (z ▸ q)
                      · exact n6 (z ▸ q)
        · have ei : i = ds.length := by omega
          subst ei
          rw [List.drop_length] at e1
          cases e1
          rw [List.append_nil, er] at e2
          cases e2
          refine .inl ⟨fd.stop F2 H2 x2.ff x2.fh, p _ F2 H2 (A :: O2) (x1.trans x2) (fun a ha => ?_) (.inl (.ol f2 h2 n2 w2))⟩
          rcases List.mem_cons.mp ha with rfl | ha
          · exact x1.hh.free hA
          · exact x1.hh.free (fr2 a ha)
    · rw [if_neg hlen] at p; exact p.elim
structure JTs (X : Cx) (cls : Cls) (W : WX) (e : List Expr) (f : Env → Res Bool) : Prop where
  ex : ∃ t, PTs X e t ∧ DT X.K cls W t f
theorem jts_nil : JTs X cls W [] tYesG := ⟨_, pts_nil, fun σ F H g O Q s st p => p F H (.refl s)⟩
theorem jts_one (h : JT X cls W a ga) : JTs X cls W [a] ga := by
  obtain ⟨t, p, d⟩ := h.ex
  exact ⟨_, pts_one p, d⟩
end
end DL

namespace DL
open PySem L2
section
variable {K : PySem.W.Frag} {cls : Cls} {W : WX} {X : Cx} {F H F' H' F1 H1 : Hp} {O O1 : List Addr} {Q : VK} {σ : St} {a b e tg iter elt : Expr} {es : List Expr} {fa fb fc : Env → Res D} {ga gb : Env → Res Bool} {fs : Env → Res (List D)} {pos : Pos}
def cE (K : PySem.W.Frag) (cls : Cls) (W : WX) (f : Env → Res D) : TE := fun σ H Q => ∃ F g O, Same F H ∧ Sts K cls F H σ g O ∧ PostE K cls W σ F H Q (f g)
def cT (K : PySem.W.Frag) (cls : Cls) (W : WX) (f : Env → Res Bool) : TT := fun σ H Q => ∃ F g O, Same F H ∧ Sts K cls F H σ g O ∧ PostT cls W σ F H Q (f g)
def cG (K : PySem.W.Frag) (cls : Cls) (f : D → Env → Option Env) (ss : List Nat) : TG := fun v σ H Q => ∃ d F g O g', Same F H ∧ Sts K cls F H σ g O ∧ Rp K cls F v d ∧ f d g = some g' ∧
  (∀ σ' O', SExt F H O F H O' → Sts K cls F H σ' g' O' → (∀ vs : List Nat, (∀ i ∈ ss, i ∈ vs) → wipe σ' vs = wipe σ vs) → Q σ' H)
def cS (K : PySem.W.Frag) (cls : Cls) (f : Env → Out) (W : WX) : TS := fun D σ H => ∃ F g O, Same F H ∧ Sts K cls F H σ g O ∧ PostS K cls W D F H O (f g)
theorem de_cE {f : Env → Res D} : DE K cls W (cE K cls W f) f := fun σ F H g O Q s st p => ⟨F, g, O, s, st, p⟩
theorem dt_cT {f : Env → Res Bool} : DT K cls W (cT K cls W f) f := fun σ F H g O Q s st p => ⟨F, g, O, s, st, p⟩
theorem dg_cG {f : D → Env → Option Env} {ss : List Nat} : DG K cls (cG K cls f ss) f ss := fun v d σ F H g O g' Q s st r e k => ⟨d, F, g, O, g', s, st, r, e, k⟩
theorem JE.canon {f : Env → Res D} (h : JE X cls W e f) : PE X e (cE X.K cls W f) := by
  obtain ⟨t, p, d⟩ := h.ex
  exact ⟨fun pins s σ H Q I ⟨F, g, O, sm, st, q⟩ => p.run pins s σ H Q I (d σ F H g O Q sm st q)⟩
theorem JTs.canon {f : Env → Res Bool} (h : JTs X cls W es f) : PTs X es (cT X.K cls W f) := by
  obtain ⟨t, p, d⟩ := h.ex
  exact ⟨fun pins s σ H Q I ⟨F, g, O, sm, st, q⟩ => p.run pins s σ H Q I (d σ F H g O Q sm st q)⟩
theorem JG.canon {f : D → Env → Option Env} {ss : List Nat} (h : JG X cls e f ss) : PG X e (cG X.K cls f ss) := by
  obtain ⟨t, p, d⟩ := h.ex
  exact ⟨fun pins s σ H v u Q I r ⟨dd, F, g, O, g', sm, st, rr, ee, q⟩ => p.run pins s σ H v u Q I r (d v dd σ F H g O g' Q sm st rr ee q)⟩
theorem JSs.canon {st : List Stmt} {f : Env → Out} (h : JSs X cls W st f) : PSs X st (cS X.K cls f W) := by
  obtain ⟨t, p, d⟩ := h.ex
  exact ⟨fun pins s σ H D I ⟨F, g, O, sm, st, q⟩ => p.run pins s σ H D I (d D σ F H g O sm st q)⟩

theorem je_lc {ifs : List Expr} {scope : Scope} {ft : D → Env → Option Env} {gt : Env → Res Bool} {fe : Env → Res D} {ss : List Nat} {k : Nat} (own : List (Str × Nat)) (c : Cn X W k) (hi : JI X cls W tg iter fs) (ok : BlkOk X.N X.env.scope scope own)
    (hg : ∀ (s : Shared) (H : Hp) (C : Addr) (cl : List (Str × Addr)) (fp : List Addr), JG (X.blk s H scope (compEnvC scope cl C X.env) fp) cls tg ft ss)
    (ht : ∀ (s : Shared) (H : Hp) (C : Addr) (cl : List (Str × Addr)) (fp : List Addr), Cn (X.blk s H scope (compEnvC scope cl C X.env) fp) W0 k → JTs (X.blk s H scope (compEnvC scope cl C X.env) fp) cls W0 ifs gt)
    (he : ∀ (s : Shared) (H : Hp) (C : Addr) (cl : List (Str × Addr)) (fp : List Addr), Cn (X.blk s H scope (compEnvC scope cl C X.env) fp) W0 k → JE (X.blk s H scope (compEnvC scope cl C X.env) fp) cls W0 elt fe)
    (hss : ∀ i ∈ ss, i ∈ own.map (·.2)) (hs : ∀ x, foldedSetIterable iter X.env x = pure x := by intro _; rfl) :
    JE X cls W (.ListComp elt [⟨tg, iter, ifs, 0⟩] scope pos) (eLc fs (own.map (·.2)) ft gt fe) := by
  obtain ⟨wi, p, d⟩ := hi.ex
  exact ⟨_, pe_lc (own := own) c.calm c.nd p ok (fun s H C cl fp => (hg s H C cl fp).canon) (fun s H C cl fp => (ht s H C cl fp c.blk).canon) (fun s H C cl fp => (he s H C cl fp c.blk).canon) hs, de_lc d dg_cG dt_cT de_cE hss⟩
theorem js_setLc {i : Nat} {y : Str} {py spos : Pos} {ifs : List Expr} {scope : Scope} {ft : D → Env → Option Env} {gt : Env → Res Bool} {fe : Env → Res D} {ss : List Nat} {k : Nat} (own : List (Str × Nat)) (c : Cn X W k) (hy : X.N[i]? = some y) (hyl : X.env.scope.names.lookup y = some .local)
    (hsw : swapsWith (.ListComp elt [⟨tg, iter, ifs, 0⟩] scope pos) (some (.Name y py)) spos.line X.env = pure true) (hi : JI X cls W tg iter fs) (ok : BlkOk X.N X.env.scope scope own)
    (hg : ∀ (s : Shared) (H : Hp) (C : Addr) (cl : List (Str × Addr)) (fp : List Addr), JG (X.blk s H scope (compEnvC scope cl C X.env) fp) cls tg ft ss)
    (ht : ∀ (s : Shared) (H : Hp) (C : Addr) (cl : List (Str × Addr)) (fp : List Addr), Cn (X.blk s H scope (compEnvC scope cl C X.env) fp) W0 k → JTs (X.blk s H scope (compEnvC scope cl C X.env) fp) cls W0 ifs gt)
    (he : ∀ (s : Shared) (H : Hp) (C : Addr) (cl : List (Str × Addr)) (fp : List Addr), Cn (X.blk s H scope (compEnvC scope cl C X.env) fp) W0 k → JE (X.blk s H scope (compEnvC scope cl C X.env) fp) cls W0 elt fe)
    (hss : ∀ i ∈ ss, i ∈ own.map (·.2)) (hs : ∀ x, foldedSetIterable iter X.env x = pure x := by intro _; rfl) :
    JS X cls W (.Assign [.Name y py] (.ListComp elt [⟨tg, iter, ifs, 0⟩] scope pos) spos) (sAsg i (eLc fs (own.map (·.2)) ft gt fe)) := by
  obtain ⟨wi, p, d⟩ := hi.ex
  exact ⟨_, ps_setLc (own := own) c.calm c.nd hy hyl hsw p ok (fun s H C cl fp => (hg s H C cl fp).canon) (fun s H C cl fp => (ht s H C cl fp c.blk).canon) (fun s H C cl fp => (he s H C cl fp c.blk).canon) hs, ds_asg (de_lc d dg_cG dt_cT de_cE hss)⟩
theorem Sts.lst {g : Env} {i : Nat} {xs : List D} (st : Sts K cls F H σ g O) (e : g[i]? = some (.ol xs)) : ∃ p vs O1, σ[i]? = some (some (.ref p)) ∧ H p = some (.lst vs) ∧ F p = none ∧ p ∉ O1 ∧ Ows K cls F H vs xs O1 ∧ p ∈ O ∧ (∀ a ∈ O1, a ∈ O) ∧
    ∀ (F' H' : Hp) (ws : List V) (ys : List D) (O2 : List Addr), Ext F H F' H' → Ows K cls F' H' ws ys O2 → p ∉ O2 → (∀ a ∈ O2, a ∈ O1 ∨ H a = none) →
      ∃ O'', Sts K cls F' (upd H' p (.lst ws)) σ (g.set i (.ol ys)) O'' ∧ SExt F H O F' (upd H' p (.lst ws)) O'' := by
  obtain ⟨P, h1, h2, h3, _⟩ := st.at i (List.getElem?_eq_some_iff.mp e).1
  rcases h2 with ⟨h2, _⟩ | ⟨v, d, h2, h2', ow⟩
  · rw [e] at h2; cases h2
  · rw [e] at h2'; cases h2'
    cases ow with
    | sh r => cases r
    | @ol p vs _ O1 f1 f2 f3 f4 =>
      refine ⟨p, vs, O1, h2, f2, f1, f3, f4, h1 _ (by simp), fun a ha => h1 a (by simp [ha]), fun F' H' ws ys O2 x w n k => ?_⟩
      have hp : F' p = none := x.ow p f1 (by rw [f2]; exact fun e => nomatch e)
      have up : ∀ b, b ≠ p → upd H' p (.lst ws) b = H' b := fun b hb => upd_ne hb
      obtain ⟨O'', q1, q2⟩ := h3 F' (upd H' p (.lst ws)) (.ref p) (.ol ys) (p :: O2) (fun b hb hn => by
          obtain ⟨e1, e2⟩ := x.get (st.dom b hb).1 (st.dom b hb).2
          exact ⟨(up b fun z => hn (by simp [z])).trans e1, e2⟩) x.ff
        (.ol hp upd_same n (w.frame (.refl F') fun a ha => ⟨up a fun z => n (z ▸ ha), (w.dom a ha).1⟩)) (fun a ha hO => by
          rcases List.mem_cons.mp ha with rfl | ha
          · simp
          · rcases k a ha with z | z
            · simp [z]
            · exact absurd z (st.dom a hO).2)
      rw [set_self h2] at q1
      refine ⟨O'', q1, x.ff, fun b o q => ?_, fun b o q hn => ?_, fun b h1 h2 _ => x.ow b h1 h2, fun b hb => ?_⟩
      · rw [up b fun z => by rw [z, hp] at q; cases q]; exact x.fh b o q
      · rw [up b fun z => hn (z ▸ h1 p (by simp))]; exact x.hh b o q
      · rcases q2 b hb with z | z
        · exact .inl z
        · rcases List.mem_cons.mp z with rfl | z
          · exact .inl (h1 _ (by simp))
          · exact (k b z).imp (fun z => h1 b (by simp [z])) id
def sApp (i : Nat) (fa : Env → Res D) : Env → Out := fun g => match g[i]? with
  | some (.ol xs) => ((fa g).bind kp).st g fun d => if xs.length < lim then .nx (g.set i (.ol (xs ++ [d]))) else .bad
  | _ => .bad
@[simp] theorem sApp_ (i : Nat) (fa : Env → Res D) (g : Env) : sApp i fa g = match g[i]? with
  | some (.ol xs) => ((fa g).bind kp).st g fun d => if xs.length < lim then .nx (g.set i (.ol (xs ++ [d]))) else .bad
  | _ => .bad := rfl
theorem js_app {i : Nat} {x : Str} {npos apos cpos : Pos} (hN : X.N[i]? = some x) (hv : Vis X.env.scope x) (ha : JE X cls W a fa) (hd : (x == ("__debug__" : Str)) = false := by decide) (hcd : (x == ("__classdict__" : Str)) = false := by decide)
    (hbase : attributeBase (.Name x npos) "append" X.env (eval (.Name x npos) X.env) = eval (.Name x npos) X.env := by rfl)
    (hfew : ((backTo cpos (starEach (a :: []) X.env)).all (fun x => !x.1) && (backToKw cpos (keywordEach [] X.env)).all (fun x => x.1.isSome)
      && decide ((a :: []).length + ([] : List Keyword).length + (if ([] : List Keyword).isEmpty then 0 else 1) < 30)) = true := by rfl)
    (hline : (apos.endLine == cpos.line) = true := by rfl) (hs : starEach (a :: []) X.env = (false, eval a X.env) :: starEach [] X.env := by rfl) (hplain : (backTo cpos (starEach [] X.env)).any (·.1) = false := by rfl)
    (hsw : swapsWith (.Call (.Attribute (.Name x npos) "append" apos) [a] [] cpos) none pos.line X.env = pure false := by rfl) :
    JS X cls W (.Expr (.Call (.Attribute (.Name x npos) "append" apos) [a] [] cpos) pos) (sApp i fa) := by
  obtain ⟨t, p, d⟩ := ha.ex
  refine ⟨_, ps_expr (pe_bm PySem.F.plainAttrs_list PySem.F.slot_list_append PySem.F.type_list_append mt_append (pe_var hN hv hd hcd) (pa_cons p pa_nil hs) hbase hfew hline hs hplain) hsw, ?_⟩
  intro D σ F H g O s st p
  rw [sApp_] at p
  split at p
  · rename_i xs eg
    obtain ⟨q, vs, O1, h1, h2, h2', h3, h4, h5, h6, h7⟩ := st.lst eg
    refine ⟨.ref q, h1, .inl ⟨rfl, vs, SqL.of h2⟩, ?_⟩
    refine d.goS s st p fun dd e p v F1 H1 O2 x fr w => ?_
    split at p
    · rename_i hl
      refine ⟨q, vs, v, rfl, rfl, x.hh _ _ h2, by rw [h4.len]; exact lim_lt hl, ?_⟩
      obtain ⟨O'', z1, z2⟩ := h7 F1 H1 (vs ++ [v]) (xs ++ [dd]) (O1 ++ O2) x ((h4.ext x).snoc w fun a q1 q2 => (h4.dom a q1).2 (fr a q2)) (fun z => by
          rcases List.mem_append.mp z with z | z
          · exact h3 z
          · have := fr q z; rw [h2] at this; cases this) (fun a z => (List.mem_append.mp z).imp id (fr a))
      exact p σ F1 _ O'' z2 z1
    · exact p.elim
  · exact p.elim
theorem Ows.set : ∀ {vs : List V} {ds : List D} {O1 O2 : List Addr} {v : V} {d : D} (j : Nat), Ows K cls F H vs ds O1 → Ow K cls F H v d O2 → (∀ a ∈ O1, a ∉ O2) → ∃ O3, Ows K cls F H (vs.set j v) (ds.set j d) O3 ∧ ∀ a ∈ O3, a ∈ O1 ∨ a ∈ O2
  | _, _, _, O2, _, _, _, .nil, _, _ => ⟨[], .nil, fun _ h => nomatch h⟩
  | _, _, _, O2, _, _, 0, .cons (O1 := P1) (O2 := P2) a b dj e, w, n => by
    subst e
    refine ⟨O2 ++ P2, .cons w b (fun x h1 h2 => n x (List.mem_append_right _ h2) h1) rfl, fun x hx => ?_⟩
    rcases List.mem_append.mp hx with z | z
    · exact .inr z
    · exact .inl (List.mem_append_right _ z)
  | _, _, _, O2, _, _, j + 1, .cons (O1 := P1) (O2 := P2) a b dj e, w, n => by
    subst e
    obtain ⟨O3, h1, h2⟩ := b.set j w fun x hx => n x (List.mem_append_right _ hx)
    refine ⟨P1 ++ O3, .cons a h1 (fun x q1 q2 => ?_) rfl, fun x hx => ?_⟩
    · rcases h2 x q2 with z | z
      · exact dj x q1 z
      · exact n x (List.mem_append_left _ q1) z
    · rcases List.mem_append.mp hx with z | z
      · exact .inl (List.mem_append_left _ z)
      · exact (h2 x z).imp (fun z => List.mem_append_right _ z) id
def sSet (i : Nat) (fk fa : Env → Res D) : Env → Out := fun g => ((fa g).bind kp).st g fun d => match g[i]? with
  | some (.ol xs) => (fk g).st g fun k => match opd k with
    | .int k => match ixN xs.length k with
      | some j => .nx (g.set i (.ol (xs.set j d)))
      | none => .bad
    | _ => .bad
  | _ => .bad
@[simp] theorem sSet_ (i : Nat) (fk fa : Env → Res D) (g : Env) : sSet i fk fa g = ((fa g).bind kp).st g fun d => match g[i]? with
  | some (.ol xs) => (fk g).st g fun k => match opd k with
    | .int k => match ixN xs.length k with
      | some j => .nx (g.set i (.ol (xs.set j d)))
      | none => .bad
    | _ => .bad
  | _ => .bad := rfl
theorem js_setIx {i : Nat} {x : Str} {npos spos : Pos} {fk : Env → Res D} (hN : X.N[i]? = some x) (hv : Vis X.env.scope x) (ha : JE X cls W a fa) (hk : JE X cls W b fk) (hd : (x == ("__debug__" : Str)) = false := by decide) (hcd : (x == ("__classdict__" : Str)) = false := by decide)
    (hs : swapsWithSole [.Subscript (.Name x npos) b spos] a pos.line X.env = pure false := by rfl) (hw : swappedStores [.Subscript (.Name x npos) b spos] a X.env = pure none := by rfl)
    (h1 : (assignEach [.Subscript (.Name x npos) b spos] X.env).map (·.2) = [assign (.Subscript (.Name x npos) b spos) X.env] := by rfl)
    (hass : ∀ v, assign (.Subscript (.Name x npos) b spos) X.env v = (do
      let ov ← holding [v] (eval (.Name x npos) X.env)
      let iv ← holding [v, ov] (eval b X.env)
      standAt spos
      holding [v, ov, iv] (setItem ov iv v)
      release [v, ov, iv] []) := by intro _; rfl) : JS X cls W (.Assign [.Subscript (.Name x npos) b spos] a pos) (sSet i fk fa) := by
  obtain ⟨t, p, d⟩ := ha.ex
  obtain ⟨t2, p2, d2⟩ := hk.ex
  refine ⟨_, ps_asg p (pg_sub (pe_var hN hv hd hcd) p2 set_list hass) hs hw h1, ?_⟩
  intro D σ F H g O s st p
  rw [sSet_] at p
  refine d.goS s st p fun dd e p v F1 H1 O2 x fr w => ?_
  split at p
  · rename_i xs eg
    obtain ⟨q, vs, O1, h1, h2, h2', h3, h4, h5, h6, h7⟩ := st.lst eg
    refine ⟨.ref q, h1, ?_⟩
    refine d2.go x.fh (st.ext x) (fun c e F' H' y => by rw [e] at p; exact p σ F' H' O ((x.trans y).sext fun a h => .inl h) (st.ext (x.trans y))) (fun e => by rw [e] at p; exact p) fun kd e kv F3 H3 x3 b3 => ?_
    rw [e, Res.st_ok] at p
    split at p
    · rename_i k ek
      split at p
      · rename_i j ej
        rw [ek] at b3
        obtain rfl := b3.int
        have x13 := x.trans x3
        refine ⟨q, vs, k, j, rfl, rfl, x13.hh _ _ h2, by rw [h4.len]; exact ej, ?_⟩
        obtain ⟨O3, w3, n3⟩ := (h4.ext x13).set j (w.ext x3) fun a q1 q2 => (h4.dom a q1).2 (fr a q2)
        obtain ⟨O'', z1, z2⟩ := h7 F3 H3 (vs.set j v) (xs.set j dd) O3 x13 w3 (fun z => by
          rcases n3 _ z with z | z
          · exact h3 z
          · have := fr q z; rw [h2] at this; cases this) (fun a z => (n3 a z).imp id (fr a))
        exact p σ F3 _ O'' z2 z1
      · exact p.elim
    · exact p.elim
  · exact p.elim
def sAug (op : Int → Int → Int) (i : Nat) (fa : Env → Res D) : Env → Out := fun g => match g[i]? with
  | some (.int a) => (fa g).st g fun d => match opd d with
    | .int b => .nx (g.set i (.int (op a b)))
    | _ => .bad
  | _ => .bad
@[simp] theorem sAug_ (op : Int → Int → Int) (i : Nat) (fa : Env → Res D) (g : Env) : sAug op i fa g = match g[i]? with
  | some (.int a) => (fa g).st g fun d => match opd d with
    | .int b => .nx (g.set i (.int (op a b)))
    | _ => .bad
  | _ => .bad := rfl
end
end DL

namespace DL
open PySem L2
section
variable {K : PySem.W.Frag} {cls : Cls} {W : WX} {X : Cx} {F H F' H' F1 H1 : Hp} {O O1 : List Addr} {Q : VK} {σ : St} {a b e tg iter elt : Expr} {es : List Expr} {fa fb fc : Env → Res D} {ga gb : Env → Res Bool} {fs : Env → Res (List D)} {pos : Pos}
structure ExOk (K : PySem.W.Frag) (mg : Str → Option Value) (cls : Cls) (c : Nat) (x : Str) (C : Addr) : Prop where
  e : cls c = some (C, [])
  g : mg x = some (.ref C)
  x : PySem.W.excIn K C [.type "ValueError", .type "Exception", .type "BaseException", .type "object"] "ValueError.__new__" = true
  k : PySem.W.keepIn K (.ref C) = true
  b : PySem.W.subIn K (.ref C) (.type "BaseException") = some true
  t : PySem.W.typeIn K (.ref C) = some (.type "type")
theorem ExOk.v {mg : Str → Option Value} {c : Nat} {x : Str} {C : Addr} (h : ExOk K mg cls c x C) : excV cls c = .ref C := by unfold excV; rw [h.e]
def sRaise (c : Nat) : Env → Out := fun g => .xc c g
@[simp] theorem sRaise_ (c : Nat) (g : Env) : sRaise c g = .xc c g := rfl
theorem js_raise {c k : Nat} {x m : Str} {C : Addr} {j : Nat} {p p2 pos2 : Pos} (n : Cn X W k) (h : ExOk X.K X.mg cls c x C) (hg : Gl X x := by rfl) (hdb : (x == ("__debug__" : Str)) = false := by decide) :
    JS X cls W (.Raise (some (.Call (.Name x p) [.Constant (.str m) j p2] [] pos)) none pos2) (sRaise c) := by
  refine ⟨_, ps_raise n.calm n.tk (pmk_own PySem.F.excBase_ValueError h.x h.g h.k (raises_own h.b h.t) hg hdb), ?_⟩
  intro D σ F H g O s st p
  have q := p σ F H O (.refl s) st
  rw [h.v] at q
  exact q

def runF (f : Env → Out) (n : Nat) (ds : List D) : Res D := match f (ds ++ List.replicate (n - ds.length) .un) with
  | .rt d => .ok d
  | .nx _ => .ok .non
  | .xc c _ => .xc c
  | _ => .bad
theorem sts_start {vs : List V} {ds : List D} (h : Rps K cls F vs ds) (n : Nat) : Sts K cls F H (vs.map some ++ List.replicate n none) (ds ++ List.replicate n .un) [] := by
  induction ds generalizing vs with
  | nil =>
    cases h
    simp only [List.map_nil, List.nil_append]
    induction n with
    | zero => exact .nil
    | succ n ih => rw [List.replicate_succ, List.replicate_succ]; exact .un ih
  | cons d ds ih =>
    cases h with
    | cons a b => exact .cons (.sh a) (ih b) (fun _ q => nomatch q) rfl
theorem fnD_ok {P : Program} {w : World} {mg : Str → Option Value} {base : Heap} {x qual : Str} {st : Stmt} {f : Addr} {fd : FuncData} {N ps : List Str} {k n : Nat} {g : List D → Res D} {fb : Env → Out}
    (Fn : Fun K x qual st f fd) (S : FnScope N ps (defScope st)) (hn : ps.length = n)
    (hbody : ∀ (cdv : Value) (A : Around) (outer : List PySem.Env) (s : Shared) (H : Hp) (E : XK), Cn (cxOf (L2.CX P w) P w K mg base N qual (defScope st) f cdv A outer s H E) (fun c d _ H => E c d H) k →
      JSs (cxOf (L2.CX P w) P w K mg base N qual (defScope st) f cdv A outer s H E) cls (fun c d _ H => E c d H) (defBody st) fb)
    (heq : ∀ ds, ds.length = n → g ds = .bad ∨ runF fb N.length ds = g ds) : FnOk P w K mg base (L2.CX P w) (k + 1) f fd ps (spD K cls n g) := by
  refine Fn.okX S (fun vs H Q E h => ?_) (fun cdv A outer s H vs Q E hr h => ?_)
  · obtain ⟨F, ds, _, r, h1, _⟩ := h
    rw [r.len, h1, hn]
  · obtain ⟨F, ds, sm, r, hl, h⟩ := h
    obtain ⟨t, p, d⟩ := (hbody cdv A outer s H E ⟨takes_of rfl rfl rfl rfl, passes_of rfl, rfl, S.nd, hr⟩).ex
    refine ⟨t, p, d _ _ F H (ds ++ List.replicate (N.length - ds.length) .un) [] sm ?_ ?_⟩
    · unfold L2.start
      rw [r.len]
      exact sts_start r _
    · rcases heq ds hl with e | e
      · rw [e] at h; exact h.elim
      · rw [← e] at h
        unfold runF at h
        cases q : fb (ds ++ List.replicate (N.length - ds.length) .un) with
        | nx g' => rw [q] at h; exact fun σ' F' H' O' x st' => h .non F' H' [] x.ext Fresh.nil (.sh .non)
        | rt d => rw [q] at h; exact fun v F' H' O' x w => h v F' H' O' x.ext (fun a ha => (x.oo a ha).resolve_left (by simp)) w
        | xc c g' => rw [q] at h; exact fun σ' F' H' O' x st' => h F' H' x.ext
        | bk g' => rw [q] at h; exact h.elim
        | ct g' => rw [q] at h; exact h.elim
        | bad => rw [q] at h; exact h.elim

def spI (K : PySem.W.Frag) (cls : Cls) (c n : Nat) (g : List D → Res (List D)) : Sp := fun vs H Q E => ∃ F x C dx ns vs' ds, vs = .ref x :: vs' ∧ cls c = some (C, ns) ∧ Same F H ∧ F x = none ∧ H x = some (.ins C dx []) ∧ Rps K cls F vs' ds ∧ ds.length = n ∧
  match g ds with
  | .ok fs => ∀ F' H' O', SExt F H [x] F' H' O' → Ow K cls F' H' (.ref x) (.oo none c fs) O' → Q .non H'
  | .xc e => ∀ F' H' O', SExt F H [x] F' H' O' → E (excV cls e) none H'
  | .bad => False
def outI (c : Nat) (x : Addr) : Out → Res (List D)
  | .nx g => match (g : List D)[0]? with
    | some (D.oo (some y) c' fs) => if c' = c ∧ y = x then .ok fs else .bad
    | _ => .bad
  | .xc e _ => .xc e
  | _ => .bad
def runI (f : Env → Out) (c n : Nat) (x : Addr) (ds : List D) : Res (List D) := outI c x (f (.oo (some x) c [] :: ds ++ List.replicate (n - (ds.length + 1)) .un))
theorem fnI_ok {P : Program} {w : World} {mg : Str → Option Value} {base : Heap} {x qual : Str} {st : Stmt} {f : Addr} {fd : FuncData} {N ps : List Str} {k n c : Nat} {g : List D → Res (List D)} {fb : Env → Out}
    (Fn : Fun K x qual st f fd) (S : FnScope N ps (defScope st)) (hn : ps.length = n + 1)
    (hbody : ∀ (cdv : Value) (A : Around) (outer : List PySem.Env) (s : Shared) (H : Hp) (E : XK), Cn (cxOf (L2.CX P w) P w K mg base N qual (defScope st) f cdv A outer s H E) (fun c d _ H => E c d H) k →
      JSs (cxOf (L2.CX P w) P w K mg base N qual (defScope st) f cdv A outer s H E) cls (fun c d _ H => E c d H) (defBody st) fb)
    (heq : ∀ ds x, ds.length = n → g ds = .bad ∨ runI fb c N.length x ds = g ds) : FnOk P w K mg base (L2.CX P w) (k + 1) f fd ps (spI K cls c n g) := by
  refine Fn.okX S (fun vs H Q E h => ?_) (fun cdv A outer s H vs Q E hr h => ?_)
  · obtain ⟨F, x, C, dx, ns, vs', ds, rfl, _, _, _, _, r, h1, _⟩ := h
    rw [List.length_cons, r.len, h1, hn]
  · obtain ⟨F, x, C, dx, ns, vs', ds, rfl, hc, sm, fx, hx, r, hl, h⟩ := h
    obtain ⟨t, p, d⟩ := (hbody cdv A outer s H E ⟨takes_of rfl rfl rfl rfl, passes_of rfl, rfl, S.nd, hr⟩).ex
    have s0 : Sts K cls F H (L2.start N (V.ref x :: vs')) (.oo (some x) c [] :: ds ++ List.replicate (N.length - (ds.length + 1)) .un) [x] := by
      unfold L2.start
      rw [List.length_cons, r.len, List.map_cons, List.cons_append, List.cons_append]
      exact .cons (O1 := [x]) (O2 := []) (.oo (fun y e => by cases e; rfl) hc fx (by simpa using hx) (Nat.zero_le _) (by simp) .nil) (sts_start r _) (fun a _ h => nomatch h) rfl
    refine ⟨t, p, d _ _ F H _ [x] sm s0 ?_⟩
    rcases heq ds x hl with e | e
    · rw [e] at h; exact h.elim
    · rw [← e] at h
      unfold runI at h
      cases q : fb (.oo (some x) c [] :: ds ++ List.replicate (N.length - (ds.length + 1)) .un) with
      | nx g' =>
        rw [q] at h
        intro σ' F' H' O' y st'
        unfold outI at h
        simp only [] at h
        split at h
        · rename_i fs eo
          split at eo
          · rename_i y' c' fs' eg
            split at eo
            · rename_i hcc
              cases eo
              obtain ⟨rfl, rfl⟩ := hcc
              obtain ⟨P, h1, h2, _⟩ := st'.at 0 (List.getElem?_eq_some_iff.mp eg).1
              rcases h2 with ⟨h2, _⟩ | ⟨v, d2, h2, h2', ow⟩
              · rw [eg] at h2; cases h2
              · rw [eg] at h2'; cases h2'
                cases ow with
                | sh r => cases r
                | oo ho hc h1' h2o hl h3 r =>
                  have := ho _ rfl
                  subst this
                  exact h F' H' _ ⟨y.ff, y.fh, y.fr, y.ow, fun a ha => y.oo a (h1 a ha)⟩ (.oo (fun _ e => nomatch e) hc h1' h2o hl h3 r)
            · cases eo
          · cases eo
        · rename_i e' eo
          split at eo
          · split at eo <;> cases eo
          · cases eo
        · exact h.elim
      | xc e g' => rw [q] at h; exact fun σ' F' H' O' y st' => h F' H' O' y
      | rt d => rw [q] at h; exact h.elim
      | bk g' => rw [q] at h; exact h.elim
      | ct g' => rw [q] at h; exact h.elim
      | bad => rw [q] at h; exact h.elim

theorem putF_new : ∀ {ns : List Str} {vs : List V} {f : Str} {y : V}, ns.Nodup → vs.length ≤ ns.length → ns[vs.length]? = some f → putF f y (ns.zip vs) = ns.zip (vs ++ [y])
  | [], vs, f, y, _, hl, h => by simp at h
  | n :: ns, [], f, y, _, _, h => by
    simp at h
    subst h
    simp [putF]
  | n :: ns, v :: vs, f, y, nd, hl, h => by
    obtain ⟨a1, a2⟩ := List.nodup_cons.mp nd
    have h' : ns[vs.length]? = some f := by simpa using h
    have ne : ¬ n = f := fun e => a1 (e ▸ List.mem_of_getElem? h')
    rw [List.zip_cons_cons, List.cons_append, List.zip_cons_cons]
    show (if n = f then (n, y) :: ns.zip vs else (n, v) :: putF f y (ns.zip vs)) = _
    rw [if_neg ne, putF_new a2 (by simpa using hl) h']
def sFld (i c j : Nat) (fa : Env → Res D) : Env → Out := fun g => ((fa g).bind kp).st g fun d => match (g : List D)[i]? with
  | some (D.oo o c' ds) => if c' = c ∧ ds.length = j then .nx (g.set i (.oo o c (ds ++ [d]))) else .bad
  | _ => .bad
@[simp] theorem sFld_ (i c j : Nat) (fa : Env → Res D) (g : Env) : sFld i c j fa g = ((fa g).bind kp).st g fun d => match (g : List D)[i]? with
  | some (D.oo o c' ds) => if c' = c ∧ ds.length = j then .nx (g.set i (.oo o c (ds ++ [d]))) else .bad
  | _ => .bad := rfl
theorem js_fld {i c j : Nat} {C : Addr} {ns : List Str} {f x : Str} {npos pos' : Pos} (T : ClsOk X.K cls c C ns) (hj : ns[j]? = some f) (hj9 : j < 1000) (hN : X.N[i]? = some x) (hv : Vis X.env.scope x) (ha : JE X cls W a fa)
    (hd : (x == ("__debug__" : Str)) = false := by decide) (hcd : (x == ("__classdict__" : Str)) = false := by decide)
    (hs : swapsWith a (some (.Attribute (.Name x npos) f pos')) pos.line X.env = pure false := by rfl) : JS X cls W (.Assign [.Attribute (.Name x npos) f pos'] a pos) (sFld i c j fa) := by
  obtain ⟨t, p, d⟩ := ha.ex
  refine ⟨_, ps_fld (pe_var hN hv hd hcd) p hs, ?_⟩
  intro D σ F H g O s st p
  rw [sFld_] at p
  refine d.goS s st p fun dd e p v F1 H1 O2 xx fr w => ?_
  split at p
  · rename_i o c' ds eg
    split at p
    · rename_i hc
      obtain ⟨hc1, hc2⟩ := hc
      subst hc1
      obtain ⟨P, h1, h2, h3, _⟩ := st.at i (List.getElem?_eq_some_iff.mp eg).1
      rcases h2 with ⟨h2, _⟩ | ⟨v0, d0, h2, h2', ow⟩
      · rw [eg] at h2; cases h2
      · rw [eg] at h2'; cases h2'
        cases ow with
        | sh r => cases r
        | @oo _ q C' dx _ ns' vs _ O1 ho hcl f1 f2 hl f3 f4 =>
          have := hcl.symm.trans T.e
          cases this
          have hlen : vs.length = ds.length := f4.len
          have hf : F1 q = none := xx.ow q f1 (by rw [f2]; exact fun e => nomatch e)
          have hq : H1 q = some (.ins C dx (ns.zip vs)) := xx.hh _ _ f2
          refine ⟨.ref q, h2, q, C, dx, ns.zip vs, rfl, hq, T.cl, T.na f (List.mem_of_getElem? hj), ?_, ?_⟩
          · rw [List.length_zip]; omega
          · rw [putF_new T.nd hl (by rw [hlen, hc2]; exact hj)]
            have dj : ∀ a ∈ O1, a ∉ O2 := fun a q1 q2 => (f4.dom a q1).2 (fr a q2)
            have nq : q ∉ O1 ++ O2 := fun z => by
              rcases List.mem_append.mp z with z | z
              · exact f3 z
              · have := fr q z; rw [f2] at this; cases this
            have wv := (f4.ext xx).snoc w dj
            have hle : (vs ++ [v]).length ≤ ns.length := by
              have := (List.getElem?_eq_some_iff.mp hj).1
              rw [List.length_append, List.length_singleton]; omega
            have up : ∀ b, b ≠ q → upd H1 q (.ins C dx (ns.zip (vs ++ [v]))) b = H1 b := fun b hb => upd_ne hb
            obtain ⟨O'', q1, q2⟩ := h3 F1 (upd H1 q (.ins C dx (ns.zip (vs ++ [v])))) (.ref q) (.oo o c' (ds ++ [dd])) (q :: (O1 ++ O2)) (fun b hb hn => by
                obtain ⟨e1, e2⟩ := xx.get (st.dom b hb).1 (st.dom b hb).2
                exact ⟨(up b fun z => hn (by simp [z])).trans e1, e2⟩) xx.ff
              (.oo ho hcl hf upd_same hle nq (wv.frame (.refl F1) fun a ha => ⟨up a fun z => nq (z ▸ ha), (wv.dom a ha).1⟩)) (fun a ha hO => by
                rcases List.mem_cons.mp ha with rfl | ha
                · simp
                · rcases List.mem_append.mp ha with z | z
                  · simp [z]
                  · exact absurd (fr a z) (st.dom a hO).2)
            rw [set_self h2] at q1
            refine p σ F1 _ O'' ⟨xx.ff, fun b o e => ?_, fun b o e hn => ?_, fun b h1 h2 _ => xx.ow b h1 h2, fun b hb => ?_⟩ q1
            · rw [up b fun z => by rw [z, hf] at e; cases e]; exact xx.fh b o e
            · rw [up b fun z => hn (z ▸ h1 q (by simp))]; exact xx.hh b o e
            · rcases q2 b hb with z | z
              · exact .inl z
              · rcases List.mem_cons.mp z with rfl | z
                · exact .inl (h1 _ (by simp))
                · rcases List.mem_append.mp z with z | z
                  · exact .inl (h1 b (by simp [z]))
                  · exact .inr (fr b z)
    · exact p.elim
  · exact p.elim

theorem run_makeS {k : Nat} {f C : Addr} {fd : FuncData} {ps : List Str} {sp : Sp} {E : XK} {pins : List (Addr × Obj)} {s : Shared} {us : List Value} {vs : List V} {CXx : CXT} (M : Mk X.K C f) (G : FnOk X.prog X.w X.K X.mg X.base CXx k f fd ps sp) (hr : Room (k + 1) X.A) (hb : Binds X.K fd ps [])
    (hx : PassesAt CXx X σ E) (hx2 : ∀ H' s' e s'', Inv X pins σ H s → Inv X pins σ H' s' → CXx X.stack H' s' E e s'' → X.xe e s'') (I : Inv X pins σ H s) (r : Vals vs us)
    (h : ∀ x dx, H x = none → H dx = none → dx ≠ x → sp (.ref x :: vs) (upd (upd H dx (.own x)) x (.ins C dx [])) (fun v H2 => v = .non ∧ Q (.ref x) H2) E) :
    wpAny (model X.prog X.w) X.A (call (.ref C) us) (EP X pins σ Q) X.xe s := by
  have hq := h (s.heap.objs.size + 1) s.heap.objs.size (I.hok.fresh (Nat.le_succ _)) (I.hok.fresh (Nat.le_refl _)) (Nat.ne_of_lt (Nat.lt_succ_self _))
  have I2 := Inv.made (C := C) I
  have r2 : Vals (V.ref (s.heap.objs.size + 1) :: vs) (Value.ref (s.heap.objs.size + 1) :: us) := .cons rfl r
  have hl : (Value.ref (s.heap.objs.size + 1) :: us ++ []).length = ps.length := by
    have e := r2.length
    rw [G.len _ _ _ _ hq] at e
    rw [List.append_nil]
    exact e.symm
  refine wpAny_call (make_map (f := f) I.kIn M.makes M.init (beq_iff_eq.mp M.fn) (codeAny_mono (G.run _ X.stack _ _ ⟨Value.ref (s.heap.objs.size + 1) :: us, []⟩ (Value.ref (s.heap.objs.size + 1) :: us) _ _ E (hr.make C us [])
    (I2.env0.make C us []) (by have := hb _ (Value.ref (s.heap.objs.size + 1) :: us) I2.kIn hl; rw [List.append_nil] at this; exact this) r2 hq) fun r s' hq' => ?_))
  cases r with
  | error e => exact hx2 _ _ e s' I I2 hq'
  | ok fl =>
    cases fl with
    | ret u =>
      obtain ⟨v, H', I3, rv, ev, q3⟩ := I2.after hq'
      subst ev
      exact ⟨rv, ⟨V.ref (s.heap.objs.size + 1), H', I3, rfl, q3⟩⟩
    | next => exact False.elim hq'
    | brk => exact False.elim hq'
    | cont => exact False.elim hq'
def tMakeS (C : Addr) (sp : Sp) (E : St → XK) (t : TA) : TE := fun σ H Q => t σ H fun vs H1 => ∀ x dx, H1 x = none → H1 dx = none → dx ≠ x →
  sp (.ref x :: vs) (upd (upd H1 dx (.own x)) x (.ins C dx [])) (fun v H2 => v = .non ∧ Q (.ref x) H2) (E σ)
theorem pe_makeS {k : Nat} {f C : Addr} {fd : FuncData} {ps : List Str} {sp : Sp} {x : Str} {p : Pos} {t : TA} (M : Mk X.K C f) (G : FnOk X.prog X.w X.K X.mg X.base (L2.CX X.prog X.w) k f fd ps sp) (hr : Room (k + 1) X.A) (hg : Gl X x) (hm : X.mg x = some (.ref C)) (hb : Binds X.K fd ps [])
    (tk : Takes X W) (ha : PA X (e :: es) t) (hdb : (x == ("__debug__" : Str)) = false := by decide) (he : starEach (e :: es) X.env = (false, eval e X.env) :: starEach es X.env := by rfl) (hpl : (backTo pos (starEach es X.env)).any (·.1) = false := by rfl) :
    PE X (.Call (.Name x p) (e :: es) [] pos) (tMakeS C sp (fun σ => WE W σ) t) := by
  refine ⟨fun pins s σ H Q I h => ?_⟩
  refine wpAny_Call_Name_kw (ld_glob I hg hm ?_ hdb)
  refine PySem.W.callWith_K (h₀ := X.base) I.ok.mod.kin M.kp (thn (ha.run pos pins s σ H _ I h) fun us s1 ⟨vs, H1, I1, r, q⟩ => ⟨I1.kIn, ?_⟩) he hpl
  exact run_makeS M G hr hb (passAt tk σ) (fun H' s' e s'' _ I2 c => passAt tk σ pins H' s' e s'' I2 c) I1 r q
def eMkF (c : Nat) (g : List D → Res (List D)) (fs : Env → Res (List D)) : Env → Res D := fun e => (fs e).bind fun ds => if shd ds = true then (g ds).bind fun fl => if nods fl = true then .ok (.ob c (frzs fl)) else .bad else .bad
@[simp] theorem eMkF_ (c : Nat) (g : List D → Res (List D)) (fs : Env → Res (List D)) (e : Env) : eMkF c g fs e = (fs e).bind fun ds => if shd ds = true then (g ds).bind fun fl => if nods fl = true then .ok (.ob c (frzs fl)) else .bad else .bad := rfl
theorem je_make {k c n : Nat} {f C : Addr} {fd : FuncData} {ps ns : List Str} {g : List D → Res (List D)} {x : Str} {p : Pos} (cn : Cn X W (k + 1)) (hcl : cls c = some (C, ns)) (M : Mk X.K C f) (G : FnOk X.prog X.w X.K X.mg X.base (L2.CX X.prog X.w) k f fd ps (spI X.K cls c n g))
    (hm : X.mg x = some (.ref C)) (hb : Binds X.K fd ps []) (ha : JA X cls W (e :: es) fs) (hn : ∀ g ds, fs g = .ok ds → ds.length = n) (hg : Gl X x := by rfl)
    (hdb : (x == ("__debug__" : Str)) = false := by decide) (he : starEach (e :: es) X.env = (false, eval e X.env) :: starEach es X.env := by rfl) (hpl : (backTo pos (starEach es X.env)).any (·.1) = false := by rfl) :
    JE X cls W (.Call (.Name x p) (e :: es) [] pos) (eMkF c g fs) := by
  obtain ⟨ta, pa, da⟩ := ha.ex
  refine ⟨_, pe_makeS M G cn.hr hg hm hb cn.tk pa hdb he hpl, ?_⟩
  intro σ F H env O Q s st p
  rw [eMkF_] at p
  refine da.go s st (fun c e => by rw [e] at p; exact p) (fun e => by rw [e] at p; exact p) fun ds e vs F1 H1 x1 b1 => ?_
  rw [e, Res.bind_ok] at p
  split at p
  · rename_i hsh
    intro x dx hx hdx hne
    have r1 := b1.toRps hsh
    have nF : ∀ {a : Addr}, H1 a = none → F1 a = none := fun {a} h => by
      cases q : F1 a with
      | none => rfl
      | some u => rw [x1.fh a u q] at h; cases h
    have sF : Same F1 (upd (upd H1 dx (.own x)) x (.ins C dx [])) := fun b o q => by
      rw [upd_ne (fun z => by rw [z, nF hx] at q; cases q), upd_ne (fun z => by rw [z, nF hdx] at q; cases q)]
      exact x1.fh b o q
    have sH : Same H1 (upd (upd H1 dx (.own x)) x (.ins C dx [])) := fun b o q => by
      rw [upd_ne (ne_of_none q hx), upd_ne (ne_of_none q hdx)]
      exact q
    refine ⟨F1, x, C, dx, ns, vs, ds, rfl, hcl, sF, nF hx, upd_same, r1, hn env ds e, ?_⟩
    have ext : ∀ {F' H' O'}, SExt F1 (upd (upd H1 dx (.own x)) x (.ins C dx [])) [x] F' H' O' → Ext F H F' H' := fun {F' H' O'} y =>
      ⟨x1.ff.trans y.ff, fun b o q => by
        have q1 := x1.hh b o q
        exact y.fr b o (sH b o q1) (by simp; exact ne_of_none q1 hx), y.fh, fun b h1 h2 => by
        have h3 := x1.ow b h1 h2
        have h4 : H1 b ≠ none := x1.some h2
        have h5 : b ≠ x := fun z => h4 (z ▸ hx)
        refine y.ow b h3 ?_ (by simp; exact h5)
        cases q : H1 b with
        | none => exact (h4 q).elim
        | some o => rw [sH b o q]; exact fun e => nomatch e⟩
    cases eg : g ds with
    | bad => rw [eg] at p; exact p.elim
    | xc e => rw [eg] at p; exact fun F' H' O' y => p F' H' (ext y)
    | ok fl =>
      rw [eg, Res.bind_ok] at p
      intro F' H' O' y w
      refine ⟨rfl, ?_⟩
      split at p
      · rename_i n
        have fr : Fresh H O' := fun a ha => by
          rcases y.oo a ha with z | z
          · simp at z; subst z; exact x1.hh.free hx
          · exact x1.hh.free (sH.free z)
        have no : ∀ a ∈ O', F' a = none := fun a ha => (w.dom a ha).1
        have z := w.freeze (addF_same no) addF_at (show nod (.oo none c fl) = true from n)
        exact p _ _ H' [] (addF_ext (ext y) fr no) Fresh.nil (.inl (.sh z))
      · exact p.elim
  · exact p.elim

def sTry (fb : Env → Out) (fh : Nat → Env → Out) : Env → Out := fun g => match fb g with
  | .xc c g' => fh c g'
  | o => o
@[simp] theorem sTry_ (fb : Env → Out) (fh : Nat → Env → Out) (g : Env) : sTry fb fh g = match fb g with
  | .xc c g' => fh c g'
  | o => o := rfl
def eIs (i : Nat) (a : Addr) (b : Bool) : Env → Res D := fun g => match (g : List D)[i]? with
  | some (D.rf a') => if a' = a then .ok (.bl b) else .bad
  | _ => .bad
@[simp] theorem eIs_ (i : Nat) (a : Addr) (b : Bool) (g : Env) : eIs i a b g = match (g : List D)[i]? with
  | some (D.rf a') => if a' = a then .ok (.bl b) else .bad
  | _ => .bad := rfl
end
end DL

namespace DL
open PySem L2
section
variable {K : PySem.W.Frag} {cls : Cls} {W : WX} {X : Cx} {F H F' H' F1 H1 : Hp} {O O1 : List Addr} {Q : VK} {σ : St} {a b e tg iter elt : Expr} {es : List Expr} {fa fb fc : Env → Res D} {ga gb : Env → Res Bool} {fs : Env → Res (List D)} {pos : Pos}
end
theorem law_sp {K : PySem.W.Frag} {cls : Cls} {g : List D → Res D} {H : Hp} {a : Addr} {ns : List Int} (h : g [.sc (ns.map D.int)] = .ok (.bl true)) (hS : SqL K H a (ns.map V.int)) :
    spD K cls 1 g [.ref a] H (fun v _ => v = .bl true) fun _ _ _ => False := by
  refine ⟨H, [.sc (ns.map D.int)], .refl H, .cons (.sc hS rps_ints) .nil, rfl, ?_⟩
  rw [h]
  intro v F' H' O' _ _ w
  cases w with
  | sh r => cases r; rfl
theorem law_cx {P : Program} {w : World} {H : Hp} {s : Shared} {e : Value} {s' : Shared} (h : L2.CX P w [] H s (fun _ _ _ => False) e s') : False := by
  obtain ⟨_, _, _, _, _, _, _, _, _, _, _, _, z⟩ := h
  exact z
end DL

namespace DL
open PySem L2
@[simp] theorem brw_un : brw .un = .un := rfl
@[simp] theorem brw_non : brw .non = .non := rfl
@[simp] theorem brw_bl {b} : brw (.bl b) = .bl b := rfl
@[simp] theorem brw_int {b} : brw (.int b) = .int b := rfl
@[simp] theorem brw_str {b} : brw (.str b) = .str b := rfl
@[simp] theorem brw_sc {b} : brw (.sc b) = .sc b := rfl
@[simp] theorem brw_ls {b} : brw (.ls b) = .ls b := rfl
@[simp] theorem brw_tp {b} : brw (.tp b) = .tp b := rfl
@[simp] theorem brw_ob {c b} : brw (.ob c b) = .ob c b := rfl
@[simp] theorem brw_ol {b} : brw (.ol b) = .bo (brws b) := rfl
@[simp] theorem brw_od {k b} : brw (.od k b) = .bd k (brws b) := rfl
@[simp] theorem brw_oo {o c b} : brw (.oo o c b) = .bb c (brws b) := rfl
@[simp] theorem brw_rf {b} : brw (.rf b) = .rf b := rfl
@[simp] theorem brws_nil : brws [] = [] := rfl
@[simp] theorem brws_cons {d ds} : brws (d :: ds) = brw d :: brws ds := rfl
@[simp] theorem frz_un : frz .un = .un := rfl
@[simp] theorem frz_non : frz .non = .non := rfl
@[simp] theorem frz_bl {b} : frz (.bl b) = .bl b := rfl
@[simp] theorem frz_int {b} : frz (.int b) = .int b := rfl
@[simp] theorem frz_str {b} : frz (.str b) = .str b := rfl
@[simp] theorem frz_sc {b} : frz (.sc b) = .sc b := rfl
@[simp] theorem frz_ls {b} : frz (.ls b) = .ls b := rfl
@[simp] theorem frz_tp {b} : frz (.tp b) = .tp b := rfl
@[simp] theorem frz_ob {c b} : frz (.ob c b) = .ob c b := rfl
@[simp] theorem frz_ol {b} : frz (.ol b) = .ls (frzs b) := rfl
@[simp] theorem frz_oo {o c b} : frz (.oo o c b) = .ob c (frzs b) := rfl
@[simp] theorem frz_od {k b} : frz (.od k b) = .od k b := rfl
@[simp] theorem frzs_nil : frzs [] = [] := rfl
@[simp] theorem frzs_cons {d ds} : frzs (d :: ds) = frz d :: frzs ds := rfl
@[simp] theorem pln_bo {b} : pln (.bo b) = .ls (plns b) := rfl
@[simp] theorem pln_int {b} : pln (.int b) = .int b := rfl
@[simp] theorem pln_ls {b} : pln (.ls b) = .ls b := rfl
@[simp] theorem pln_sc {b} : pln (.sc b) = .sc b := rfl
@[simp] theorem pln_tp {b} : pln (.tp b) = .tp b := rfl
@[simp] theorem pln_bl {b} : pln (.bl b) = .bl b := rfl
@[simp] theorem pln_str {b} : pln (.str b) = .str b := rfl
@[simp] theorem pln_non : pln .non = .non := rfl
@[simp] theorem pln_ob {c b} : pln (.ob c b) = .ob c b := rfl
@[simp] theorem plns_nil : plns [] = [] := rfl
@[simp] theorem plns_cons {d ds} : plns (d :: ds) = pln d :: plns ds := rfl
def dull : D → Prop := fun d => brw d = d ∧ frz d = d ∧ pln d = d ∧ nod d = true ∧ shd1 d = true ∧ plok d = true
theorem dulls {α : Type} {f : α → D} (h : ∀ a, dull (f a)) : ∀ l : List α, brws (l.map f) = l.map f ∧ frzs (l.map f) = l.map f ∧ plns (l.map f) = l.map f ∧ nods (l.map f) = true ∧ shd (l.map f) = true ∧ ploks (l.map f) = true
  | [] => ⟨rfl, rfl, rfl, rfl, rfl, rfl⟩
  | a :: l => by
    obtain ⟨h1, h2, h3, h4, h5, h6⟩ := dulls h l
    obtain ⟨k1, k2, k3, k4, k5, k6⟩ := h a
    refine ⟨?_, ?_, ?_, ?_, ?_, ?_⟩
    · simp [h1, k1]
    · simp [h2, k2]
    · simp [h3, k3]
    · simp [h4, k4]
    · simp [h5, k5]
    · simp [h6, k6]
theorem dull_int (i : Int) : dull (.int i) := ⟨rfl, rfl, rfl, rfl, rfl, rfl⟩
theorem dull_bl (i : Bool) : dull (.bl i) := ⟨rfl, rfl, rfl, rfl, rfl, rfl⟩
@[simp] def dP (p : Int × Int) : D := .tp [.int p.1, .int p.2]
theorem dull_P (p : Int × Int) : dull (dP p) := ⟨rfl, rfl, rfl, rfl, rfl, rfl⟩
def dT (l : List Int) : D := .tp (l.map D.int)
theorem dull_T (l : List Int) : dull (dT l) := ⟨rfl, rfl, rfl, rfl, rfl, rfl⟩
section
variable (l : List Int)
@[simp] theorem brws_I : brws (l.map D.int) = l.map D.int := (dulls dull_int l).1
@[simp] theorem frzs_I : frzs (l.map D.int) = l.map D.int := (dulls dull_int l).2.1
@[simp] theorem plns_I : plns (l.map D.int) = l.map D.int := (dulls dull_int l).2.2.1
@[simp] theorem nods_I : nods (l.map D.int) = true := (dulls dull_int l).2.2.2.1
@[simp] theorem shd_I : shd (l.map D.int) = true := (dulls dull_int l).2.2.2.2.1
@[simp] theorem ploks_I : ploks (l.map D.int) = true := (dulls dull_int l).2.2.2.2.2
@[simp] theorem flats_I : flats (l.map D.int) = true := by
  induction l with
  | nil => rfl
  | cons a l ih => simp [ih]
end
section
variable (l : List (Int × Int))
@[simp] theorem brws_P : brws (l.map dP) = l.map dP := (dulls dull_P l).1
@[simp] theorem frzs_P : frzs (l.map dP) = l.map dP := (dulls dull_P l).2.1
@[simp] theorem plns_P : plns (l.map dP) = l.map dP := (dulls dull_P l).2.2.1
@[simp] theorem nods_P : nods (l.map dP) = true := (dulls dull_P l).2.2.2.1
@[simp] theorem shd_P : shd (l.map dP) = true := (dulls dull_P l).2.2.2.2.1
@[simp] theorem ploks_P : ploks (l.map dP) = true := (dulls dull_P l).2.2.2.2.2
end
@[simp] theorem atI_map {α β : Type} (f : α → β) (l : List α) (i : Int) : atI (l.map f) i = (atI l i).map f := by
  unfold atI
  rw [List.length_map]
  cases ixN l.length i with
  | none => rfl
  | some j => simp
theorem atI_of {α : Type} {l : List α} {i : Int} (h0 : 0 ≤ i) (h1 : i < l.length) : ∃ a, atI l i = some a ∧ l[i.toNat]? = some a := by
  have h : i.toNat < l.length := by omega
  refine ⟨l[i.toNat], ?_, by simp [h]⟩
  unfold atI ixN
  rw [if_pos h0, if_pos h1]
  simp [h]
theorem atI_natG {α : Type} {l : List α} {j : Nat} {i : Int} (e : i = (j : Int)) (h : j < l.length) : atI l i = l[j]? := by
  subst e
  unfold atI ixN
  rw [if_pos (by omega), if_pos (by omega)]
  simp
theorem ixN_nat {n : Nat} {i : Int} (h0 : 0 ≤ i) (h1 : i < n) : ixN n i = some i.toNat := by
  unfold ixN
  rw [if_pos h0, if_pos h1]
end DL

namespace DL
open PySem L2
def e60 : Int := 10 ^ 60
@[simp] theorem e60_pos : 0 < e60 := by decide
section
variable {a b i j : Int} {x y : Str} {xs ys : List D} {k l : Bool} {d e : D} {ks : List Key} {c n : Nat}
@[simp] theorem caLen_sc : caLen [.sc xs] = some (.int xs.length) := rfl
@[simp] theorem caLen_ls : caLen [.ls xs] = some (.int xs.length) := rfl
@[simp] theorem caLen_bo : caLen [.bo xs] = some (.int xs.length) := rfl
@[simp] theorem caLen_tp : caLen [.tp xs] = some (.int xs.length) := rfl
@[simp] theorem opIx_sc : opIx (.sc xs) (.int i) = atI xs i := rfl
@[simp] theorem opIx_ls : opIx (.ls xs) (.int i) = atI xs i := rfl
@[simp] theorem opIx_bo : opIx (.bo xs) (.int i) = atI xs i := rfl
@[simp] theorem opIx_tp : opIx (.tp xs) (.int i) = atI xs i := rfl
@[simp] theorem atI_two0 {α : Type} {p q : α} : atI [p, q] 0 = some p := rfl
@[simp] theorem atI_two1 {α : Type} {p q : α} : atI [p, q] 1 = some q := rfl
theorem opPow_eq : opPow (.int i) (.int j) = if CPow i j then some (.int (i ^ j.toNat)) else none := rfl
theorem opMod_eq : opMod (.int i) (.int j) = if j ≠ 0 then some (.int (if 0 < j then i % j else i.fmod j)) else none := rfl
theorem opDiv_eq : opDiv (.int i) (.int j) = if divOk j then some (.int (if 0 < j then i / j else i.fdiv j)) else none := rfl
theorem opMul_eq : opMul (.int i) (.int j) = if mulOk i j then some (.int (i * j)) else none := rfl
theorem opMul_ls : opMul (.ls xs) (.int i) = if i < 2 ^ 63 ∧ -(2 ^ 63) ≤ i ∧ xs.length * i.toNat ≤ lim then some (.ol (List.replicate i.toNat xs).flatten) else none := rfl
theorem caMax2_eq : caMax2 [.int a, .int b] = some (.int (if b > a then b else a)) := rfl
theorem caMin2_eq : caMin2 [.int a, .int b] = some (.int (if b < a then b else a)) := rfl
theorem caAbs_eq : caAbs [.int a] = some (.int (if a < 0 then -a else a)) := rfl
@[simp] theorem opPow_c : opPow (.int 10) (.int 60) = some (.int e60) := by
  rw [opPow_eq, if_pos (by unfold CPow; decide)]
  rfl
@[simp] theorem opMod_pos (h : 0 < b) : opMod (.int a) (.int b) = some (.int (a % b)) := by
  rw [opMod_eq, if_pos (by omega), if_pos h]
theorem divOk_small (h0 : b ≠ 0) (h : b.natAbs < 1073741824) : divOk b := ⟨h0, .inl h⟩
@[simp] theorem opDiv_pos (h : 0 < b) (h' : b < 1073741824) : opDiv (.int a) (.int b) = some (.int (a / b)) := by
  rw [opDiv_eq, if_pos (divOk_small (by omega) (by omega)), if_pos h]
@[simp] theorem opMul_l (h : -18446744073709551616 < a) (h' : a < 18446744073709551616) : opMul (.int a) (.int b) = some (.int (a * b)) := by
  rw [opMul_eq, if_pos (.inl (.inl ⟨by omega, by omega⟩))]
@[simp] theorem opMul_r (h : -18446744073709551616 < b) (h' : b < 18446744073709551616) : opMul (.int a) (.int b) = some (.int (a * b)) := by
  rw [opMul_eq, if_pos (.inl (.inr ⟨by omega, by omega⟩))]
@[simp] theorem opAdd_int : opAdd (.int a) (.int b) = some (.int (a + b)) := rfl
@[simp] theorem opSub_int : opSub (.int a) (.int b) = some (.int (a - b)) := rfl
@[simp] theorem opNeg_int : opNeg (.int a) = some (.int (-a)) := rfl
@[simp] theorem opAdd_tp (h : xs.length + ys.length ≤ lim) : opAdd (.tp xs) (.tp ys) = some (.tp (xs ++ ys)) := if_pos h
@[simp] theorem opAdd_ll (h : xs.length + ys.length ≤ lim) : opAdd (.ls xs) (.ls ys) = some (.ol (xs ++ ys)) := if_pos h
theorem opAdd_lst {d e : D} (h1 : lsv d = some xs) (h2 : lsv e = some ys) (h : xs.length + ys.length ≤ lim) : opAdd d e = some (.ol (xs ++ ys)) := by
  have e1 : opAdd d e = opAddL d e := by cases d <;> first | rfl | cases h1
  rw [e1]
  unfold opAddL
  rw [h1, h2]
  exact if_pos h
@[simp] theorem opAdd_lb (h2 : shd ys = true) (h : xs.length + ys.length ≤ lim) : opAdd (.ls xs) (.bo ys) = some (.ol (xs ++ ys)) := opAdd_lst rfl (by simp [h2]) h
@[simp] theorem opAdd_bl (h2 : shd xs = true) (h : xs.length + ys.length ≤ lim) : opAdd (.bo xs) (.ls ys) = some (.ol (xs ++ ys)) := opAdd_lst (by simp [h2]) rfl h
@[simp] theorem opAdd_bb (h1 : shd xs = true) (h2 : shd ys = true) (h : xs.length + ys.length ≤ lim) : opAdd (.bo xs) (.bo ys) = some (.ol (xs ++ ys)) := opAdd_lst (by simp [h1]) (by simp [h2]) h
@[simp] theorem opAdd_str (h : x.length + y.length ≤ lim) : opAdd (.str x) (.str y) = some (.str (x ++ y)) := if_pos h
@[simp] theorem opMul_rep (h : 0 ≤ a) (h' : a ≤ 100000) (h2 : xs.length ≤ 10) : opMul (.ls xs) (.int a) = some (.ol (List.replicate a.toNat xs).flatten) := by
  have : xs.length * a.toNat ≤ lim := by
    unfold lim
    have h1 : a.toNat ≤ 100000 := by omega
    exact Nat.le_trans (Nat.mul_le_mul h2 h1) (by decide)
  rw [opMul_ls, if_pos ⟨by omega, by omega, this⟩]
@[simp] theorem cLt_int : cLt (.int a) (.int b) = some (decide (a < b)) := rfl
@[simp] theorem cLe_int : cLe (.int a) (.int b) = some (decide (a ≤ b)) := rfl
@[simp] theorem cGt_int : cGt (.int a) (.int b) = some (decide (b < a)) := rfl
@[simp] theorem cGe_int : cGe (.int a) (.int b) = some (decide (b ≤ a)) := rfl
@[simp] theorem cEq_int : cEq (.int a) (.int b) = some (decide (a = b)) := rfl
@[simp] theorem cEq_str : cEq (.str x) (.str y) = some (decide (x = y)) := rfl
@[simp] theorem cEq_bl : cEq (.bl k) (.bl l) = some (decide (k = l)) := rfl
@[simp] theorem cNe_int : cNe (.int a) (.int b) = some (!decide (a = b)) := rfl
@[simp] theorem cNe_str : cNe (.str x) (.str y) = some (!decide (x = y)) := rfl
@[simp] theorem cNe_bl : cNe (.bl k) (.bl l) = some (!decide (k = l)) := rfl
@[simp] theorem cIsN_non : cIsN .non .non = some true := rfl
@[simp] theorem cIsN_int : cIsN (.int a) .non = some false := rfl
@[simp] theorem cIsN_tp : cIsN (.tp xs) .non = some false := rfl
@[simp] theorem cIsN_ls : cIsN (.ls xs) .non = some false := rfl
@[simp] theorem cIsN_bo : cIsN (.bo xs) .non = some false := rfl
@[simp] theorem cIsN_ob : cIsN (.ob c xs) .non = some false := rfl
@[simp] theorem cIsN_str : cIsN (.str x) .non = some false := rfl
@[simp] theorem cNotN_non : cNotN .non .non = some false := rfl
@[simp] theorem cNotN_int : cNotN (.int a) .non = some true := rfl
@[simp] theorem cNotN_tp : cNotN (.tp xs) .non = some true := rfl
@[simp] theorem cNotN_ls : cNotN (.ls xs) .non = some true := rfl
@[simp] theorem cNotN_ob : cNotN (.ob c xs) .non = some true := rfl
@[simp] theorem caMax2_int : caMax2 [.int a, .int b] = some (.int (max a b)) := by
  rw [caMax2_eq, show (if b > a then b else a) = max a b by split <;> omega]
@[simp] theorem caMin2_int : caMin2 [.int a, .int b] = some (.int (min a b)) := by
  rw [caMin2_eq, show (if b < a then b else a) = min a b by split <;> omega]
@[simp] theorem caAbs_int : caAbs [.int a] = some (.int (a.natAbs : Int)) := by
  rw [caAbs_eq, show (if a < 0 then -a else a) = (a.natAbs : Int) by split <;> omega]
@[simp] theorem caInt_int : caInt [.int a] = some (.int a) := rfl
@[simp] theorem caInt_bl : caInt [.bl k] = some (.int (if k = true then 1 else 0)) := rfl
@[simp] theorem caList_ls : caList [.ls xs] = some (.ol xs) := rfl
@[simp] theorem caList_sc : caList [.sc xs] = some (.ol xs) := rfl
@[simp] theorem caList_tp : caList [.tp xs] = some (.ol xs) := rfl
@[simp] theorem caList_bo (h : shd xs = true) : caList [.bo xs] = some (.ol xs) := by simp [caList, h]
@[simp] theorem caTuple_ls : caTuple [.ls xs] = some (.tp xs) := rfl
@[simp] theorem caTuple_sc : caTuple [.sc xs] = some (.tp xs) := rfl
@[simp] theorem caTuple_tp : caTuple [.tp xs] = some (.tp xs) := rfl
@[simp] theorem caTuple_bo (h : shd xs = true) : caTuple [.bo xs] = some (.tp xs) := by simp [caTuple, h]
variable {ns : List Int}
@[simp] theorem caSum_ls : caSum [.ls (ns.map D.int)] = some (.int ns.sum) := by simp [caSum]
@[simp] theorem caSum_bo : caSum [.bo (ns.map D.int)] = some (.int ns.sum) := by simp [caSum]
@[simp] theorem caSum_sc : caSum [.sc (ns.map D.int)] = some (.int ns.sum) := by simp [caSum]
@[simp] theorem caSorted_ls : caSorted [.ls (ns.map D.int)] = some (.ol ((srt ns).map D.int)) := by simp [caSorted]
@[simp] theorem caSorted_bo : caSorted [.bo (ns.map D.int)] = some (.ol ((srt ns).map D.int)) := by simp [caSorted]
@[simp] theorem opSl_tp {lo hi : Option Int} : opSl (.tp xs) lo hi = some (.tp (cut xs lo hi)) := rfl
@[simp] theorem opSl_ls {lo hi : Option Int} : opSl (.ls xs) lo hi = some (.ol (cut xs lo hi)) := rfl
@[simp] theorem opSl_sc {lo hi : Option Int} : opSl (.sc xs) lo hi = some (.ol (cut xs lo hi)) := rfl
@[simp] theorem opSl_bo {lo hi : Option Int} (h : shd xs = true) : opSl (.bo xs) lo hi = some (.ol (cut xs lo hi)) := by simp [opSl, h]
@[simp] theorem cut_map {α β : Type} (f : α → β) (l : List α) (lo hi : Option Int) : cut (l.map f) lo hi = (cut l lo hi).map f := by
  unfold cut
  simp
@[simp] theorem tru_bl : tru (.bl k) = some k := rfl
@[simp] theorem tru_int : tru (.int a) = some (a != 0) := rfl
@[simp] theorem tru_non : tru .non = some false := rfl
@[simp] theorem tru_ls : tru (.ls xs) = some (!xs.isEmpty) := rfl
@[simp] theorem tru_bo : tru (.bo xs) = some (!xs.isEmpty) := rfl
@[simp] theorem tru_tp : tru (.tp xs) = some (!xs.isEmpty) := rfl
@[simp] theorem cIn_ls : cIn (.int a) (.ls (ns.map D.int)) = some (decide (a ∈ ns)) := by simp [cIn]
@[simp] theorem cIn_tp : cIn (.int a) (.tp (ns.map D.int)) = some (decide (a ∈ ns)) := by simp [cIn]
@[simp] theorem cIn_bo : cIn (.int a) (.bo (ns.map D.int)) = some (decide (a ∈ ns)) := by simp [cIn]
@[simp] theorem cNIn_ls : cNIn (.int a) (.ls (ns.map D.int)) = some (!decide (a ∈ ns)) := by simp [cNIn]
@[simp] theorem cNIn_tp : cNIn (.int a) (.tp (ns.map D.int)) = some (!decide (a ∈ ns)) := by simp [cNIn]
@[simp] theorem cNIn_bo : cNIn (.int a) (.bo (ns.map D.int)) = some (!decide (a ∈ ns)) := by simp [cNIn]
@[simp] theorem opFld_ob : opFld c n (.ob c xs) = xs[n]? := if_pos rfl
@[simp] theorem opFld_bb : opFld c n (.bb c xs) = xs[n]? := if_pos rfl
@[simp] theorem calD_shd {g : List D → Res D} (h : shd xs = true) : calD g xs = g xs := if_pos h
end
end DL

namespace DL
open PySem L2
theorem lcL_map {α : Type} {tg : D → Env → Option Env} {te : Env → Res D} {g : Env} {f h : α → D} : ∀ (l : List α), (∀ a ∈ l, ∃ g1, tg (f a) g = some g1 ∧ (te g1).bind kp = .ok (h a)) → lcL tg tYesG te g (l.map f) = .ok (l.map h)
  | [], _ => rfl
  | a :: l, k => by
    obtain ⟨g1, e1, e2⟩ := k a (by simp)
    rw [List.map_cons, lcL_cons, e1]
    simp only [tYesG_, Res.bind_ok, if_true]
    rw [e2, lcL_map l fun b hb => k b (by simp [hb])]
    rfl
theorem lcL_mapN {α : Type} {s : Nat} {te : Env → Res D} {g : Env} {f h : α → D} (l : List α) (k : ∀ a ∈ l, (te (g.set s (f a))).bind kp = .ok (h a)) : lcL (gtN s) tYesG te g (l.map f) = .ok (l.map h) :=
  lcL_map l fun a ha => ⟨_, rfl, k a ha⟩
theorem lcL_filter {α : Type} {tg : D → Env → Option Env} {tt : Env → Res Bool} {te : Env → Res D} {g : Env} {f h : α → D} {p : α → Bool} : ∀ (l : List α), (∀ a ∈ l, ∃ g1, tg (f a) g = some g1 ∧ tt g1 = .ok (p a) ∧ (p a = true → (te g1).bind kp = .ok (h a))) → lcL tg tt te g (l.map f) = .ok ((l.filter p).map h)
  | [], _ => rfl
  | a :: l, k => by
    obtain ⟨g1, e1, e2, e3⟩ := k a (by simp)
    have ih := lcL_filter (h := h) l fun b hb => k b (by simp [hb])
    rw [List.map_cons, lcL_cons, e1]
    simp only [e2, Res.bind_ok]
    cases hp : p a with
    | true => rw [if_pos rfl, e3 hp, ih, List.filter_cons_of_pos hp]; rfl
    | false => rw [if_neg (by decide), ih, List.filter_cons_of_neg (by simp [hp])]
theorem lcL_filterN {α : Type} {s : Nat} {tt : Env → Res Bool} {te : Env → Res D} {g : Env} {f h : α → D} {p : α → Bool} (l : List α) (k : ∀ a ∈ l, tt (g.set s (f a)) = .ok (p a) ∧ (p a = true → (te (g.set s (f a))).bind kp = .ok (h a))) : lcL (gtN s) tt te g (l.map f) = .ok ((l.filter p).map h) :=
  lcL_filter l fun a ha => ⟨_, rfl, (k a ha).1, (k a ha).2⟩
theorem map_int {α : Type} (h : α → Int) (l : List α) : l.map (fun a => D.int (h a)) = (l.map h).map D.int := by simp
theorem cut_from {α : Type} (l : List α) (i : Int) (h : 0 ≤ i) : cut l (some i) none = l.drop i.toNat := by
  unfold cut
  obtain ⟨n, rfl⟩ := Int.eq_ofNat_of_zero_le h
  rw [HT.sIx_nat, HT.sIx_none]
  simp only [Int.toNat_natCast]
  by_cases hn : n ≤ l.length
  · rw [Nat.min_eq_left hn, List.take_of_length_le (by simp)]
  · rw [Nat.min_eq_right (by omega), List.drop_length, List.drop_eq_nil_of_le (by omega)]; simp
theorem cut_to {α : Type} (l : List α) (i : Int) (h : 0 ≤ i) : cut l none (some i) = l.take i.toNat := by
  unfold cut
  obtain ⟨n, rfl⟩ := Int.eq_ofNat_of_zero_le h
  rw [HT.sIx_nat, HT.sIx_none]
  simp only [Int.toNat_natCast, List.drop_zero, Nat.sub_zero]
  by_cases hn : n ≤ l.length
  · rw [Nat.min_eq_left hn]
  · rw [Nat.min_eq_right (by omega), List.take_of_length_le (Nat.le_refl _), List.take_of_length_le (by omega)]
theorem rng_map (lo : Int) (n : Nat) : rng lo n = ((List.range n).map fun i : Nat => lo + (i : Int)).map D.int := by unfold rng; simp
theorem lim_eq : lim = 1000000 := rfl
@[simp] theorem lim_0 : 0 ≤ lim := by decide
@[simp] theorem lim_1 : 1 ≤ lim := by decide
@[simp] theorem lim_2 : 2 ≤ lim := by decide
@[simp] theorem lim_3 : 3 ≤ lim := by decide
@[simp] theorem lim_4 : 4 ≤ lim := by decide
@[simp] theorem lim_5 : 5 ≤ lim := by decide
@[simp] theorem lim_6 : 6 ≤ lim := by decide
@[simp] theorem lim_7 : 7 ≤ lim := by decide
@[simp] theorem lim_8 : 8 ≤ lim := by decide
@[simp] theorem lim_9 : 9 ≤ lim := by decide
@[simp] theorem lim_10 : 10 ≤ lim := by decide
@[simp] theorem lim_11 : 11 ≤ lim := by decide
@[simp] theorem lim_12 : 12 ≤ lim := by decide
@[simp] theorem lim_13 : 13 ≤ lim := by decide
@[simp] theorem lim_14 : 14 ≤ lim := by decide
@[simp] theorem lim_15 : 15 ≤ lim := by decide
@[simp] theorem lim_16 : 16 ≤ lim := by decide
@[simp] theorem lim_17 : 17 ≤ lim := by decide
@[simp] theorem lim_18 : 18 ≤ lim := by decide
@[simp] theorem lim_19 : 19 ≤ lim := by decide
@[simp] theorem lim_20 : 20 ≤ lim := by decide
end DL

namespace DL
open PySem L2
noncomputable def mirI (f : Env → Out) (c n : Nat) : List D → Res (List D) := fun ds => by
  classical exact if h : ∃ r, ∀ x, runI f c n x ds = r then h.choose else .bad
theorem mirI_eq {f : Env → Out} {c n : Nat} {ds : List D} {r : Res (List D)} (h : ∀ x, runI f c n x ds = r) : mirI f c n ds = r := by
  unfold mirI
  rw [dif_pos ⟨r, h⟩]
  have := (Exists.choose_spec (⟨r, h⟩ : ∃ r, ∀ x, runI f c n x ds = r)) 0
  rw [← this, h 0]
theorem mirI_ok {f : Env → Out} {c n k : Nat} : ∀ ds x, ds.length = k → mirI f c n ds = .bad ∨ runI f c n x ds = mirI f c n ds := by
  intro ds x _
  by_cases h : ∃ r, ∀ x, runI f c n x ds = r
  · right
    obtain ⟨r, h⟩ := h
    rw [mirI_eq h, h x]
  · left
    unfold mirI
    rw [dif_neg h]
end DL

namespace DL
open PySem L2
def Enc {α : Type} [DecidableEq α] (f : α → D) (n : Nat) : Prop := ∃ p : α → PyData, (∀ a, toPy (f a) = some (p a) ∧ (p a).canLay0 = true ∧ (p a).depth ≤ n) ∧ ∀ a b, PyData.eqv (p a) (p b) = decide (a = b)
section
variable {α : Type} [DecidableEq α] {f : α → D} {n : Nat}
theorem toPys_map {f : α → D} {p : α → PyData} (h : ∀ a, toPy (f a) = some (p a)) : ∀ l : List α, toPys (l.map f) = some (l.map p)
  | [] => by simp [toPys]
  | a :: l => by simp [toPys, h a, toPys_map h l]
theorem eqvAll_map {p : α → PyData} (h : ∀ a b, PyData.eqv (p a) (p b) = decide (a = b)) : ∀ l m : List α, PyData.eqvAll (l.map p) (m.map p) = decide (l = m)
  | [], [] => by simp [PyData.eqvAll]
  | [], _ :: _ => by simp [PyData.eqvAll]
  | _ :: _, [] => by simp [PyData.eqvAll]
  | a :: l, b :: m => by
    simp only [List.map_cons, PyData.eqvAll, h a b, eqvAll_map h l m]
    by_cases e : a = b <;> by_cases e' : l = m <;> simp [e, e']
theorem lay_map {p : α → PyData} (h : ∀ a, (p a).canLay0 = true) : ∀ l : List α, PyData.canLayAll0 (l.map p) = true
  | [] => by simp [PyData.canLayAll0]
  | a :: l => by simp [PyData.canLayAll0, h a, lay_map h l]
theorem dep_map {p : α → PyData} (h : ∀ a, (p a).depth ≤ n) : ∀ l : List α, PyData.depthAll (l.map p) ≤ n
  | [] => by simp [PyData.depthAll]
  | a :: l => by
    simp only [List.map_cons, PyData.depthAll]
    exact Nat.max_le.mpr ⟨h a, dep_map h l⟩
theorem enc_int : Enc D.int 0 := ⟨.int, fun a => ⟨by simp [toPy], by simp [PyData.canLay0], by simp [PyData.depth]⟩, fun a b => by simp only [PyData.eqv]; by_cases e : a = b <;> simp [e]⟩
theorem enc_bl : Enc D.bl 0 := ⟨.bool, fun a => ⟨by simp [toPy], by simp [PyData.canLay0], by simp [PyData.depth]⟩, fun a b => by simp only [PyData.eqv]; by_cases e : a = b <;> simp [e]⟩
theorem Enc.ls (h : Enc f n) : Enc (fun l : List α => D.ls (l.map f)) (n + 1) := by
  obtain ⟨p, h1, h2⟩ := h
  refine ⟨fun l => .list (l.map p), fun l => ⟨by simp [toPy, toPys_map fun a => (h1 a).1], ?_, ?_⟩, fun l m => ?_⟩
  · simp [PyData.canLay0, lay_map fun a => (h1 a).2.1]
  · have := dep_map (fun a => (h1 a).2.2) l
    simp only [PyData.depth]; omega
  · simp only [PyData.eqv]; exact eqvAll_map h2 l m
theorem Enc.tp (h : Enc f n) : Enc (fun l : List α => D.tp (l.map f)) (n + 1) := by
  obtain ⟨p, h1, h2⟩ := h
  refine ⟨fun l => .tuple (l.map p), fun l => ⟨by simp [toPy, toPys_map fun a => (h1 a).1], ?_, ?_⟩, fun l m => ?_⟩
  · simp [PyData.canLay0, lay_map fun a => (h1 a).2.1]
  · have := dep_map (fun a => (h1 a).2.2) l
    simp only [PyData.depth]; omega
  · simp only [PyData.eqv]; exact eqvAll_map h2 l m
theorem Enc.pair {β : Type} [DecidableEq β] {g : β → D} (h : Enc f n) (h' : Enc g n) : Enc (fun x : α × β => D.tp [f x.1, g x.2]) (n + 1) := by
  obtain ⟨p, h1, h2⟩ := h
  obtain ⟨q, h3, h4⟩ := h'
  refine ⟨fun x => .tuple [p x.1, q x.2], fun x => ⟨by simp [toPy, toPys, h1 x.1, h3 x.2], ?_, ?_⟩, fun x y => ?_⟩
  · simp [PyData.canLay0, PyData.canLayAll0, h1 x.1, h3 x.2]
  · have a := (h1 x.1).2.2
    have b := (h3 x.2).2.2
    simp only [PyData.depth, PyData.depthAll]; omega
  · simp only [PyData.eqv, PyData.eqvAll, h2, h4]
    obtain ⟨x1, x2⟩ := x
    obtain ⟨y1, y2⟩ := y
    by_cases e : x1 = y1 <;> by_cases e' : x2 = y2 <;> simp [e, e']
theorem Enc.eq (h : Enc f n) (hn : n ≤ 64) (a b : α) : pyEq (f a) (f b) = some (decide (a = b)) := by
  obtain ⟨p, h1, h2⟩ := h
  have s : ∀ a, SeqAt.shaped (p a) = true := fun a => by
    have := (h1 a).2.2
    simp only [SeqAt.shaped, (h1 a).2.1, Bool.true_and, decide_eq_true_eq]; omega
  simp [pyEq, (h1 a).1, (h1 b).1, s, h2]
end
theorem toPy_bo {xs : List D} : toPy (.bo xs) = toPy (.ls xs) := by simp [toPy]
theorem pyEq_bl {xs ys : List D} : pyEq (.bo xs) (.ls ys) = pyEq (.ls xs) (.ls ys) := by simp [pyEq, toPy_bo]
theorem pyEq_lb {xs ys : List D} : pyEq (.ls xs) (.bo ys) = pyEq (.ls xs) (.ls ys) := by simp [pyEq, toPy_bo]
theorem pyEq_bb {xs ys : List D} : pyEq (.bo xs) (.bo ys) = pyEq (.ls xs) (.ls ys) := by simp [pyEq, toPy_bo]
@[simp] theorem cEq_ll {xs ys : List D} : cEq (.ls xs) (.ls ys) = pyEq (.ls xs) (.ls ys) := rfl
@[simp] theorem cEq_lbo {xs ys : List D} : cEq (.ls xs) (.bo ys) = pyEq (.ls xs) (.ls ys) := pyEq_lb
@[simp] theorem cEq_bol {xs ys : List D} : cEq (.bo xs) (.ls ys) = pyEq (.ls xs) (.ls ys) := pyEq_bl
@[simp] theorem cEq_bobo {xs ys : List D} : cEq (.bo xs) (.bo ys) = pyEq (.ls xs) (.ls ys) := pyEq_bb
@[simp] theorem cEq_tt {xs ys : List D} : cEq (.tp xs) (.tp ys) = pyEq (.tp xs) (.tp ys) := rfl
@[simp] theorem cNe_eq {a b : D} : cNe a b = (cEq a b).map (!·) := rfl
@[simp] theorem pyEq_lsI {xs ys : List Int} : pyEq (.ls (xs.map D.int)) (.ls (ys.map D.int)) = some (decide (xs = ys)) := enc_int.ls.eq (by omega) xs ys
@[simp] theorem pyEq_tpI {xs ys : List Int} : pyEq (.tp (xs.map D.int)) (.tp (ys.map D.int)) = some (decide (xs = ys)) := enc_int.tp.eq (by omega) xs ys
theorem enc_P : Enc dP 1 := enc_int.pair enc_int
@[simp] theorem pyEq_lsP {xs ys : List (Int × Int)} : pyEq (.ls (xs.map dP)) (.ls (ys.map dP)) = some (decide (xs = ys)) := enc_P.ls.eq (by omega) xs ys
@[simp] theorem pyEq_tpP {xs ys : List (Int × Int)} : pyEq (.tp (xs.map dP)) (.tp (ys.map dP)) = some (decide (xs = ys)) := enc_P.tp.eq (by omega) xs ys
@[simp] theorem pyEq_lsB {xs ys : List Bool} : pyEq (.ls (xs.map D.bl)) (.ls (ys.map D.bl)) = some (decide (xs = ys)) := enc_bl.ls.eq (by omega) xs ys
@[simp] theorem pyEq_tpB {xs ys : List Bool} : pyEq (.tp (xs.map D.bl)) (.tp (ys.map D.bl)) = some (decide (xs = ys)) := enc_bl.tp.eq (by omega) xs ys
@[simp] theorem pyEq_bbb {a b c d e f : Bool} : pyEq (.ls [.bl a, .bl b, .bl c]) (.ls [.bl d, .bl e, .bl f]) = some (decide ([a, b, c] = [d, e, f])) := pyEq_lsB (xs := [a, b, c]) (ys := [d, e, f])
@[simp] theorem pyEq_bb2 {a b d e : Bool} : pyEq (.ls [.bl a, .bl b]) (.ls [.bl d, .bl e]) = some (decide ([a, b] = [d, e])) := pyEq_lsB (xs := [a, b]) (ys := [d, e])
@[simp] theorem pyEq_nn : pyEq (.ls []) (.ls []) = some true := pyEq_lsI (xs := []) (ys := [])
@[simp] theorem pyEq_bn {a b c : Bool} : pyEq (.ls [.bl a, .bl b, .bl c]) (.ls []) = some false := by rw [show (.ls [.bl a, .bl b, .bl c] : D) = .ls ([a, b, c].map D.bl) from rfl, show (.ls [] : D) = .ls (([] : List Bool).map D.bl) from rfl, pyEq_lsB]; rfl
@[simp] theorem pyEq_nb {a b c : Bool} : pyEq (.ls []) (.ls [.bl a, .bl b, .bl c]) = some false := by rw [show (.ls [.bl a, .bl b, .bl c] : D) = .ls ([a, b, c].map D.bl) from rfl, show (.ls [] : D) = .ls (([] : List Bool).map D.bl) from rfl, pyEq_lsB]; rfl
end DL

namespace DL
open PySem L2
section
variable {xs ys : List D}
@[simp] theorem nods_append : nods (xs ++ ys) = (nods xs && nods ys) := by induction xs <;> simp [*, Bool.and_assoc]
@[simp] theorem frzs_append : frzs (xs ++ ys) = frzs xs ++ frzs ys := by induction xs <;> simp [*]
@[simp] theorem brws_append : brws (xs ++ ys) = brws xs ++ brws ys := by induction xs <;> simp [*]
@[simp] theorem plns_append : plns (xs ++ ys) = plns xs ++ plns ys := by induction xs <;> simp [*]
@[simp] theorem shd_append : shd (xs ++ ys) = (shd xs && shd ys) := by induction xs <;> simp [*, Bool.and_assoc]
@[simp] theorem ploks_append : ploks (xs ++ ys) = (ploks xs && ploks ys) := by induction xs <;> simp [*, Bool.and_assoc]
@[simp] theorem flats_append : flats (xs ++ ys) = (flats xs && flats ys) := by induction xs <;> simp [*, Bool.and_assoc]
end
theorem rng_succ (lo : Int) (n : Nat) : rng lo (n + 1) = .int lo :: rng (lo + 1) n := by
  unfold rng
  rw [List.range_succ_eq_map, List.map_cons, List.map_map]
  congr 1
  · simp
  · refine List.map_congr_left fun a _ => ?_
    simp; omega
theorem rng_zero (lo : Int) : rng lo 0 = [] := rfl
end DL

namespace DL
open PySem PySem.Spec PyProof.Rows L2
section
variable {P : Program} {w : World} {A : Around} {E : Value → Shared → Prop} {s : Shared}
end
end DL

namespace DL
open PySem PySem.Spec PyProof.Rows L2
section
variable {X : Cx} {cls : Cls} {W : WX} {K : PySem.W.Frag} {F H F' H' : Hp}
theorem rgV_ints (a b : Int) : rgV a b = ((List.range (b - a).toNat).map fun i : Nat => a + (i : Int)).map V.int := by unfold rgV; simp
def eLR1 (fa : Env → Res D) : Env → Res D := fun g => (fa g).bind fun d => match opd d with
  | .int n => if rgOk n ∧ n ≤ 1000000 then .ok (.ol (rng 0 n.toNat)) else .bad
  | _ => .bad
theorem je_lr1 {a : Expr} {p p2 pos q : Pos} {fa : Env → Res D} (c : Cn X W k) (hm : X.mg "list" = none) (hm2 : X.mg "range" = none) (ha : JE X cls W a fa)
    (hg : Gl X "list" := by rfl) (hg2 : Gl X "range" := by rfl) (na : starEach [a] X.env = (false, eval a X.env) :: starEach [] X.env := by rfl)
    (na2 : starEach [.Call (.Name "range" p2) [a] [] q] X.env = (false, eval (.Call (.Name "range" p2) [a] [] q) X.env) :: starEach [] X.env := by rfl) :
    JE X cls W (.Call (.Name "list" p) [.Call (.Name "range" p2) [a] [] q] [] pos) (eLR1 fa) := by
  obtain ⟨ta, pa, da⟩ := ha.ex
  refine ⟨_, pe_listRg c.calm hg hm (prg_1 hg2 hm2 pa na) na2, ?_⟩
  intro σ F H g O Q s st p
  unfold eLR1 at p
  refine da.go s st (fun c e => by rw [e] at p; exact p) (fun e => by rw [e] at p; exact p) fun d e v F1 H1 x1 b1 => ?_
  rw [e] at p
  simp only [Res.bind] at p
  cases eo : opd d with
  | int n =>
    rw [eo] at p b1
    simp only at p
    split at p
    · rename_i hn
      obtain rfl := b1.int
      refine ⟨n, rfl, ⟨by omega, by omega, hn.1.lo, hn.1.hi, by omega⟩, fun q hq => ?_⟩
      · refine p (.ref q) _ _ [q] (x1.trans (Ext.own x1.fh hq)) ((fresh_new hq).mono x1.hh) (.inl ?_)
        rw [rgV_ints, rng_map]
        rw [show (n - 0).toNat = n.toNat by omega]
        exact ow_new x1.fh hq rps_ints.toOws
    · exact p.elim
  | _ => rw [eo] at p; exact p.elim
end
end DL

namespace DL
open PySem PySem.Spec PyProof.Rows L2
section
variable {X : Cx} {cls : Cls} {W : WX} {K : PySem.W.Frag} {F H F' H' : Hp}
def eLR2 (fa fb : Env → Res D) : Env → Res D := fun g => (fa g).bind fun d => (fb g).bind fun e => match opd d, opd e with
  | .int i, .int j => if (rgOk i ∧ rgOk j) ∧ (j - i).toNat ≤ 1000000 then .ok (.ol (rng i (j - i).toNat)) else .bad
  | _, _ => .bad
theorem tyX_sqL {a : Addr} {xs : List V} (h : SqL K H a xs) : TyX K H (.ref a) (.type "list") := by
  rcases h with (h | ⟨o, h⟩) | ⟨o, its, n, h, c, _⟩
  · exact .base (.lst h)
  · exact .base (.frz h)
  · exact .kList h c
theorem tyX_sqT {a : Addr} {xs : List V} (h : SqT K H a xs) : TyX K H (.ref a) (.type "tuple") := by
  rcases h with (h | ⟨o, h⟩) | ⟨o, its, n, h, c, _⟩
  · exact .base (.tup h)
  · exact .fTuple h
  · exact .kTuple h c
def tyD : D → Option String
  | .non => some "NoneType"
  | .bl _ => some "bool"
  | .int _ => some "int"
  | .str _ => some "str"
  | .ls _ => some "list"
  | .bo _ => some "list"
  | .tp _ => some "tuple"
  | _ => none
theorem tyD_ok {v : V} {d : D} {T : String} (s : Same F H) (b : Bo K cls F H v d) (e : tyD d = some T) : TyX K H v (.type T) := by
  cases d with
  | non => cases e; obtain rfl := b.non; exact .base .non
  | bl k => cases e; obtain rfl := b.bl; exact .base (.bl k)
  | int k => cases e; obtain rfl := b.int; exact .base (.int k)
  | str k => cases e; obtain rfl := b.str; exact .base (.str k)
  | ls ys => cases e; obtain ⟨a, vs, rfl, h1, r⟩ := b.sqK s (xs := ys) rfl; exact tyX_sqL h1
  | bo ys => cases e; obtain ⟨a, vs, rfl, h1, r⟩ := b.sqL s (xs := ys) rfl; exact tyX_sqL h1
  | tp ys => cases e; obtain ⟨a, vs, rfl, h1, h2, r⟩ := b.tpv s (xs := ys) rfl; exact tyX_sqT h1
  | _ => cases e
def isTy (U T : String) : Option Bool := if U = T then some true else match U, T with
  | "int", "bool" => some false
  | "tuple", "bool" => some false
  | "list", "bool" => some false
  | "str", "bool" => some false
  | "NoneType", "bool" => some false
  | "bool", "int" => some true
  | "tuple", "int" => some false
  | "list", "int" => some false
  | "str", "int" => some false
  | "NoneType", "int" => some false
  | "tuple", "list" => some false
  | "int", "list" => some false
  | "list", "tuple" => some false
  | "int", "tuple" => some false
  | "NoneType", "tuple" => some false
  | "NoneType", "list" => some false
  | _, _ => none
theorem isTy_ok {U T : String} {b : Bool} (e : isTy U T = some b) : PySem.W.kitOne K (.type U) (.type T) = some b := by
  unfold isTy at e
  split at e
  · rename_i h
    subst h
    cases e
    unfold PySem.W.kitOne; rw [if_pos (by simp)]
  · split at e <;> first | (cases e; rfl) | cases e
def eIsT (T : String) (fa : Env → Res D) : Env → Res D := fun g => (fa g).bind fun d => match tyD (opd d) with
  | some U => match isTy U T with
    | some b => .ok (.bl b)
    | none => .bad
  | none => .bad
theorem je_isT {a : Expr} {T : String} {y : Str} {p p2 pos : Pos} {fa : Env → Res D} (hm : X.mg "isinstance" = none) (hm2 : X.mg y = none) (hv : bootBuiltins y = some (.type T)) (ha : JE X cls W a fa)
    (hg : Gl X "isinstance" := by rfl) (hg2 : Gl X y := by rfl) (hn : y ≠ "__name__" := by decide) (hdb : (y == ("__debug__" : Str)) = false := by decide)
    (he : starEach [a, .Name y p2] X.env = (false, eval a X.env) :: starEach [.Name y p2] X.env := by rfl) (he2 : starEach [.Name y p2] X.env = (false, eval (.Name y p2) X.env) :: starEach [] X.env := by rfl)
    (hpl : (backTo pos (starEach [.Name y p2] X.env)).any (·.1) = false := by rfl) :
    JE X cls W (.Call (.Name "isinstance" p) [a, .Name y p2] [] pos) (eIsT T fa) := by
  obtain ⟨ta, pa, da⟩ := ha.ex
  refine ⟨_, pe_callB call_isi hg hm (by rfl) (pa_cons pa (pa_cons (pe_bltn (v := .ty T) hg2 hm2 hv rfl hn hdb) pa_nil he2) he) (by decide) (by decide) he hpl, ?_⟩
  intro σ F H g O Q s st p
  unfold eIsT at p
  refine da.go s st (fun c e => by rw [e] at p; exact p) (fun e => by rw [e] at p; exact p) fun d e v F1 H1 x1 b1 => ?_
  rw [e] at p
  simp only [Res.bind] at p
  cases eo : tyD (opd d) with
  | none => rw [eo] at p; exact p.elim
  | some U =>
    rw [eo] at p
    simp only at p
    split at p
    · rename_i b hU
      exact ⟨v, .ty T, .type U, .type T, b, rfl, .ty T, tyD_ok x1.fh b1 eo, isTy_ok hU, p (.bl b) F1 H1 [] x1 (fun _ h => nomatch h) (.inl (.sh (.bl b)))⟩
    · exact p.elim
end
end DL

namespace DL
open PySem PySem.Spec PyProof.Rows L2
def insU (x : Int) : List Int → List Int
  | [] => [x]
  | y :: l => if x < y then x :: y :: l else if x = y then y :: l else y :: insU x l
def sset : List Int → List Int
  | [] => []
  | x :: l => insU x (sset l)
theorem insU_mem (x k : Int) : ∀ l : List Int, k ∈ insU x l ↔ k = x ∨ k ∈ l
  | [] => by simp [insU]
  | y :: l => by
    unfold insU
    split
    · simp
    · split
      · rename_i h; subst h; simp
      · simp only [List.mem_cons, insU_mem x k l]
        constructor
        · rintro (h | h | h) <;> simp [h]
        · rintro (h | h | h) <;> simp [h]
theorem insU_rise (x : Int) : ∀ l : List Int, l.Pairwise (· < ·) → (insU x l).Pairwise (· < ·)
  | [], _ => by simp [insU]
  | y :: l, h => by
    obtain ⟨h1, h2⟩ := List.pairwise_cons.mp h
    unfold insU
    split
    · rename_i hx
      exact List.pairwise_cons.mpr ⟨fun k hk => by rcases List.mem_cons.mp hk with rfl | hk; exact hx; exact Int.lt_trans hx (h1 k hk), h⟩
    · split
      · exact h
      · rename_i n1 n2
        refine List.pairwise_cons.mpr ⟨fun k hk => ?_, insU_rise x l h2⟩
        rcases (insU_mem x k l).mp hk with rfl | hk
        · omega
        · exact h1 k hk
theorem sset_mem (k : Int) : ∀ l : List Int, k ∈ sset l ↔ k ∈ l
  | [] => Iff.rfl
  | x :: l => by simp only [sset, insU_mem, sset_mem k l, List.mem_cons]
theorem sset_rise : ∀ l : List Int, (sset l).Pairwise (· < ·)
  | [] => .nil
  | x :: l => insU_rise x _ (sset_rise l)
theorem rise_uniq : ∀ {l m : List Int}, l.Pairwise (· < ·) → m.Pairwise (· < ·) → (∀ k, k ∈ l ↔ k ∈ m) → l = m
  | [], [], _, _, _ => rfl
  | [], y :: m, _, _, h => absurd ((h y).mpr (List.mem_cons_self ..)) (by simp)
  | x :: l, [], _, _, h => absurd ((h x).mp (List.mem_cons_self ..)) (by simp)
  | x :: l, y :: m, a, b, h => by
    obtain ⟨a1, a2⟩ := List.pairwise_cons.mp a
    obtain ⟨b1, b2⟩ := List.pairwise_cons.mp b
    have e : x = y := by
      rcases List.mem_cons.mp ((h x).mp (List.mem_cons_self ..)) with e | e
      · exact e
      · rcases List.mem_cons.mp ((h y).mpr (List.mem_cons_self ..)) with e' | e'
        · exact e'.symm
        · have := a1 y e'; have := b1 x e; omega
    subst e
    congr 1
    refine rise_uniq a2 b2 fun k => ⟨fun hk => ?_, fun hk => ?_⟩
    · rcases List.mem_cons.mp ((h k).mp (List.mem_cons_of_mem _ hk)) with e | e
      · have := a1 k hk; omega
      · exact e
    · rcases List.mem_cons.mp ((h k).mpr (List.mem_cons_of_mem _ hk)) with e | e
      · have := b1 k hk; omega
      · exact e
theorem rise_nodup {l : List Int} (h : l.Pairwise (· < ·)) : l.Nodup := h.imp fun h e => by omega
section
variable {X : Cx} {cls : Cls} {W : WX} {K : PySem.W.Frag} {F H F' H' : Hp}
def lsI (d : D) : Option (List Int) := match sqL (opd d) with
  | some xs => intsOf xs
  | none => none
@[simp] theorem lsI_ls (ns : List Int) : lsI (.ls (ns.map D.int)) = some ns := by simp [lsI]
@[simp] theorem lsI_bo (ns : List Int) : lsI (.bo (ns.map D.int)) = some ns := by simp [lsI]
@[simp] theorem lsI_ol (ns : List Int) : lsI (.ol (ns.map D.int)) = some ns := by simp [lsI]
def eLenSet (fa : Env → Res D) : Env → Res D := fun g => (fa g).bind fun d => match lsI d with
  | some ns => if ns.length ≤ 4000 then .ok (.int (sset ns).length) else .bad
  | none => .bad
def eSortedSet (fa : Env → Res D) : Env → Res D := fun g => (fa g).bind fun d => match lsI d with
  | some ns => if ns.length < 64 then .ok (.ol ((sset ns).map D.int)) else .bad
  | none => .bad
end
end DL
namespace DL
@[simp] theorem eLR1_ (fa : Env → Res D) (g : Env) : eLR1 fa g = (fa g).bind fun d => match opd d with
  | .int n => if rgOk n ∧ n ≤ 1000000 then .ok (.ol (rng 0 n.toNat)) else .bad
  | _ => .bad := rfl
@[simp] theorem eLR2_ (fa fb : Env → Res D) (g : Env) : eLR2 fa fb g = (fa g).bind fun d => (fb g).bind fun e => match opd d, opd e with
  | .int i, .int j => if (rgOk i ∧ rgOk j) ∧ (j - i).toNat ≤ 1000000 then .ok (.ol (rng i (j - i).toNat)) else .bad
  | _, _ => .bad := rfl
@[simp] theorem eIsT_ (T : String) (fa : Env → Res D) (g : Env) : eIsT T fa g = (fa g).bind fun d => match tyD (opd d) with
  | some U => match isTy U T with
    | some b => .ok (.bl b)
    | none => .bad
  | none => .bad := rfl
@[simp] theorem isTy_same (T : String) : isTy T T = some true := if_pos rfl
@[simp] theorem isTy_int_bool : isTy "int" "bool" = some false := by decide +kernel
@[simp] theorem isTy_tuple_bool : isTy "tuple" "bool" = some false := by decide +kernel
@[simp] theorem isTy_list_bool : isTy "list" "bool" = some false := by decide +kernel
@[simp] theorem isTy_str_bool : isTy "str" "bool" = some false := by decide +kernel
@[simp] theorem isTy_NoneType_bool : isTy "NoneType" "bool" = some false := by decide +kernel
@[simp] theorem isTy_bool_int : isTy "bool" "int" = some true := by decide +kernel
@[simp] theorem isTy_tuple_int : isTy "tuple" "int" = some false := by decide +kernel
@[simp] theorem isTy_list_int : isTy "list" "int" = some false := by decide +kernel
@[simp] theorem isTy_str_int : isTy "str" "int" = some false := by decide +kernel
@[simp] theorem isTy_NoneType_int : isTy "NoneType" "int" = some false := by decide +kernel
@[simp] theorem isTy_tuple_list : isTy "tuple" "list" = some false := by decide +kernel
@[simp] theorem isTy_int_list : isTy "int" "list" = some false := by decide +kernel
@[simp] theorem isTy_list_tuple : isTy "list" "tuple" = some false := by decide +kernel
@[simp] theorem isTy_int_tuple : isTy "int" "tuple" = some false := by decide +kernel
@[simp] theorem isTy_NoneType_tuple : isTy "NoneType" "tuple" = some false := by decide +kernel
@[simp] theorem isTy_NoneType_list : isTy "NoneType" "list" = some false := by decide +kernel
@[simp] theorem eLenSet_ (fa : Env → Res D) (g : Env) : eLenSet fa g = (fa g).bind fun d => match lsI d with
  | some ns => if ns.length ≤ 4000 then .ok (.int (sset ns).length) else .bad
  | none => .bad := rfl
@[simp] theorem eSortedSet_ (fa : Env → Res D) (g : Env) : eSortedSet fa g = (fa g).bind fun d => match lsI d with
  | some ns => if ns.length < 64 then .ok (.ol ((sset ns).map D.int)) else .bad
  | none => .bad := rfl
@[simp] theorem tyD_non : tyD .non = some "NoneType" := rfl
@[simp] theorem tyD_bl {b} : tyD (.bl b) = some "bool" := rfl
@[simp] theorem tyD_int {b} : tyD (.int b) = some "int" := rfl
@[simp] theorem tyD_str {b} : tyD (.str b) = some "str" := rfl
@[simp] theorem tyD_ls {b} : tyD (.ls b) = some "list" := rfl
@[simp] theorem tyD_bo {b} : tyD (.bo b) = some "list" := rfl
@[simp] theorem tyD_tp {b} : tyD (.tp b) = some "tuple" := rfl
def iota (n : Nat) : List Int := (List.range n).map fun i : Nat => (i : Int)
theorem rng_iota (n : Nat) : rng 0 n = (iota n).map D.int := by rw [rng_map]; unfold iota; simp
@[simp] theorem iota_len (n : Nat) : (iota n).length = n := by simp [iota]
end DL

namespace DL
open PySem PySem.Spec PyProof.Rows L2
section
variable {P : Program} {w : World} {A : Around} {E : Value → Shared → Prop} {s : Shared}
theorem collect_tup {l : Addr} {vs : List Value} {Q : List Value → Shared → Prop} (hl : s.heap.IsTuple l vs.toArray)
    (h : Q vs { s with heap := (s.heap.push (seqObj "list" #[] 0)).update s.heap.objs.size (Obj.mapSeq (· ++ vs.toArray)) }) (hsz : vs.length ≤ sizeLine) : wpAny (model P w) A (collect (.ref l)) Q E s := by
  obtain ⟨o, ho, hc, n, hd⟩ := id hl
  unfold collect
  refine wpAny_bind (wpAny_runValue (codeAny_builtin entry_proto_collect' ?_))
  show wpAny _ _ (do again (.builtin "list.__iadd__" ⟨[← newList [], .ref l], []⟩)) _ _ s
  refine wpAny_bind (wpAny_newList (wpAny_pure ⟨Code.quiet_builtin _ (by decide +kernel), codeAny_builtin entry_list_iadd' ?_⟩))
  show wpAny _ _ (Builtin.List.listExtendWith (.ref s.heap.objs.size) (.ref l) (.ref s.heap.objs.size)) _ _ { s with heap := s.heap.push (seqObj "list" #[] 0) }
  unfold Builtin.List.listExtendWith
  have ho' : (s.heap.push (seqObj "list" #[] 0)).get? l = some o := Heap.get?_push_of_some _ ho
  have hg : (s.heap.push (seqObj "list" #[] 0)).get? s.heap.objs.size = some (seqObj "list" #[] 0) := Heap.get?_push_size _ rfl
  refine wpAny_bind (wpAny_typeOf (T := "tuple") ⟨o, ho', hc⟩ ?_)
  rw [if_pos (by simp [show (Value.type "tuple" == Value.type "tuple") = true by rfl])]
  refine wpAny_bind (listItems_at ho' hd (wpAny_bind (listItems_at (xs := #[]) (n := 0) hg rfl ?_)))
  rw [if_neg (by simp)]
  refine wpAny_bind (listUpdate_at (xs := #[]) (n := 0) hg rfl (wpAny_pure ?_) (Nat.zero_le _) (by show (#[] ++ vs.toArray).size ≤ sizeLine + 1; simp only [Array.size_append, List.size_toArray, List.length_nil]; omega))
  show wpAny (model P w) A (do
      let o ← load s.heap.objs.size
      match o.data with
      | .seq xs _ => pure xs.toList
      | _ => unsupported "internal:collect") Q E { s with heap := (s.heap.push (seqObj "list" #[] 0)).update s.heap.objs.size (Obj.mapSeq (· ++ vs.toArray)) }
  refine wpAny_bind (wpAny_load (get?_update_seq hg _) ?_)
  show wpAny _ _ (pure ((#[] : Array Value) ++ vs.toArray).toList) Q E _
  rw [show ((#[] : Array Value) ++ vs.toArray).toList = vs by simp]
  exact wpAny_pure h
end
end DL
namespace SrtO
open PySem PyProof.Rows Srt
section
variable {prog : Program} {w : World} {A : Around} {E : Value → Shared → Prop} {s : Shared}
theorem sorted_ord_tup {l : Addr} {vs : List Value} {ltv : Value → Value → Bool} {Q : Value → Shared → Prop} (O : Swo ltv) (hl : s.heap.IsTuple l vs.toArray) (hz : vs.length ≤ sizeLine)
    (hS : 2 ≤ vs.length → ∀ (h₁ : Heap) (a : Addr), h₁.get? a = some (seqObj "list" vs.toArray 0) → SortableO prog w A.in1.in1 { s with heap := h₁ } a vs ltv)
    (h : ∀ out : List Value, Srtd ltv out → Stb ltv out vs → Q (.ref (s.heap.objs.size + 1)) { s with heap := sortedAll s.heap vs out.toArray }) :
    wpAny (model prog w) A (call (.builtin "sorted") [.ref l]) Q E s := by
  refine Calls.call_function_entry kind_sorted plain_sorted entry_sorted (args_sorted1 _) ?_
  unfold Builtin.«sorted»
  refine wpAny_bind (m := checkCount "sorted" 1 1 _) (wpAny_pure ?_)
  refine wpAny_bind (DL.collect_tup hl ?_ hz)
  refine wpAny_bind (wpAny_newList ?_ hz)
  have hsz : ((s.heap.push (seqObj "list" #[] 0)).update s.heap.objs.size (Obj.mapSeq (· ++ vs.toArray))).objs.size = s.heap.objs.size + 1 := by
    rw [Heap.size_update, size_push']
  have hoL : (((s.heap.push (seqObj "list" #[] 0)).update s.heap.objs.size (Obj.mapSeq (· ++ vs.toArray))).push (seqObj "list" vs.toArray 0)).get? (s.heap.objs.size + 1) = some (seqObj "list" vs.toArray 0) := by
    rw [← hsz]; exact Heap.get?_push_size _ rfl
  show wpAny _ _ _ _ _ { s with heap := ((s.heap.push (seqObj "list" #[] 0)).update s.heap.objs.size (Obj.mapSeq (· ++ vs.toArray))).push (seqObj "list" vs.toArray 0) }
  rw [hsz]
  exact wpAny_bind (wpAny_holding (wpAny_call_entry slot_list_sort ⟨_, hoL, rfl⟩ entry_list_sort (list_sort_ord O hoL hz (fun h2 => hS h2 _ _ hoL) fun out hs hb => ⟨_, rfl, wpAny_pure ⟨_, rfl, h out hs hb⟩⟩) (args_list_sort _)))
end
end SrtO
namespace DL
open PySem PySem.Spec PyProof.Rows L2
section
variable {X : Cx} {cls : Cls} {K : PySem.W.Frag}
def rSortedTI (K : PySem.W.Frag) : List V → Hp → VK → Prop := fun vs H Q => ∃ (a : Addr) (ns : List Int), vs = [V.ref a] ∧ SqT K H a (ns.map V.int) ∧
  ∀ (ns' : List Int) (p : Addr), ns'.Perm ns → ns'.Pairwise (· ≤ ·) → H p = none → Q (.ref p) (upd H p (.lst (ns'.map V.int)))
theorem cr_sortedTI : CallR X (.builtin "sorted") (rSortedTI X.K) := by
  intro pins s σ H vs us Q I r h
  obtain ⟨a, ns, rfl, hs, q⟩ := h
  obtain ⟨its, rv, hl, hz⟩ := I.tuple hs
  rw [Vals.ref1 r]
  have hi := rv.ints
  have hl' : s.heap.IsTuple a its.toArray := hl
  refine SrtO.sorted_ord_tup SrtO.swo_int hl' (by rw [← rv.length]; exact hz) (fun h2 h₁ a' _ => SrtO.ints_sortable hi h2) fun out h1 h2 => ?_
  obtain ⟨k1, k2, k3⟩ := SrtO.ints_out hi h1 h2
  obtain ⟨ep, he'⟩ := PyProof.Rows.sortedAll_at s.heap its out.toArray
  have hlen : ((out.map SrtO.iv).map V.int).length ≤ sizeLine := by
    rw [List.length_map, k2.length_eq]
    rw [List.length_map] at hz
    exact hz
  exact ⟨.ref _, upd H (s.heap.objs.size + 1) (.lst ((out.map SrtO.iv).map V.int)), I.laid (t' := s.toks) (fun _ _ => PyProof.Rows.sortedAll_old) (Nat.le_succ _) ⟨hlen, out, ep, vals_of_ints k1, he'⟩, rfl, q _ _ k2 k3 (I.hok.fresh (Nat.le_succ _))⟩
def rSorted2 (K : PySem.W.Frag) : List V → Hp → VK → Prop := fun vs H Q => rSortedI K vs H Q ∨ rSortedTI K vs H Q
theorem cr_sorted2 : CallR X (.builtin "sorted") (rSorted2 X.K) := by
  intro pins s σ H vs us Q I r h
  rcases h with h | h
  · exact cr_sortedI pins s σ H vs us Q I r h
  · exact cr_sortedTI pins s σ H vs us Q I r h
def caSorted2 : List D → Option D
  | [.tp xs] => (intsOf xs).map fun ns => .ol ((srt ns).map D.int)
  | ds => caSorted ds
@[simp] theorem caSorted2_tp (ns : List Int) : caSorted2 [.tp (ns.map D.int)] = some (.ol ((srt ns).map D.int)) := by simp [caSorted2]
@[simp] theorem caSorted2_ls (ns : List Int) : caSorted2 [.ls (ns.map D.int)] = some (.ol ((srt ns).map D.int)) := by simp [caSorted2]
@[simp] theorem caSorted2_bo (ns : List Int) : caSorted2 [.bo (ns.map D.int)] = some (.ol ((srt ns).map D.int)) := by simp [caSorted2]
theorem ok_sorted2 : CaOk K cls (rSorted2 K) caSorted2 := by
  intro F H vs ds d Q s b e q
  unfold caSorted2 at e
  split at e
  · rename_i xs
    cases h2 : intsOf xs with
    | none => rw [h2] at e; cases e
    | some ns =>
      rw [h2] at e
      cases e
      obtain ⟨v, rfl, b1⟩ := b.one
      obtain ⟨a, ws, rfl, h3, _, r⟩ := b1.tpv s (xs := xs) rfl
      obtain rfl := intsOf_eq h2
      obtain rfl := r.ints
      refine .inr ⟨a, ns, rfl, h3, fun ns' p pm pw hp => ?_⟩
      obtain rfl := srt_uniq pm pw
      exact q _ _ _ [p] (Ext.own s hp) (fresh_new hp) (.inl (ow_new s hp rps_ints.toOws))
  · exact .inl (ok_sorted F H vs ds d Q s b e q)
end
end DL

set_option maxHeartbeats 1000000
namespace RT
open PySem PySem.Spec PyProof.Rows
section
variable {prog : Program} {w : World} {A : Around} {E : Value → Shared → Prop} {s : Shared}
end
end RT

namespace DL
open PySem PySem.Spec PyProof.Rows L2
section
variable {X : Cx} {cls : Cls} {W : WX} {K : PySem.W.Frag}
def eLRev (fa : Env → Res D) : Env → Res D := fun g => (fa g).bind fun d => match lsv (opd d) with
  | some xs => .ok (.ol xs.reverse)
  | none => .bad
@[simp] theorem eLRev_ (fa : Env → Res D) (g : Env) : eLRev fa g = (fa g).bind fun d => match lsv (opd d) with
  | some xs => .ok (.ol xs.reverse)
  | none => .bad := rfl
end
end DL

namespace DL
open PySem L2
section
variable {K : PySem.W.Frag} {cls : Cls} {W : WX} {X : Cx} {F H F' H' F1 H1 : Hp} {O O1 : List Addr} {Q : VK} {σ : St} {a b e : Expr} {es : List Expr} {fa fb fc : Env → Res D} {pos : Pos}
def own1 : D → Bool
  | .ol _ => true
  | .od _ _ => true
  | .oo _ _ _ => true
  | _ => false
@[simp] theorem own1_int {i} : own1 (.int i) = false := rfl
@[simp] theorem own1_tp {i} : own1 (.tp i) = false := rfl
@[simp] theorem own1_ls {i} : own1 (.ls i) = false := rfl
@[simp] theorem own1_bl {i} : own1 (.bl i) = false := rfl
@[simp] theorem own1_str {i} : own1 (.str i) = false := rfl
theorem Ow.unown {v : V} {d : D} (h : Ow K cls F H v d O) (e : own1 d = false) : Rp K cls F v d ∧ O = [] := by
  cases h with
  | sh r => exact ⟨r, rfl⟩
  | ol => cases e
  | od => cases e
  | oo => cases e
theorem Ows.erase : ∀ {vs : List V} {ds : List D} {O : List Addr} {k : Nat} {d : D}, Ows K cls F H vs ds O → ds[k]? = some d → own1 d = false → ∃ v, vs[k]? = some v ∧ Rp K cls F v d ∧ Ows K cls F H (vs.eraseIdx k) (ds.eraseIdx k) O
  | _, _, _, _, _, .nil, e, _ => by simp at e
  | _, _, _, 0, d, .cons (v := v) h r dj eo, e, n => by
    simp at e
    subst e
    obtain ⟨h1, h2⟩ := h.unown n
    subst h2
    subst eo
    exact ⟨v, rfl, h1, by simpa using r⟩
  | _, _, _, k + 1, d, .cons h r dj eo, e, n => by
    obtain ⟨v, h1, h2, h3⟩ := Ows.erase (k := k) r (by simpa using e) n
    exact ⟨v, by simpa using h1, h2, by simpa using Ows.cons h h3 dj eo⟩
def sPop (j i : Nat) (fa : Env → Res D) : Env → Out := fun g => match g[i]? with
  | some (.ol xs) => ((fa g).bind kp).st g fun d => match d with
    | .int z => match ixN xs.length z with
      | some k => match xs[k]? with
        | some y => if own1 y = false ∧ xs.length ≤ lim then .nx ((g.set i (.ol (xs.eraseIdx k))).set j y) else .bad
        | none => .bad
      | none => .bad
    | _ => .bad
  | _ => .bad
@[simp] theorem sPop_ (j i : Nat) (fa : Env → Res D) (g : Env) : sPop j i fa g = match g[i]? with
  | some (.ol xs) => ((fa g).bind kp).st g fun d => match d with
    | .int z => match ixN xs.length z with
      | some k => match xs[k]? with
        | some y => if own1 y = false ∧ xs.length ≤ lim then .nx ((g.set i (.ol (xs.eraseIdx k))).set j y) else .bad
        | none => .bad
      | none => .bad
    | _ => .bad
  | _ => .bad := rfl
theorem Ow.int {v : V} {i : Int} (b : Ow K cls F H v (.int i) O) : v = .int i ∧ O = [] := by cases b with | sh r => cases r; exact ⟨rfl, rfl⟩
def sAppPop (m i : Nat) (fa : Env → Res D) : Env → Out := fun g => match g[m]?, g[i]? with
  | some (.ol ws), some (.ol xs) => ((fa g).bind kp).st g fun d => match d with
    | .int z => match ixN xs.length z with
      | some k => match xs[k]? with
        | some y => if own1 y = false ∧ xs.length ≤ lim ∧ ws.length < lim ∧ m ≠ i then .nx ((g.set i (.ol (xs.eraseIdx k))).set m (.ol (ws ++ [y]))) else .bad
        | none => .bad
      | none => .bad
    | _ => .bad
  | _, _ => .bad
@[simp] theorem sAppPop_ (m i : Nat) (fa : Env → Res D) (g : Env) : sAppPop m i fa g = match g[m]?, g[i]? with
  | some (.ol ws), some (.ol xs) => ((fa g).bind kp).st g fun d => match d with
    | .int z => match ixN xs.length z with
      | some k => match xs[k]? with
        | some y => if own1 y = false ∧ xs.length ≤ lim ∧ ws.length < lim ∧ m ≠ i then .nx ((g.set i (.ol (xs.eraseIdx k))).set m (.ol (ws ++ [y]))) else .bad
        | none => .bad
      | none => .bad
    | _ => .bad
  | _, _ => .bad := rfl
def eIndex (fa fb : Env → Res D) : Env → Res D := fun g => (fa g).bind fun d => match lsI d with
  | some ns => (fb g).bind fun e => match opd e with
    | .int x => if x ∈ ns then .ok (.int (ns.idxOf x : Nat)) else .bad
    | _ => .bad
  | none => .bad
@[simp] theorem eIndex_ (fa fb : Env → Res D) (g : Env) : eIndex fa fb g = (fa g).bind fun d => match lsI d with
  | some ns => (fb g).bind fun e => match opd e with
    | .int x => if x ∈ ns then .ok (.int (ns.idxOf x : Nat)) else .bad
    | _ => .bad
  | none => .bad := rfl
theorem Ows.inner : ∀ {vs : List V} {ds : List D} {O : List Addr} {k : Nat} {ys : List D}, Ows K cls F H vs ds O → ds[k]? = some (.ol ys) → ∃ p us O1, vs[k]? = some (.ref p) ∧ H p = some (.lst us) ∧ F p = none ∧ p ∉ O1 ∧ Ows K cls F H us ys O1 ∧ p ∈ O ∧ (∀ a ∈ O1, a ∈ O) ∧
    ∀ (F' H' : Hp) (ws : List V) (zs : List D) (O2 : List Addr), Ext F H F' H' → Ows K cls F' H' ws zs O2 → p ∉ O2 → (∀ a ∈ O2, a ∈ O1 ∨ H a = none) → ∃ O3, Ows K cls F' (upd H' p (.lst ws)) vs (ds.set k (.ol zs)) O3 ∧ ∀ a ∈ O3, a ∈ O ∨ H a = none
  | _, _, _, _, _, .nil, e => by simp at e
  | _, _, _, 0, ys, .cons (O1 := P1) (O2 := P2) h r dj eo, e => by
    simp at e
    subst e
    subst eo
    cases h with
    | sh r => cases r
    | @ol p us _ O1 f1 f2 f3 f4 =>
      refine ⟨p, us, O1, rfl, f2, f1, f3, f4, by simp, fun a ha => by simp [ha], fun F' H' ws zs O2 x w n k => ?_⟩
      have hp : F' p = none := x.ow p f1 (by rw [f2]; exact fun e => nomatch e)
      have up : ∀ b, b ≠ p → upd H' p (.lst ws) b = H' b := fun b hb => upd_ne hb
      refine ⟨(p :: O2) ++ P2, ?_, fun a ha => ?_⟩
      · refine Ows.cons (O1 := p :: O2) (O2 := P2) (.ol hp upd_same n (w.frame (.refl F') fun a ha => ⟨up a fun z => n (z ▸ ha), (w.dom a ha).1⟩)) ?_ (fun a h1 h2 => ?_) rfl
        · exact (r.ext x).frame (.refl F') fun a ha => ⟨up a fun z => dj a (by simp [z]) ha, ((r.ext x).dom a ha).1⟩
        · rcases List.mem_cons.mp h1 with z | z
          · exact dj a (by simp [z]) h2
          · rcases k a z with z | z
            · exact dj a (by simp [z]) h2
            · exact (r.dom a h2).2 z
      · rcases List.mem_append.mp ha with z | z
        · rcases List.mem_cons.mp z with z | z
          · exact .inl (by simp [z])
          · exact (k a z).imp (fun z => by simp [z]) id
        · exact .inl (by simp [z])
  | _, _, _, kk + 1, ys, .cons (O1 := P1) (O2 := P2) h r dj eo, e => by
    subst eo
    obtain ⟨p, us, O1, g1, g2, g3, g4, g5, g6, g7, g8⟩ := Ows.inner (k := kk) r (by simpa using e)
    refine ⟨p, us, O1, by simpa using g1, g2, g3, g4, g5, List.mem_append_right _ g6, fun a ha => List.mem_append_right _ (g7 a ha), fun F' H' ws zs O2 x w n k => ?_⟩
    obtain ⟨O3, w1, w2⟩ := g8 F' H' ws zs O2 x w n k
    have up : ∀ b, b ≠ p → upd H' p (.lst ws) b = H' b := fun b hb => upd_ne hb
    refine ⟨P1 ++ O3, ?_, fun a ha => ?_⟩
    · refine Ows.cons (O1 := P1) (O2 := O3) ((h.ext x).frame (.refl F') fun a ha => ⟨up a fun z => dj a ha (z ▸ g6), ((h.ext x).dom a ha).1⟩) (by simpa using w1) (fun a h1 h2 => ?_) rfl
      rcases w2 a h2 with z | z
      · exact dj a h1 z
      · exact (h.dom a h1).2 z
    · rcases List.mem_append.mp ha with z | z
      · exact .inl (List.mem_append_left _ z)
      · exact (w2 a z).imp (fun z => List.mem_append_right _ z) id
def sAppIx (i z : Nat) (fa : Env → Res D) : Env → Out := fun g => match g[i]? with
  | some (.ol xs) => match xs[z]? with
    | some (.ol ys) => ((fa g).bind kp).st g fun d => if ys.length < lim then .nx (g.set i (.ol (xs.set z (.ol (ys ++ [d]))))) else .bad
    | _ => .bad
  | _ => .bad
@[simp] theorem sAppIx_ (i z : Nat) (fa : Env → Res D) (g : Env) : sAppIx i z fa g = match g[i]? with
  | some (.ol xs) => match xs[z]? with
    | some (.ol ys) => ((fa g).bind kp).st g fun d => if ys.length < lim then .nx (g.set i (.ol (xs.set z (.ol (ys ++ [d]))))) else .bad
    | _ => .bad
  | _ => .bad := rfl
end
end DL

namespace TL
open PySem PySem.W PySem.Calls PyProof.Rows
theorem lex_anti : ∀ a b : List Int, HT.lexLt a b = false → HT.lexLt b a = false → a = b
  | [], [], _, _ => rfl
  | [], y :: ys, h, _ => by rw [HT.lexLt_nil_cons] at h; cases h
  | x :: xs, [], _, h => by rw [HT.lexLt_nil_cons] at h; cases h
  | x :: xs, y :: ys, h1, h2 => by
    rw [HT.lexLt_cons] at h1 h2
    by_cases e : x = y
    · subst e
      rw [if_pos rfl] at h1 h2
      rw [lex_anti xs ys h1 h2]
    · rw [if_neg e] at h1
      rw [if_neg (Ne.symm e)] at h2
      have a := of_decide_eq_false h1
      have b := of_decide_eq_false h2
      omega
def Rise (l : List (List Int)) : Prop := l.Pairwise fun a b => HT.lexLt b a = false
def insL (x : List Int) : List (List Int) → List (List Int)
  | [] => [x]
  | y :: l => if HT.lexLt y x = true then y :: insL x l else x :: y :: l
def srtL : List (List Int) → List (List Int)
  | [] => []
  | x :: l => insL x (srtL l)
theorem insL_perm (x : List Int) : ∀ l, (insL x l).Perm (x :: l)
  | [] => .refl _
  | y :: l => by
    unfold insL
    split
    · exact ((insL_perm x l).cons y).trans (.swap ..)
    · exact .refl _
theorem srtL_perm : ∀ l, (srtL l).Perm l
  | [] => .refl _
  | x :: l => (insL_perm x (srtL l)).trans ((srtL_perm l).cons x)
theorem insL_rise (x : List Int) : ∀ l, Rise l → Rise (insL x l)
  | [], _ => List.pairwise_singleton _ _
  | y :: l, h => by
    obtain ⟨h1, h2⟩ := List.pairwise_cons.mp h
    unfold insL
    split
    · rename_i c
      refine List.pairwise_cons.mpr ⟨fun z hz => ?_, insL_rise x l h2⟩
      rcases List.mem_cons.mp ((insL_perm x l).mem_iff.mp hz) with rfl | hz
      · exact NtL.lex_asym _ _ c
      · exact h1 z hz
    · rename_i c
      have c : HT.lexLt y x = false := by simpa using c
      refine List.pairwise_cons.mpr ⟨fun z hz => ?_, h⟩
      rcases List.mem_cons.mp hz with rfl | hz
      · exact c
      · exact NtL.lex_tr _ _ _ c (h1 z hz)
theorem srtL_rise : ∀ l, Rise (srtL l)
  | [] => .nil
  | x :: l => insL_rise x _ (srtL_rise l)
theorem rise_one : ∀ {l m : List (List Int)}, l.Perm m → Rise l → Rise m → l = m
  | [], m, p, _, _ => (List.Perm.eq_nil p.symm).symm
  | x :: l, [], p, _, _ => absurd p.length_eq (by simp)
  | x :: l, y :: m, p, hl, hm => by
    obtain ⟨h1, h2⟩ := List.pairwise_cons.mp hl
    obtain ⟨k1, k2⟩ := List.pairwise_cons.mp hm
    have e : x = y := by
      rcases List.mem_cons.mp (p.mem_iff.mp (List.mem_cons_self (a := x) (l := l))) with e | hx
      · exact e
      · rcases List.mem_cons.mp (p.mem_iff.mpr (List.mem_cons_self (a := y) (l := m))) with e | hy
        · exact e.symm
        · exact lex_anti _ _ (k1 x hx) (h1 y hy)
    subst e
    rw [rise_one p.cons_inv h2 k2]
theorem srtL_uniq {l m : List (List Int)} (p : l.Perm m) (h : Rise l) : l = srtL m := rise_one (p.trans (srtL_perm m).symm) h (srtL_rise m)
def kOf (h : Heap) : Value → List Int
  | .ref a => match h.get? a with
    | some o => match o.data with
      | .seq xs _ => xs.toList.map SrtO.iv
      | _ => []
    | none => []
  | _ => []
def IsTI (h : Heap) (v : Value) (ns : List Int) : Prop := ∃ a o xs n, v = .ref a ∧ h.get? a = some o ∧ o.cls = .type "tuple" ∧ o.data = .seq xs n ∧ IntsAre xs.toList ns
theorem IsTI.k {h : Heap} {v : Value} {ns : List Int} (x : IsTI h v ns) : kOf h v = ns := by
  obtain ⟨a, o, xs, n, rfl, ho, hc, hd, hi⟩ := x
  simp only [kOf, ho, hd]
  exact SrtO.iv_ints hi
theorem IsTI.keeps {h h' : Heap} {v : Value} {ns : List Int} (p : IsTI h v ns) (k : ∀ b o, h.get? b = some o → o.cls = .type "tuple" → h'.get? b = some o) : IsTI h' v ns := by
  obtain ⟨a, o, xs, n, e, ho, hc, hd, hi⟩ := p
  exact ⟨a, o, xs, n, e, k _ _ ho hc, hc, hd, hi⟩
section
variable {prog : Program} {w : World} {A : Around} {E : Value → Shared → Prop} {s : Shared}
theorem lexk {b fin : Bool} {Q : Bool → Shared → Prop} {xs ys : List Value} {ns ms : List Int} (i : Nat) (hx : IntsAre xs ns) (hy : IntsAre ys ms) (hf : fin = decide (ns.length < ms.length)) (h : Q (HT.lexLt ns ms) s) : KatLex prog w A b fin Q (xs.zip ys) i s := by
  induction hx generalizing ys ms i with
  | nil =>
    cases hy with
    | nil =>
      rw [HT.lexLt_nil_nil] at h
      subst hf
      exact kat_nil (by simpa using h)
    | cons q u hy =>
      rw [HT.lexLt_nil_cons] at h
      subst hf
      exact kat_nil (by simpa using h)
  | @cons p t xs ns hx ih =>
    cases hy with
    | nil =>
      rw [HT.lexLt_cons_nil] at h
      subst hf
      exact kat_nil (by simpa using h)
    | @cons q u ys ms hy =>
      show KatLex prog w A b fin Q ((Value.int p t, Value.int q u) :: xs.zip ys) i s
      rw [HT.lexLt_cons] at h
      refine kat_cons (wpAny_eqBool_int ?_)
      by_cases e : p = q
      · subst e
        rw [beq_self_eq_true]
        rw [if_pos rfl] at h
        refine kat_yes ?_
        have hf' : fin = decide (ns.length < ms.length) := by rw [hf]; simp
        first
          | exact ih (i + 1) hy hf' h
          | exact ih _ _ (i + 1) hy hf' h
      · rw [show (p == q) = false from beq_eq_false_iff_ne.mpr e]
        rw [if_neg e] at h
        exact kat_no (TS.oneLt_ints _ h)
theorem tup_cmp {vs : List Value} {k : Value → List Int} (hp : ∀ v ∈ vs, IsTI s.heap v (k v)) : SrtO.Cmp prog w A s (tuples' true) (fun p => p.1 ∈ vs) (SrtO.lt2 fun v u => HT.lexLt (k v) (k u)) := by
  intro p q hm hm'
  have h1 := hp _ hm
  have h2 := hp _ hm'
  show wpAny (model prog w) A (keyLt' (tuples' true) p.1 q.1) (fun r s' => s' = s ∧ r = HT.lexLt (k p.1) (k q.1)) (fun _ _ => False) s
  generalize k p.1 = ns at h1 ⊢
  generalize k q.1 = ms at h2 ⊢
  obtain ⟨a, o, xs, n, e, ho, hc, hd, hi⟩ := h1
  obtain ⟨a', o', xs', n', e', ho', hc', hd', hi'⟩ := h2
  rw [e, e']
  refine kat_lt ho hd ho' hd' ?_
  have z1 : xs.size = ns.length := by rw [← hi.length]; simp
  have z2 : xs'.size = ms.length := by rw [← hi'.length]; simp
  exact lexk 0 hi hi' (by rw [z1, z2]) ⟨rfl, rfl⟩
theorem firsts {h : Heap} {k : Value → List Int} : ∀ vs : List Value, (∀ v ∈ vs, IsTI h v (k v) ∧ k v ≠ []) → ∃ fs : List Value, KatTups h vs fs ∧ fs.length = vs.length ∧ ∀ f ∈ fs, ∃ x t, f = Value.int x t
  | [], _ => ⟨[], KatTups.nil, rfl, fun _ hm => by simp at hm⟩
  | v :: vs, hp => by
    obtain ⟨fs, h1, h2, h3⟩ := firsts vs fun v' hm => hp v' (List.mem_cons_of_mem _ hm)
    obtain ⟨⟨a, o, xs, n, e, ho, hc, hd, hi⟩, hne⟩ := hp v (List.mem_cons_self ..)
    subst e
    obtain ⟨y, ys, e⟩ : ∃ y ys, xs.toList = y :: ys := by
      cases q : xs.toList with
      | nil =>
        rw [q] at hi
        have l := hi.length
        exact absurd (List.eq_nil_of_length_eq_zero l.symm) hne
      | cons y ys => exact ⟨y, ys, rfl⟩
    obtain ⟨m, t, hy⟩ := SrtO.ints_mem hi y (by rw [e]; exact List.mem_cons_self ..)
    refine ⟨y :: fs, KatTups.cons ho hc hd ?_ h1, by rw [List.length_cons, List.length_cons, h2], fun f hm => ?_⟩
    · rw [← Array.getElem?_toList, e]; rfl
    · rcases List.mem_cons.mp hm with rfl | hm
      · exact ⟨m, t, hy⟩
      · exact h3 f hm
theorem tups_sortable {a : Addr} {vs : List Value} {k : Value → List Int} (h0 : 0 < vs.length) (hp : ∀ v ∈ vs, IsTI s.heap v (k v) ∧ k v ≠ []) (ha : ∀ o, s.heap.get? a = some o → o.cls ≠ .type "tuple") : SrtO.SortableO prog w A s a vs fun v u => HT.lexLt (k v) (k u) := by
  intro h' keep
  have hp' : ∀ v ∈ vs, IsTI h' v (k v) ∧ k v ≠ [] := fun v hm => ⟨(hp v hm).1.keeps fun b o e c => keep b o (fun z => by subst z; exact ha o e c) e, (hp v hm).2⟩
  obtain ⟨fs, h1, h2, h3⟩ := firsts vs hp'
  refine ⟨tuples' true, fun Q E hq => ?_, tup_cmp fun v hm => (hp' v hm).1⟩
  refine kat_kind (T := .type "int") h1 (by omega) (fun f hm => ?_) (by rfl) ?_
  · obtain ⟨x, t, rfl⟩ := h3 f hm
    exact Looks.now
  · have e : (Value.type "int" != Value.type "tuple") = true := by first | decide +kernel | rfl | decide
    rw [e]
    exact hq
theorem sorted_tups {l : Addr} {vs : List Value} {k : Value → List Int} {Q : Value → Shared → Prop} (hl : s.heap.IsList l vs.toArray) (hz : vs.length ≤ sizeLine) (hp : ∀ v ∈ vs, IsTI s.heap v (k v)) (hne : 2 ≤ vs.length → ∀ v ∈ vs, k v ≠ [])
    (h : ∀ (h' : Heap) (d : Addr) (out : List Value), SrtO.Srtd (fun v u => HT.lexLt (k v) (k u)) out → SrtO.Stb (fun v u => HT.lexLt (k v) (k u)) out vs → (∀ b o, s.heap.get? b = some o → h'.get? b = some o) → s.heap.objs.size ≤ d → (∃ n, h'.get? d = some (seqObj "list" out.toArray n)) → Q (.ref d) { s with heap := h' }) :
    wpAny (model prog w) A (call (.builtin "sorted") [.ref l]) Q E s := by
  refine SrtO.sorted_ord (NtL.swo_lexL k) hl hz (fun h2 h₁ a ha kk => ?_) fun out hs hb => ?_
  · refine tups_sortable (s := { s with heap := h₁ }) (by omega) (fun v hm => ⟨(hp v hm).keeps fun b o e _ => (kk b o e).2, hne h2 v hm⟩) fun o e => ?_
    have e' : some o = some (seqObj "list" vs.toArray 0) := e.symm.trans ha
    cases e'
    intro c
    exact absurd (Value.type.inj c) (by decide)
  · exact h _ _ out hs hb (fun b o e => sortedAll_old e) (Nat.le_succ _) (sortedAll_at s.heap vs out.toArray)
end
end TL
namespace DL
open PySem PySem.Spec PyProof.Rows L2 TL
section
variable {X : Cx} {cls : Cls} {K : PySem.W.Frag}
def rSortedTL (K : PySem.W.Frag) : List V → Hp → VK → Prop := fun vs H Q => ∃ (a : Addr) (xs : List V) (L : List (List Int)), vs = [V.ref a] ∧ SqL K H a xs ∧ xs.length = L.length ∧ (∀ y l, (y, l) ∈ xs.zip L → ∃ t, y = V.ref t ∧ SqT K H t (l.map V.int)) ∧ (2 ≤ L.length → ∀ l ∈ L, l ≠ []) ∧
  ∀ (ys : List V) (p : Addr), ys.length = (srtL L).length → (∀ y l, (y, l) ∈ ys.zip (srtL L) → (y, l) ∈ xs.zip L) → H p = none → Q (.ref p) (upd H p (.lst ys))
theorem cr_sortedTL : CallR X (.builtin "sorted") (rSortedTL X.K) := by
  intro pins s σ H vs us Q I r h
  obtain ⟨a, xs, L, rfl, hs, hlen, hx, hne, q⟩ := h
  obtain ⟨its, rv, hl, hz⟩ := I.list hs
  obtain ⟨u, rfl, ru⟩ := vals1 r
  obtain rfl : u = Value.ref a := ru
  have hzip : ∀ (j : Nat) (y : V) (l : List Int), xs[j]? = some y → L[j]? = some l → (y, l) ∈ xs.zip L := fun j y l h1 h2 => List.mem_of_getElem? (i := j) (by rw [List.getElem?_zip_eq_some]; exact ⟨h1, h2⟩)
  obtain ⟨e1, e2⟩ := refs_back rv fun x m => by
    obtain ⟨j, hj⟩ := List.getElem?_of_mem m
    have hjl : j < L.length := by rw [← hlen]; exact (List.getElem?_eq_some_iff.mp hj).1
    obtain ⟨t, e, _⟩ := hx x L[j] (hzip j x _ hj (List.getElem?_eq_getElem hjl))
    exact ⟨t, e⟩
  have hil : its.length = L.length := by rw [← hlen, e1]; simp
  have key : ∀ (j : Nat) (v : Value) (l : List Int), its[j]? = some v → L[j]? = some l → IsTI s.heap v l := fun j v l h1 h2 => by
    have h3 : xs[j]? = some (backV v) := by rw [e1, List.getElem?_map, h1]; rfl
    obtain ⟨t, e, ht⟩ := hx _ _ (hzip j _ _ h3 h2)
    obtain ⟨t', rfl⟩ := e2 v (List.mem_of_getElem? h1)
    cases e
    obtain ⟨its2, rv2, hl2, hz2⟩ := I.tuple ht
    have hl3 : s.heap.IsTuple t its2.toArray := hl2
    obtain ⟨o, ho, hc, n, hd⟩ := hl3
    exact ⟨t, o, its2.toArray, n, rfl, ho, hc, hd, by simpa using rv2.ints⟩
  have keyM : ∀ v ∈ its, ∃ l, IsTI s.heap v l ∧ l ∈ L := fun v hv => by
    obtain ⟨j, hj⟩ := List.getElem?_of_mem hv
    have hjl : j < L.length := by rw [← hil]; exact (List.getElem?_eq_some_iff.mp hj).1
    exact ⟨_, key j v _ hj (List.getElem?_eq_getElem hjl), List.getElem_mem hjl⟩
  have hk : ∀ v ∈ its, IsTI s.heap v (kOf s.heap v) := fun v hv => by
    obtain ⟨l, h1, _⟩ := keyM v hv
    rw [h1.k]; exact h1
  have eL : its.map (kOf s.heap) = L := by
    refine List.ext_getElem? fun j => ?_
    rw [List.getElem?_map]
    cases h1 : its[j]? with
    | none => rw [List.getElem?_eq_none (by rw [← hil]; exact List.getElem?_eq_none_iff.mp h1)]; rfl
    | some v =>
      have hjl : j < L.length := by rw [← hil]; exact (List.getElem?_eq_some_iff.mp h1).1
      rw [List.getElem?_eq_getElem hjl]
      exact congrArg some (key j v _ h1 (List.getElem?_eq_getElem hjl)).k
  refine sorted_tups (k := kOf s.heap) hl.isList (by rw [← rv.length]; exact hz) hk (fun h2 v hv => ?_) fun h' d out h1 h2 kp hd hn => ?_
  · obtain ⟨l, k1, k2⟩ := keyM v hv
    rw [k1.k]
    exact hne (by omega) l k2
  · have h3 : ∀ u ∈ out, ∃ a, u = Value.ref a := fun u hu => e2 u (h2.perm.mem_iff.mp hu)
    obtain ⟨n, hn⟩ := hn
    have eO : out.map (kOf s.heap) = srtL L := by
      refine srtL_uniq ?_ ?_
      · rw [← eL]; exact h2.perm.map _
      · exact List.pairwise_map.mpr (h1.imp fun {x y} z => z)
    refine ⟨.ref d, upd H d (.lst (out.map backV)), I.laid (t' := s.toks) kp hd ⟨?_, out, n, vals_back h3, hn⟩, rfl, q _ d (by rw [← eO]; simp) (fun y l hyl => ?_) (I.hok.fresh hd)⟩
    · rw [List.length_map, h2.perm.length_eq, ← rv.length]; exact hz
    · rw [← eO, List.zip_map'] at hyl
      obtain ⟨u, hu, e⟩ := List.mem_map.mp hyl
      cases e
      have hu' : u ∈ its := h2.perm.mem_iff.mp hu
      obtain ⟨j, hj⟩ := List.getElem?_of_mem hu'
      refine hzip j _ _ (by rw [e1, List.getElem?_map, hj]; rfl) ?_
      rw [← eL, List.getElem?_map, hj]; rfl
def rSorted3 (K : PySem.W.Frag) : List V → Hp → VK → Prop := fun vs H Q => rSorted2 K vs H Q ∨ rSortedTL K vs H Q
theorem cr_sorted3 : CallR X (.builtin "sorted") (rSorted3 X.K) := by
  intro pins s σ H vs us Q I r h
  rcases h with h | h
  · exact cr_sorted2 pins s σ H vs us Q I r h
  · exact cr_sortedTL pins s σ H vs us Q I r h
def tupOf : D → Option (List Int)
  | .tp xs => intsOf xs
  | _ => none
def tupsOf : List D → Option (List (List Int))
  | [] => some []
  | d :: ds => match tupOf d, tupsOf ds with
    | some l, some L => some (l :: L)
    | _, _ => none
theorem tupOf_eq {d : D} {l : List Int} (h : tupOf d = some l) : d = .tp (l.map D.int) := by
  cases d <;> simp [tupOf] at h
  rw [intsOf_eq h]
theorem tupsOf_eq : ∀ {ds : List D} {L : List (List Int)}, tupsOf ds = some L → ds = L.map dT
  | [], _, h => by cases h; rfl
  | d :: ds, L, h => by
    unfold tupsOf at h
    split at h
    · rename_i l M h1 h2
      cases h
      rw [tupOf_eq h1, tupsOf_eq h2]; rfl
    · cases h
@[simp] theorem tupsOf_map : ∀ L : List (List Int), tupsOf (L.map dT) = some L
  | [] => rfl
  | l :: L => by simp [tupsOf, dT, tupOf, tupsOf_map L]
def caSorted3 (ds : List D) : Option D := match ds with
  | [d] => match sqK d with
    | some (.tp x :: xs) => match tupsOf (.tp x :: xs) with
      | some L => if L.length < 2 ∨ L.all (fun l => !l.isEmpty) = true then some (.ol ((srtL L).map dT)) else none
      | none => none
    | _ => caSorted2 ds
  | ds => caSorted2 ds
theorem Rps.zip {F : Hp} : ∀ {vs : List V} {L : List (List Int)}, Rps K cls F vs (L.map dT) → ∀ y l, (y, l) ∈ vs.zip L → Rp K cls F y (dT l)
  | _, [], .nil, _, _, h => by simp at h
  | _, l0 :: L, .cons a r, y, l, h => by
    rw [List.zip_cons_cons] at h
    rcases List.mem_cons.mp h with e | h
    · cases e; exact a
    · exact Rps.zip r y l h
theorem Rps.unzip {F : Hp} : ∀ {vs : List V} {L : List (List Int)}, vs.length = L.length → (∀ y l, (y, l) ∈ vs.zip L → Rp K cls F y (dT l)) → Rps K cls F vs (L.map dT)
  | [], [], _, _ => .nil
  | [], _ :: _, h, _ => by simp at h
  | _ :: _, [], h, _ => by simp at h
  | v :: vs, l :: L, h, k => .cons (k v l (by simp)) (Rps.unzip (by simpa using h) fun y l' hm => k y l' (by rw [List.zip_cons_cons]; exact List.mem_cons_of_mem _ hm))
theorem rp_T {F : Hp} {y : V} {l : List Int} (h : Rp K cls F y (dT l)) : ∃ t, y = V.ref t ∧ SqT K F t (l.map V.int) := by
  unfold dT at h
  cases h with
  | tp h r =>
    obtain rfl := r.ints
    exact ⟨_, rfl, h⟩
theorem ok_sorted3 : CaOk K cls (rSorted3 K) caSorted3 := by
  intro F H vs ds d Q s b e q
  unfold caSorted3 at e
  split at e
  · rename_i d0
    split at e
    · rename_i x xs0 h1
      split at e
      · rename_i L h2
        split at e
        · rename_i hn
          cases e
          obtain ⟨v, rfl, b1⟩ := b.one
          obtain ⟨a, ws, rfl, h3, r⟩ := b1.sqK s h1
          have eL := tupsOf_eq h2
          rw [eL] at r
          have hlen : ws.length = L.length := by have := r.len; simpa using this
          refine .inr ⟨a, ws, L, rfl, h3, hlen, fun y l hm => ?_, fun h4 l hl => ?_, fun ys p hy hz hp => ?_⟩
          · obtain ⟨t, e1, e2⟩ := rp_T (r.zip y l hm)
            exact ⟨t, e1, sameT s e2⟩
          · rcases hn with hn | hn
            · omega
            · have := List.all_eq_true.mp hn l hl
              intro z; subst z; simp at this
          · exact q _ _ _ [p] (Ext.own s hp) (fresh_new hp) (.inl (ow_new s hp (Rps.unzip hy fun y l hm => r.zip y l (hz y l hm)).toOws))
        · cases e
      · cases e
    · exact .inl (ok_sorted2 F H vs _ d Q s b e q)
  · exact .inl (ok_sorted2 F H vs _ d Q s b e q)
theorem srtL_len (L : List (List Int)) : (srtL L).length = L.length := (srtL_perm L).length_eq
@[simp] theorem caSorted3_tp (ns : List Int) : caSorted3 [.tp (ns.map D.int)] = some (.ol ((srt ns).map D.int)) := by
  unfold caSorted3
  split
  · rename_i h; cases h; simp
  · simp
@[simp] theorem caSorted3_ls (ns : List Int) : caSorted3 [.ls (ns.map D.int)] = some (.ol ((srt ns).map D.int)) := by
  cases ns with
  | nil => simp [caSorted3]; rfl
  | cons a l => simp [caSorted3]; exact caSorted2_ls (a :: l)
@[simp] theorem caSorted3_bo (ns : List Int) : caSorted3 [.bo (ns.map D.int)] = some (.ol ((srt ns).map D.int)) := by
  cases ns with
  | nil => simp [caSorted3]; rfl
  | cons a l => simp [caSorted3]; exact caSorted2_bo (a :: l)
theorem caSorted3_TL (L : List (List Int)) (h : L.length < 2 ∨ L.all (fun l => !l.isEmpty) = true) : caSorted3 [.ls (L.map dT)] = some (.ol ((srtL L).map dT)) := by
  cases L with
  | nil => simp [caSorted3]; rfl
  | cons l L =>
    have e := tupsOf_map (l :: L)
    simp only [List.map_cons, dT] at e ⊢
    simp only [caSorted3, sqK, e]
    rw [if_pos h]
end
end DL

namespace DL
open PySem PySem.Spec PyProof.Rows L2 TL
section
variable {K : PySem.W.Frag} {cls : Cls} {W : WX} {X : Cx} {F H F' H' F1 H1 : Hp} {O O1 : List Addr} {Q : VK} {a b e : Expr} {es : List Expr} {fa fb fc : Env → Res D} {pos : Pos}
def cIn2 : D → D → Option Bool
  | .tp xs, l => match toPy (.tp xs), toPy l with
    | some d, some (.list ds) => if SeqAt.shaped d = true ∧ SeqAt.shaped (.list ds) = true then some (ds.any fun z => PyData.eqv z d) else none
    | _, _ => none
  | x, l => cIn x l
def cNIn2 (a b : D) : Option Bool := (cIn2 a b).map (!·)
theorem cIn2_ok {x y : V} {a b : D} {k : Bool} (s : Same F H) (b1 : Bo K cls F H x a) (b2 : Bo K cls F H y b) (e : cIn2 a b = some k) :
    (∃ c, cIn a b = some c ∧ c = k) ∨ ∃ d ds, Dp K H x d ∧ Dp K H y (.list ds) ∧ SeqAt.shaped d = true ∧ SeqAt.shaped (.list ds) = true ∧ (ds.any fun z => PyData.eqv z d) = k := by
  unfold cIn2 at e
  split at e
  · split at e
    · rename_i d ds h1 h2
      split at e
      · rename_i h
        cases e
        exact .inr ⟨d, ds, b1.dp s h1, b2.dp s h2, h.1, h.2, rfl⟩
      · cases e
    · cases e
  · exact .inl ⟨k, e, rfl⟩
theorem ok_in2 : C2Ok K cls (fun x y H Q => rIn K false x y H Q ∨ rInD K x y H Q) cIn2 := by
  intro F H x y a b d Q s b1 b2 e q
  rcases cIn2_ok s b1 b2 e with ⟨c, h1, rfl⟩ | ⟨p, r, h1, h2, h3, h4, h5⟩
  · exact .inl (ok_in F H x y a b c Q s b1 b2 h1 q)
  · exact .inr ⟨p, r, h1, h2, h3, h4, by rw [h5]; exact q⟩
theorem Cn.eq65 {X : Cx} {W : WX} {k : Nat} (c : Cn X W k) : X.A.units + 65 < cLine := by have := c.hr.un; omega
theorem op_in5 (hu : X.A.units + 65 < cLine) : OpR X (compareOp .In) (fun x y H Q => rIn X.K false x y H Q ∨ rInD X.K x y H Q) := op_in_seq.or (op_inD hu)
theorem eqv_tups {l : List Int} {L : List (List Int)} : (L.map fun l => PyData.tuple (l.map .int)).any (fun z => PyData.eqv z (.tuple (l.map .int))) = decide (l ∈ L) := by
  induction L with
  | nil => simp
  | cons a L ih =>
    rw [List.map_cons, List.any_cons, ih]
    have : PyData.eqv (.tuple (a.map .int)) (.tuple (l.map .int)) = decide (a = l) := by
      simp only [PyData.eqv]
      exact eqvAll_map (p := PyData.int) (fun a b => by simp only [PyData.eqv]; by_cases e : a = b <;> simp [e]) a l
    rw [this, ← Bool.decide_or]
    by_cases h : a = l
    · subst h; simp
    · have h' : ¬ l = a := fun z => h z.symm
      simp [h, h']
theorem toPy_T (l : List Int) : toPy (.tp (l.map D.int)) = some (.tuple (l.map .int)) := by
  have : toPys (l.map D.int) = some (l.map PyData.int) := toPys_map (fun a => by simp [toPy]) l
  simp [toPy, this]
theorem toPy_TL (L : List (List Int)) : toPy (.ls (L.map dT)) = some (.list (L.map fun l => PyData.tuple (l.map .int))) := by
  have : toPys (L.map dT) = some (L.map fun l => PyData.tuple (l.map .int)) := toPys_map (f := dT) (fun a => toPy_T a) L
  simp [toPy, this]
theorem shaped_T (l : List Int) : SeqAt.shaped (.tuple (l.map .int)) = true := by
  have a := lay_map (p := PyData.int) (fun a => by simp [PyData.canLay0]) l
  have b : PyData.depthAll (l.map PyData.int) ≤ 0 := dep_map (p := PyData.int) (fun a => by simp [PyData.depth]) l
  have c : PyData.depth (.tuple (l.map .int)) ≤ 1 := by simp only [PyData.depth]; omega
  have d : PyData.canLay0 (.tuple (l.map .int)) = true := by simp [PyData.canLay0, a]
  simp only [SeqAt.shaped, d, Bool.true_and, decide_eq_true_eq]
  omega
theorem shaped_TL (L : List (List Int)) : SeqAt.shaped (.list (L.map fun l => PyData.tuple (l.map .int))) = true := by
  have a := lay_map (p := fun l : List Int => PyData.tuple (l.map .int)) (fun l => by
    have := lay_map (p := PyData.int) (fun a => by simp [PyData.canLay0]) l
    simp [PyData.canLay0, this]) L
  have b : PyData.depthAll (L.map fun l : List Int => PyData.tuple (l.map .int)) ≤ 1 := dep_map (p := fun l : List Int => PyData.tuple (l.map .int)) (fun l => by
    have b : PyData.depthAll (l.map PyData.int) ≤ 0 := dep_map (p := PyData.int) (fun a => by simp [PyData.depth]) l
    simp only [PyData.depth]; omega) L
  have c : PyData.depth (.list (L.map fun l : List Int => PyData.tuple (l.map .int))) ≤ 2 := by simp only [PyData.depth]; omega
  have d : PyData.canLay0 (.list (L.map fun l : List Int => PyData.tuple (l.map .int))) = true := by simp [PyData.canLay0, a]
  simp only [SeqAt.shaped, d, Bool.true_and, decide_eq_true_eq]
  omega
theorem cIn2_TL (l : List Int) (L : List (List Int)) : cIn2 (.tp (l.map D.int)) (.ls (L.map dT)) = some (decide (l ∈ L)) := by
  simp only [cIn2, toPy_T, toPy_TL]
  rw [if_pos ⟨shaped_T l, shaped_TL L⟩, eqv_tups]
@[simp] theorem cNIn2_TL (l : List Int) (L : List (List Int)) : cNIn2 (.tp (l.map D.int)) (.ls (L.map dT)) = some (!decide (l ∈ L)) := by
  unfold cNIn2; rw [cIn2_TL]; rfl
end
end DL

set_option maxHeartbeats 1000000
namespace RT
open PySem PySem.Spec PyProof.Rows
section
variable {prog : Program} {w : World} {A : Around} {E : Value → Shared → Prop} {s : Shared}
end
end RT
namespace DL
open PySem PySem.Spec PyProof.Rows L2
section
variable {X : Cx} {cls : Cls} {W : WX} {K : PySem.W.Frag}
def lsT (d : D) : Option (List D) := match d with
  | .tp xs => some xs
  | d => lsv d
@[simp] theorem lsT_tp {xs} : lsT (.tp xs) = some xs := rfl
@[simp] theorem lsT_ls {xs} : lsT (.ls xs) = some xs := rfl
@[simp] theorem lsT_bo {xs} (h : shd xs = true) : lsT (.bo xs) = some xs := by simp [lsT, h]
def eLRev2 (fa : Env → Res D) : Env → Res D := fun g => (fa g).bind fun d => match lsT (opd d) with
  | some xs => .ok (.ol xs.reverse)
  | none => .bad
@[simp] theorem eLRev2_ (fa : Env → Res D) (g : Env) : eLRev2 fa g = (fa g).bind fun d => match lsT (opd d) with
  | some xs => .ok (.ol xs.reverse)
  | none => .bad := rfl
end
end DL

set_option maxHeartbeats 1000000
namespace RT
open PySem PySem.Spec PyProof.Rows
section
variable {prog : Program} {w : World} {A : Around} {E : Value → Shared → Prop} {s : Shared}
end
end RT
namespace DL
open PySem PySem.Spec PyProof.Rows L2
section
variable {X : Cx} {cls : Cls} {W : WX} {K : PySem.W.Frag}
theorem Bo.lsT {v : V} {d : D} {F H : Hp} {xs : List D} (s : Same F H) (b1 : Bo K cls F H v d) (eo : lsT d = some xs) : ∃ a vs, v = .ref a ∧ (SqL K H a vs ∨ SqT K H a vs) ∧ Rps K cls F vs xs := by
  cases d with
  | tp ys =>
    cases eo
    obtain ⟨a, vs, e1, h1, h2, r⟩ := b1.tpv s (xs := xs) rfl
    exact ⟨a, vs, e1, .inr h1, r⟩
  | ls ys =>
    obtain ⟨a', vs, rfl, h1, r⟩ := b1.sqK s (xs := xs) (by simpa [DL.lsT] using eo)
    exact ⟨a', vs, rfl, .inl h1, r⟩
  | bo ys =>
    obtain ⟨a', vs, rfl, h1, r⟩ := b1.sqK s (xs := xs) (by simp [DL.lsT] at eo ⊢; first | exact eo | (obtain ⟨e1, e2⟩ := eo; exact ⟨e1, e2⟩))
    exact ⟨a', vs, rfl, .inl h1, r⟩
  | _ => simp [DL.lsT] at eo
def eTRev2 (fa : Env → Res D) : Env → Res D := fun g => (fa g).bind fun d => match lsT (opd d) with
  | some xs => .ok (.tp xs.reverse)
  | none => .bad
@[simp] theorem eTRev2_ (fa : Env → Res D) (g : Env) : eTRev2 fa g = (fa g).bind fun d => match lsT (opd d) with
  | some xs => .ok (.tp xs.reverse)
  | none => .bad := rfl
end
end DL

namespace DL
open PySem PySem.Spec PyProof.Rows L2
section
variable {X : Cx} {cls : Cls} {W : WX} {K : PySem.W.Frag} {F H F' H' : Hp} {O : List Addr}
def eTR1 (fa : Env → Res D) : Env → Res D := fun g => (fa g).bind fun d => match opd d with
  | .int n => if rgOk n ∧ n ≤ 1000000 then .ok (.tp (rng 0 n.toNat)) else .bad
  | _ => .bad
@[simp] theorem eTR1_ (fa : Env → Res D) (g : Env) : eTR1 fa g = (fa g).bind fun d => match opd d with
  | .int n => if rgOk n ∧ n ≤ 1000000 then .ok (.tp (rng 0 n.toNat)) else .bad
  | _ => .bad := rfl
def opShr : D → D → Option D
  | .int i, .int j => if 0 ≤ j then some (.int (i / 2 ^ j.toNat)) else none
  | _, _ => none
def opAnd : D → D → Option D
  | .int i, .int j => if j = 1 then some (.int (i % 2)) else none
  | _, _ => none
@[simp] theorem opShr_int {i j : Int} (h : 0 ≤ j) : opShr (.int i) (.int j) = some (.int (i / 2 ^ j.toNat)) := if_pos h
@[simp] theorem opAnd_int {i : Int} : opAnd (.int i) (.int 1) = some (.int (i % 2)) := rfl
end
section
variable {K : PySem.W.Frag} {cls : Cls} {W : WX} {X : Cx} {F H F' H' F1 H1 : Hp} {O O1 : List Addr} {Q : VK} {a b e : Expr} {es : List Expr} {fa fb fc : Env → Res D} {pos : Pos}
def sExt (i : Nat) (fa : Env → Res D) : Env → Out := fun g => match g[i]? with
  | some (.ol xs) => (fa g).st g fun d => match lsv (opd d) with
    | some ys => if xs.length + ys.length ≤ lim then .nx (g.set i (.ol (xs ++ ys))) else .bad
    | none => .bad
  | _ => .bad
@[simp] theorem sExt_ (i : Nat) (fa : Env → Res D) (g : Env) : sExt i fa g = match g[i]? with
  | some (.ol xs) => (fa g).st g fun d => match lsv (opd d) with
    | some ys => if xs.length + ys.length ≤ lim then .nx (g.set i (.ol (xs ++ ys))) else .bad
    | none => .bad
  | _ => .bad := rfl
end
end DL

namespace DL
open PySem PySem.Spec PyProof.Rows L2 TL PySem.W
section
variable {K : PySem.W.Frag} {cls : Cls} {X : Cx} {F H F' H' F1 H1 : Hp} {O O1 : List Addr} {Q : VK}
mutual
/-- texts, numbers, truth values, and tuples of these -/
def flt : D → Bool
  | .int _ => true
  | .bl _ => true
  | .str _ => true
  | .tp xs => flts xs
  | _ => false
def flts : List D → Bool
  | [] => true
  | d :: ds => flt d && flts ds
end
def mfold : D → PyData → List D → List PyData → D
  | d, p, e :: ds, q :: ps => if dataLt q p = true then mfold e q ds ps else mfold d p ds ps
  | d, _, _, _ => d
def caMin3 (ds : List D) : Option D := match ds with
  | [d] => match sqK d with
    | some (.tp x :: xs) => match toPys (.tp x :: xs) with
      | some (p :: ps) => if flts (.tp x :: xs) = true ∧ ((p :: ps).all fun a => (p :: ps).all fun b => alike a b) = true ∧ PyData.depthAll (p :: ps) ≤ 60 then some (mfold (.tp x) p xs ps) else none
      | _ => none
    | _ => caMin ds
  | ds => caMin ds
def dNT (x : Int × List Int) : D := .tp [.int x.1, .tp (x.2.map D.int)]
end
end DL

namespace DL
open PySem PySem.Spec PyProof.Rows L2 PySem.W
section
variable {K : PySem.W.Frag} {cls : Cls} {W : WX} {X : Cx} {F H F' H' F1 H1 : Hp} {O O1 : List Addr} {Q : VK} {a b e : Expr} {es : List Expr} {fa fb fc : Env → Res D} {fs : Env → Res (List D)} {pos : Pos}
def argB : D → Option (List Int)
  | .bo xs => intsOf xs
  | _ => none
def calD2 (g : List D → Res D) (ds : List D) : Res D :=
  if (ds.all fun d => shd1 d || (argB d).isSome) = true then match g (plns ds) with
    | .ok (.ls xs) => match intsOf xs with
      | some ns => if (ds.all fun d => !decide (argB d = some ns)) = true then .ok (.ls xs) else .bad
      | none => .bad
    | .xc c => .xc c
    | _ => .bad
  else .bad
def eOwn2 (g : List D → Res D) (fs : Env → Res (List D)) : Env → Res D := fun e => (fs e).bind fun ds => calD2 g ds
@[simp] theorem eOwn2_ (g : List D → Res D) (fs : Env → Res (List D)) (e : Env) : eOwn2 g fs e = (fs e).bind fun ds => calD2 g ds := rfl
end
end DL

namespace DL
open PySem PySem.Spec PyProof.Rows L2 TL PySem.W
section
variable {K : PySem.W.Frag} {cls : Cls} {X : Cx} {F H F' H' F1 H1 : Hp} {O O1 : List Addr} {Q : VK}
def caMax3 (ds : List D) : Option D := match ds with
  | [.tp xs] => match intsOf xs with
    | some (n :: ns) => some (.int (ns.foldl max n))
    | _ => none
  | ds => caMax ds
@[simp] theorem caMax3_tp (n : Int) (ns : List Int) : caMax3 [.tp (.int n :: ns.map D.int)] = some (.int (ns.foldl max n)) := by
  have : intsOf (D.int n :: ns.map D.int) = some (n :: ns) := intsOf_map (n :: ns)
  simp [caMax3, this]
end
end DL

namespace PySem
open Sem (wp)
open AutoSeq1 (wpAny_loadPart')
section
variable {prog : Program} {w : World} {A : Around} {E : Value → Shared → Prop} {s : Shared}
end
end PySem
namespace DL
open PySem PySem.Spec PyProof.Rows L2 TL PySem.W
section
variable {K : PySem.W.Frag} {cls : Cls} {W : WX} {X : Cx} {F H F' H' F1 H1 : Hp} {O O1 : List Addr} {a : Expr} {fs : Env → Res (List D)} {pos : Pos}
def iEnm3 (fs : Env → Res (List D)) : Env → Res (List D) := fun g => (fs g).bind fun ds => match ds with
  | [d] => (Res.of (sqS d)).bind fun xs => .ok (enm 0 xs)
  | _ => .bad
@[simp] theorem iEnm3_ (fs : Env → Res (List D)) (g : Env) : iEnm3 fs g = (fs g).bind fun ds => match ds with
  | [d] => (Res.of (sqS d)).bind fun xs => .ok (enm 0 xs)
  | _ => .bad := rfl
end
end DL

namespace DL
open PySem PySem.Spec PyProof.Rows L2 TL PySem.W
section
variable {K : PySem.W.Frag} {cls : Cls} {W : WX} {X : Cx} {pos : Pos}
def sClr (i : Nat) : Env → Out := fun g => match g[i]? with
  | some (.ol _) => .nx (g.set i (.ol []))
  | _ => .bad
@[simp] theorem sClr_ (i : Nat) (g : Env) : sClr i g = match g[i]? with
  | some (.ol _) => .nx (g.set i (.ol []))
  | _ => .bad := rfl
theorem js_clear {i : Nat} {x : Str} {npos apos cpos : Pos} (hN : X.N[i]? = some x) (hv : Vis X.env.scope x) (hd : (x == ("__debug__" : Str)) = false := by decide) (hcd : (x == ("__classdict__" : Str)) = false := by decide)
    (hbase : attributeBase (.Name x npos) "clear" X.env (eval (.Name x npos) X.env) = eval (.Name x npos) X.env := by rfl)
    (hline : (apos.endLine == cpos.line) = true := by rfl)
    (hsw : swapsWith (.Call (.Attribute (.Name x npos) "clear" apos) [] [] cpos) none pos.line X.env = pure false := by rfl) :
    JS X cls W (.Expr (.Call (.Attribute (.Name x npos) "clear" apos) [] [] cpos) pos) (sClr i) := by
  refine ⟨_, ps_expr (pe_bm0 PySem.F.plainAttrs_list PySem.F.slot_list_clear PySem.F.type_list_clear mt_clear (pe_var hN hv hd hcd) hbase hline) hsw, ?_⟩
  intro D σ F H g O s st p
  rw [sClr_] at p
  split at p
  · rename_i xs eg
    obtain ⟨q, vs, O1, h1, h2, h2', h3, h4, h5, h6, h7⟩ := st.lst eg
    refine ⟨.ref q, h1, .inl ⟨rfl, vs, SqL.of h2⟩, ?_⟩
    obtain ⟨O'', z1, z2⟩ := h7 F H [] [] [] (.refl s) .nil (by simp) (fun a z => nomatch z)
    exact ⟨q, vs, rfl, rfl, h2, p σ F _ O'' z2 z1⟩
  · exact p.elim
end
end DL

namespace DL
open PySem PySem.Spec PyProof.Rows L2 TL PySem.W
section
variable {K : PySem.W.Frag} {cls : Cls} {X : Cx} {F H F' H' F1 H1 : Hp} {O O1 : List Addr} {Q : VK}
def leP {α : Type} (a b : α × PyData) : Bool := !dataLt b.2 a.2
def isT1 : PyData → Bool
  | .tuple (_ :: _) => true
  | _ => false
def isO1 : PyData → Bool
  | .none => false
  | .tuple _ => false
  | _ => true
def sortD (xs : List D) : Option D := match toPys xs with
  | some ps => if (ps.all fun a => ps.all fun b => alike a b) = true ∧ (ps.all isT1 || ps.all isO1) = true ∧ (ps.all fun p => decide (p.depth ≤ 60)) = true then some (.ol (((xs.zip ps).mergeSort leP).map (·.1))) else none
  | none => none
def caSorted4 (ds : List D) : Option D := match ds with
  | [d] => match sqK d with
    | some (.ls y :: xs) => sortD (.ls y :: xs)
    | some (.tp (.int i :: .tp y :: r) :: xs) => sortD (.tp (.int i :: .tp y :: r) :: xs)
    | _ => caSorted3 ds
  | ds => caSorted3 ds
@[simp] theorem caSorted4_tp (ns : List Int) : caSorted4 [.tp (ns.map D.int)] = some (.ol ((srt ns).map D.int)) := by
  simp [caSorted4]
@[simp] theorem caSorted4_ls (ns : List Int) : caSorted4 [.ls (ns.map D.int)] = some (.ol ((srt ns).map D.int)) := by
  cases ns with
  | nil => simp [caSorted4]; rfl
  | cons a l => simp [caSorted4]; exact caSorted3_ls (a :: l)
@[simp] theorem caSorted4_bo (ns : List Int) : caSorted4 [.bo (ns.map D.int)] = some (.ol ((srt ns).map D.int)) := by
  cases ns with
  | nil => simp [caSorted4]; rfl
  | cons a l => simp [caSorted4]; exact caSorted3_bo (a :: l)
end
end DL

namespace DL
open PySem PySem.Spec PyProof.Rows L2 TL PySem.W
section
variable {K : PySem.W.Frag} {cls : Cls} {W : WX} {X : Cx} {F H F' H' F1 H1 : Hp} {O O1 : List Addr} {Q : VK} {a b e : Expr} {es : List Expr} {fa fb fc : Env → Res D} {fs : Env → Res (List D)} {pos : Pos}
def sIns (i : Nat) (fs : Env → Res (List D)) : Env → Out := fun g => match g[i]? with
  | some (.ol xs) => (fs g).st g fun ds => match ds with
    | [.int j, .int n] => match intsOf xs with
      | some ns => if 0 ≤ j ∧ j ≤ 1000000000 ∧ xs.length < lim then .nx (g.set i (.ol ((ns.take j.toNat ++ [n] ++ ns.drop j.toNat).map D.int))) else .bad
      | none => .bad
    | _ => .bad
  | _ => .bad
@[simp] theorem sIns_ (i : Nat) (fs : Env → Res (List D)) (g : Env) : sIns i fs g = match g[i]? with
  | some (.ol xs) => (fs g).st g fun ds => match ds with
    | [.int j, .int n] => match intsOf xs with
      | some ns => if 0 ≤ j ∧ j ≤ 1000000000 ∧ xs.length < lim then .nx (g.set i (.ol ((ns.take j.toNat ++ [n] ++ ns.drop j.toNat).map D.int))) else .bad
      | none => .bad
    | _ => .bad
  | _ => .bad := rfl
def sDel (i : Nat) (fa : Env → Res D) : Env → Out := fun g => match g[i]? with
  | some (.ol xs) => (fa g).st g fun d => match opd d with
    | .int z => match ixN xs.length z with
      | some k => match xs[k]? with
        | some y => if own1 y = false ∧ xs.length ≤ lim then .nx (g.set i (.ol (xs.eraseIdx k))) else .bad
        | none => .bad
      | none => .bad
    | _ => .bad
  | _ => .bad
@[simp] theorem sDel_ (i : Nat) (fa : Env → Res D) (g : Env) : sDel i fa g = match g[i]? with
  | some (.ol xs) => (fa g).st g fun d => match opd d with
    | .int z => match ixN xs.length z with
      | some k => match xs[k]? with
        | some y => if own1 y = false ∧ xs.length ≤ lim then .nx (g.set i (.ol (xs.eraseIdx k))) else .bad
        | none => .bad
      | none => .bad
    | _ => .bad
  | _ => .bad := rfl
end
end DL

set_option maxHeartbeats 1000000
namespace DL
def iotaR (n : Nat) : List Int := (List.range n).map fun i : Nat => (n : Int) - 1 - (i : Int)
end DL
namespace RR
open PySem PySem.Spec PyProof.Rows
section
variable {prog : Program} {w : World} {A : Around} {E : Value → Shared → Prop} {s : Shared}
end
end RR
namespace DL
open PySem PySem.Spec PyProof.Rows L2
section
variable {X : Cx} {cls : Cls} {W : WX} {K : PySem.W.Frag}
variable {e : Expr} {te : L2.St → Hp → (Int → Int → Hp → Prop) → Prop}
def eLRR1 (fa : Env → Res D) : Env → Res D := fun g => (fa g).bind fun d => match opd d with
  | .int n => if rgOk n ∧ n ≤ 1000000 then .ok (.ol ((iotaR n.toNat).map D.int)) else .bad
  | _ => .bad
@[simp] theorem eLRR1_ (fa : Env → Res D) (g : Env) : eLRR1 fa g = (fa g).bind fun d => match opd d with
  | .int n => if rgOk n ∧ n ≤ 1000000 then .ok (.ol ((iotaR n.toNat).map D.int)) else .bad
  | _ => .bad := rfl
end
end DL

namespace DL
open PySem PySem.Spec PyProof.Rows L2
section
variable {P : Program} {w : World} {A : Around} {E : Value → Shared → Prop} {s : Shared}
end
end DL

namespace DL
open PySem PySem.Spec PyProof.Rows L2
section
variable {X : Cx} {cls : Cls} {W : WX} {K : PySem.W.Frag} {F H F' H' : Hp}
def tpI (d : D) : Option (List Int) := match opd d with
  | .tp xs => intsOf xs
  | _ => none
@[simp] theorem tpI_tp (ns : List Int) : tpI (.tp (ns.map D.int)) = some ns := by simp [tpI]
def eLenSetT (fa : Env → Res D) : Env → Res D := fun g => (fa g).bind fun d => match tpI d with
  | some ns => if ns.length ≤ 4000 then .ok (.int (sset ns).length) else .bad
  | none => .bad
@[simp] theorem eLenSetT_ (fa : Env → Res D) (g : Env) : eLenSetT fa g = (fa g).bind fun d => match tpI d with
  | some ns => if ns.length ≤ 4000 then .ok (.int (sset ns).length) else .bad
  | none => .bad := rfl
end
end DL

namespace DL
open PySem PySem.Spec PyProof.Rows L2
section
variable {κ β : Type} [DecidableEq κ]
def valG (kvs : List (κ × β)) (k : κ) : Option β := (kvs.find? fun kv => decide (kv.1 = k)).map (·.2)
def putG (kvs : List (κ × β)) (k : κ) (v : β) : List (κ × β) :=
  if (kvs.any fun kv => decide (kv.1 = k)) = true then kvs.map (fun kv => if kv.1 = k then (kv.1, v) else kv) else kvs ++ [(k, v)]
end
inductive PR (R : V → D → Prop) : List (Key × V) → List (Key × D) → Prop
  | nil : PR R [] []
  | cons {k : Key} {v : V} {d : D} {l : List (Key × V)} {m : List (Key × D)} : R v d → PR R l m → PR R ((k, v) :: l) ((k, d) :: m)
section
variable {R : V → D → Prop}
theorem PR.any {l : List (Key × V)} {m : List (Key × D)} (h : PR R l m) (k : Key) : (l.any fun kv => decide (kv.1 = k)) = m.any fun kv => decide (kv.1 = k) := by
  induction h with
  | nil => rfl
  | cons r _ ih => simp only [List.any_cons, ih]
theorem PR.rep {l : List (Key × V)} {m : List (Key × D)} (h : PR R l m) (k : Key) {v : V} {d : D} (r : R v d) : PR R (l.map fun kv => if kv.1 = k then (kv.1, v) else kv) (m.map fun kv => if kv.1 = k then (kv.1, d) else kv) := by
  induction h with
  | nil => exact .nil
  | @cons j v' d' l m r' t ih =>
    simp only [List.map_cons]
    by_cases q : j = k
    · rw [if_pos q, if_pos q]; exact .cons r ih
    · rw [if_neg q, if_neg q]; exact .cons r' ih
theorem PR.snoc {l : List (Key × V)} {m : List (Key × D)} (h : PR R l m) (k : Key) {v : V} {d : D} (r : R v d) : PR R (l ++ [(k, v)]) (m ++ [(k, d)]) := by
  induction h with
  | nil => exact .cons r .nil
  | cons r' t ih => exact .cons r' ih
theorem PR.put {l : List (Key × V)} {m : List (Key × D)} (h : PR R l m) (k : Key) {v : V} {d : D} (r : R v d) : PR R (putK l k v) (putG m k d) := by
  unfold putK putG
  rw [h.any k]
  split
  · exact h.rep k r
  · exact h.snoc k r
end
section
variable {K : PySem.W.Frag} {cls : Cls} {F H F' H' : Hp} {X : Cx} {W : WX} {O : List Addr}
theorem ows_sh : ∀ {vs : List V} {ds : List D} {O : List Addr}, Ows K cls F H vs ds O → (ds.all fun d => !own1 d) = true → O = [] ∧ Rps K cls F vs ds
  | _, _, _, .nil, _ => ⟨rfl, .nil⟩
  | _, _, _, .cons a b dj e, h => by
    simp only [List.all_cons, Bool.and_eq_true] at h
    obtain ⟨h1, h2⟩ := ows_sh b h.2
    cases a with
    | sh r => exact ⟨by rw [e, h1]; rfl, .cons r h2⟩
    | _ => simp [own1] at h
def eDic : Env → Res D := fun _ => .ok (.od [] [])
@[simp] theorem eDic_ (g : Env) : eDic g = .ok (.od [] []) := rfl
def sDSet (i : Nat) (fk fa : Env → Res D) : Env → Out := fun g => ((fa g).bind kp).st g fun d => match g[i]? with
  | some (.od ks xs) => (fk g).st g fun k => match opd k with
    | .int k => if xs.all (fun d => !own1 d) = true ∧ own1 d = false ∧ ks.length < lim then .nx (g.set i (.od ((putG (ks.zip xs) (.inl k) d).map (·.1)) ((putG (ks.zip xs) (.inl k) d).map (·.2)))) else .bad
    | _ => .bad
  | _ => .bad
@[simp] theorem sDSet_ (i : Nat) (fk fa : Env → Res D) (g : Env) : sDSet i fk fa g = ((fa g).bind kp).st g fun d => match g[i]? with
  | some (.od ks xs) => (fk g).st g fun k => match opd k with
    | .int k => if xs.all (fun d => !own1 d) = true ∧ own1 d = false ∧ ks.length < lim then .nx (g.set i (.od ((putG (ks.zip xs) (.inl k) d).map (·.1)) ((putG (ks.zip xs) (.inl k) d).map (·.2)))) else .bad
    | _ => .bad
  | _ => .bad := rfl
end
def ddV (l : List (Int × D)) : List D := l.map (·.2)
end DL
namespace DL
end DL

namespace DL
open PySem PySem.Spec PyProof.Rows L2
section
variable {K : PySem.W.Frag} {cls : Cls} {W : WX} {X : Cx} {F H F' H' : Hp} {O : List Addr} {a b e tg iter elt : Expr} {fs : Env → Res (List D)} {fa fb : Env → Res D} {pos : Pos}
def sAsgI (i : Nat) (fa : Env → Res D) : Env → Out := fun g => ((fa g).bind kp).st g fun d => match d with
  | .ol xs => if nods xs = true then .nx (g.set i (.ol (frzs xs))) else .bad
  | _ => .bad
@[simp] theorem sAsgI_ (i : Nat) (fa : Env → Res D) (g : Env) : sAsgI i fa g = ((fa g).bind kp).st g fun d => match d with
  | .ol xs => if nods xs = true then .nx (g.set i (.ol (frzs xs))) else .bad
  | _ => .bad := rfl
theorem ds_asgI {t : TE} {i : Nat} (d : DE K cls W t fa) : DS K cls W (tAsg t (gName i)) (sAsgI i fa) := by
  intro D σ F H g O s st p
  rw [sAsgI_] at p
  refine d.goS s st p fun dd e p v F1 H1 O1 x fr w => ?_
  cases dd with
  | ol xs =>
    simp only at p
    split at p
    · rename_i n
      cases w with
      | sh r => cases r
      | @ol q vs _ O2 f1 f2 f3 f4 =>
        have no : ∀ a ∈ O2, F1 a = none := fun a ha => (f4.dom a ha).1
        have fr2 : Fresh H O2 := fun a ha => fr a (List.mem_cons_of_mem _ ha)
        have x2 := addF_ext x fr2 no
        have r := f4.freeze (addF_same no) addF_at n
        have ow : Ow K cls (addF F1 H1 O2) H1 (.ref q) (.ol (frzs xs)) [q] := .ol (O := []) (by rw [addF_no f3]; exact f1) f2 (fun h => nomatch h) r.toOws
        obtain ⟨O'', q1, q2⟩ := st.put (i := i) x2 (fun a ha => fr a (by rw [List.mem_singleton.mp ha]; exact List.mem_cons_self ..)) ow
        exact p _ _ _ O'' q2 q1
    · exact p.elim
  | _ => exact p.elim
theorem js_setLcI {i : Nat} {y : Str} {py spos : Pos} {ifs : List Expr} {scope : Scope} {ft : D → Env → Option Env} {gt : Env → Res Bool} {fe : Env → Res D} {ss : List Nat} {k : Nat} (own : List (Str × Nat)) (c : Cn X W k) (hy : X.N[i]? = some y) (hyl : X.env.scope.names.lookup y = some .local)
    (hsw : swapsWith (.ListComp elt [⟨tg, iter, ifs, 0⟩] scope pos) (some (.Name y py)) spos.line X.env = pure true) (hi : JI X cls W tg iter fs) (ok : BlkOk X.N X.env.scope scope own)
    (hg : ∀ (s : Shared) (H : Hp) (C : Addr) (cl : List (Str × Addr)) (fp : List Addr), JG (X.blk s H scope (compEnvC scope cl C X.env) fp) cls tg ft ss)
    (ht : ∀ (s : Shared) (H : Hp) (C : Addr) (cl : List (Str × Addr)) (fp : List Addr), Cn (X.blk s H scope (compEnvC scope cl C X.env) fp) W0 k → JTs (X.blk s H scope (compEnvC scope cl C X.env) fp) cls W0 ifs gt)
    (he : ∀ (s : Shared) (H : Hp) (C : Addr) (cl : List (Str × Addr)) (fp : List Addr), Cn (X.blk s H scope (compEnvC scope cl C X.env) fp) W0 k → JE (X.blk s H scope (compEnvC scope cl C X.env) fp) cls W0 elt fe)
    (hss : ∀ i ∈ ss, i ∈ own.map (·.2)) (hs : ∀ x, foldedSetIterable iter X.env x = pure x := by intro _; rfl) :
    JS X cls W (.Assign [.Name y py] (.ListComp elt [⟨tg, iter, ifs, 0⟩] scope pos) spos) (sAsgI i (eLc fs (own.map (·.2)) ft gt fe)) := by
  obtain ⟨wi, p, d⟩ := hi.ex
  exact ⟨_, ps_setLc (own := own) c.calm c.nd hy hyl hsw p ok (fun s H C cl fp => (hg s H C cl fp).canon) (fun s H C cl fp => (ht s H C cl fp c.blk).canon) (fun s H C cl fp => (he s H C cl fp c.blk).canon) hs, ds_asgI (de_lc d dg_cG dt_cT de_cE hss)⟩

def sSwp (i : Nat) (fk fl fa : Env → Res D) : Env → Out := fun g => ((fa g).bind kp).st g fun d => if nod d = true then match frz d, g[i]? with
  | .tp [d1, d2], some (.ol xs) => match fk g with
    | .ok k => match opd k with
      | .int k => match ixN xs.length k with
        | some j => match fl (g.set i (.ol (xs.set j d1))) with
          | .ok l => match opd l with
            | .int l => match ixN (xs.set j d1).length l with
              | some m => .nx (g.set i (.ol ((xs.set j d1).set m d2)))
              | none => .bad
            | _ => .bad
          | _ => .bad
        | none => .bad
      | _ => .bad
    | _ => .bad
  | _, _ => .bad else .bad
@[simp] theorem sSwp_ (i : Nat) (fk fl fa : Env → Res D) (g : Env) : sSwp i fk fl fa g = ((fa g).bind kp).st g fun d => if nod d = true then match frz d, g[i]? with
  | .tp [d1, d2], some (.ol xs) => match fk g with
    | .ok k => match opd k with
      | .int k => match ixN xs.length k with
        | some j => match fl (g.set i (.ol (xs.set j d1))) with
          | .ok l => match opd l with
            | .int l => match ixN (xs.set j d1).length l with
              | some m => .nx (g.set i (.ol ((xs.set j d1).set m d2)))
              | none => .bad
            | _ => .bad
          | _ => .bad
        | none => .bad
      | _ => .bad
    | _ => .bad
  | _, _ => .bad else .bad := rfl
theorem de_at {i : Nat} {t2 : TE} {fk : Env → Res D} (d2 : DE X.K cls W t2 fk) {σ : L2.St} {g : Env} {O : List Addr} {xs : List D} {k : Int} {j : Nat} {kd : D} {v : V} {dd : D} (s : Same F H) (st : Sts X.K cls F H σ g O) (eg : g[i]? = some (.ol xs)) (ek : fk g = .ok kd) (ek2 : opd kd = .int k) (ej : ixN xs.length k = some j)
    (r : Rp X.K cls F v dd) {Q : L2.St → Hp → Prop} (q : ∀ F' H' O', SExt F H O F' H' O' → Sts X.K cls F' H' σ (g.set i (.ol (xs.set j dd))) O' → Q σ H') : gSub (tVar i) t2 rSetL v σ H Q := by
  obtain ⟨p, vs, O1, h1, h2, h2', h3, h4, h5, h6, h7⟩ := st.lst eg
  refine ⟨.ref p, h1, ?_⟩
  refine d2.go s st (fun c e => by rw [ek] at e; cases e) (fun e => by rw [ek] at e; cases e) fun kd' e kv F3 H3 x3 b3 => ?_
  rw [ek] at e
  cases e
  rw [ek2] at b3
  obtain rfl := b3.int
  refine ⟨p, vs, k, j, rfl, rfl, x3.hh _ _ h2, by rw [h4.len]; exact ej, ?_⟩
  obtain ⟨O3, w3, n3⟩ := (h4.ext x3).set j (.sh (r.mono x3.ff) : Ow X.K cls F3 H3 v dd []) fun a _ q2 => nomatch q2
  obtain ⟨O'', z1, z2⟩ := h7 F3 H3 (vs.set j v) (xs.set j dd) O3 x3 w3 (fun z => by
    rcases n3 _ z with z | z
    · exact h3 z
    · exact nomatch z) (fun a z => (n3 a z).imp id (fun z => nomatch z))
  exact q F3 _ O'' z2 z1
theorem js_swp {i k kt : Nat} {x : Str} {n1 n2 s1 s2 pt : Pos} {b1 b2 : Expr} {fk fl : Env → Res D} (c : Cn X W k) (hN : X.N[i]? = some x) (hv : Vis X.env.scope x) (ha : JE X cls W a fa) (hk : JE X cls W b1 fk) (hl : JE X cls W b2 fl)
    (hd : (x == ("__debug__" : Str)) = false := by decide) (hcd : (x == ("__classdict__" : Str)) = false := by decide)
    (hs : swapsWithSole [.Tuple [.Subscript (.Name x n1) b1 s1, .Subscript (.Name x n2) b2 s2] kt pt] a pos.line X.env = pure false := by rfl)
    (hw : swappedStores [.Tuple [.Subscript (.Name x n1) b1 s1, .Subscript (.Name x n2) b2 s2] kt pt] a X.env = pure none := by rfl)
    (h1 : (assignEach [.Tuple [.Subscript (.Name x n1) b1 s1, .Subscript (.Name x n2) b2 s2] kt pt] X.env).map (·.2) = [assign (.Tuple [.Subscript (.Name x n1) b1 s1, .Subscript (.Name x n2) b2 s2] kt pt) X.env] := by rfl)
    (ha1 : ∀ v, assign (.Subscript (.Name x n1) b1 s1) X.env v = (do
      let ov ← holding [v] (eval (.Name x n1) X.env)
      let iv ← holding [v, ov] (eval b1 X.env)
      standAt s1
      holding [v, ov, iv] (setItem ov iv v)
      release [v, ov, iv] []) := by intro _; rfl)
    (ha2 : ∀ v, assign (.Subscript (.Name x n2) b2 s2) X.env v = (do
      let ov ← holding [v] (eval (.Name x n2) X.env)
      let iv ← holding [v, ov] (eval b2 X.env)
      standAt s2
      holding [v, ov, iv] (setItem ov iv v)
      release [v, ov, iv] []) := by intro _; rfl)
    (he1 : (assignEach [.Subscript (.Name x n1) b1 s1, .Subscript (.Name x n2) b2 s2] X.env).map (·.2) = assign (.Subscript (.Name x n1) b1 s1) X.env :: (assignEach [.Subscript (.Name x n2) b2 s2] X.env).map (·.2) := by rfl)
    (he2 : (assignEach [.Subscript (.Name x n2) b2 s2] X.env).map (·.2) = assign (.Subscript (.Name x n2) b2 s2) X.env :: (assignEach [] X.env).map (·.2) := by rfl)
    (hn : (assignEach [.Subscript (.Name x n1) b1 s1, .Subscript (.Name x n2) b2 s2] X.env).length = 2 := by rfl) (hst : (assignEach [.Subscript (.Name x n1) b1 s1, .Subscript (.Name x n2) b2 s2] X.env).findIdx? (·.1) = none := by rfl) :
    JS X cls W (.Assign [.Tuple [.Subscript (.Name x n1) b1 s1, .Subscript (.Name x n2) b2 s2] kt pt] a pos) (sSwp i fk fl fa) := by
  obtain ⟨t, p, d⟩ := ha.ex
  obtain ⟨t2, p2, d2⟩ := hk.ex
  obtain ⟨t3, p3, d3⟩ := hl.ex
  refine ⟨_, ps_asg p (pg_tup c.calm (pgs_cons (pg_sub (pe_var hN hv hd hcd) p2 set_list ha1) (pgs_cons (pg_sub (pe_var hN hv hd hcd) p3 set_list ha2) pgs_nil he2) he1) hn hst) hs hw h1, ?_⟩
  intro D σ F H g O s st p
  rw [sSwp_] at p
  refine d.goS s st p fun dd e p v F1 H1 O1 x fr w => ?_
  split at p
  · rename_i n
    have no : ∀ a ∈ O1, F1 a = none := fun a ha => (w.dom a ha).1
    have x2 := addF_ext x fr no
    have r := w.freeze (addF_same no) addF_at n
    split at p
    · rename_i d1 d2' xs ed eg
      rw [ed] at r
      cases r with
      | tp hT hr =>
        cases hr with
        | cons r1 hr =>
          cases hr with
          | cons r2 hr =>
            cases hr
            refine ⟨_, _, rfl, sameT x2.fh hT, rfl, ?_⟩
            split at p
            · rename_i kd ek
              split at p
              · rename_i k ek2
                split at p
                · rename_i j ej
                  split at p
                  · rename_i ld el
                    split at p
                    · rename_i l el2
                      split at p
                      · rename_i m em
                        refine ⟨_, _, rfl, ?_⟩
                        refine de_at (F := addF F1 H1 O1) (H := H1) d2 x2.fh (st.ext x2) eg ek ek2 ej r1 fun F3 H3 O3 x3 st3 => ?_
                        refine ⟨_, _, rfl, ?_⟩
                        have eg3 : (g.set i (.ol (xs.set j d1)))[i]? = some (.ol (xs.set j d1)) := by
                          rw [List.getElem?_set_self (List.getElem?_eq_some_iff.mp eg).1]
                        refine de_at (F := F3) (H := H3) d3 x3.fh st3 eg3 el el2 em (r2.mono x3.ff) fun F4 H4 O4 x4 st4 => ?_
                        refine ⟨rfl, ?_⟩
                        rw [List.set_set] at st4
                        exact p _ F4 H4 O4 (((x2.sext fun a h => .inl h).trans x3).trans x4) st4
                      · exact p.elim
                    · exact p.elim
                  · exact p.elim
                · exact p.elim
              · exact p.elim
            · exact p.elim
    · exact p.elim
  · exact p.elim
def rGetL : V → V → Hp → VK → Prop := fun x y H Q => ∃ p xs i v, x = .ref p ∧ y = .int i ∧ H p = some (.lst xs) ∧ 0 ≤ i ∧ i < 1000000000 ∧ xs[i.toNat]? = some v ∧ Q v H
theorem get_list0 : PGet X rGetL := by
  intro pins s σ H o i ov iv Q I ro ri h
  obtain ⟨p, xs, k, v, rfl, rfl, hp, h0, h1, hx, q⟩ := h
  cases ro
  obtain ⟨t, rfl⟩ := ri
  obtain ⟨its, r, pl, hz⟩ := I.list (SqL.of hp)
  obtain ⟨w, ew, rw'⟩ := r.get hx
  exact wpAny_getItem_list pl.isList h0 (by omega) (by simpa using ew) ⟨v, H, I, rw', q⟩
def sAug2 (op : Int → Int → Int) (i j1 j2 : Nat) (fa : Env → Res D) : Env → Out := fun g => match g[i]?, g[j1]?, g[j2]? with
  | some (.ol xs), some (.int k1), some (.int k2) => match ixN xs.length k1 with
    | some z => match xs[z]? with
      | some (.ol ys) => if 0 ≤ k2 ∧ k2 < 1000000000 then match ys[k2.toNat]? with
        | some (.int n) => (fa g).st g fun d => match opd d with
          | .int b => .nx (g.set i (.ol (xs.set z (.ol (ys.set k2.toNat (.int (op n b)))))))
          | _ => .bad
        | _ => .bad else .bad
      | _ => .bad
    | none => .bad
  | _, _, _ => .bad
@[simp] theorem sAug2_ (op : Int → Int → Int) (i j1 j2 : Nat) (fa : Env → Res D) (g : Env) : sAug2 op i j1 j2 fa g = match g[i]?, g[j1]?, g[j2]? with
  | some (.ol xs), some (.int k1), some (.int k2) => match ixN xs.length k1 with
    | some z => match xs[z]? with
      | some (.ol ys) => if 0 ≤ k2 ∧ k2 < 1000000000 then match ys[k2.toNat]? with
        | some (.int n) => (fa g).st g fun d => match opd d with
          | .int b => .nx (g.set i (.ol (xs.set z (.ol (ys.set k2.toNat (.int (op n b)))))))
          | _ => .bad
        | _ => .bad else .bad
      | _ => .bad
    | none => .bad
  | _, _, _ => .bad := rfl
theorem Sts.intAt {σ : L2.St} {g : Env} {j : Nat} {n : Int} (st : Sts K cls F H σ g O) (e : g[j]? = some (.int n)) : σ[j]? = some (some (.int n)) := by
  obtain ⟨P, _, h2, _⟩ := st.at j (List.getElem?_eq_some_iff.mp e).1
  rcases h2 with ⟨h2, _⟩ | ⟨v, d, h2, h2', ow⟩
  · rw [e] at h2; cases h2
  · rw [e] at h2'; cases h2'
    obtain ⟨rfl, _⟩ := ow.int
    exact h2
theorem Ows.intAt : ∀ {vs : List V} {ds : List D} {O : List Addr} {k : Nat} {n : Int}, Ows K cls F H vs ds O → ds[k]? = some (.int n) → vs[k]? = some (.int n)
  | _, _, _, _, _, .nil, e => by simp at e
  | _, _, _, 0, _, .cons h r dj eo, e => by
    simp at e
    subst e
    obtain ⟨rfl, _⟩ := h.int
    rfl
  | _, _, _, k + 1, _, .cons h r dj eo, e => by
    simp at e ⊢
    exact r.intAt e
theorem js_aug2 {i j1 j2 : Nat} {x y1 y2 : Str} {npos p1 p2 ip tpos : Pos} {o : Operator} {op : Int → Int → Int} (ho : PIp X o (ipI op)) (hN : X.N[i]? = some x) (hv : Vis X.env.scope x) (hN1 : X.N[j1]? = some y1) (hv1 : Vis X.env.scope y1) (hN2 : X.N[j2]? = some y2) (hv2 : Vis X.env.scope y2) (ha : JE X cls W a fa)
    (hd : (x == ("__debug__" : Str)) = false := by decide) (hcd : (x == ("__classdict__" : Str)) = false := by decide) (hd1 : (y1 == ("__debug__" : Str)) = false := by decide) (hcd1 : (y1 == ("__classdict__" : Str)) = false := by decide)
    (hd2 : (y2 == ("__debug__" : Str)) = false := by decide) (hcd2 : (y2 == ("__classdict__" : Str)) = false := by decide)
    (hps : PlainIx (.Name y1 p1) := by exact fun _ _ => rfl)
    (hst : ∀ ov iv new, augStore (.Name y2 p2) ov iv new = (do holding [new, ov, iv] (setItem ov iv new); release [new, ov, iv] []; pure .next) := by intros; rfl) :
    JS X cls W (.AugAssign (.Subscript (.Subscript (.Name x npos) (.Name y1 p1) ip) (.Name y2 p2) tpos) o a pos) (sAug2 op i j1 j2 fa) := by
  obtain ⟨t, p, d⟩ := ha.ex
  refine ⟨_, ps_augS (pe_ix ix_list (pe_var hN hv hd hcd) (pe_var hN1 hv1 hd1 hcd1) hps) (pe_var hN2 hv2 hd2 hcd2) get_list0 p ho set_list hst, ?_⟩
  intro D σ F H g O s st p
  rw [sAug2_] at p
  split at p
  · rename_i xs k1 k2 eg e1' e2'
    split at p
    · rename_i z ez
      split at p
      · rename_i ys ey
        split at p
        · rename_i hk
          split at p
          · rename_i n en
            obtain ⟨P, e1, e2, e3, _⟩ := st.at i (List.getElem?_eq_some_iff.mp eg).1
            rcases e2 with ⟨e2, _⟩ | ⟨v, dd, e2, e2'', ow⟩
            · rw [eg] at e2; cases e2
            · rw [eg] at e2''; cases e2''
              cases ow with
              | sh r => cases r
              | @ol q vs _ O1 f1 f2 f3 f4 =>
                obtain ⟨r, us, O2, g1, g2, g3, g4, g5, g6, g7, g8⟩ := f4.inner ey
                have hix : atI vs k1 = some (.ref r) := by
                  unfold atI; rw [f4.len, ez]; exact g1
                refine ⟨.ref q, e2, .int k1, st.intAt e1', ⟨q, vs, k1, .ref r, rfl, rfl, SqL.of f2, hix, ?_⟩⟩
                refine ⟨.int k2, st.intAt e2', ?_⟩
                have hu : us[k2.toNat]? = some (.int n) := g5.intAt en
                have hlt := (List.getElem?_eq_some_iff.mp hu).1
                refine ⟨r, us, k2, .int n, rfl, rfl, g2, hk.1, hk.2, hu, ?_⟩
                refine d.go s st (fun c e => by rw [e] at p; exact xc_st st p) (fun e => by rw [e] at p; exact p) fun dd e v F1 H1 x b => ?_
                rw [e, Res.st_ok] at p
                split at p
                · rename_i b' eb
                  rw [eb] at b
                  obtain rfl := b.int
                  refine ⟨n, b', rfl, rfl, r, us, k2, k2.toNat, rfl, rfl, x.hh _ _ g2, ixN_nat hk.1 (by omega), ?_⟩
                  obtain ⟨O3, w3, n3⟩ := (g5.ext x).set k2.toNat (.sh (.int (op n b')) : Ow X.K cls F1 H1 (.int (op n b')) (.int (op n b')) []) fun a _ q2 => nomatch q2
                  obtain ⟨O4, w1, w2⟩ := g8 F1 H1 (us.set k2.toNat (.int (op n b'))) (ys.set k2.toNat (.int (op n b'))) O3 x w3 (fun z => by
                    rcases n3 _ z with z | z
                    · exact g4 z
                    · exact nomatch z) (fun a z => (n3 a z).imp id (fun z => nomatch z))
                  have hqr : q ≠ r := fun z => f3 (z ▸ g6)
                  have up : ∀ b, b ≠ r → upd H1 r (.lst (us.set k2.toNat (.int (op n b')))) b = H1 b := fun b hb => upd_ne hb
                  have hF1r : F1 r = none := x.ow r g3 (by rw [g2]; exact fun e => nomatch e)
                  have hF1q : F1 q = none := x.ow q f1 (by rw [f2]; exact fun e => nomatch e)
                  have hq4 : q ∉ O4 := fun z => by
                    rcases w2 q z with z | z
                    · exact f3 z
                    · rw [f2] at z; cases z
                  obtain ⟨O'', q1, q2⟩ := e3 F1 (upd H1 r (.lst (us.set k2.toNat (.int (op n b'))))) (.ref q) (.ol (xs.set z (.ol (ys.set k2.toNat (.int (op n b')))))) (q :: O4) (fun b hb hn => by
                      obtain ⟨k1, k2⟩ := x.get (st.dom b hb).1 (st.dom b hb).2
                      exact ⟨(up b fun z => hn (by simp [z, g6])).trans k1, k2⟩) x.ff
                    (.ol hF1q ((up q hqr).trans (x.hh _ _ f2)) hq4 w1) (fun a ha hO => by
                      rcases List.mem_cons.mp ha with rfl | ha
                      · simp
                      · rcases w2 a ha with z | z
                        · simp [z]
                        · exact absurd z (st.dom a hO).2)
                  rw [set_self e2] at q1
                  refine p _ F1 _ O'' ⟨x.ff, fun b o k => ?_, fun b o k hn => ?_, fun b h1 h2 _ => x.ow b h1 h2, fun b hb => ?_⟩ q1
                  · rw [up b fun z => by rw [z, hF1r] at k; cases k]; exact x.fh b o k
                  · rw [up b fun z => hn (z ▸ e1 r (by simp [g6]))]; exact x.hh b o k
                  · rcases q2 b hb with z | z
                    · exact .inl z
                    · rcases List.mem_cons.mp z with rfl | z
                      · exact .inl (e1 _ (by simp))
                      · exact (w2 b z).imp (fun z => e1 b (by simp [z])) id
                · exact p.elim
          · exact p.elim
        · exact p.elim
      · exact p.elim
    · exact p.elim
  · exact p.elim
end
end DL

namespace DL
open PySem PySem.Spec PyProof.Rows L2
section
variable {K : PySem.W.Frag} {cls : Cls} {W : WX} {X : Cx} {F H F' H' : Hp} {O : List Addr} {a b e tg iter elt : Expr} {fs : Env → Res (List D)} {fa fb : Env → Res D} {pos : Pos}
def opAddS (a b : D) : Option D := match sqK a, sqK b with
    | some xs, some ys => if xs.length + ys.length ≤ lim then some (.ol (xs ++ ys)) else none
    | _, _ => none
@[simp] theorem opAddS_sl {xs ys : List D} (h : xs.length + ys.length ≤ lim) : opAddS (.sc xs) (.ls ys) = some (.ol (xs ++ ys)) := if_pos h
end
end DL

namespace PySem
open Sem (wp)
section
variable {prog : Program} {w : World} {A : Around} {E : Value → Shared → Prop} {s : Shared}
end
end PySem
namespace DL
open PySem PySem.Spec PyProof.Rows L2 TL PySem.W
section
variable {K : PySem.W.Frag} {cls : Cls} {W : WX} {X : Cx} {F H F' H' F1 H1 : Hp} {O O1 : List Addr} {a b : Expr} {fs : Env → Res (List D)} {pos : Pos}
def iZp2 (fs : Env → Res (List D)) : Env → Res (List D) := fun g => (fs g).bind fun ds => match ds with
  | [d, e] => (Res.of (lsS d)).bind fun xs => (Res.of (sqS e)).bind fun ys => .ok (zipD xs ys)
  | _ => .bad
@[simp] theorem iZp2_ (fs : Env → Res (List D)) (g : Env) : iZp2 fs g = (fs g).bind fun ds => match ds with
  | [d, e] => (Res.of (lsS d)).bind fun xs => (Res.of (sqS e)).bind fun ys => .ok (zipD xs ys)
  | _ => .bad := rfl
end
end DL

namespace DL
open PySem PySem.Spec PyProof.Rows L2 TL PySem.W
section
variable {K : PySem.W.Frag} {cls : Cls} {W : WX} {X : Cx} {F H F' H' F1 H1 : Hp} {O O1 : List Addr} {a b : Expr} {fs : Env → Res (List D)} {pos : Pos}
def zpA : D → D → Option (List D)
  | .tp xs, .tp ys => some (zipD xs ys)
  | d, e => match lsS d, sqS e with
    | some xs, some ys => some (zipD xs ys)
    | _, _ => none
@[simp] theorem zpA_tt {xs ys : List D} : zpA (.tp xs) (.tp ys) = some (zipD xs ys) := rfl
@[simp] theorem zpA_lt {xs ys : List D} : zpA (.ls xs) (.tp ys) = some (zipD xs ys) := rfl
@[simp] theorem zpA_ll {xs ys : List D} : zpA (.ls xs) (.ls ys) = some (zipD xs ys) := rfl
def iZp3 (fs : Env → Res (List D)) : Env → Res (List D) := fun g => (fs g).bind fun ds => match ds with
  | [d, e] => Res.of (zpA d e)
  | _ => .bad
@[simp] theorem iZp3_ (fs : Env → Res (List D)) (g : Env) : iZp3 fs g = (fs g).bind fun ds => match ds with
  | [d, e] => Res.of (zpA d e)
  | _ => .bad := rfl
end
end DL

namespace DL
open PySem L2
section
variable {K : PySem.W.Frag} {cls : Cls} {W : WX} {X : Cx} {a : Expr} {fa : Env → Res D}
def eFrz (fa : Env → Res D) : Env → Res D := fun g => ((fa g).bind kp).bind fun d => if nod d = true then .ok (frz d) else .bad
@[simp] theorem eFrz_ (fa : Env → Res D) (g : Env) : eFrz fa g = ((fa g).bind kp).bind fun d => if nod d = true then .ok (frz d) else .bad := rfl
end
end DL

namespace DL
open PySem PySem.Spec PyProof.Rows L2 TL PySem.W
section
variable {K : PySem.W.Frag} {cls : Cls} {W : WX} {X : Cx} {F H F' H' F1 H1 : Hp} {O O1 : List Addr} {Q : VK} {a b e : Expr} {es : List Expr} {fa fb fc : Env → Res D} {fs : Env → Res (List D)} {pos : Pos}
def sIns2 (i : Nat) (fs : Env → Res (List D)) : Env → Out := fun g => match g[i]? with
  | some (.ol xs) => (fs g).st g fun ds => match ds with
    | [.int j, d] => if 0 ≤ j ∧ j ≤ 1000000000 ∧ xs.length < lim ∧ xs.all (fun d => !own1 d) = true ∧ shd1 d = true then .nx (g.set i (.ol (xs.take j.toNat ++ [d] ++ xs.drop j.toNat))) else .bad
    | _ => .bad
  | _ => .bad
@[simp] theorem sIns2_ (i : Nat) (fs : Env → Res (List D)) (g : Env) : sIns2 i fs g = match g[i]? with
  | some (.ol xs) => (fs g).st g fun ds => match ds with
    | [.int j, d] => if 0 ≤ j ∧ j ≤ 1000000000 ∧ xs.length < lim ∧ xs.all (fun d => !own1 d) = true ∧ shd1 d = true then .nx (g.set i (.ol (xs.take j.toNat ++ [d] ++ xs.drop j.toNat))) else .bad
    | _ => .bad
  | _ => .bad := rfl
end
end DL

namespace DL
open PySem PySem.Spec PyProof.Rows L2 TL PySem.W
section
variable {K : PySem.W.Frag} {cls : Cls} {W : WX} {X : Cx} {F H F' H' F1 H1 : Hp} {O O1 : List Addr} {Q : VK} {a b e tg : Expr} {es : List Expr} {fa fb fc : Env → Res D} {fs : Env → Res (List D)} {pos : Pos}
def sRvs (i : Nat) : Env → Out := fun g => match g[i]? with
  | some (.ol xs) => if xs.all (fun d => !own1 d) = true then .nx (g.set i (.ol xs.reverse)) else .bad
  | _ => .bad
@[simp] theorem sRvs_ (i : Nat) (g : Env) : sRvs i g = match g[i]? with
  | some (.ol xs) => if xs.all (fun d => !own1 d) = true then .nx (g.set i (.ol xs.reverse)) else .bad
  | _ => .bad := rfl
def iRvA (fa : Env → Res D) : Env → Res (List D) := fun g => (fa g).bind fun a => (Res.of (sqS (opd a))).bind fun xs => .ok xs.reverse
@[simp] theorem iRvA_ (fa : Env → Res D) (g : Env) : iRvA fa g = (fa g).bind fun a => (Res.of (sqS (opd a))).bind fun xs => .ok xs.reverse := rfl
def opXor : D → D → Option D
  | .int i, .int j => if j = 1 ∧ 0 ≤ i then some (.int (if i % 2 = 0 then i + 1 else i - 1)) else none
  | _, _ => none
@[simp] theorem opXor_int {i : Int} (h : 0 ≤ i) : opXor (.int i) (.int 1) = some (.int (if i % 2 = 0 then i + 1 else i - 1)) := if_pos ⟨rfl, h⟩
end
end DL

namespace DL
open PySem PySem.Spec PyProof.Rows L2 TL PySem.W
section
variable {K : PySem.W.Frag} {cls : Cls} {W : WX} {X : Cx} {F H F' H' F1 H1 : Hp} {O O1 : List Addr} {Q : VK} {a b e tg : Expr} {es : List Expr} {fa fb fc : Env → Res D} {fs : Env → Res (List D)} {pos : Pos}
def sAugE (op : Int → Int → Int) (i : Nat) (fk fa : Env → Res D) : Env → Out := fun g => match g[i]? with
  | some (.ol xs) => (fk g).st g fun k => match opd k with
    | .int k => if 0 ≤ k ∧ k < 1000000000 then match xs[k.toNat]? with
      | some (.int n) => (fa g).st g fun d => match opd d with
        | .int b => .nx (g.set i (.ol (xs.set k.toNat (.int (op n b)))))
        | _ => .bad
      | _ => .bad else .bad
    | _ => .bad
  | _ => .bad
@[simp] theorem sAugE_ (op : Int → Int → Int) (i : Nat) (fk fa : Env → Res D) (g : Env) : sAugE op i fk fa g = match g[i]? with
  | some (.ol xs) => (fk g).st g fun k => match opd k with
    | .int k => if 0 ≤ k ∧ k < 1000000000 then match xs[k.toNat]? with
      | some (.int n) => (fa g).st g fun d => match opd d with
        | .int b => .nx (g.set i (.ol (xs.set k.toNat (.int (op n b)))))
        | _ => .bad
      | _ => .bad else .bad
    | _ => .bad
  | _ => .bad := rfl
end
end DL

namespace DL
open PySem PySem.Spec PyProof.Rows L2 TL PySem.W
section
variable {K : PySem.W.Frag} {cls : Cls} {X : Cx} {F H F' H' F1 H1 : Hp} {O O1 : List Addr} {Q : VK}
def caMin4 (ds : List D) : Option D := match ds with
  | [.tp xs] => match intsOf xs with
    | some (n :: ns) => some (.int (ns.foldl min n))
    | _ => none
  | ds => caMin3 ds
@[simp] theorem caMin4_tp (n : Int) (ns : List Int) : caMin4 [.tp (.int n :: ns.map D.int)] = some (.int (ns.foldl min n)) := by
  have : intsOf (D.int n :: ns.map D.int) = some (n :: ns) := intsOf_map (n :: ns)
  simp [caMin4, this]
end
end DL

namespace DL
open PySem PySem.Spec PyProof.Rows L2 TL PySem.W
section
variable {K : PySem.W.Frag} {cls : Cls} {X : Cx} {F H F' H' F1 H1 : Hp} {O O1 : List Addr} {Q : VK}
def caSum4 (ds : List D) : Option D := match ds with
  | [.tp xs] => match intsOf xs with
    | some ns => some (.int ns.sum)
    | _ => none
  | ds => caSum ds
@[simp] theorem caSum4_tp (ns : List Int) : caSum4 [.tp (ns.map D.int)] = some (.int ns.sum) := by
  have : intsOf (ns.map D.int) = some ns := intsOf_map ns
  simp [caSum4, this]
end
end DL

namespace DL
open PySem PySem.Spec PyProof.Rows L2 TL PySem.W
section
variable {K : PySem.W.Frag} {cls : Cls} {W : WX} {X : Cx} {F H F' H' F1 H1 : Hp} {O O1 : List Addr} {Q : VK} {pos : Pos}
def unX : Out → Out
  | .xc _ _ => .bad
  | o => o
def sTryN (fb : Env → Out) (fh : Nat → Env → Out) : Env → Out := fun g => match fb g with
  | .xc c g' => unX (fh c g')
  | o => o
@[simp] theorem sTryN_ (fb : Env → Out) (fh : Nat → Env → Out) (g : Env) : sTryN fb fh g = match fb g with
  | .xc c g' => unX (fh c g')
  | o => o := rfl
end
end DL

namespace DL
open PySem PySem.Spec PyProof.Rows L2 TL PySem.W
section
variable {K : PySem.W.Frag} {cls : Cls} {X : Cx} {F H F' H' F1 H1 : Hp} {O O1 : List Addr} {Q : VK}
def cLt2 : D → D → Option Bool
  | .tp xs, .tp ys => match intsOf xs, intsOf ys with
    | some ns, some ms => some (HT.lexLt ns ms)
    | _, _ => none
  | a, b => cLt a b
@[simp] theorem cLt2_tp (ns ms : List Int) : cLt2 (.tp (ns.map D.int)) (.tp (ms.map D.int)) = some (HT.lexLt ns ms) := by
  have h1 : intsOf (ns.map D.int) = some ns := intsOf_map ns
  have h2 : intsOf (ms.map D.int) = some ms := intsOf_map ms
  simp [cLt2, h1, h2]
end
end DL

namespace DL
open PySem PySem.Spec PyProof.Rows L2 TL PySem.W
section
variable {K : PySem.W.Frag} {cls : Cls} {W : WX} {X : Cx} {F H F' H' F1 H1 : Hp} {O O1 : List Addr} {Q : VK} {e : Expr} {es : List Expr} {fs : Env → Res (List D)} {pos : Pos} {i j : Nat}
def PostRP (K : PySem.W.Frag) (cls : Cls) (W : WX) (i j : Nat) (D : Ends) (F H : Hp) (O : List Addr) : Out → Prop
  | .nx g => ∃ p xs, g[i]? = some (.int p) ∧ g[j]? = some (.ol xs) ∧ ∀ v a F' H' O', SExt F H O F' H' O' → Ow K cls F' H' v (.ol xs) O' → H' a = none → D.rt (.ref a) (upd H' a (.tup [.int p, v]))
  | .xc c g => ∀ σ' F' H' O', SExt F H O F' H' O' → Sts K cls F' H' σ' g O' → W (excV cls c) none σ' H'
  | _ => False
theorem PostRP.mono {D : Ends} {r : Out} (x : SExt F H O F1 H1 O1) (p : PostRP K cls W i j D F H O r) : PostRP K cls W i j D F1 H1 O1 r := by
  cases r with
  | nx g =>
    obtain ⟨a, xs, h1, h2, h3⟩ := p
    exact ⟨a, xs, h1, h2, fun v b F' H' O' y => h3 v b F' H' O' (x.trans y)⟩
  | xc c g => exact fun σ' F' H' O' y => p σ' F' H' O' (x.trans y)
  | rt d => exact p
  | bk g => exact p
  | ct g => exact p
  | bad => exact p
def DSRP (K : PySem.W.Frag) (cls : Cls) (W : WX) (i j : Nat) (t : TS) (f : Env → Out) : Prop :=
  ∀ D σ F H g O, Same F H → Sts K cls F H σ g O → PostRP K cls W i j D F H O (f g) → t D σ H
structure JSE (X : Cx) (cls : Cls) (W : WX) (i j : Nat) (st : List Stmt) (f : Env → Out) : Prop where
  ex : ∃ t, PSs X st t ∧ DSRP X.K cls W i j t f
def sEnd : Env → Out := fun g => .nx g
@[simp] theorem sEnd_ (g : Env) : sEnd g = .nx g := rfl
def sUnp (i j : Nat) (g : List D → Res (Int × List D)) (fs : Env → Res (List D)) : Env → Out := fun env => (fs env).st env fun ds => if shd ds = true then match g ds with
  | .ok (p, xs) => .nx ((env.set i (.int p)).set j (.ol xs))
  | .xc c => .xc c env
  | .bad => .bad else .bad
@[simp] theorem sUnp_ (i j : Nat) (g : List D → Res (Int × List D)) (fs : Env → Res (List D)) (env : Env) : sUnp i j g fs env = (fs env).st env fun ds => if shd ds = true then match g ds with
  | .ok (p, xs) => .nx ((env.set i (.int p)).set j (.ol xs))
  | .xc c => .xc c env
  | .bad => .bad else .bad := rfl
end
end DL

namespace DL
open PySem PySem.Spec PyProof.Rows L2 TL PySem.W
end DL

namespace DL
open PySem PySem.Spec PyProof.Rows L2 TL PySem.W
def leT (ns ms : List Int) : Bool := Ob.lexAt (fun j => decide (ns.getD j 0 = ms.getD j 0)) (fun j => decide (ns.getD j 0 ≤ ms.getD j 0)) (decide (ns.length ≤ ms.length)) 0 (min ns.length ms.length)
section
variable {K : PySem.W.Frag} {cls : Cls} {W : WX} {X : Cx} {F H F' H' F1 H1 : Hp} {O O1 : List Addr} {Q : VK} {a b c d e : Expr} {fa fb fc fd fe : Env → Res D} {pos : Pos}
def cLe2 : D → D → Option Bool
  | .tp xs, .tp ys => match intsOf xs, intsOf ys with
    | some ns, some ms => some (leT ns ms)
    | _, _ => none
  | a, b => cLe a b
@[simp] theorem cLe2_tp (ns ms : List Int) : cLe2 (.tp (ns.map D.int)) (.tp (ms.map D.int)) = some (leT ns ms) := by
  have h1 : intsOf (ns.map D.int) = some ns := intsOf_map ns
  have h2 : intsOf (ms.map D.int) = some ms := intsOf_map ms
  simp [cLe2, h1, h2]
def lLast (op : D → D → Option Bool) (f : Env → Res D) (b : D) (g : Env) : Res Bool := (f g).bind fun c => .of (op (opd b) (opd c))
def lNext (op : D → D → Option Bool) (f : Env → Res D) (k : D → Env → Res Bool) (b : D) (g : Env) : Res Bool := (f g).bind fun c => (Res.of (op (opd b) (opd c))).bind fun kk => if kk = true then k c g else .ok false
def lHead (f : Env → Res D) (k : D → Env → Res Bool) (g : Env) : Res Bool := (f g).bind fun b => k b g
@[simp] theorem lLast_ (op : D → D → Option Bool) (f : Env → Res D) (b : D) (g : Env) : lLast op f b g = (f g).bind fun c => .of (op (opd b) (opd c)) := rfl
@[simp] theorem lNext_ (op : D → D → Option Bool) (f : Env → Res D) (k : D → Env → Res Bool) (b : D) (g : Env) : lNext op f k b g = (f g).bind fun c => (Res.of (op (opd b) (opd c))).bind fun kk => if kk = true then k c g else .ok false := rfl
@[simp] theorem lHead_ (f : Env → Res D) (k : D → Env → Res Bool) (g : Env) : lHead f k g = (f g).bind fun b => k b g := rfl
end
end DL

namespace DL
open PySem PySem.Spec PyProof.Rows L2 TL PySem.W
section
variable {K : PySem.W.Frag} {cls : Cls} {W : WX} {X : Cx} {F H F' H' F1 H1 : Hp} {O O1 : List Addr} {Q : VK} {a b : Expr} {fa fb : Env → Res D} {pos : Pos}
def eJoin (fa fb : Env → Res D) : Env → Res D := fun g => (fa g).bind fun d => match opd d with
  | .str x => (fb g).bind fun e => match sqL (opd e) with
    | some xs => match strsOf xs with
      | some ys => if (ys.map (·.length)).sum + ys.length * x.length ≤ 16777216 then .ok (.str (Txt.join x ys)) else .bad
      | none => .bad
    | none => .bad
  | _ => .bad
@[simp] theorem eJoin_ (fa fb : Env → Res D) (g : Env) : eJoin fa fb g = (fa g).bind fun d => match opd d with
  | .str x => (fb g).bind fun e => match sqL (opd e) with
    | some xs => match strsOf xs with
      | some ys => if (ys.map (·.length)).sum + ys.length * x.length ≤ 16777216 then .ok (.str (Txt.join x ys)) else .bad
      | none => .bad
    | none => .bad
  | _ => .bad := rfl
end
end DL

namespace DL
open PySem PySem.Spec PyProof.Rows L2 TL PySem.W
section
variable {K : PySem.W.Frag} {cls : Cls} {W : WX} {X : Cx} {F H F' H' F1 H1 : Hp} {O O1 : List Addr} {Q : VK} {a b tg iter : Expr} {fa fb : Env → Res D} {pos : Pos}
def eSlS (fa : Env → Res D) (lo hi : Env → Res (Option Int)) : Env → Res D := fun g => (fa g).bind fun a => (lo g).bind fun l => (hi g).bind fun h => match opd a with
  | .str z => if z.length ≤ lim then .ok (.str (cutS z l h)) else .bad
  | _ => .bad
@[simp] theorem eSlS_ (fa : Env → Res D) (lo hi : Env → Res (Option Int)) (g : Env) : eSlS fa lo hi g = (fa g).bind fun a => (lo g).bind fun l => (hi g).bind fun h => match opd a with
  | .str z => if z.length ≤ lim then .ok (.str (cutS z l h)) else .bad
  | _ => .bad := rfl
def sgs (x : Str) : List D := x.cps.toList.map fun c => D.str ⟨#[c]⟩
def iStrD (fa : Env → Res D) : Env → Res (List D) := fun g => (fa g).bind fun a => match opd a with
  | .str x => .ok (sgs x)
  | _ => .bad
@[simp] theorem iStrD_ (fa : Env → Res D) (g : Env) : iStrD fa g = (fa g).bind fun a => match opd a with
  | .str x => .ok (sgs x)
  | _ => .bad := rfl
def eSplit (fa fb : Env → Res D) : Env → Res D := fun g => (fa g).bind fun d => match opd d with
  | .str x => (fb g).bind fun e => match opd e with
    | .str y => if (y.length == 0) = false ∧ x.length + 2 ≤ lim then .ok (.ol ((Txt.split x y).map D.str)) else .bad
    | _ => .bad
  | _ => .bad
@[simp] theorem eSplit_ (fa fb : Env → Res D) (g : Env) : eSplit fa fb g = (fa g).bind fun d => match opd d with
  | .str x => (fb g).bind fun e => match opd e with
    | .str y => if (y.length == 0) = false ∧ x.length + 2 ≤ lim then .ok (.ol ((Txt.split x y).map D.str)) else .bad
    | _ => .bad
  | _ => .bad := rfl
end
end DL

namespace DL
open PySem PySem.Spec PyProof.Rows L2 PySem.W
section
variable {X : Cx} {cls : Cls} {K : PySem.W.Frag} {pins : List (Addr × Obj)} {s : Shared} {σ : L2.St} {H F H' F' : Hp} {Q : VK} {W : WX}
variable {e : Expr} {te : TE} {p apos cpos pos : Pos}
end
section
variable {K : PySem.W.Frag} {cls : Cls} {W : WX} {X : Cx} {F H F' H' F1 H1 : Hp} {O O1 : List Addr} {Q : VK} {a o e : Expr} {es : List Expr} {fa fo : Env → Res D} {fs : Env → Res (List D)} {pos apos cpos p : Pos} {k n : Nat}
def keyInts : List L2.Key → Option (List Int)
  | [] => some []
  | .inl i :: ks => (keyInts ks).map (i :: ·)
  | .inr _ :: _ => none
def eSortK (fa : Env → Res D) : Env → Res D := fun g => (fa g).bind fun d => match opd d with
  | .bd ks _ => match keyInts ks with
    | some ns => .ok (.ol ((srt ns).map D.int))
    | none => .bad
  | _ => .bad
@[simp] theorem eSortK_ (fa : Env → Res D) (g : Env) : eSortK fa g = (fa g).bind fun d => match opd d with
  | .bd ks _ => match keyInts ks with
    | some ns => .ok (.ol ((srt ns).map D.int))
    | none => .bad
  | _ => .bad := rfl
variable {m : Str} {C f : Addr} {fd : FuncData} {ps : List Str} {sp : Sp} {t : TA} {ta : TE} {E : L2.St → XK} {CX : CXT}
def eMeth (c : Nat) (g : List D → Res D) (fo : Env → Res D) (fs : Env → Res (List D)) : Env → Res D := fun e => (fo e).bind fun d => match opd d with
  | .ob c' fl => if c' = c then (fs e).bind fun ds => calD g (.ob c' fl :: ds) else .bad
  | _ => .bad
@[simp] theorem eMeth_ (c : Nat) (g : List D → Res D) (fo : Env → Res D) (fs : Env → Res (List D)) (e : Env) : eMeth c g fo fs e = (fo e).bind fun d => match opd d with
  | .ob c' fl => if c' = c then (fs e).bind fun ds => calD g (.ob c' fl :: ds) else .bad
  | _ => .bad := rfl
def eIndexT (fa fb : Env → Res D) : Env → Res D := fun g => (fa g).bind fun d => match opd d with
  | .ls xs => match tupsOf xs with
    | some L => (fb g).bind fun e => match opd e with
      | .tp ys => match intsOf ys with
        | some l => if l ∈ L then .ok (.int (L.idxOf l : Nat)) else .bad
        | none => .bad
      | _ => .bad
    | none => .bad
  | _ => .bad
@[simp] theorem eIndexT_ (fa fb : Env → Res D) (g : Env) : eIndexT fa fb g = (fa g).bind fun d => match opd d with
  | .ls xs => match tupsOf xs with
    | some L => (fb g).bind fun e => match opd e with
      | .tp ys => match intsOf ys with
        | some l => if l ∈ L then .ok (.int (L.idxOf l : Nat)) else .bad
        | none => .bad
      | _ => .bad
    | none => .bad
  | _ => .bad := rfl
end
end DL

namespace DL
open PySem PySem.Spec PyProof.Rows L2 TL PySem.W
section
variable {K : PySem.W.Frag} {cls : Cls} {X : Cx}
def cIsB : D → D → Option Bool
  | .bl a, .bl b => some (a == b)
  | _, _ => none
def cNotB : D → D → Option Bool
  | .bl a, .bl b => some (!(a == b))
  | _, _ => none
@[simp] theorem cIsB_bl (a b : Bool) : cIsB (.bl a) (.bl b) = some (a == b) := rfl
@[simp] theorem cNotB_bl (a b : Bool) : cNotB (.bl a) (.bl b) = some (!(a == b)) := rfl
end
end DL

namespace DL
open PySem PySem.Spec PyProof.Rows L2 TL PySem.W
section
variable {K : PySem.W.Frag} {cls : Cls} {X : Cx} {F H F' H' F1 H1 : Hp} {O O1 : List Addr} {Q : VK}
def cGt2 : D → D → Option Bool
  | .tp xs, .tp ys => match intsOf xs, intsOf ys with
    | some ns, some ms => some (HT.lexLt ms ns)
    | _, _ => none
  | a, b => cGt a b
@[simp] theorem cGt2_tp (ns ms : List Int) : cGt2 (.tp (ns.map D.int)) (.tp (ms.map D.int)) = some (HT.lexLt ms ns) := by
  have h1 : intsOf (ns.map D.int) = some ns := intsOf_map ns
  have h2 : intsOf (ms.map D.int) = some ms := intsOf_map ms
  simp [cGt2, h1, h2]
end
end DL

namespace DL
open PySem PySem.Spec PyProof.Rows L2 TL PySem.W
section
variable {K : PySem.W.Frag} {cls : Cls} {W : WX} {X : Cx} {F H F' H' F1 H1 : Hp} {O O1 : List Addr} {Q : VK} {o e f : Expr} {fo fk fx : Env → Res D} {apos cpos : Pos}
def eDG2 (fo fk fx : Env → Res D) : Env → Res D := fun g => (fo g).bind fun a => match opd a with
  | .bd ks ds => (fk g).bind fun b => (fx g).bind fun z => match opd b with
    | .int k => .ok ((valG (ks.zip ds) (.inl k)).getD (opd z))
    | _ => .bad
  | _ => .bad
@[simp] theorem eDG2_ (fo fk fx : Env → Res D) (g : Env) : eDG2 fo fk fx g = (fo g).bind fun a => match opd a with
  | .bd ks ds => (fk g).bind fun b => (fx g).bind fun z => match opd b with
    | .int k => .ok ((valG (ks.zip ds) (.inl k)).getD (opd z))
    | _ => .bad
  | _ => .bad := rfl
end
end DL

namespace DL
open PySem PySem.Spec PyProof.Rows L2 TL PySem.W
section
variable {K : PySem.W.Frag} {cls : Cls} {W : WX} {X : Cx} {F H F' H' F1 H1 : Hp} {O O1 : List Addr} {Q : VK} {a b e o : Expr} {fa fb fo : Env → Res D} {pos apos cpos : Pos}
def sRem (i : Nat) (fa : Env → Res D) : Env → Out := fun g => match g[i]? with
  | some (.ol xs) => (fa g).st g fun d => match toPys xs, toPy (opd d) with
    | some ps, some pd => if xs.length ≤ 1000000 ∧ PyData.plainAll ps = true ∧ pd.plain = true ∧ pd.depth ≤ 60 then match SeqAt.dataPlace ps pd with
      | some k => match xs[k]? with
        | some y => if own1 y = false then .nx (g.set i (.ol (xs.eraseIdx k))) else .bad
        | none => .bad
      | none => .bad
      else .bad
    | _, _ => .bad
  | _ => .bad
@[simp] theorem sRem_ (i : Nat) (fa : Env → Res D) (g : Env) : sRem i fa g = match g[i]? with
  | some (.ol xs) => (fa g).st g fun d => match toPys xs, toPy (opd d) with
    | some ps, some pd => if xs.length ≤ 1000000 ∧ PyData.plainAll ps = true ∧ pd.plain = true ∧ pd.depth ≤ 60 then match SeqAt.dataPlace ps pd with
      | some k => match xs[k]? with
        | some y => if own1 y = false then .nx (g.set i (.ol (xs.eraseIdx k))) else .bad
        | none => .bad
      | none => .bad
      else .bad
    | _, _ => .bad
  | _ => .bad := rfl
end
end DL

namespace DL
open PySem PySem.Spec PyProof.Rows L2 TL PySem.W
section
variable {K : PySem.W.Frag} {cls : Cls} {W : WX} {X : Cx} {F H F' H' F1 H1 : Hp} {O O1 : List Addr} {Q : VK} {a b e c : Expr} {es : List Expr} {fa fe : Env → Res D} {ft : Env → Res Bool} {fs : Env → Res (List D)} {pos : Pos}
def PostM (K : PySem.W.Frag) (cls : Cls) (W : WX) (En : Ends) (σ : L2.St) (F H : Hp) (q : Addr) (us : List V) : Res (Option D) → Prop
  | .ok none => ∀ F' H', Ext F H F' H' → En.nx σ H'
  | .ok (some d) => ∀ v F' H', Ext F H F' H' → Rp K cls F' v d → En.nx σ (upd H' q (.lst (us ++ [v])))
  | .xc c => ∀ F' H', Ext F H F' H' → W (excV cls c) none σ H'
  | .bad => False
theorem PostM.mono {En : Ends} {σ : L2.St} {q : Addr} {us : List V} {r : Res (Option D)} (x : Ext F H F1 H1) (h : PostM K cls W En σ F H q us r) : PostM K cls W En σ F1 H1 q us r := by
  cases r with
  | ok o =>
    cases o with
    | none => exact fun F' H' y => h F' H' (x.trans y)
    | some d => exact fun v F' H' y r => h v F' H' (x.trans y) r
  | xc c => exact fun F' H' y => h F' H' (x.trans y)
  | bad => exact h
structure JM (X : Cx) (cls : Cls) (W : WX) (sts : List Stmt) (f : Env → Res (Option D)) : Prop where
  ex : ∃ t, PSs X sts t ∧ ∀ (En : Ends) (σ : L2.St) (F H : Hp) (g : Env) (O : List Addr) (q : Addr) (us : List V), Same F H → Sts X.K cls F H σ g O → σ[0]? = some (some (.ref q)) → H q = some (.lst us) → us.length < lim → PostM X.K cls W En σ F H q us (f g) → t En σ H
def sPut (i : Nat) (g : List D → Res (Option D)) (fs : Env → Res (List D)) : Env → Out := fun env => match env[i]? with
  | some (.ol xs) => (fs env).st env fun ds => if shd ds = true ∧ xs.length < lim then match g ds with
    | .ok none => .nx env
    | .ok (some d) => .nx (env.set i (.ol (xs ++ [d])))
    | .xc c => .xc c env
    | .bad => .bad else .bad
  | _ => .bad
@[simp] theorem sPut_ (i : Nat) (g : List D → Res (Option D)) (fs : Env → Res (List D)) (env : Env) : sPut i g fs env = match env[i]? with
  | some (.ol xs) => (fs env).st env fun ds => if shd ds = true ∧ xs.length < lim then match g ds with
    | .ok none => .nx env
    | .ok (some d) => .nx (env.set i (.ol (xs ++ [d])))
    | .xc c => .xc c env
    | .bad => .bad else .bad
  | _ => .bad := rfl
end
end DL

namespace DL
open PySem PySem.Spec PyProof.Rows L2 TL PySem.W
section
variable {K : PySem.W.Frag} {cls : Cls} {W : WX} {X : Cx} {a : Expr} {fa : Env → Res D} {i : Nat}
def eView (i : Nat) (fa : Env → Res D) : Env → Res D := fun g => (fa (frzAt g i)).bind fun d => if flat d = true then .ok d else .bad
@[simp] theorem eView_ (i : Nat) (fa : Env → Res D) (g : Env) : eView i fa g = (fa (frzAt g i)).bind fun d => if flat d = true then .ok d else .bad := rfl
end
end DL

namespace DL
open PySem PySem.Spec PyProof.Rows L2 TL PySem.W
section
variable {K : PySem.W.Frag} {cls : Cls} {X : Cx} {F H F' H' F1 H1 : Hp} {O O1 : List Addr} {Q : VK}
def ntOf : D → Option (Int × List Int)
  | .tp [.int i, .tp xs] => (intsOf xs).map fun ns => (i, ns)
  | _ => none
theorem ntOf_NT (x : Int × List Int) : ntOf (dNT x) = some x := by
  show (intsOf (x.2.map D.int)).map (fun ns => (x.1, ns)) = _
  rw [intsOf_map]
  rfl
def cLt6 (a b : D) : Option Bool := match ntOf a, ntOf b with
  | some x, some y => some (HT.lexLt (x.1 :: x.2) (y.1 :: y.2))
  | _, _ => cLt a b
def cLe6 (a b : D) : Option Bool := match ntOf a, ntOf b with
  | some x, some y => some (!HT.lexLt (y.1 :: y.2) (x.1 :: x.2))
  | _, _ => cLe a b
@[simp] theorem cLt6_NT (x y : Int × List Int) : cLt6 (dNT x) (dNT y) = some (HT.lexLt (x.1 :: x.2) (y.1 :: y.2)) := by
  unfold cLt6
  rw [ntOf_NT, ntOf_NT]
@[simp] theorem cLe6_NT (x y : Int × List Int) : cLe6 (dNT x) (dNT y) = some (!HT.lexLt (y.1 :: y.2) (x.1 :: x.2)) := by
  unfold cLe6
  rw [ntOf_NT, ntOf_NT]
end
end DL

namespace DL
open PySem PySem.Spec PyProof.Rows L2 TL PySem.W
section
variable {K : PySem.W.Frag} {cls : Cls} {W : WX} {X : Cx} {F H F' H' F1 H1 : Hp} {O O1 : List Addr} {Q : VK} {σ : L2.St} {a b e c : Expr} {ft : Env → Res Bool} {pos : Pos}
theorem Sts.any : ∀ {σ : L2.St} {g : Env} {O : List Addr} {j : Nat} {o : Option V}, Sts K cls F H σ g O → g[j]? = some .un → Sts K cls F H (σ.set j o) g O
  | _, _, _, j, o, .nil, h => by simp at h
  | _, _, _, 0, o, .un r, _ => .un r
  | _, _, _, j + 1, o, .un r, h => .un (r.any (by simpa using h))
  | _, _, _, 0, o, .cons (d := d) w r dj e, h => by
    have h : d = .un := by simpa using h
    subst h
    cases w with
    | sh r => cases r
  | _, _, _, j + 1, o, .cons w r dj e, h => .cons w (r.any (by simpa using h)) dj e
theorem rows_get : ∀ {XS : List (List D)} {vs : List V} {O : List Addr}, Ows K cls F H vs (XS.map D.ol) O → (∀ xs ∈ XS, (xs.all fun d => !own1 d) = true) → vs = O.map V.ref ∧ O.Nodup ∧ (∀ a ∈ O, F a = none) ∧ O.length = XS.length ∧ ∀ (r : Nat) (a : Addr) (xs : List D), O[r]? = some a → XS[r]? = some xs → ∃ ws, H a = some (.lst ws) ∧ Rps K cls F ws xs
  | [], _, _, .nil, _ => ⟨rfl, .nil, fun _ h => (nomatch h), rfl, fun r a xs h => by simp at h⟩
  | xs :: XS, _, _, .cons (O1 := P1) (O2 := P2) w r dj e, h => by
    subst e
    cases w with
    | sh r => cases r
    | @ol a vs' _ O' f1 f2 f3 f4 =>
      obtain ⟨rfl, rp⟩ := ows_sh f4 (h xs (List.mem_cons_self ..))
      obtain ⟨h1, h2, h3, h4, h5⟩ := rows_get r fun ys hy => h ys (List.mem_cons_of_mem _ hy)
      refine ⟨by rw [h1]; rfl, ?_, fun b hb => ?_, by simp [h4], fun k b ys hb hy => ?_⟩
      · exact List.nodup_cons.mpr ⟨fun z => dj a (by simp) z, h2⟩
      · rcases List.mem_cons.mp hb with rfl | hb
        · exact f1
        · exact h3 b hb
      · cases k with
        | zero =>
          simp at hb hy
          subst hb hy
          exact ⟨vs', f2, rp⟩
        | succ k => exact h5 k b ys (by simpa using hb) (by simpa using hy)
theorem rows_put : ∀ {As : List Addr}, As.Nodup → (∀ a ∈ As, F a = none ∧ H a = some (.lst [])) → Ows K cls F H (As.map V.ref) (As.map fun _ => D.ol []) As
  | [], _, _ => .nil
  | a :: As, nd, h => by
    obtain ⟨n1, n2⟩ := List.nodup_cons.mp nd
    obtain ⟨h1, h2⟩ := h a (List.mem_cons_self ..)
    exact .cons (O1 := [a]) (.ol (O := []) h1 h2 (fun z => nomatch z) .nil) (rows_put n2 fun b hb => h b (List.mem_cons_of_mem _ hb)) (fun b hb => by rw [List.mem_singleton.mp hb]; exact n1) rfl
def rowsOf : List D → Option (List (List D))
  | [] => some []
  | .ol xs :: l => if (xs.all fun d => !own1 d) = true then (rowsOf l).map (xs :: ·) else none
  | _ => none
theorem rowsOf_eq : ∀ {l : List D} {XS : List (List D)}, rowsOf l = some XS → l = XS.map D.ol ∧ ∀ xs ∈ XS, (xs.all fun d => !own1 d) = true
  | [], XS, h => by cases h; exact ⟨rfl, fun _ h => nomatch h⟩
  | d :: l, XS, h => by
    cases d with
    | ol xs =>
      unfold rowsOf at h
      split at h
      · rename_i hx
        cases e : rowsOf l with
        | none => rw [e] at h; cases h
        | some Y =>
          rw [e] at h
          cases h
          obtain ⟨h1, h2⟩ := rowsOf_eq e
          refine ⟨by rw [h1]; rfl, fun ys hy => ?_⟩
          rcases List.mem_cons.mp hy with rfl | hy
          · exact hx
          · exact h2 ys hy
      · cases h
    | _ => cases h
def okF : Res Bool → Bool
  | .ok false => true
  | _ => false
theorem okF_eq {r : Res Bool} (h : okF r = true) : r = .ok false := by
  cases r with
  | ok b => cases b with
    | false => rfl
    | true => cases h
  | _ => cases h
def sForClr (i j : Nat) (ft : Env → Res Bool) : Env → Out := fun g => match g[i]? with
  | some (.ol l) => match rowsOf l with
    | some XS => if (decide (i ≠ j) && decide (j < g.length) && XS.all fun xs => okF (ft ((g.set i .un).set j (.ls xs)))) = true then .nx (((g.set i .un).set j .un).set i (.ol (XS.map fun _ => .ol []))) else .bad
    | none => .bad
  | _ => .bad
theorem js_forClr {i j k : Nat} {x y : Str} {npos tpos rpos apos cpos ipos epos : Pos} {rs : List Stmt} {fr : Env → Out} (cn : Cn X W k) (hN : X.N[i]? = some x) (hv : Vis X.env.scope x) (hM : X.N[j]? = some y) (hy : Loc X.env.scope y) (hvy : Vis X.env.scope y) (hc : JT X cls W c ft) (hr : JSs X cls W rs fr)
    (hd : (x == ("__debug__" : Str)) = false := by decide) (hcd : (x == ("__classdict__" : Str)) = false := by decide) (hd2 : (y == ("__debug__" : Str)) = false := by decide) (hcd2 : (y == ("__classdict__" : Str)) = false := by decide)
    (hf : X.fn y = true ∨ X.env.scope.names.lookup y = some .local := by first | exact .inl rfl | exact .inr rfl)
    (hbase : attributeBase (.Name y rpos) "clear" X.env (eval (.Name y rpos) X.env) = eval (.Name y rpos) X.env := by rfl)
    (hline : (apos.endLine == cpos.line) = true := by rfl)
    (hsw : swapsWith (.Call (.Attribute (.Name y rpos) "clear" apos) [] [] cpos) none epos.line X.env = pure false := by rfl)
    (hs : ∀ z, foldedSetIterable (.Name x npos) X.env z = pure z := by intro _; rfl) :
    JS X cls W (.For (.Name y tpos) (.Name x npos) [.If c rs [] ipos, .Expr (.Call (.Attribute (.Name y rpos) "clear" apos) [] [] cpos) epos] [] pos) (sForClr i j ft) := by
  obtain ⟨tc, pc, dc⟩ := hc.ex
  obtain ⟨tr, pr, _⟩ := hr.ex
  refine ⟨_, ps_for cn.hp cn.calm (pi_list (pe_var hN hv hd hcd)) (pg_name cn.nd hM hy hf) (pss_cons (ps_if pc pr pss_nil) (pss_one (ps_expr (pe_bm0 PySem.F.plainAttrs_list PySem.F.slot_list_clear PySem.F.type_list_clear mt_clear (pe_var hM hvy hd2 hcd2) hbase hline) hsw))) hs, ?_⟩
  intro En σ F H g O s st p
  unfold sForClr at p
  split at p
  · rename_i l eg
    split at p
    · rename_i XS eX
      obtain ⟨rfl, hX⟩ := rowsOf_eq eX
      split at p
      · rename_i hall
        simp only [Bool.and_eq_true, decide_eq_true_eq] at hall
        obtain ⟨⟨hij, hj⟩, hall⟩ := hall
        have hi : i < g.length := (List.getElem?_eq_some_iff.mp eg).1
        obtain ⟨P, h1, h2, h3, h4⟩ := st.at i hi
        rcases h2 with ⟨h2, _⟩ | ⟨v, d2, h2, h2', ow⟩
        · rw [eg] at h2; cases h2
        · rw [eg] at h2'; cases h2'
          cases ow with
          | sh r => cases r
          | @ol q vs _ As f1 f2 f3 f4 =>
            obtain ⟨e1, nd, fa, len, rows⟩ := rows_get f4 hX
            -- the rest without the list
            obtain ⟨O2, st2, o1, o2⟩ := h4 F H σ[i]?.join (fun b hb hn => ⟨rfl, (st.dom b hb).1⟩) (.refl F)
            have es : σ.set i (σ[i]?.join) = σ := by
              rw [h2]
              exact set_self h2
            rw [es] at st2
            obtain ⟨P2, k1, k2, k3, k4⟩ := st2.at j (by rw [List.length_set]; exact hj)
            obtain ⟨O3, st3, o3, o4⟩ := k4 F H σ[j]?.join (fun b hb hn => ⟨rfl, (st2.dom b hb).1⟩) (.refl F)
            have ej : σ.set j (σ[j]?.join) = σ := by
              have hl : j < σ.length := by rw [st.len]; exact hj
              rw [List.getElem?_eq_getElem hl]
              exact set_self (List.getElem?_eq_getElem hl)
            rw [ej] at st3
            have gj : ((g.set i .un).set j .un)[j]? = some .un := by rw [List.getElem?_set_self (by rw [List.length_set]; exact hj)]
            have dis : ∀ a ∈ O3, a ∉ q :: As := fun a ha => o2 a (o3 a ha)
            refine ⟨.ref q, h2, q, rfl, ⟨vs, SqL.of f2⟩, ?_⟩
            refine ⟨fun k m σ' H' => m = As.length - k ∧ k ≤ As.length ∧ Same F H' ∧ H' q = some (.lst vs) ∧ (∀ r a, As[r]? = some a → (r < k → H' a = some (.lst [])) ∧ (k ≤ r → H' a = H a)) ∧ Sts X.K cls F H' σ' ((g.set i .un).set j .un) O3 ∧ (∀ a o, H a = some o → a ∉ q :: As → H' a = some o) ∧ σ'[i]? = some (some (.ref q)), ⟨As.length, rfl, Nat.zero_le _, s, f2, fun r a _ => ⟨fun z => absurd z (Nat.not_lt_zero r), fun _ => rfl⟩, st3, fun a o h _ => h, h2⟩, ?_⟩
            rintro k m σ' H' ⟨rfl, hk, sm, hq, hrow, stk, hoth, hsi⟩
            by_cases hlt : k < As.length
            · have ga : As[k]? = some As[k] := List.getElem?_eq_getElem hlt
              have hx : k < XS.length := by rw [← len]; exact hlt
              have gx : XS[k]? = some XS[k] := List.getElem?_eq_getElem hx
              obtain ⟨ws, hws, rws⟩ := rows k _ _ ga gx
              have hH : H' As[k] = some (.lst ws) := by rw [(hrow k _ ga).2 (Nat.le_refl _)]; exact hws
              have hFa : F As[k] = none := fa _ (List.getElem_mem hlt)
              have hma : As[k] ∈ q :: As := List.mem_cons_of_mem _ (List.getElem_mem hlt)
              have hqa : As[k] ≠ q := fun z => f3 (z ▸ List.getElem_mem hlt)
              have gv : vs[k]? = some (.ref As[k]) := by rw [e1, List.getElem?_map, ga]; rfl
              refine .inr ⟨⟨vs, _, SqL.of hq, gv⟩, _, fun σ5 H5 h5 => ⟨As.length - (k + 1), by omega, rfl, hlt, h5⟩, fun x H'' yv => ?_⟩
              obtain ⟨rfl, yv⟩ := yv
              have yv := yv vs (SqL.of hq)
              rw [gv] at yv
              cases yv
              have hft : ft ((g.set i .un).set j (.ls XS[k])) = .ok false := okF_eq (List.all_eq_true.mp hall _ (List.getElem_mem hx))
              have no1 : ∀ b ∈ [As[k]], F b = none := fun b hb => by rw [List.mem_singleton.mp hb]; exact hFa
              have sm2 : Same (addF F H'' [As[k]]) H'' := fun b o hb => by
                unfold addF at hb
                split at hb
                · exact hb
                · exact sm b o hb
              have st4 := Sts.frame (F' := addF F H'' [As[k]]) (H' := H'') (addF_same no1) stk fun b hb => ⟨rfl, by rw [addF_no (fun z => dis b hb (by rw [List.mem_singleton.mp z]; exact hma))]; exact (stk.dom b hb).1⟩
              have rp : Rp X.K cls (addF F H'' [As[k]]) (.ref As[k]) (.ls XS[k]) := .ls (by rw [addF_at _ (List.mem_singleton.mpr rfl)]; exact hH) (rws.mono (addF_same no1))
              obtain ⟨O4, st5, _⟩ := Sts.putS (i := j) sm2 st4 rp
              rw [List.set_set] at st5
              refine dc.go sm2 st5 (fun c e => by rw [hft] at e; cases e) (fun e => by rw [hft] at e; cases e) fun kk e F3 H3 x3 => ?_
              rw [hft] at e
              cases e
              have hH3 : H3 As[k] = some (.lst ws) := x3.hh _ _ hH
              have hσj : (σ'.set j (some (V.ref As[k])))[j]? = some (some (V.ref As[k])) := by rw [List.getElem?_set_self (by rw [stk.len, List.length_set, List.length_set]; exact hj)]
              have up : ∀ b, b ≠ As[k] → upd H3 As[k] (.lst []) b = H3 b := fun b hb => upd_ne hb
              refine ⟨.ref As[k], hσj, .inl ⟨rfl, ws, SqL.of hH3⟩, ⟨As[k], ws, rfl, rfl, hH3, ?_⟩⟩
              refine ⟨fun b o hb => ?_, ?_, fun r b hr => ⟨fun hrk => ?_, fun hrk => ?_⟩, ?_, fun b o hb hn => ?_, ?_⟩
              · rw [up b fun z => by rw [z, hFa] at hb; cases hb]
                exact x3.hh b o (sm b o hb)
              · rw [up q (Ne.symm hqa)]
                exact x3.hh _ _ hq
              · by_cases c : r = k
                · subst c
                  rw [ga] at hr
                  cases hr
                  exact upd_same
                · have hb : b ≠ As[k] := fun z => by
                    obtain ⟨rl, re⟩ := List.getElem?_eq_some_iff.mp hr
                    exact c ((List.getElem_inj nd (h₀ := rl) (h₁ := hlt)).mp (re.trans z))
                  rw [up b hb]
                  exact x3.hh _ _ ((hrow r b hr).1 (by omega))
              · have hb : b ≠ As[k] := fun z => by
                  obtain ⟨rl, re⟩ := List.getElem?_eq_some_iff.mp hr
                  have := (List.getElem_inj nd (h₀ := rl) (h₁ := hlt)).mp (re.trans z)
                  omega
                rw [up b hb]
                have hxr : r < XS.length := by rw [← len]; exact (List.getElem?_eq_some_iff.mp hr).1
                obtain ⟨wr, hwr, _⟩ := rows r b _ hr (List.getElem?_eq_getElem hxr)
                have hb' := (hrow r b hr).2 (by omega)
                rw [hwr] at hb' ⊢
                exact x3.hh _ _ hb'
              · refine Sts.any (Sts.frame (.refl F) stk fun b hb => ⟨?_, (stk.dom b hb).1⟩) gj
                rw [up b fun z => dis b hb (by rw [z]; exact hma)]
                have hne := (stk.dom b hb).2
                cases ho : H'' b with
                | none => exact absurd ho hne
                | some o => exact x3.hh _ _ ho
              · rw [up b fun z => hn (by rw [z]; exact hma)]
                exact x3.hh _ _ (hoth b o hb hn)
              · rw [List.getElem?_set_ne (Ne.symm hij)]
                exact hsi
            · have ek : k = As.length := by omega
              subst ek
              refine .inl ⟨⟨vs, SqL.of hq, by rw [e1, List.length_map]; exact Nat.le_refl _⟩, ?_⟩
              have emp : ∀ a ∈ As, F a = none ∧ H' a = some (.lst []) := fun a ha => by
                obtain ⟨r, hr⟩ := List.mem_iff_getElem?.mp ha
                exact ⟨fa a ha, (hrow r a hr).1 (List.getElem?_eq_some_iff.mp hr).1⟩
              have lu : i < ((g.set i .un).set j .un).length := by rw [List.length_set, List.length_set]; exact hi
              have gi : ((g.set i .un).set j .un)[i]? = some .un := by rw [List.getElem?_set_ne (Ne.symm hij), List.getElem?_set_self hi]
              obtain ⟨P5, m1, m2, m3, _⟩ := stk.at i lu
              have hP5 : P5 = [] := by
                rcases m2 with ⟨_, h⟩ | ⟨v, d, _, h, w⟩
                · exact h
                · rw [gi] at h
                  cases h
                  cases w with
                  | sh r => cases r
              subst hP5
              have rowsO : (XS.map fun _ => D.ol []) = As.map fun _ => D.ol [] := by
                rw [List.map_const', List.map_const', len]
              obtain ⟨O6, st6, o6⟩ := m3 F H' (.ref q) (.ol (XS.map fun _ => D.ol [])) (q :: As) (fun b hb _ => ⟨rfl, (stk.dom b hb).1⟩) (.refl F) (.ol f1 hq f3 (by rw [rowsO, e1]; exact rows_put nd emp)) (fun b hb hb2 => absurd hb (dis b hb2))
              rw [set_self hsi] at st6
              refine p σ' F H' O6 ⟨.refl F, sm, fun b o hb hn => ?_, fun b hb _ _ => hb, fun b hb => ?_⟩ st6
              · exact hoth b o hb fun z => hn (h1 b z)
              · rcases o6 b hb with z | z
                · exact .inl (o1 b (o3 b z))
                · exact .inl (h1 b z)
      · exact p.elim
    · exact p.elim
  · exact p.elim
end
end DL

namespace Dt
def sm : Nat → (Nat → Int) → Int
  | 0, _ => 0
  | n + 1, f => sm n f + f n
def sg (i : Nat) : Int := if i % 2 = 0 then 1 else -1
theorem sg_succ (i : Nat) : sg (i + 1) = - sg i := by unfold sg; split <;> split <;> omega
theorem sm_congr {f g : Nat → Int} : ∀ {n : Nat}, (∀ i, i < n → f i = g i) → sm n f = sm n g
  | 0, _ => rfl
  | n + 1, h => by simp only [sm]; rw [sm_congr fun i hi => h i (by omega), h n (by omega)]
theorem sm_zero {f : Nat → Int} : ∀ {n : Nat}, (∀ i, i < n → f i = 0) → sm n f = 0
  | 0, _ => rfl
  | n + 1, h => by simp only [sm]; rw [sm_zero fun i hi => h i (by omega), h n (by omega)]; rfl
theorem sm_lin (s t : Int) (f g : Nat → Int) : ∀ n, sm n (fun i => s * f i + t * g i) = s * sm n f + t * sm n g
  | 0 => by simp [sm]
  | n + 1 => by simp only [sm]; rw [sm_lin s t f g n]; simp only [Int.mul_add]; omega
theorem sm_one {f : Nat → Int} {k : Nat} : ∀ {n : Nat}, k < n → (∀ i, i < n → i ≠ k → f i = 0) → sm n f = f k
  | n + 1, hk, h => by
    simp only [sm]
    by_cases e : k = n
    · subst e
      rw [sm_zero fun i hi => h i (by omega) (by omega)]; omega
    · rw [sm_one (by omega) fun i hi hn => h i (by omega) hn, h n (by omega) (by omega)]; omega
theorem sm_two {f : Nat → Int} {k : Nat} : ∀ {n : Nat}, k + 1 < n → (∀ i, i < n → i ≠ k → i ≠ k + 1 → f i = 0) → sm n f = f k + f (k + 1)
  | n + 1, hk, h => by
    simp only [sm]
    by_cases e : k + 1 = n
    · subst e
      rw [sm_one (k := k) (by omega) fun i hi hn => h i (by omega) hn (by omega)]
    · rw [sm_two (by omega) fun i hi h1 h2 => h i (by omega) h1 h2, h n (by omega) (by omega) (by omega)]; omega
abbrev Mx := Nat → Nat → Int
def del (i : Nat) (A : Mx) : Mx := fun r => A (if r < i then r else r + 1)
def det : Nat → Nat → Mx → Int
  | 0, _, _ => 1
  | n + 1, c, A => sm (n + 1) fun i => sg i * A i c * det n (c + 1) (del i A)
theorem det_congr : ∀ {n c : Nat} {A B : Mx}, (∀ r j, r < n → c ≤ j → j < c + n → A r j = B r j) → det n c A = det n c B
  | 0, _, _, _, _ => rfl
  | n + 1, c, A, B, h => by
    simp only [det]
    refine sm_congr fun i hi => ?_
    rw [h i c hi (by omega) (by omega)]
    congr 1
    refine det_congr fun r j hr h1 h2 => ?_
    unfold del
    exact h _ j (by split <;> omega) (by omega) (by omega)
def upd (A : Mx) (k : Nat) (x : Nat → Int) : Mx := fun r => if r = k then x else A r
theorem upd_self (A : Mx) (k : Nat) : upd A k (A k) = A := by funext r; unfold upd; split <;> simp_all
theorem upd_at (A : Mx) (k : Nat) (x : Nat → Int) : upd A k x k = x := by simp [upd]
theorem upd_ne {A : Mx} {k r : Nat} {x : Nat → Int} (h : r ≠ k) : upd A k x r = A r := by simp [upd, h]
theorem upd_upd (A : Mx) (k : Nat) (x y : Nat → Int) : upd (upd A k x) k y = upd A k y := by funext r; unfold upd; split <;> simp_all
theorem upd_comm (A : Mx) {k l : Nat} (h : k ≠ l) (x y : Nat → Int) : upd (upd A k x) l y = upd (upd A l y) k x := by
  funext r; unfold upd; split <;> split <;> simp_all
theorem del_upd_same (A : Mx) (k : Nat) (x : Nat → Int) : del k (upd A k x) = del k A := by
  funext r; unfold del upd
  split <;> rw [if_neg (by omega)]
theorem del_upd_lt (A : Mx) {i k : Nat} (h : i < k) (x : Nat → Int) : del i (upd A k x) = upd (del i A) (k - 1) x := by
  funext r; unfold del upd
  by_cases e : r = k - 1
  · rw [if_pos e, if_pos (by split <;> omega)]
  · rw [if_neg e, if_neg (by split <;> omega)]
theorem del_upd_gt (A : Mx) {i k : Nat} (h : k < i) (x : Nat → Int) : del i (upd A k x) = upd (del i A) k x := by
  funext r; unfold del upd
  by_cases e : r = k
  · rw [if_pos e, if_pos (by split <;> omega)]
  · rw [if_neg e, if_neg (by split <;> omega)]
theorem det_lin (s t : Int) (x y : Nat → Int) : ∀ {n c k : Nat} (A : Mx), k < n → det n c (upd A k fun j => s * x j + t * y j) = s * det n c (upd A k x) + t * det n c (upd A k y)
  | n + 1, c, k, A, hk => by
    simp only [det]
    rw [← sm_lin]
    refine sm_congr fun i hi => ?_
    by_cases e : i = k
    · subst e
      rw [del_upd_same, del_upd_same, del_upd_same, upd_at, upd_at, upd_at]
      generalize det n (c + 1) (del i A) = d
      simp only [Int.mul_add, Int.add_mul]
      rw [show sg i * (s * x c) * d = s * (sg i * x c * d) by ac_rfl, show sg i * (t * y c) * d = t * (sg i * y c * d) by ac_rfl]
    · rw [upd_ne e, upd_ne e, upd_ne e]
      rcases Nat.lt_or_ge i k with h | h
      · rw [del_upd_lt A h, del_upd_lt A h, del_upd_lt A h, det_lin s t x y (del i A) (by omega)]
        simp only [Int.mul_add]
        rw [show sg i * A i c * (s * det n (c + 1) (upd (del i A) (k - 1) x)) = s * (sg i * A i c * det n (c + 1) (upd (del i A) (k - 1) x)) by ac_rfl,
          show sg i * A i c * (t * det n (c + 1) (upd (del i A) (k - 1) y)) = t * (sg i * A i c * det n (c + 1) (upd (del i A) (k - 1) y)) by ac_rfl]
      · have h : k < i := by omega
        rw [del_upd_gt A h, del_upd_gt A h, del_upd_gt A h, det_lin s t x y (del i A) (by omega)]
        simp only [Int.mul_add]
        rw [show sg i * A i c * (s * det n (c + 1) (upd (del i A) k x)) = s * (sg i * A i c * det n (c + 1) (upd (del i A) k x)) by ac_rfl,
          show sg i * A i c * (t * det n (c + 1) (upd (del i A) k y)) = t * (sg i * A i c * det n (c + 1) (upd (del i A) k y)) by ac_rfl]
theorem det_mul (s : Int) (x : Nat → Int) {n c k : Nat} (A : Mx) (hk : k < n) : det n c (upd A k fun j => s * x j) = s * det n c (upd A k x) := by
  have h := det_lin (c := c) s 0 x x A hk
  simp only [Int.zero_mul, Int.add_zero] at h
  exact h
theorem det_add (x y : Nat → Int) {n c k : Nat} (A : Mx) (hk : k < n) : det n c (upd A k fun j => x j + y j) = det n c (upd A k x) + det n c (upd A k y) := by
  have h := det_lin (c := c) 1 1 x y A hk
  simp only [Int.one_mul] at h
  exact h
theorem det_adj : ∀ {n c k : Nat} {A : Mx}, k + 1 < n → A k = A (k + 1) → det n c A = 0
  | n + 1, c, k, A, hk, h => by
    simp only [det]
    rw [sm_two hk]
    · have e : del k A = del (k + 1) A := by
        funext r; unfold del
        by_cases q : r = k
        · subst q; rw [if_neg (by omega), if_pos (by omega)]; exact h.symm
        · congr 1
          split <;> split <;> omega
      rw [e, sg_succ, h]
      rw [show -sg k * A (k + 1) c * det n (c + 1) (del (k + 1) A) = - (sg k * A (k + 1) c * det n (c + 1) (del (k + 1) A)) by rw [Int.neg_mul, Int.neg_mul]]
      omega
    · intro i hi h1 h2
      have : det n (c + 1) (del i A) = 0 := by
        rcases Nat.lt_or_ge i k with q | q
        · refine det_adj (k := k - 1) (by omega) ?_
          unfold del
          rw [if_neg (by omega), if_neg (by omega), show k - 1 + 1 = k by omega]
          exact h
        · refine det_adj (k := k) (by omega) ?_
          unfold del
          rw [if_pos (by omega), if_pos (by omega)]
          exact h
      rw [this, Int.mul_zero]
theorem det_swap_adj {n c k : Nat} (A : Mx) (hk : k + 1 < n) (x y : Nat → Int) : det n c (upd (upd A k x) (k + 1) y) = - det n c (upd (upd A k y) (k + 1) x) := by
  have h0 : det n c (upd (upd A k fun j => x j + y j) (k + 1) fun j => x j + y j) = 0 := det_adj hk (by rw [upd_ne (by omega), upd_at, upd_at])
  rw [det_add _ _ _ hk, upd_comm _ (by omega), det_add _ _ _ (by omega), upd_comm _ (by omega) (fun j => x j + y j), det_add _ _ _ (by omega)] at h0
  have e1 : det n c (upd (upd A (k + 1) x) k x) = 0 := det_adj hk (by rw [upd_at, upd_ne (by omega), upd_at])
  have e2 : det n c (upd (upd A (k + 1) y) k y) = 0 := det_adj hk (by rw [upd_at, upd_ne (by omega), upd_at])
  rw [e1, e2] at h0
  rw [upd_comm A (show k ≠ k + 1 by omega) x y, upd_comm A (show k ≠ k + 1 by omega) y x]
  omega
theorem det_eq : ∀ (d : Nat) {n c r : Nat} {A : Mx}, r + d + 1 < n → A r = A (r + d + 1) → det n c A = 0
  | 0, n, c, r, A, hs, h => det_adj hs h
  | d + 1, n, c, r, A, hs, h => by
    have e : A = upd (upd A (r + d + 1) (A (r + d + 1))) (r + d + 1 + 1) (A (r + d + 1 + 1)) := by rw [upd_self, upd_self]
    rw [e, det_swap_adj (k := r + d + 1) A (by omega)]
    have : det n c (upd (upd A (r + d + 1) (A (r + d + 1 + 1))) (r + d + 1 + 1) (A (r + d + 1))) = 0 := by
      refine det_eq d (r := r) (by omega) ?_
      rw [upd_ne (by omega), upd_ne (by omega), upd_ne (by omega), upd_at]
      exact h
    rw [this]; rfl
theorem det_same {n c r s : Nat} {A : Mx} (hr : r < n) (hs : s < n) (hn : r ≠ s) (h : A r = A s) : det n c A = 0 := by
  rcases Nat.lt_or_ge r s with q | q
  · exact det_eq (s - r - 1) (r := r) (by omega) (by rw [show r + (s - r - 1) + 1 = s by omega]; exact h)
  · exact det_eq (r - s - 1) (r := s) (by omega) (by rw [show s + (r - s - 1) + 1 = r by omega]; exact h.symm)
theorem det_op {n c r s : Nat} (A : Mx) (hr : r < n) (hs : s < n) (hn : r ≠ s) (t : Int) : det n c (upd A s fun j => A s j + t * A r j) = det n c A := by
  have h := det_lin (c := c) 1 t (A s) (A r) A hs
  simp only [Int.one_mul] at h
  rw [h, upd_self]
  have : det n c (upd A s (A r)) = 0 := det_same hr hs hn (by rw [upd_ne hn, upd_at])
  rw [this]; omega
theorem det_ops {n c r : Nat} (A : Mx) (hr : r < n) (w : Nat → Int) (hw : w r = 0) : det n c (fun s j => A s j + w s * A r j) = det n c A := by
  have key : ∀ k, k ≤ n → det n c (fun s j => if s < k then A s j + w s * A r j else A s j) = det n c A := by
    intro k
    induction k with
    | zero => intro _; exact det_congr fun s j _ _ _ => by simp
    | succ k ih =>
      intro hk
      rw [← ih (by omega)]
      by_cases e : k = r
      · subst e
        refine det_congr fun s j _ _ _ => ?_
        by_cases q : s = k
        · subst q; rw [if_pos (by omega), if_neg (by omega), hw]; omega
        · by_cases q2 : s < k
          · rw [if_pos (by omega), if_pos q2]
          · rw [if_neg (by omega), if_neg q2]
      · have h := det_op (n := n) (c := c) (fun s j => if s < k then A s j + w s * A r j else A s j) hr (by omega : k < n) (fun z => e z.symm) (w k)
        rw [← h]
        refine det_congr fun s j _ _ _ => ?_
        unfold upd
        by_cases q : s = k
        · subst q
          rw [if_pos (by omega), if_pos rfl, if_neg (by omega)]
          congr 2
          by_cases q3 : r < s
          · rw [if_pos q3, hw]; omega
          · rw [if_neg q3]
        · rw [if_neg q]
          dsimp only
          by_cases q2 : s < k
          · rw [if_pos (by omega), if_pos q2]
          · rw [if_neg (by omega), if_neg q2]
  rw [← key n (Nat.le_refl n)]
  exact det_congr fun s j hs _ _ => by rw [if_pos hs]
theorem det_swap {n c r s : Nat} (A : Mx) (hr : r < n) (hs : s < n) (hn : r ≠ s) : det n c (fun i => A (if i = r then s else if i = s then r else i)) = - det n c A := by
  have e : (fun i => A (if i = r then s else if i = s then r else i)) = upd (upd A r (A s)) s (A r) := by
    funext i; unfold upd
    have hn' : ¬ s = r := fun z => hn z.symm
    by_cases q : i = s
    · subst q; simp [hn']
    · by_cases q2 : i = r
      · subst q2; simp [hn]
      · simp [q, q2]
  rw [e]
  have h0 : det n c (upd (upd A r fun j => A r j + A s j) s fun j => A r j + A s j) = 0 := det_same hr hs hn (by rw [upd_ne hn, upd_at, upd_at])
  rw [det_add _ _ _ hs, upd_comm _ hn, det_add _ _ _ hr, upd_comm _ hn (fun j => A r j + A s j), det_add _ _ _ hr] at h0
  have e1 : det n c (upd (upd A s (A r)) r (A r)) = 0 := det_same hr hs hn (by rw [upd_at, upd_ne (fun z => hn z.symm), upd_at])
  have e2 : det n c (upd (upd A s (A s)) r (A s)) = 0 := det_same hr hs hn (by rw [upd_at, upd_ne (fun z => hn z.symm), upd_at])
  have e3 : upd (upd A s (A s)) r (A r) = A := by rw [upd_self, upd_self]
  rw [e1, e2, e3] at h0
  rw [upd_comm _ hn]
  omega
def pr : Nat → (Nat → Int) → Int
  | 0, _ => 1
  | n + 1, w => pr n w * w n
theorem det_scale {n c : Nat} (A : Mx) (w : Nat → Int) : det n c (fun r j => w r * A r j) = pr n w * det n c A := by
  have key : ∀ k, k ≤ n → det n c (fun r j => if r < k then w r * A r j else A r j) = pr k w * det n c A := by
    intro k
    induction k with
    | zero => intro _; rw [pr, Int.one_mul]; exact det_congr fun s j _ _ _ => by simp
    | succ k ih =>
      intro hk
      have h := det_mul (n := n) (c := c) (k := k) (w k) (A k) (fun r j => if r < k then w r * A r j else A r j) (by omega)
      have e1 : det n c (upd (fun r j => if r < k then w r * A r j else A r j) k (A k)) = det n c (fun r j => if r < k then w r * A r j else A r j) := det_congr fun s j _ _ _ => by
        unfold upd
        by_cases q : s = k
        · subst q; rw [if_pos rfl, if_neg (by omega)]
        · rw [if_neg q]
      rw [e1, ih (by omega)] at h
      rw [pr, show pr k w * w k * det n c A = w k * (pr k w * det n c A) by ac_rfl, ← h]
      refine det_congr fun s j _ _ _ => ?_
      unfold upd
      by_cases q : s = k
      · subst q; rw [if_pos (by omega), if_pos rfl]
      · rw [if_neg q]
        dsimp only
        by_cases q2 : s < k
        · rw [if_pos (by omega), if_pos q2]
        · rw [if_neg (by omega), if_neg q2]
  rw [← key n (Nat.le_refl n)]
  exact det_congr fun s j hs _ _ => by rw [if_pos hs]
theorem pr_const (p : Int) : ∀ n, pr n (fun _ => p) = p ^ n
  | 0 => by simp [pr]
  | n + 1 => by rw [pr, pr_const p n, Int.pow_succ]
theorem det_shift : ∀ (n c : Nat) (A : Mx), det n (c + 1) A = det n c fun r j => A r (j + 1)
  | 0, _, _ => rfl
  | n + 1, c, A => by
    simp only [det]
    refine sm_congr fun i hi => ?_
    rw [det_shift n (c + 1) (del i A)]
    rfl
theorem det_head {n c : Nat} {A : Mx} (h : ∀ r, 0 < r → r ≤ n → A r c = 0) : det (n + 1) c A = A 0 c * det n (c + 1) fun r => A (r + 1) := by
  simp only [det]
  rw [sm_one (k := 0) (by omega) fun i hi hn => by rw [h i (by omega) (by omega)]; simp]
  have e : del 0 A = fun r => A (r + 1) := by funext r; unfold del; rw [if_neg (by omega)]
  rw [e]
  show 1 * _ * _ = _
  rw [Int.one_mul]
theorem det_nil {n c : Nat} {A : Mx} (h : ∀ r, r ≤ n → A r c = 0) : det (n + 1) c A = 0 := by
  simp only [det]
  exact sm_zero fun i hi => by rw [h i (by omega)]; simp
theorem det_chio {m c : Nat} (A : Mx) : A 0 c * det m (c + 1) (fun r j => A 0 c * A (r + 1) j - A (r + 1) c * A 0 j) = A 0 c ^ m * det (m + 1) c A := by
  have h1 := det_head (n := m) (c := c) (A := fun r j => if r = 0 then A 0 j else A 0 c * A r j - A r c * A 0 j) fun r h _ => by
    show (if r = 0 then A 0 c else A 0 c * A r c - A r c * A 0 c) = 0
    rw [if_neg (by omega), Int.mul_comm]; omega
  have e1 : det m (c + 1) (fun r => (fun r j => if r = 0 then A 0 j else A 0 c * A r j - A r c * A 0 j) (r + 1)) = det m (c + 1) (fun r j => A 0 c * A (r + 1) j - A (r + 1) c * A 0 j) := det_congr fun r j _ _ _ => by
    show (if r + 1 = 0 then A 0 j else _) = _
    rw [if_neg (by omega)]
  rw [e1] at h1
  have h1' : det (m + 1) c (fun r j => if r = 0 then A 0 j else A 0 c * A r j - A r c * A 0 j) = A 0 c * det m (c + 1) (fun r j => A 0 c * A (r + 1) j - A (r + 1) c * A 0 j) := h1
  rw [← h1']
  have h2 := det_ops (n := m + 1) (c := c) (r := 0) (fun r j => (if r = 0 then 1 else A 0 c) * A r j) (by omega) (fun r => if r = 0 then 0 else - A r c) (by simp)
  have h3 := det_scale (n := m + 1) (c := c) A (fun r => if r = 0 then 1 else A 0 c)
  have h4 : ∀ k, pr (k + 1) (fun r => if r = 0 then 1 else A 0 c) = A 0 c ^ k := by
    intro k
    induction k with
    | zero => simp [pr]
    | succ k ih => rw [pr, ih, if_neg (by omega), Int.pow_succ]
  rw [h4] at h3
  rw [← h3, ← h2]
  refine det_congr fun r j _ _ _ => ?_
  by_cases q : r = 0
  · subst q; simp
  · simp only [if_neg q, if_true, Int.one_mul, Int.neg_mul]
    omega
end Dt

namespace Dt
theorem det_1 (A : Mx) (c : Nat) : det 1 c A = A 0 c := by
  simp [det, sm, sg]
def ex (k : Nat) (ρ : Nat → Nat) (i : Nat) : Nat := if i < k then i else ρ (i - k)
structure Bar (n k : Nat) (A A' E : Mx) (s ahead : Int) : Prop where
  hs : det n 0 A = s * det n 0 A'
  ss : s = 1 ∨ s = -1
  ha : ahead = det k 0 A'
  hn : ahead ≠ 0
  hE : ∀ (m : Nat) (ρ γ : Nat → Nat), det (m + 1) 0 (fun i j => E (ρ i) (γ j)) = det (k + m + 1) 0 (fun i j => A' (ex k ρ i) (ex k γ j)) * ahead ^ m
theorem bar_start (n : Nat) (A : Mx) : Bar n 0 A A A 1 1 where
  hs := by rw [Int.one_mul]
  ss := .inl rfl
  ha := rfl
  hn := by decide
  hE := fun m ρ γ => by
    rw [Int.one_pow, Int.mul_one, Nat.zero_add]
    rfl
def sw (k f i : Nat) : Nat := if i = k then f else if i = f then k else i
theorem bar_swap {n k : Nat} {A A' E : Mx} {s ahead : Int} (h : Bar n k A A' E s ahead) {f : Nat} (hk : k < f) (hf : f < n) : Bar n k A (fun r => A' (sw k f r)) (fun r => E (sw k f r)) (-s) ahead where
  hs := by
    have := det_swap (n := n) (c := 0) A' (show k < n by omega) hf (by omega)
    have e : det n 0 (fun r => A' (sw k f r)) = - det n 0 A' := this
    rw [e, h.hs, Int.neg_mul_neg]
  ss := by rcases h.ss with e | e <;> rw [e] <;> simp
  ha := by
    rw [h.ha]
    refine det_congr fun r j hr _ _ => ?_
    show A' r j = A' (sw k f r) j
    unfold sw
    rw [if_neg (by omega), if_neg (by omega)]
  hn := h.hn
  hE := fun m ρ γ => by
    have := h.hE m (fun i => sw k f (ρ i)) γ
    refine this.trans ?_
    congr 1
    refine det_congr fun r j _ _ _ => ?_
    have e : ex k (fun i => sw k f (ρ i)) r = sw k f (ex k ρ r) := by
      unfold ex
      by_cases q : r < k
      · rw [if_pos q, if_pos q]; unfold sw; rw [if_neg (by omega), if_neg (by omega)]
      · rw [if_neg q, if_neg q]
    rw [e]
theorem bar_piv {n k : Nat} {A A' E : Mx} {s ahead : Int} (h : Bar n k A A' E s ahead) : E k k = det (k + 1) 0 A' := by
  have := h.hE 0 (fun _ => k) (fun _ => k)
  rw [det_1, Int.pow_zero, Int.mul_one] at this
  rw [this]
  refine det_congr fun r j hr _ hj => ?_
  have e : ∀ i, i < k + 1 → ex k (fun _ => k) i = i := fun i hi => by
    unfold ex
    by_cases q : i < k
    · rw [if_pos q]
    · rw [if_neg q]; show k = i; omega
  rw [e r hr, e j (by omega)]
theorem bar_ent {n k : Nat} {A A' E : Mx} {s ahead : Int} (h : Bar n k A A' E s ahead) (r c : Nat) : E r c = det (k + 1) 0 (fun i j => A' (ex k (fun _ => r) i) (ex k (fun _ => c) j)) := by
  have := h.hE 0 (fun _ => r) (fun _ => c)
  rw [det_1, Int.pow_zero, Int.mul_one] at this
  exact this
def nx (E : Mx) (k : Nat) (ahead : Int) : Mx := fun r c => (E r c * E k k - E r k * E k c) / ahead
theorem bar_div {n k : Nat} {A A' E : Mx} {s ahead : Int} (h : Bar n k A A' E s ahead) (hp : E k k ≠ 0) (m : Nat) (ρ γ : Nat → Nat) :
    det (m + 1) 0 (fun r j => E k k * E (ρ r) (γ j) - E (ρ r) k * E k (γ j)) = E k k ^ m * (det (k + 1 + m + 1) 0 (fun i j => A' (ex (k + 1) ρ i) (ex (k + 1) γ j)) * ahead ^ (m + 1)) := by
  have h1 := h.hE (m + 1) (fun i => if i = 0 then k else ρ (i - 1)) (fun i => if i = 0 then k else γ (i - 1))
  have h2 := det_chio (m := m + 1) (c := 0) (fun i j => E (if i = 0 then k else ρ (i - 1)) (if j = 0 then k else γ (j - 1)))
  rw [h1, det_shift] at h2
  simp only [if_pos, Nat.add_one_ne_zero, if_false, Nat.add_sub_cancel] at h2
  have e : det (k + (m + 1) + 1) 0 (fun i j => A' (ex k (fun i => if i = 0 then k else ρ (i - 1)) i) (ex k (fun i => if i = 0 then k else γ (i - 1)) j)) = det (k + 1 + m + 1) 0 (fun i j => A' (ex (k + 1) ρ i) (ex (k + 1) γ j)) := by
    rw [show k + (m + 1) + 1 = k + 1 + m + 1 by omega]
    have q : ∀ (ρ : Nat → Nat) (i : Nat), ex k (fun i => if i = 0 then k else ρ (i - 1)) i = ex (k + 1) ρ i := fun ρ i => by
      unfold ex
      by_cases q1 : i < k
      · rw [if_pos q1, if_pos (by omega)]
      · rw [if_neg q1]
        dsimp only
        by_cases q2 : i - k = 0
        · rw [if_pos q2, if_pos (by omega)]; omega
        · rw [if_neg q2, if_neg (by omega), show i - k - 1 = i - (k + 1) by omega]
    simp only [q]
  rw [e] at h2
  rw [Int.pow_succ, Int.mul_comm (E k k ^ m) (E k k), Int.mul_assoc] at h2
  exact Int.eq_of_mul_eq_mul_left hp h2
theorem bar_exact {n k : Nat} {A A' E : Mx} {s ahead : Int} (h : Bar n k A A' E s ahead) (hp : E k k ≠ 0) (r c : Nat) : E r c * E k k - E r k * E k c = ahead * nx E k ahead r c ∧ nx E k ahead r c = det (k + 1 + 1) 0 (fun i j => A' (ex (k + 1) (fun _ => r) i) (ex (k + 1) (fun _ => c) j)) := by
  have h1 := bar_div h hp 0 (fun _ => r) (fun _ => c)
  rw [det_1, Int.pow_zero, Int.one_mul, Int.pow_succ, Int.pow_zero, Int.one_mul] at h1
  have h2 : E r c * E k k - E r k * E k c = det (k + 1 + 0 + 1) 0 (fun i j => A' (ex (k + 1) (fun _ => r) i) (ex (k + 1) (fun _ => c) j)) * ahead := by
    rw [← h1, Int.mul_comm (E r c)]
  have h3 : nx E k ahead r c = det (k + 1 + 0 + 1) 0 (fun i j => A' (ex (k + 1) (fun _ => r) i) (ex (k + 1) (fun _ => c) j)) := by
    unfold nx
    rw [h2, Int.mul_ediv_cancel _ h.hn]
  exact ⟨by rw [h3, h2, Int.mul_comm], h3⟩
theorem bar_next {n k : Nat} {A A' E : Mx} {s ahead : Int} (h : Bar n k A A' E s ahead) (hp : E k k ≠ 0) : Bar n (k + 1) A A' (nx E k ahead) s (E k k) where
  hs := h.hs
  ss := h.ss
  ha := bar_piv h
  hn := hp
  hE := fun m ρ γ => by
    have h1 := bar_div h hp m ρ γ
    have h2 : det (m + 1) 0 (fun r j => E k k * E (ρ r) (γ j) - E (ρ r) k * E k (γ j)) = ahead ^ (m + 1) * det (m + 1) 0 (fun i j => nx E k ahead (ρ i) (γ j)) := by
      rw [← pr_const ahead (m + 1), ← det_scale]
      refine det_congr fun r j _ _ _ => ?_
      show _ = ahead * nx E k ahead (ρ r) (γ j)
      rw [← (bar_exact h hp (ρ r) (γ j)).1, Int.mul_comm (E k k)]
    rw [h2] at h1
    have h3 : ahead ^ (m + 1) ≠ 0 := Int.pow_ne_zero h.hn
    refine Int.eq_of_mul_eq_mul_left h3 (h1.trans ?_)
    generalize det (k + 1 + m + 1) 0 (fun i j => A' (ex (k + 1) ρ i) (ex (k + 1) γ j)) = d
    ac_rfl
theorem bar_none {n k : Nat} {A A' E : Mx} {s ahead : Int} (h : Bar n k A A' E s ahead) (hk : k < n) (hz : ∀ r, k ≤ r → r < n → E r k = 0) : det n 0 A = 0 := by
  have h1 := h.hE (n - k - 1) (fun i => k + i) (fun i => k + i)
  have h0 : det (n - k - 1 + 1) 0 (fun i j => E (k + i) (k + j)) = 0 := det_nil (c := 0) fun r hr => by
    show E (k + r) (k + 0) = 0
    exact hz (k + r) (by omega) (by omega)
  rw [h0] at h1
  rw [show k + (n - k - 1) + 1 = n by omega] at h1
  have e : det n 0 (fun i j => A' (ex k (fun i => k + i) i) (ex k (fun i => k + i) j)) = det n 0 A' := by
    have q : ∀ i, ex k (fun i => k + i) i = i := fun i => by
      unfold ex
      by_cases q : i < k
      · rw [if_pos q]
      · rw [if_neg q]; show k + (i - k) = i; omega
    simp only [q]
  rw [e] at h1
  rcases Int.mul_eq_zero.mp h1.symm with h2 | h2
  · rw [h.hs, h2, Int.mul_zero]
  · exact absurd h2 (Int.pow_ne_zero h.hn)
theorem bar_end {n : Nat} {A A' E : Mx} {s ahead : Int} (h : Bar n n A A' E s ahead) : det n 0 A = s * ahead := by rw [h.hs, h.ha]
def fac : Nat → Nat
  | 0 => 1
  | n + 1 => (n + 1) * fac n
theorem sm_abs (f : Nat → Int) (b : Nat) : ∀ n, (∀ i, i < n → (f i).natAbs ≤ b) → (sm n f).natAbs ≤ n * b
  | 0, _ => by simp [sm]
  | n + 1, h => by
    have h1 := sm_abs f b n fun i hi => h i (by omega)
    have h2 := h n (by omega)
    have h3 := Int.natAbs_add_le (sm n f) (f n)
    simp only [sm]
    rw [Nat.add_mul, Nat.one_mul]
    omega
theorem sg_abs (i : Nat) : (sg i).natAbs = 1 := by unfold sg; split <;> rfl
theorem det_abs (B : Nat) : ∀ {n c : Nat} {A : Mx}, (∀ r j, r < n → c ≤ j → j < c + n → (A r j).natAbs ≤ B) → (det n c A).natAbs ≤ fac n * B ^ n
  | 0, _, _, _ => by simp [det, fac]
  | n + 1, c, A, h => by
    simp only [det]
    refine Nat.le_trans (sm_abs _ (B * (fac n * B ^ n)) (n + 1) fun i hi => ?_) ?_
    · rw [Int.natAbs_mul, Int.natAbs_mul, sg_abs, Nat.one_mul]
      refine Nat.mul_le_mul (h i c hi (by omega) (by omega)) (det_abs B fun r j hr h1 h2 => ?_)
      unfold del
      exact h _ j (by split <;> omega) (by omega) (by omega)
    · rw [fac, Nat.pow_succ, Nat.mul_assoc]
      refine Nat.le_of_eq ?_
      congr 1
      ac_rfl
theorem bar_abs {n k : Nat} {A A' E : Mx} {s ahead : Int} (h : Bar n k A A' E s ahead) (B : Nat) (hB : ∀ r c, r < n → c < n → (A' r c).natAbs ≤ B) (hk : k < n) {r c : Nat} (hr : r < n) (hc : c < n) : (E r c).natAbs ≤ fac (k + 1) * B ^ (k + 1) := by
  rw [bar_ent h r c]
  refine det_abs B fun i j hi _ hj => hB _ _ ?_ ?_
  · unfold ex; split <;> omega
  · unfold ex; split <;> omega
theorem bar_rows {n k : Nat} {A A' E : Mx} {s ahead : Int} (h : Bar n k A A' E s ahead) (B : Nat) (hB : ∀ r c, r < n → c < n → (A' r c).natAbs ≤ B) {f : Nat} (hk : k < n) (hf : f < n) : ∀ r c, r < n → c < n → (A' (sw k f r) c).natAbs ≤ B := fun r c hr hc => hB _ _ (by unfold sw; split; exact hf; split <;> omega) hc
end Dt

noncomputable section
namespace Lw
open DL
def f_look_at_table_l1 : Env → Out := sIf (tC2 cNe (eCall caLen (aCons (eVar 1) (aNil))) (eCall caLen (aCons (eVar 0) (aNil)))) (sRaise 7) (sNil)
def f_look_at_table : Env → Out := sFor (iSeq (eVar 0)) (gtN 1) f_look_at_table_l1
def g_look_at_table : List D → Res D := runF f_look_at_table 2
def f_first_row_with_l1 : Env → Out := sIf (tC2 cNe (eBin opIx (eBin opIx (eVar 0) (eVar 2)) (eVar 1)) (eC (.int 0))) (sRetV 2) (sNil)
def f_first_row_with : Env → Out := sSeq (sFor (iRg2 (aCons (eVar 1) (aCons (eCall caLen (aCons (eVar 0) (aNil))) (aNil)))) (gtN 2) f_first_row_with_l1) (sRet (eC .non))
def g_first_row_with : List D → Res D := runF f_first_row_with 3
def f_cleared_l1 : Env → Out := sApp 6 (eBin opDiv (eBin opSub (eBin opMul (eBin opIx (eVar 5) (eVar 7)) (eBin opIx (eVar 4) (eVar 1))) (eBin opMul (eBin opIx (eVar 5) (eVar 1)) (eBin opIx (eVar 4) (eVar 7)))) (eVar 2))
def f_cleared_l2 : Env → Out := sSeq (sAsg 6 (eBin opMul (eLst (aConsO (eC (.int 0)) (aNil))) (eBin opAdd (eVar 1) (eC (.int 1))))) (sSeq (sFor (iRg2 (aCons (eBin opAdd (eVar 1) (eC (.int 1))) (aCons (eCall caLen (aCons (eVar 5) (aNil))) (aNil)))) (gtN 7) f_cleared_l1) (sFrz 6 (sApp 3 (eVar 6))))
def f_cleared : Env → Out := sSeq (sAsg 3 (eLst (aNil))) (sSeq (sAsgF 4 (eBin opIx (eVar 0) (eVar 1))) (sSeq (sFor (iSeq (eSl (eVar 0) (ePart (some (eBin opAdd (eVar 1) (eC (.int 1))))) (ePart none))) (gtN 5) f_cleared_l2) (sRetV 3)))
def g_cleared : List D → Res D := runF f_cleared 8
def f_determinant_c1 : Env → Res D := eCall caList (aCons (eVar 6) (aNil))
def f_determinant_l1 : Env → Out := sSeq (sAsgF 5 (eOwn g_first_row_with (aCons (eVar 1) (aCons (eVar 4) (aNil))))) (sSeq (sIf (tC2 cIsN (eVar 5) (eC .non)) (sRet (eC (.int 0))) (sNil)) (sSeq (sIf (tC2 cNe (eVar 5) (eVar 4)) (sSeq (sSwp 1 (eVar 4) (eVar 5) (eTup (aConsO (eBin opIx (eVar 1) (eVar 5)) (aConsO (eBin opIx (eVar 1) (eVar 4)) (aNil))))) (sAsgF 2 (eUn opNeg (eVar 2)))) (sNil)) (sSeq (sFrz 1 (sAsg 1 (eBin opAdd (eSl (eVar 1) (ePart none) (ePart (some (eBin opAdd (eVar 4) (eC (.int 1)))))) (eOwn g_cleared (aCons (eVar 1) (aCons (eVar 4) (aCons (eVar 3) (aNil)))))))) (sAsgF 3 (eBin opIx (eBin opIx (eVar 1) (eVar 4)) (eVar 4))))))
def f_determinant : Env → Out := sSeq (sExp (eOwn g_look_at_table (aCons (eVar 0) (aNil)))) (sSeq (sAsgI 1 (eLc (iSeq (eVar 0)) [6] (gtN 6) (tYesG) f_determinant_c1)) (sSeq (sAsgF 2 (eC (.int 1))) (sSeq (sAsgF 3 (eC (.int 1))) (sSeq (sFor (iRg1 (aCons (eCall caLen (aCons (eVar 1) (aNil))) (aNil))) (gtN 4) f_determinant_l1) (sRet (eBin opMul (eVar 2) (eVar 3)))))))
def g_determinant : List D → Res D := runF f_determinant 7
def f_pulls_c1 : Env → Res D := eBin opMul (eLst (aConsO (eC (.int 0)) (aNil))) (eVar 0)
def f_pulls_l1 : Env → Out := sIf (tC2 cNe (eVar 3) (eVar 4)) (sSeq (sAug2 (fun a b => a + b) 2 3 3 (eC (.int 1))) (sSeq (sAug2 (fun a b => a + b) 2 4 4 (eC (.int 1))) (sSeq (sAug2 (fun a b => a - b) 2 3 4 (eC (.int 1))) (sAug2 (fun a b => a - b) 2 4 3 (eC (.int 1)))))) (sNil)
def f_pulls : Env → Out := sSeq (sAsg 2 (eLc (iRg1 (aCons (eVar 0) (aNil))) [5] (gtN 5) (tYesG) f_pulls_c1)) (sSeq (sFor (iSeq (eVar 1)) (gtT 2 (gtCons (gtN 3) (gtCons (gtN 4) (gtNil)))) f_pulls_l1) (sRetV 2))
def g_pulls : List D → Res D := runF f_pulls 6
def f_without_last_c1 : Env → Res D := eSl (eVar 1) (ePart none) (ePart (some (eUn opNeg (eC (.int 1)))))
def f_without_last : Env → Out := sRet (eLc (iSeq (eSl (eVar 0) (ePart none) (ePart (some (eUn opNeg (eC (.int 1))))))) [1] (gtN 1) (tYesG) f_without_last_c1)
def g_without_last : List D → Res D := runF f_without_last 2
def f_pull_table : Env → Out := sRet (eOwn g_pulls (aCons (eUn (opFld 14 0) (eVar 0)) (aCons (eUn (opFld 14 1) (eVar 0)) (aNil))))
def g_pull_table : List D → Res D := runF f_pull_table 1
def f_tree_count : Env → Out := sRet (eOwn g_determinant (aCons (eOwn g_without_last (aCons (eOwn g_pull_table (aCons (eVar 0) (aNil))) (aNil))) (aNil)))
def g_tree_count : List D → Res D := runF f_tree_count 1
end Lw
end

noncomputable section
namespace Lw
open DL
end Lw
end

namespace Lw
open DL
end Lw

namespace Lw
open DL
end Lw

namespace Lw
open DL
def EndsOk (n : Int) (l : List (Int × Int)) : Prop := ∀ p ∈ l, (0 ≤ p.1 ∧ p.1 < n) ∧ 0 ≤ p.2 ∧ p.2 < n
theorem EndsOk.app {n : Int} {l m : List (Int × Int)} (h : EndsOk n l) (h' : EndsOk n m) : EndsOk n (l ++ m) := fun p hp => (List.mem_append.mp hp).elim (h p) (h' p)
theorem EndsOk.one {n : Int} {a b : Int} (h : (0 ≤ a ∧ a < n) ∧ 0 ≤ b ∧ b < n) : EndsOk n [(a, b)] := fun p hp => by simp at hp; subst hp; exact h
theorem cut_mem {α : Type} {l : List α} {lo hi : Option Int} {a : α} (h : a ∈ cut l lo hi) : a ∈ l := by
  unfold cut at h
  exact List.mem_of_mem_drop (List.mem_of_mem_take h)
theorem EndsOk.cut {n : Int} {l : List (Int × Int)} (h : EndsOk n l) (lo hi : Option Int) : EndsOk n (cut l lo hi) := fun p hp => h p (cut_mem hp)
end Lw

namespace Lw
open DL
end Lw

noncomputable section
namespace Lw
open DL
def f_Web_init_l1 : Env → Out := sIf (tOr_ (tNo (tCh cLe cLt (eC (.int 0)) (eVar 3) (eVar 1))) (tNo (tCh cLe cLt (eC (.int 0)) (eVar 4) (eVar 1)))) (sRaise 1) (sNil)
def f_Web_init : Env → Out := sSeq (sIf (tOr_ (tNo (tCh cLe cLe (eC (.int 1)) (eVar 1) (eC (.int 14)))) (tC2 cGt (eCall caLen (aCons (eVar 2) (aNil))) (eC (.int 30)))) (sRaise 1) (sNil)) (sSeq (sFor (iSeq (eVar 2)) (gtT 2 (gtCons (gtN 3) (gtCons (gtN 4) (gtNil)))) f_Web_init_l1) (sSeq (sFld 0 14 0 (eVar 1)) (sFld 0 14 1 (eCall caList (aCons (eVar 2) (aNil))))))
def g_Web_init : List D → Res (List D) := mirI f_Web_init 14 5
end Lw
end

namespace Lw
open DL
theorem web_init_l1 (p : Int) (x0 x2 : D) : ∀ (l : List (Int × Int)) (y3 y4 : D), EndsOk p l →
    ∃ z3 z4, forL (gtT 2 (gtCons (gtN 3) (gtCons (gtN 4) (gtNil)))) f_Web_init_l1 (l.map dP) [x0, .int p, x2, y3, y4] = .nx [x0, .int p, x2, z3, z4]
  | [], y3, y4, _ => ⟨y3, y4, by simp [forL]⟩
  | (a, b) :: l, y3, y4, h => by
    obtain ⟨⟨h1, h2⟩, h3, h4⟩ := h (a, b) (List.mem_cons_self ..)
    obtain ⟨z3, z4, e⟩ := web_init_l1 p x0 x2 l (.int a) (.int b) fun q hq => h q (List.mem_cons_of_mem _ hq)
    refine ⟨z3, z4, ?_⟩
    rw [← e]
    simp at h1 h2 h3 h4
    simp [forL, f_Web_init_l1, h1, h2, h3, h4]
theorem web_init_ok (p : Int) (l : List (Int × Int)) (h1 : 1 ≤ p) (h2 : p ≤ 14) (h3 : l.length ≤ 30) (h4 : EndsOk p l) : g_Web_init [.int p, .ls (l.map dP)] = .ok [.int p, .ol (l.map dP)] := by
  refine mirI_eq fun x => ?_
  obtain ⟨z3, z4, e⟩ := web_init_l1 p (.oo (some x) 14 []) (.ls (l.map dP)) l .un .un h4
  have h5 : ¬ (30 < (l.length : Int)) := by omega
  simp [runI, f_Web_init, h1, h2, h5, e, outI]
def goodAux (count : Int) : Int → List Int → Bool
  | _, [] => true
  | a, x :: l => !(decide (x ≤ a)) && !(decide (x ≥ count)) && goodAux count x l
def goodB (count : Int) (l : List Int) : Bool := goodAux count (-1) l
end Lw

noncomputable section
namespace Lw
open DL
end Lw
end

namespace Lw
open DL L2
def nth (m : List Int) (i : Int) : Int := m.getD i.toNat 0
theorem nth_at {m : List Int} {i : Int} (h0 : 0 ≤ i) (h1 : i < m.length) : atI m i = some (nth m i) := by
  obtain ⟨a, e, e2⟩ := DL.atI_of h0 h1
  rw [e]; simp [nth, List.getD_eq_getElem?_getD, e2]
def tieAt (ts : List (Int × Int)) (i : Int) : Int × Int := ts.getD i.toNat (0, 0)
theorem tie_at {ts : List (Int × Int)} {i : Int} (h0 : 0 ≤ i) (h1 : i < ts.length) : atI ts i = some (tieAt ts i) ∧ tieAt ts i ∈ ts := by
  obtain ⟨a, e, e2⟩ := DL.atI_of h0 h1
  have : tieAt ts i = a := by simp [tieAt, List.getD_eq_getElem?_getD, e2]
  rw [this]
  exact ⟨e, List.mem_of_getElem? e2⟩
def InT (n : Nat) (l : List Int) : Prop := ∀ t ∈ l, 0 ≤ t ∧ t < n
theorem goodAux_in (n : Nat) : ∀ (l : List Int) (a : Int), -1 ≤ a → goodAux n a l = true → InT n l
  | [], _, _, _ => fun _ h => nomatch h
  | x :: l, a, ha, h => by
    simp only [goodAux, Bool.and_eq_true, Bool.not_eq_true', decide_eq_false_iff_not] at h
    obtain ⟨⟨h1, h2⟩, h3⟩ := h
    intro t ht
    rcases List.mem_cons.mp ht with rfl | ht
    · omega
    · exact goodAux_in n l x (by omega) h3 t ht
theorem good_in {n : Nat} {l : List Int} (h : goodB n l = true) : InT n l := goodAux_in n l (-1) (by omega) h
end Lw

noncomputable section
namespace Lw
open DL
end Lw
end

namespace Lw
open DL L2
def stepL (m : List Int) (t : Int × Int) : List Int := if nth m t.1 = nth m t.2 then m else m.map fun x => if x = nth m t.2 then nth m t.1 else x
def marksL (p : Nat) (ts : List (Int × Int)) (l : List Int) : List Int := l.foldl (fun m t => stepL m (tieAt ts t)) (iota p)
theorem stepL_len (m : List Int) (t : Int × Int) : (stepL m t).length = m.length := by unfold stepL; split <;> simp
theorem foldL_len (ts : List (Int × Int)) : ∀ (l m : List Int), (l.foldl (fun m t => stepL m (tieAt ts t)) m).length = m.length
  | [], m => rfl
  | t :: l, m => by rw [List.foldl_cons, foldL_len ts l, stepL_len]
theorem marksL_len (p : Nat) (ts : List (Int × Int)) (l : List Int) : (marksL p ts l).length = p := by simp [marksL, foldL_len]
theorem nth_map {m : List Int} {f : Int → Int} {i : Int} (h0 : 0 ≤ i) (h1 : i < m.length) : nth (m.map f) i = f (nth m i) := by
  unfold nth
  have : i.toNat < m.length := by omega
  simp [List.getD_eq_getElem?_getD, List.getElem?_map, List.getElem?_eq_getElem this]
end Lw

namespace Lw
open DL L2
theorem nth_mem {m : List Int} {i : Int} (h0 : 0 ≤ i) (h1 : i < m.length) : nth m i ∈ m := by
  have : i.toNat < m.length := by omega
  unfold nth
  rw [List.getD_eq_getElem?_getD, List.getElem?_eq_getElem this]
  exact List.getElem_mem this
theorem mem_nth {m : List Int} {x : Int} (h : x ∈ m) : ∃ i : Int, 0 ≤ i ∧ i < m.length ∧ nth m i = x := by
  obtain ⟨i, hi, e⟩ := List.mem_iff_getElem.mp h
  refine ⟨i, by omega, by omega, ?_⟩
  unfold nth
  simp [List.getD_eq_getElem?_getD, List.getElem?_eq_getElem hi, e]
theorem sset_one {m : List Int} (h : 1 ≤ m.length) : (sset m).length = 1 ↔ ∀ i : Int, 0 ≤ i → i < m.length → nth m i = nth m 0 := by
  constructor
  · intro e i i0 i1
    obtain ⟨x, hx⟩ := List.length_eq_one_iff.mp e
    have a := (sset_mem (nth m i) m).mpr (nth_mem i0 i1)
    have b := (sset_mem (nth m 0) m).mpr (nth_mem (Int.le_refl 0) (by omega))
    rw [hx] at a b
    rw [List.mem_singleton.mp a, List.mem_singleton.mp b]
  · intro k
    have : sset m = [nth m 0] := rise_uniq (sset_rise m) (by simp) fun x => by
      rw [sset_mem, List.mem_singleton]
      constructor
      · intro hx
        obtain ⟨i, i0, i1, rfl⟩ := mem_nth hx
        exact k i i0 i1
      · rintro rfl
        exact nth_mem (Int.le_refl 0) (by omega)
    rw [this]; rfl
def up (lo : Int) : Nat → List Int
  | 0 => []
  | k + 1 => lo :: up (lo + 1) k
end Lw

namespace Lw
open DL L2
inductive Conn (es : List (Int × Int)) : Int → Int → Prop
  | refl (a : Int) : Conn es a a
  | tie {a b : Int} : (a, b) ∈ es → Conn es a b
  | symm {a b : Int} : Conn es a b → Conn es b a
  | trans {a b c : Int} : Conn es a b → Conn es b c → Conn es a c
theorem Conn.mono {es fs : List (Int × Int)} (h : ∀ e ∈ es, e ∈ fs) {a b : Int} (c : Conn es a b) : Conn fs a b := by
  induction c with
  | refl a => exact .refl a
  | tie h' => exact .tie (h _ h')
  | symm _ ih => exact ih.symm
  | trans _ _ ih1 ih2 => exact ih1.trans ih2
theorem Conn.le {es fs : List (Int × Int)} (h : ∀ e ∈ es, Conn fs e.1 e.2) {a b : Int} (c : Conn es a b) : Conn fs a b := by
  induction c with
  | refl a => exact .refl a
  | tie h' => exact h _ h'
  | symm _ ih => exact ih.symm
  | trans _ _ ih1 ih2 => exact ih1.trans ih2
theorem conn_snoc {es : List (Int × Int)} {t : Int × Int} {i j : Int} : Conn (es ++ [t]) i j ↔ Conn es i j ∨ (Conn es i t.1 ∧ Conn es t.2 j) ∨ (Conn es i t.2 ∧ Conn es t.1 j) := by
  constructor
  · intro c
    induction c with
    | refl a => exact .inl (.refl a)
    | tie h =>
      rcases List.mem_append.mp h with h | h
      · exact .inl (.tie h)
      · simp at h
        subst h
        exact .inr (.inl ⟨.refl _, .refl _⟩)
    | symm _ ih =>
      rcases ih with h | ⟨h1, h2⟩ | ⟨h1, h2⟩
      · exact .inl h.symm
      · exact .inr (.inr ⟨h2.symm, h1.symm⟩)
      · exact .inr (.inl ⟨h2.symm, h1.symm⟩)
    | trans _ _ ih1 ih2 =>
      rcases ih1 with h | ⟨h1, h2⟩ | ⟨h1, h2⟩ <;> rcases ih2 with k | ⟨k1, k2⟩ | ⟨k1, k2⟩
      · exact .inl (h.trans k)
      · exact .inr (.inl ⟨h.trans k1, k2⟩)
      · exact .inr (.inr ⟨h.trans k1, k2⟩)
      · exact .inr (.inl ⟨h1, h2.trans k⟩)
      · exact .inl ((h1.trans (h2.trans k1).symm).trans k2)
      · exact .inl (h1.trans k2)
      · exact .inr (.inr ⟨h1, h2.trans k⟩)
      · exact .inl (h1.trans k2)
      · exact .inl ((h1.trans (h2.trans k1).symm).trans k2)
  · have m : ∀ {a b}, Conn es a b → Conn (es ++ [t]) a b := fun c => c.mono fun e h => List.mem_append_left _ h
    have ht : Conn (es ++ [t]) t.1 t.2 := .tie (List.mem_append_right _ (by simp))
    rintro (h | ⟨h1, h2⟩ | ⟨h1, h2⟩)
    · exact m h
    · exact ((m h1).trans ht).trans (m h2)
    · exact ((m h1).trans ht.symm).trans (m h2)
theorem conn_nil {i j : Int} (c : Conn [] i j) : i = j := by
  induction c with
  | refl a => rfl
  | tie h => exact (nomatch h)
  | symm _ ih => exact ih.symm
  | trans _ _ ih1 ih2 => exact ih1.trans ih2
def mk (p : Nat) (es : List (Int × Int)) : List Int := es.foldl stepL (iota p)
theorem mk_len (p : Nat) (es : List (Int × Int)) : (mk p es).length = p := by
  have : ∀ (es : List (Int × Int)) (m : List Int), (es.foldl stepL m).length = m.length := by
    intro es
    induction es with
    | nil => intro m; rfl
    | cons t es ih => intro m; rw [List.foldl_cons, ih, stepL_len]
  unfold mk
  rw [this]; simp
theorem mk_snoc (p : Nat) (es : List (Int × Int)) (t : Int × Int) : mk p (es ++ [t]) = stepL (mk p es) t := by simp [mk, List.foldl_append]
theorem marksL_mk (p : Nat) (ts : List (Int × Int)) (l : List Int) : marksL p ts l = mk p (l.map (tieAt ts)) := by unfold marksL mk; rw [List.foldl_map]
theorem nth_iota {p : Nat} {i : Int} (h0 : 0 ≤ i) (h1 : i < p) : nth (iota p) i = i := by
  have : i.toNat < p := by omega
  unfold nth iota
  rw [List.getD_eq_getElem?_getD, List.getElem?_map, List.getElem?_range this]
  simp; omega
theorem stepL_same {m : List Int} {t : Int × Int} {i j : Int} (hi : 0 ≤ i ∧ i < m.length) (hj : 0 ≤ j ∧ j < m.length) :
    nth (stepL m t) i = nth (stepL m t) j ↔ nth m i = nth m j ∨ (nth m i = nth m t.1 ∧ nth m t.2 = nth m j) ∨ (nth m i = nth m t.2 ∧ nth m t.1 = nth m j) := by
  unfold stepL
  by_cases c : nth m t.1 = nth m t.2
  · rw [if_pos c, c]
    constructor
    · exact .inl
    · rintro (h | ⟨h1, h2⟩ | ⟨h1, h2⟩)
      · exact h
      · exact h1.trans h2
      · exact h1.trans h2
  · rw [if_neg c, nth_map hi.1 hi.2, nth_map hj.1 hj.2]
    generalize nth m t.1 = a at *
    generalize nth m t.2 = b at *
    generalize nth m i = x at *
    generalize nth m j = y at *
    by_cases u1 : x = b <;> by_cases u2 : y = b <;> simp [u1, u2] <;> omega
theorem mk_conn (p : Nat) : ∀ (n : Nat) (es : List (Int × Int)), es.length = n → EndsOk p es → ∀ i j : Int, 0 ≤ i → i < p → 0 ≤ j → j < p → (nth (mk p es) i = nth (mk p es) j ↔ Conn es i j)
  | 0, es, hn, hE, i, j, i0, i1, j0, j1 => by
    obtain rfl := List.eq_nil_of_length_eq_zero hn
    show nth (iota p) i = nth (iota p) j ↔ _
    rw [nth_iota i0 i1, nth_iota j0 j1]
    constructor
    · rintro rfl; exact .refl _
    · exact conn_nil
  | n + 1, es, hn, hE, i, j, i0, i1, j0, j1 => by
    have hne : es ≠ [] := by intro z; subst z; simp at hn
    have hsp := List.dropLast_concat_getLast hne
    generalize es.dropLast = fs at hsp
    generalize es.getLast hne = t at hsp
    subst hsp
    have hf : EndsOk p fs := fun e h => hE e (List.mem_append_left _ h)
    have ht := hE t (List.mem_append_right _ (by simp))
    have ih := mk_conn p n fs (by simpa using hn) hf
    rw [mk_snoc, stepL_same ⟨i0, by rw [mk_len]; exact i1⟩ ⟨j0, by rw [mk_len]; exact j1⟩, conn_snoc, ih i j i0 i1 j0 j1, ih i t.1 i0 i1 ht.1.1 ht.1.2, ih t.2 j ht.2.1 ht.2.2 j0 j1, ih i t.2 i0 i1 ht.2.1 ht.2.2, ih t.1 j ht.1.1 ht.1.2 j0 j1]
end Lw

namespace Lw
open DL L2
theorem nodup_le : ∀ {l m : List Int}, l.Nodup → (∀ x ∈ l, x ∈ m) → l.length ≤ m.length
  | [], m, _, _ => Nat.zero_le _
  | x :: l, m, h, k => by
    have hx := k x (List.mem_cons_self ..)
    obtain ⟨h1, h2⟩ := List.nodup_cons.mp h
    have := nodup_le (l := l) (m := m.erase x) h2 fun y hy => (List.mem_erase_of_ne (fun (z : y = x) => h1 (by rw [← z]; exact hy))).mpr (k y (List.mem_cons_of_mem _ hy))
    rw [List.length_erase_of_mem hx] at this
    have hp : 0 < m.length := List.length_pos_of_mem hx
    simp only [List.length_cons]
    omega
theorem idx_nth {m : List Int} {x : Int} (h : x ∈ m) : ((m.idxOf x : Nat) : Int) < m.length ∧ nth m (m.idxOf x : Nat) = x := by
  have hl := List.idxOf_lt_length_of_mem h
  refine ⟨by omega, ?_⟩
  unfold nth
  simp [List.getD_eq_getElem?_getD, List.getElem?_eq_getElem hl, List.getElem_idxOf]
theorem sset_le {m m' : List Int} (hl : m.length = m'.length) (h : ∀ i j : Int, 0 ≤ i → i < m.length → 0 ≤ j → j < m.length → nth m i = nth m j → nth m' i = nth m' j) : (sset m').length ≤ (sset m).length := by
  have : (sset m').length ≤ ((sset m).map fun x => nth m' (m.idxOf x : Nat)).length := by
    refine nodup_le (rise_nodup (sset_rise m')) fun y hy => ?_
    obtain ⟨i, i0, i1, rfl⟩ := mem_nth ((sset_mem y m').mp hy)
    have hx : nth m i ∈ m := nth_mem i0 (by omega)
    obtain ⟨k1, k2⟩ := idx_nth hx
    refine List.mem_map.mpr ⟨nth m i, (sset_mem _ m).mpr hx, ?_⟩
    exact h _ i (by omega) k1 i0 (by omega) k2
  simpa using this
def cnt (p : Nat) (es : List (Int × Int)) : Nat := (sset (mk p es)).length
theorem cnt_le {p : Nat} {es fs : List (Int × Int)} (h1 : EndsOk p es) (h2 : EndsOk p fs) (h : ∀ e ∈ es, Conn fs e.1 e.2) : cnt p fs ≤ cnt p es := by
  refine sset_le (by rw [mk_len, mk_len]) fun i j i0 i1 j0 j1 e => ?_
  rw [mk_len] at i1 j1
  rw [mk_conn p _ es rfl h1 i j i0 i1 j0 j1] at e
  exact (mk_conn p _ fs rfl h2 i j i0 i1 j0 j1).mpr (e.le h)
theorem cnt_eq {p : Nat} {es fs : List (Int × Int)} (h1 : EndsOk p es) (h2 : EndsOk p fs) (h : ∀ e ∈ es, Conn fs e.1 e.2) (h' : ∀ e ∈ fs, Conn es e.1 e.2) : cnt p es = cnt p fs :=
  Nat.le_antisymm (cnt_le h2 h1 h') (cnt_le h1 h2 h)
theorem cnt_set {p : Nat} {es fs : List (Int × Int)} (h1 : EndsOk p es) (h2 : EndsOk p fs) (h : ∀ e, e ∈ es ↔ e ∈ fs) : cnt p es = cnt p fs :=
  cnt_eq h1 h2 (fun e he => .tie ((h e).mp he)) fun e he => .tie ((h e).mpr he)
theorem cnt_nil (p : Nat) : cnt p [] = p := by
  show (sset (iota p)).length = p
  rw [rise_uniq (sset_rise (iota p)) (m := iota p) ?_ fun k => sset_mem k _]
  · simp
  · unfold iota
    rw [List.pairwise_map]
    exact List.pairwise_lt_range.imp fun h => by omega
theorem cnt_same {p : Nat} {es : List (Int × Int)} {t : Int × Int} (h : EndsOk p (es ++ [t])) (c : Conn es t.1 t.2) : cnt p (es ++ [t]) = cnt p es := by
  refine cnt_eq h (fun e he => h e (List.mem_append_left _ he)) (fun e he => ?_) fun e he => .tie (List.mem_append_left _ he)
  rcases List.mem_append.mp he with z | z
  · exact .tie z
  · simp at z; subst z; exact c
theorem sset_step {m : List Int} {t : Int × Int} (h1 : 0 ≤ t.1 ∧ t.1 < m.length) (h2 : 0 ≤ t.2 ∧ t.2 < m.length) (n : nth m t.1 ≠ nth m t.2) : (sset (stepL m t)).length + 1 = (sset m).length := by
  have hb : nth m t.2 ∈ sset m := (sset_mem _ m).mpr (nth_mem h2.1 h2.2)
  have nd := rise_nodup (sset_rise m)
  have e : sset (stepL m t) = (sset m).erase (nth m t.2) := by
    refine rise_uniq (sset_rise _) ((sset_rise m).sublist List.erase_sublist) fun k => ?_
    rw [sset_mem, nd.mem_erase_iff, sset_mem]
    unfold stepL
    rw [if_neg n, List.mem_map]
    constructor
    · rintro ⟨x, hx, rfl⟩
      by_cases c : x = nth m t.2
      · rw [if_pos c]; exact ⟨n, nth_mem h1.1 h1.2⟩
      · rw [if_neg c]; exact ⟨c, hx⟩
    · rintro ⟨c, hx⟩
      exact ⟨k, hx, if_neg c⟩
  rw [e, List.length_erase_of_mem hb]
  have := List.length_pos_of_mem hb
  omega
theorem cnt_new {p : Nat} {es : List (Int × Int)} {t : Int × Int} (h : EndsOk p (es ++ [t])) (c : ¬ Conn es t.1 t.2) : cnt p (es ++ [t]) + 1 = cnt p es := by
  have ht := h t (by simp)
  have hf : EndsOk p es := fun e he => h e (List.mem_append_left _ he)
  unfold cnt
  rw [mk_snoc]
  refine sset_step ⟨ht.1.1, by rw [mk_len]; exact ht.1.2⟩ ⟨ht.2.1, by rw [mk_len]; exact ht.2.2⟩ fun e => c ?_
  exact (mk_conn p _ es rfl hf t.1 t.2 ht.1.1 ht.1.2 ht.2.1 ht.2.2).mp e
theorem snoc_of {α : Type} {es : List α} {n : Nat} (h : es.length = n + 1) : ∃ fs t, es = fs ++ [t] ∧ fs.length = n := by
  have hne : es ≠ [] := by intro z; subst z; simp at h
  exact ⟨es.dropLast, es.getLast hne, (List.dropLast_concat_getLast hne).symm, by simp; omega⟩
theorem cnt_lo (p : Nat) : ∀ (n : Nat) (es : List (Int × Int)), es.length = n → EndsOk p es → p ≤ cnt p es + n
  | 0, es, hn, hE => by
    obtain rfl := List.eq_nil_of_length_eq_zero hn
    rw [cnt_nil]; omega
  | n + 1, es, hn, hE => by
    obtain ⟨fs, t, rfl, hl⟩ := snoc_of hn
    have ih := cnt_lo p n fs hl fun e he => hE e (List.mem_append_left _ he)
    by_cases c : Conn fs t.1 t.2
    · rw [cnt_same hE c]; omega
    · have := cnt_new hE c; omega
theorem cnt_one {p : Nat} (hp : 1 ≤ p) {es : List (Int × Int)} (hE : EndsOk p es) : cnt p es = 1 ↔ ∀ i j : Int, 0 ≤ i → i < p → 0 ≤ j → j < p → Conn es i j := by
  unfold cnt
  rw [sset_one (by rw [mk_len]; exact hp), mk_len]
  constructor
  · intro h i j i0 i1 j0 j1
    exact (mk_conn p _ es rfl hE i j i0 i1 j0 j1).mp ((h i i0 i1).trans (h j j0 j1).symm)
  · intro h i i0 i1
    exact (mk_conn p _ es rfl hE i 0 i0 i1 (by omega) (by omega)).mpr (h i 0 i0 i1 (by omega) (by omega))
def tiesAt (ts : List (Int × Int)) (l : List Int) : List (Int × Int) := l.map (tieAt ts)
theorem tiesAt_ok {p : Int} {ts : List (Int × Int)} (hE : EndsOk p ts) {l : List Int} (hl : InT ts.length l) : EndsOk p (tiesAt ts l) := fun e he => by
  obtain ⟨t, ht, rfl⟩ := List.mem_map.mp he
  obtain ⟨t0, t1⟩ := hl t ht
  exact hE _ (tie_at t0 t1).2
theorem nthL (p : Nat) (ts : List (Int × Int)) (hE : EndsOk p ts) (l : List Int) (hl : InT ts.length l) (i j : Int) (i0 : 0 ≤ i) (i1 : i < p) (j0 : 0 ≤ j) (j1 : j < p) : nth (marksL p ts l) i = nth (marksL p ts l) j ↔ Conn (tiesAt ts l) i j := by
  rw [marksL_mk]
  exact mk_conn p _ _ rfl (tiesAt_ok hE hl) i j i0 i1 j0 j1
def treeB (p : Int) (ts : List (Int × Int)) (l : List Int) : Bool := decide ((l.length : Int) = p - 1) && goodB ts.length l && decide (cnt p.toNat (tiesAt ts l) = 1)
end Lw

noncomputable section
namespace Lw
open DL
end Lw
end

namespace Lw
open DL L2
end Lw

noncomputable section
namespace Lw
open DL
end Lw
end

namespace Lw
open DL L2
theorem goodAux_of {n : Int} : ∀ {l : List Int} {a : Int}, (∀ x ∈ l, a < x ∧ x < n) → l.Pairwise (· < ·) → goodAux n a l = true
  | [], _, _, _ => rfl
  | x :: l, a, h, hp => by
    obtain ⟨h1, h2⟩ := List.pairwise_cons.mp hp
    have hx := h x (List.mem_cons_self ..)
    simp only [goodAux, Bool.and_eq_true, Bool.not_eq_true', decide_eq_false_iff_not]
    exact ⟨⟨by omega, by omega⟩, goodAux_of (fun y hy => ⟨h1 y hy, (h y (List.mem_cons_of_mem _ hy)).2⟩) h2⟩
theorem good_of {n : Nat} {l : List Int} (h : InT n l) (hp : l.Pairwise (· < ·)) : goodB n l = true :=
  goodAux_of (fun x hx => ⟨by have := h x hx; omega, (h x hx).2⟩) hp
theorem srt_mem {l : List Int} {x : Int} : x ∈ srt l ↔ x ∈ l := (srt_perm l).mem_iff
theorem srt_lt {l : List Int} (h : l.Nodup) : (srt l).Pairwise (· < ·) := by
  have h1 := srt_sorted l
  have h2 : (srt l).Nodup := (srt_perm l).nodup_iff.mpr h
  exact (h1.and h2).imp fun ⟨a, b⟩ => by omega
theorem srt_good {n : Nat} {l : List Int} (h : InT n l) (hn : l.Nodup) : goodB n (srt l) = true := good_of (fun t ht => h t (srt_mem.mp ht)) (srt_lt hn)
theorem tiesAt_mem {ts : List (Int × Int)} {l m : List Int} (h : ∀ x, x ∈ l ↔ x ∈ m) : ∀ e, e ∈ tiesAt ts l ↔ e ∈ tiesAt ts m := fun e => by
  unfold tiesAt
  simp only [List.mem_map, h]
structure Grown (p : Nat) (ts : List (Int × Int)) (i : Nat) (left some : List Int) : Prop where
  len : left.length + i = ts.length
  nd : left.Nodup
  lin : InT ts.length left
  snd : some.Nodup
  sin : InT ts.length some
  sl : ∀ x ∈ some, x ∉ left
  ct : cnt p (tiesAt ts some) + some.length = p
  al : ∀ t : Int, 0 ≤ t ∧ t < ts.length → t ∉ left → Conn (tiesAt ts some) (tieAt ts t).1 (tieAt ts t).2
end Lw

noncomputable section
namespace Lw
open DL
end Lw
end

namespace Lw
open DL L2 TL
section
variable (L : List (List Int))
@[simp] theorem brws_T : brws (L.map dT) = L.map dT := (dulls dull_T L).1
@[simp] theorem frzs_T : frzs (L.map dT) = L.map dT := (dulls dull_T L).2.1
@[simp] theorem plns_T : plns (L.map dT) = L.map dT := (dulls dull_T L).2.2.1
@[simp] theorem nods_T : nods (L.map dT) = true := (dulls dull_T L).2.2.2.1
@[simp] theorem shd_T : shd (L.map dT) = true := (dulls dull_T L).2.2.2.2.1
@[simp] theorem ploks_T : ploks (L.map dT) = true := (dulls dull_T L).2.2.2.2.2
end
theorem goodAux_rise {n : Int} : ∀ {l : List Int} {a : Int}, goodAux n a l = true → (∀ x ∈ l, a < x) ∧ l.Pairwise (· < ·)
  | [], _, _ => ⟨fun _ h => (nomatch h), .nil⟩
  | x :: l, a, g => by
    simp only [goodAux, Bool.and_eq_true, Bool.not_eq_true', decide_eq_false_iff_not] at g
    obtain ⟨h1, h2⟩ := goodAux_rise g.2
    refine ⟨fun y hy => ?_, List.pairwise_cons.mpr ⟨h1, h2⟩⟩
    rcases List.mem_cons.mp hy with rfl | hy
    · omega
    · have := h1 y hy; omega
theorem good_iff {n : Nat} {l : List Int} : goodB n l = true ↔ InT n l ∧ l.Pairwise (· < ·) := ⟨fun h => ⟨good_in h, (goodAux_rise h).2⟩, fun h => good_of h.1 h.2⟩
theorem good_nodup {n : Nat} {l : List Int} (h : goodB n l = true) : l.Nodup := rise_nodup (good_iff.mp h).2
def allB (q : Nat) : Nat → List (List Int)
  | 0 => [[]]
  | k + 1 => allB q k ++ ((allB q k).filter fun l => decide (l.length < q)).map (· ++ [(k : Int)])
theorem allB_mem (q : Nat) : ∀ (k : Nat) (l : List Int), l ∈ allB q k ↔ l.length ≤ q ∧ goodB k l = true
  | 0, l => by
    simp only [allB, List.mem_singleton]
    constructor
    · rintro rfl; simp [goodB, goodAux]
    · rintro ⟨_, h⟩
      match l, good_in h with
      | [], _ => rfl
      | x :: l, h => have := h x (List.mem_cons_self ..); omega
  | k + 1, l => by
    simp only [allB, List.mem_append, List.mem_map, List.mem_filter, decide_eq_true_eq, allB_mem q k]
    constructor
    · rintro (⟨h1, h2⟩ | ⟨m, ⟨⟨h1, h2⟩, h3⟩, rfl⟩)
      · obtain ⟨k1, k2⟩ := good_iff.mp h2
        exact ⟨h1, good_of (fun t ht => by have := k1 t ht; omega) k2⟩
      · obtain ⟨k1, k2⟩ := good_iff.mp h2
        refine ⟨by simp; omega, good_of (fun t ht => ?_) ?_⟩
        · rcases List.mem_append.mp ht with z | z
          · have := k1 t z; omega
          · simp at z; omega
        · rw [List.pairwise_append]
          exact ⟨k2, List.pairwise_singleton _ _, fun a ha b hb => by simp at hb; have := k1 a ha; omega⟩
    · rintro ⟨h1, h2⟩
      obtain ⟨k1, k2⟩ := good_iff.mp h2
      by_cases hk : (k : Int) ∈ l
      · right
        have hne : l ≠ [] := List.ne_nil_of_mem hk
        have hs := List.dropLast_concat_getLast hne
        generalize l.dropLast = m at hs
        generalize l.getLast hne = x at hs
        subst hs
        rw [List.pairwise_append] at k2
        obtain ⟨p1, _, p3⟩ := k2
        have hx := k1 x (by simp)
        have ex : x = (k : Int) := by
          rcases List.mem_append.mp hk with z | z
          · have := p3 _ z x (by simp); omega
          · simp at z; exact z.symm
        subst ex
        refine ⟨m, ⟨⟨by simp at h1; omega, good_of (fun t ht => ?_) p1⟩, by simp at h1; omega⟩, rfl⟩
        have a := k1 t (List.mem_append_left _ ht)
        have b := p3 t ht (k : Int) (by simp)
        omega
      · left
        refine ⟨h1, good_of (fun t ht => ?_) k2⟩
        have := k1 t ht
        have ne : t ≠ (k : Int) := fun z => hk (z ▸ ht)
        omega
theorem allB_nodup (q : Nat) : ∀ k : Nat, (allB q k).Nodup
  | 0 => by simp [allB]
  | k + 1 => by
    simp only [allB]
    rw [List.nodup_append]
    refine ⟨allB_nodup q k, ?_, fun a ha b hb e => ?_⟩
    · refine List.Pairwise.map _ (fun a b h e => h ?_) ((allB_nodup q k).filter _)
      simpa using e
    · obtain ⟨m, _, rfl⟩ := List.mem_map.mp hb
      subst e
      have := good_in ((allB_mem q k _).mp ha).2 (k : Int) (by simp)
      omega
theorem allB_len (q : Nat) : ∀ k : Nat, (allB q k).length ≤ 2 ^ k
  | 0 => by simp [allB]
  | k + 1 => by
    have := allB_len q k
    have h2 := List.length_filter_le (fun l : List Int => decide (l.length < q)) (allB q k)
    simp only [allB, List.length_append, List.length_map, Nat.pow_succ]
    omega
theorem tree_parts' {p : Nat} {ts : List (Int × Int)} {l : List Int} (h : treeB p ts l = true) : (l.length : Int) = p - 1 ∧ goodB ts.length l = true ∧ InT ts.length l ∧ cnt p (tiesAt ts l) = 1 := by
  simp only [treeB, Bool.and_eq_true, decide_eq_true_eq, Int.toNat_natCast] at h
  exact ⟨h.1.1, h.1.2, good_in h.1.2, h.2⟩
def trees (p : Nat) (ts : List (Int × Int)) : List (List Int) := srtL ((allB (p - 1) ts.length).filter (treeB p ts))
theorem trees_mem {p : Nat} (hp : 1 ≤ p) {ts : List (Int × Int)} {l : List Int} : l ∈ trees p ts ↔ treeB p ts l = true := by
  unfold trees
  rw [(srtL_perm _).mem_iff, List.mem_filter, allB_mem]
  constructor
  · exact fun h => h.2
  · intro h
    obtain ⟨k1, k2, _⟩ := tree_parts' h
    exact ⟨⟨by omega, k2⟩, h⟩
theorem trees_nodup (p : Nat) (ts : List (Int × Int)) : (trees p ts).Nodup := (srtL_perm _).nodup_iff.mpr ((allB_nodup _ _).filter _)
theorem trees_len (p : Nat) (ts : List (Int × Int)) : (trees p ts).length ≤ 2 ^ ts.length := by
  unfold trees
  rw [srtL_len]
  exact Nat.le_trans (List.length_filter_le ..) (allB_len _ _)
end Lw

namespace Lw
open DL L2 TL
def dR (l : List Int) : D := .ls (l.map D.int)
theorem dull_R (l : List Int) : dull (dR l) := by
  refine ⟨?_, ?_, ?_, ?_, ?_, ?_⟩ <;> simp [dR]
theorem bR (L : List (List Int)) : brws (L.map dR) = L.map dR ∧ frzs (L.map dR) = L.map dR ∧ plns (L.map dR) = L.map dR ∧ nods (L.map dR) = true ∧ shd (L.map dR) = true ∧ ploks (L.map dR) = true := dulls dull_R L
def rowN (L : List (List Int)) (r : Nat) : List Int := L.getD r []
def ent (L : List (List Int)) (r c : Nat) : Int := (rowN L r).getD c 0
structure Sq (n : Nat) (L : List (List Int)) : Prop where
  len : L.length = n
  row : ∀ l ∈ L, l.length = n
theorem Sq.rowl {n : Nat} {L : List (List Int)} (h : Sq n L) {r : Nat} (hr : r < n) : (rowN L r).length = n := by
  have : rowN L r = L[r]'(by rw [h.len]; exact hr) := by unfold rowN; rw [List.getD_eq_getElem?_getD, List.getElem?_eq_getElem (by rw [h.len]; exact hr)]; rfl
  rw [this]
  exact h.row _ (List.getElem_mem _)
theorem at_row {L : List (List Int)} {r : Nat} (hr : r < L.length) : atI (L.map dR) (r : Int) = some (dR (rowN L r)) := by
  rw [DL.atI_map, DL.atI_natG (j := r) rfl hr, List.getElem?_eq_getElem hr]
  unfold rowN
  rw [List.getD_eq_getElem?_getD, List.getElem?_eq_getElem hr]
  rfl
theorem at_num {l : List Int} {c : Nat} (hc : c < l.length) : atI (l.map D.int) (c : Int) = some (.int (l.getD c 0)) := by
  rw [DL.atI_map, DL.atI_natG (j := c) rfl hc, List.getElem?_eq_getElem hc, List.getD_eq_getElem?_getD, List.getElem?_eq_getElem hc]
  rfl
theorem at_ent {n : Nat} {L : List (List Int)} (h : Sq n L) {r c : Nat} (hr : r < n) (hc : c < n) : atI ((rowN L r).map D.int) (c : Int) = some (.int (ent L r c)) := at_num (by rw [h.rowl hr]; exact hc)
theorem look_tab_ok {n : Nat} {L : List (List Int)} (h : Sq n L) : g_look_at_table [.ls (L.map dR)] = .ok .non := by
  have key : ∀ (M : List (List Int)) (y1 : D), (∀ l ∈ M, l.length = n) → ∃ z1, forL (gtN 1) f_look_at_table_l1 (M.map dR) [.ls (L.map dR), y1] = .nx [.ls (L.map dR), z1] := by
    intro M
    induction M with
    | nil => exact fun y1 _ => ⟨y1, by simp [forL]⟩
    | cons l M ih =>
      intro y1 hM
      obtain ⟨z1, e⟩ := ih (dR l) fun x hx => hM x (List.mem_cons_of_mem _ hx)
      refine ⟨z1, ?_⟩
      rw [← e]
      have hl := hM l (List.mem_cons_self ..)
      have hL := h.len
      simp [forL, f_look_at_table_l1, dR, hl, hL]
  obtain ⟨z1, e⟩ := key L .un h.row
  simp [g_look_at_table, runF, f_look_at_table, e]
theorem first_l1 {n : Nat} {L : List (List Int)} (h : Sq n L) (hn : n ≤ 1000) (k : Nat) (hk : k < n) : ∀ (m lo : Nat) (y2 : D), lo + m ≤ n →
    (∃ r, lo ≤ r ∧ r < lo + m ∧ ent L r k ≠ 0 ∧ (∀ i, lo ≤ i → i < r → ent L i k = 0) ∧ forL (gtN 2) f_first_row_with_l1 (rng lo m) [.ls (L.map dR), .int k, y2] = .rt (.int r)) ∨
    ((∀ i, lo ≤ i → i < lo + m → ent L i k = 0) ∧ ∃ z2, forL (gtN 2) f_first_row_with_l1 (rng lo m) [.ls (L.map dR), .int k, y2] = .nx [.ls (L.map dR), .int k, z2])
  | 0, lo, y2, _ => .inr ⟨fun i h1 h2 => absurd h2 (by omega), y2, by simp [rng_zero, forL]⟩
  | m + 1, lo, y2, hm => by
    have e1 := at_row (L := L) (r := lo) (by rw [h.len]; omega)
    have e2 := at_ent h (r := lo) (c := k) (by omega) hk
    by_cases c : ent L lo k = 0
    · rw [c] at e2
      have step : forL (gtN 2) f_first_row_with_l1 (rng lo (m + 1)) [.ls (L.map dR), .int k, y2] = forL (gtN 2) f_first_row_with_l1 (rng ((lo : Int) + 1) m) [.ls (L.map dR), .int k, .int lo] := by
        rw [rng_succ]
        simp [forL, f_first_row_with_l1, e1, dR, e2]
      rw [step]
      rcases first_l1 h hn k hk m (lo + 1) (.int lo) (by omega) with ⟨r, r1, r2, r3, r4, r5⟩ | ⟨r1, z2, r2⟩
      · left
        refine ⟨r, by omega, by omega, r3, fun i h1 h2 => ?_, r5⟩
        by_cases q : i = lo
        · rw [q]; exact c
        · exact r4 i (by omega) h2
      · right
        refine ⟨fun i h1 h2 => ?_, z2, r2⟩
        by_cases q : i = lo
        · rw [q]; exact c
        · exact r1 i (by omega) (by omega)
    · left
      refine ⟨lo, Nat.le_refl _, by omega, c, fun i h1 h2 => absurd h2 (by omega), ?_⟩
      rw [rng_succ]
      simp [forL, f_first_row_with_l1, e1, dR, e2, c]
theorem first_ok {n : Nat} {L : List (List Int)} (h : Sq n L) (hn : n ≤ 1000) (k : Nat) (hk : k < n) :
    (∃ r, k ≤ r ∧ r < n ∧ ent L r k ≠ 0 ∧ (∀ i, k ≤ i → i < r → ent L i k = 0) ∧ g_first_row_with [.ls (L.map dR), .int k] = .ok (.int r)) ∨
    ((∀ i, k ≤ i → i < n → ent L i k = 0) ∧ g_first_row_with [.ls (L.map dR), .int k] = .ok .non) := by
  have r1 : rgOk (k : Int) := rgOk_of (by omega) (by omega)
  have r2 : rgOk (n : Int) := rgOk_of (by omega) (by omega)
  have hL := h.len
  have en : ((n : Int) - (k : Int)).toNat = n - k := by omega
  rcases first_l1 h hn k hk (n - k) k .un (by omega) with ⟨r, q1, q2, q3, q4, q5⟩ | ⟨q1, z2, q2⟩
  · exact .inl ⟨r, q1, by omega, q3, q4, by simp [g_first_row_with, runF, f_first_row_with, r1, r2, hL, en, q5]⟩
  · exact .inr ⟨fun i h1 h2 => q1 i h1 (by omega), by simp [g_first_row_with, runF, f_first_row_with, r1, r2, hL, en, q2]⟩
theorem opDiv_exact {a : Int} (h : divOk a) (q : Int) : opDiv (.int (a * q)) (.int a) = some (.int q) := by
  show (if divOk a then some (D.int (if 0 < a then a * q / a else (a * q).fdiv a)) else none) = _
  rw [if_pos h]
  split
  · rw [Int.mul_ediv_cancel_left q h.1]
  · rw [Int.mul_fdiv_cancel_left q h.1]
def Sm (x : Int) : Prop := x.natAbs.log2 < 9000
theorem Sm.mul {x y : Int} (hx : Sm x) (hy : Sm y) : mulOk x y := by
  have h : x.natAbs.log2 + y.natAbs.log2 < 100000000 := by
    unfold Sm at hx hy
    omega
  simp only [mulOk]
  exact Or.inr h
theorem opMul_Sm {x y : Int} (hx : Sm x) (hy : Sm y) : opMul (.int x) (.int y) = some (.int (x * y)) := by rw [opMul_eq, if_pos (hx.mul hy)]
theorem opMul_zeros {k : Nat} (hk : k ≤ 1000) : opMul (.ls [.int 0]) (.int ((k : Int) + 1)) = some (.ol ((List.replicate (k + 1) (0 : Int)).map D.int)) := by
  have e : ((k : Int) + 1).toNat = k + 1 := by omega
  have h1 : (k : Int) + 1 < 9223372036854775808 := by omega
  have h2 : -9223372036854775808 ≤ (k : Int) + 1 := by omega
  have h3 : k + 1 ≤ lim := by rw [lim_eq]; omega
  have h4 : ∀ m : Nat, (List.replicate m [D.int 0]).flatten = (List.replicate m (0 : Int)).map D.int := by
    intro m
    induction m with
    | zero => rfl
    | succ m ih => simp only [List.replicate_succ, List.flatten_cons, ih, List.map_cons]; rfl
  generalize hz : (k : Int) + 1 = z at *
  simp [opMul, h1, h2, h3, h4, e, -List.map_replicate]
def nr (n k : Nat) (q : List Int → Nat → Int) (R : List Int) : List Int := List.replicate (k + 1) (0 : Int) ++ (List.range (n - (k + 1))).map fun i => q R (k + 1 + i)
theorem clr_l1 (x0 x3 : D) {n k : Nat} (kk : Int) (hkk : kk = k) {P R : List Int} {ahead : Int} (hn : n ≤ 1000) (hk : k < n) (hP : P.length = n) (hR : R.length = n) (ha : divOk ahead) (sP : ∀ j, k ≤ j → j < n → Sm (P.getD j 0)) (sR : ∀ j, k ≤ j → j < n → Sm (R.getD j 0)) (q : Nat → Int)
    (hq : ∀ j, k < j → j < n → R.getD j 0 * P.getD k 0 - R.getD k 0 * P.getD j 0 = ahead * q j) : ∀ (m lo : Nat) (A : List Int) (y7 : D), k < lo → lo + m = n → A.length + m ≤ 5000 →
    ∃ z7, forL (gtN 7) f_cleared_l1 (rng lo m) [x0, .int kk, .int ahead, x3, .ls (P.map D.int), .ls (R.map D.int), .ol (A.map D.int), y7] = .nx [x0, .int kk, .int ahead, x3, .ls (P.map D.int), .ls (R.map D.int), .ol ((A ++ (List.range m).map fun i => q (lo + i)).map D.int), z7]
  | 0, lo, A, y7, _, _, _ => ⟨y7, by simp [rng_zero, forL]⟩
  | m + 1, lo, A, y7, h1, h2, h3 => by
    have a1 := at_num (l := R) (c := lo) (by omega)
    have a2 := at_num (l := P) (c := k) (by omega)
    have a3 := at_num (l := R) (c := k) (by omega)
    rw [← hkk] at a2 a3
    have a4 := at_num (l := P) (c := lo) (by omega)
    have m1 := opMul_Sm (sR lo (by omega) (by omega)) (sP k (Nat.le_refl k) hk)
    have m2 := opMul_Sm (sR k (Nat.le_refl k) hk) (sP lo (by omega) (by omega))
    have d1 := opDiv_exact ha (q lo)
    rw [← hq lo h1 (by omega)] at d1
    have bA : A.length < lim := by rw [lim_eq]; omega
    obtain ⟨z7, ih⟩ := clr_l1 x0 x3 kk hkk hn hk hP hR ha sP sR q hq m (lo + 1) (A ++ [q lo]) (.int lo) (by omega) (by omega) (by simp; omega)
    refine ⟨z7, ?_⟩
    have el : A ++ (List.range (m + 1)).map (fun i => q (lo + i)) = A ++ [q lo] ++ (List.range m).map fun i => q (lo + 1 + i) := by
      rw [List.range_succ_eq_map]
      simp [List.map_map, Function.comp_def, Nat.add_assoc, Nat.add_comm 1]
    rw [el, ← ih, rng_succ]
    simp [forL, f_cleared_l1, a1, a2, a3, a4, m1, m2, d1, bA, -List.getD_eq_getElem?_getD]
theorem clr_l2 (x0 : D) {n k : Nat} (kk : Int) (hkk : kk = k) {P : List Int} {ahead : Int} (hn : n ≤ 1000) (hk : k < n) (hP : P.length = n) (ha : divOk ahead) (sP : ∀ j, k ≤ j → j < n → Sm (P.getD j 0)) (q : List Int → Nat → Int) : ∀ (M T : List (List Int)) (y5 y6 y7 : D), T.length + M.length ≤ 5000 →
    (∀ R ∈ M, R.length = n ∧ (∀ j, k ≤ j → j < n → Sm (R.getD j 0)) ∧ ∀ j, k < j → j < n → R.getD j 0 * P.getD k 0 - R.getD k 0 * P.getD j 0 = ahead * q R j) →
    ∃ z5 z6 z7, forL (gtN 5) f_cleared_l2 (M.map dR) [x0, .int kk, .int ahead, .ol (T.map dR), .ls (P.map D.int), y5, y6, y7] = .nx [x0, .int kk, .int ahead, .ol ((T ++ M.map (nr n k q)).map dR), .ls (P.map D.int), z5, z6, z7] := by
  intro M
  induction M with
  | nil => exact fun T y5 y6 y7 _ _ => ⟨y5, y6, y7, by simp [forL]⟩
  | cons R M IH =>
    intro T y5 y6 y7 h1 h2
    obtain ⟨r1, r2, r3⟩ := h2 R (List.mem_cons_self ..)
    have hr1 : rgOk (kk + 1) := rgOk_of (by omega) (by omega)
    have hr2 : rgOk (n : Int) := rgOk_of (by omega) (by omega)
    have en : ((n : Int) - (kk + 1)).toNat = n - (k + 1) := by omega
    have oz := opMul_zeros (k := k) (by omega)
    rw [← hkk] at oz
    obtain ⟨w7, e⟩ := clr_l1 x0 (.ol (T.map dR)) kk hkk hn hk hP r1 ha sP r2 (q R) r3 (n - (k + 1)) (k + 1) (List.replicate (k + 1) 0) y7 (by omega) (by omega) (by simp; omega)
    obtain ⟨z5, z6, z7, ih⟩ := IH (T ++ [nr n k q R]) (dR R) (dR (nr n k q R)) w7 (by simp at h1 ⊢; omega) (fun x hx => h2 x (List.mem_cons_of_mem _ hx))
    refine ⟨z5, z6, z7, ?_⟩
    have el : T ++ (R :: M).map (nr n k q) = T ++ [nr n k q R] ++ M.map (nr n k q) := by simp
    rw [el, ← ih]
    have bT : T.length < lim := by rw [lim_eq]; simp at h1; omega
    rw [show List.replicate (k + 1) (0 : Int) ++ (List.range (n - (k + 1))).map (fun i => q R (k + 1 + i)) = nr n k q R from rfl] at e
    have ec : (((k + 1 : Nat) : Int)) = kk + 1 := by omega
    rw [ec] at e
    obtain ⟨b1, b2, b3, b4, b5, b6⟩ := bR T
    have l1 : 1 ≤ lim := by rw [lim_eq]; omega
    rw [List.map_cons, forL_cons]
    simp only [dR] at e ⊢
    simp [f_cleared_l2, dR, oz, r1, hr1, hr2, en, e, l1, frzAt, bT, -List.map_replicate]
theorem cleared_ok {n k : Nat} (kk : Int) (hkk : kk = k) (hn : n ≤ 1000) (hk : k < n) {L : List (List Int)} (h : Sq n L) {ahead : Int} (ha : divOk ahead) (sP : ∀ j, k ≤ j → j < n → Sm (ent L k j)) (q : List Int → Nat → Int)
    (hq : ∀ R ∈ L.drop (k + 1), (∀ j, k ≤ j → j < n → Sm (R.getD j 0)) ∧ ∀ j, k < j → j < n → R.getD j 0 * ent L k k - R.getD k 0 * ent L k j = ahead * q R j) :
    g_cleared [.ls (L.map dR), .int kk, .int ahead] = .ok (.ol (((L.drop (k + 1)).map (nr n k q)).map dR)) := by
  have ar := at_row (L := L) (r := k) (by rw [h.len]; exact hk)
  rw [← hkk] at ar
  have hl : L.length = n := h.len
  obtain ⟨z5, z6, z7, e⟩ := clr_l2 (.ls (L.map dR)) kk hkk hn hk (h.rowl hk) ha sP q (L.drop (k + 1)) [] .un .un .un (by simp; omega) fun R hR => ⟨h.row R (List.mem_of_mem_drop hR), (hq R hR).1, (hq R hR).2⟩
  have cf : cut L (some (kk + 1)) none = L.drop (k + 1) := by rw [cut_from L (kk + 1) (by omega), show (kk + 1).toNat = k + 1 by omega]
  have bl : (L.drop (k + 1)).length ≤ lim := by rw [List.length_drop, lim_eq]; omega
  have br := bR (L.drop (k + 1))
  simp only [dR, List.map_nil, List.nil_append] at ar e br ⊢
  simp [g_cleared, runF, f_cleared, ar, cf, bl, br, e, -List.map_drop, -List.map_map, -List.length_drop]
end Lw

namespace Lw
open DL L2 TL
theorem body_end (kk : Int) (k n : Nat) (hkk : kk = k) (hn : n ≤ 1000) (hk : k < n) (x0 y6 : D) {L : List (List Int)} (hL : L.length = n) (s ahead : Int) (y5 : D) {M : List (List Int)} (hM : M.length = n - (k + 1)) (hcl : g_cleared [.ls (L.map dR), .int kk, .int ahead] = .ok (.ol (M.map dR)))
    {L2 : List (List Int)} (hL2 : L2 = L.take (k + 1) ++ M) (hS : Sq n L2) {e : Int} (he : e = ent L2 k k) :
    sSeq (sFrz 1 (sAsg 1 (eBin opAdd (eSl (eVar 1) (ePart none) (ePart (some (eBin opAdd (eVar 4) (eC (.int 1)))))) (eOwn g_cleared (aCons (eVar 1) (aCons (eVar 4) (aCons (eVar 3) (aNil)))))))) (sAsgF 3 (eBin opIx (eBin opIx (eVar 1) (eVar 4)) (eVar 4))) [x0, .ol (L.map dR), .int s, .int ahead, .int kk, y5, y6] =
      .nx [x0, .ol (L2.map dR), .int s, .int e, .int kk, y5, y6] := by
  have ar := at_row (L := L2) (r := k) (by rw [hS.len]; exact hk)
  have ae := at_ent hS hk hk
  rw [← hkk] at ar ae
  rw [← he] at ae
  have ct : cut L none (some (kk + 1)) = L.take (k + 1) := by rw [cut_to L (kk + 1) (by omega), show (kk + 1).toNat = k + 1 by omega]
  have b1 : (L.take (k + 1)).length + M.length ≤ lim := by rw [List.length_take, hM, lim_eq]; omega
  have r1 := bR L
  have r2 := bR (L.take (k + 1))
  have r3 := bR M
  have r4 := bR L2
  have el : (L.take (k + 1)).map dR ++ M.map dR = L2.map dR := by rw [hL2, List.map_append]
  have b2 : (L.take (k + 1)).length ≤ lim := by rw [List.length_take, lim_eq]; omega
  simp only [dR] at ar ae el r1 r2 r3 r4 hcl ⊢
  simp [frzAt, r1, r2, r3, r4, ct, hcl, b1, b2, el, ar, ae, -List.map_take, -List.map_append, -List.length_take]
def swL (L : List (List Int)) (k f : Nat) : List (List Int) := (L.set k (rowN L f)).set f (rowN L k)
theorem swL_row {n : Nat} {L : List (List Int)} (h : L.length = n) {k f r : Nat} (hk : k < n) (hf : f < n) (hr : r < n) : rowN (swL L k f) r = rowN L (Dt.sw k f r) := by
  unfold swL Dt.sw
  have g : ∀ (M : List (List Int)) (i : Nat), rowN M i = (M[i]?).getD [] := fun M i => by unfold rowN; rw [List.getD_eq_getElem?_getD]
  rw [g (List.set _ _ _)]
  by_cases q1 : r = f
  · subst q1
    rw [List.getElem?_set_self (by rw [List.length_set]; omega)]
    by_cases q2 : r = k
    · subst q2; simp
    · rw [if_neg q2, if_pos rfl]; rfl
  · rw [List.getElem?_set_ne (fun z => q1 z.symm)]
    by_cases q2 : r = k
    · subst q2
      rw [List.getElem?_set_self (by omega), if_pos rfl]; rfl
    · rw [List.getElem?_set_ne (fun z => q2 z.symm), if_neg q2, if_neg q1, ← g]
theorem swL_sq {n : Nat} {L : List (List Int)} (h : Sq n L) {k f : Nat} (hk : k < n) (hf : f < n) : Sq n (swL L k f) where
  len := by unfold swL; rw [List.length_set, List.length_set, h.len]
  row := fun l hl => by
    unfold swL at hl
    rcases List.mem_or_eq_of_mem_set hl with hl | rfl
    · rcases List.mem_or_eq_of_mem_set hl with hl | rfl
      · exact h.row l hl
      · exact h.rowl hf
    · exact h.rowl hk
def nwL (n : Nat) (L : List (List Int)) (k : Nat) (q : List Int → Nat → Int) : List (List Int) := L.take (k + 1) ++ (L.drop (k + 1)).map (nr n k q)
theorem nr_len {n k : Nat} (hk : k < n) (q : List Int → Nat → Int) (R : List Int) : (nr n k q R).length = n := by unfold nr; simp; omega
theorem nwL_sq {n : Nat} {L : List (List Int)} (h : Sq n L) {k : Nat} (hk : k < n) (q : List Int → Nat → Int) : Sq n (nwL n L k q) where
  len := by unfold nwL; rw [List.length_append, List.length_map, List.length_take, List.length_drop, h.len]; omega
  row := fun l hl => by
    unfold nwL at hl
    rcases List.mem_append.mp hl with hl | hl
    · exact h.row l (List.mem_of_mem_take hl)
    · obtain ⟨R, _, rfl⟩ := List.mem_map.mp hl
      exact nr_len hk q R
theorem nwL_lo {n : Nat} {L : List (List Int)} (h : Sq n L) {k r : Nat} (hr : r ≤ k) (hk : k < n) (q : List Int → Nat → Int) : rowN (nwL n L k q) r = rowN L r := by
  unfold nwL rowN
  rw [List.getD_eq_getElem?_getD, List.getElem?_append_left (by rw [List.length_take, h.len]; omega), List.getElem?_take_of_lt (by omega), List.getD_eq_getElem?_getD]
theorem nwL_hi {n : Nat} {L : List (List Int)} (h : Sq n L) {k r : Nat} (hr : k < r) (hn : r < n) (q : List Int → Nat → Int) : rowN (nwL n L k q) r = nr n k q (rowN L r) := by
  unfold nwL rowN
  have ht : (L.take (k + 1)).length = k + 1 := by rw [List.length_take, h.len]; omega
  rw [List.getD_eq_getElem?_getD, List.getElem?_append_right (by omega), ht, List.getElem?_map, List.getElem?_drop, show k + 1 + (r - (k + 1)) = r by omega, List.getD_eq_getElem?_getD, List.getElem?_eq_getElem (by rw [h.len]; exact hn)]
  rfl
theorem nr_get {n k : Nat} (q : List Int → Nat → Int) (R : List Int) {c : Nat} (hc : k < c) (hn : c < n) : (nr n k q R).getD c 0 = q R c := by
  unfold nr
  rw [List.getD_eq_getElem?_getD, List.getElem?_append_right (by rw [List.length_replicate]; omega), List.length_replicate, List.getElem?_map, List.getElem?_range (by omega)]
  show q R (k + 1 + (c - (k + 1))) = _
  rw [show k + 1 + (c - (k + 1)) = c by omega]
theorem fac_mono (B : Nat) (hB : 1 ≤ B) {k n : Nat} (h : k ≤ n) : Dt.fac k * B ^ k ≤ Dt.fac n * B ^ n := by
  induction n with
  | zero => rw [Nat.le_zero.mp h]; exact Nat.le_refl _
  | succ n ih =>
    by_cases e : k = n + 1
    · rw [e]; exact Nat.le_refl _
    · refine Nat.le_trans (ih (by omega)) ?_
      rw [Dt.fac, Nat.pow_succ]
      exact Nat.mul_le_mul (Nat.le_mul_of_pos_left _ (by omega)) (Nat.le_mul_of_pos_right _ hB)
theorem Sm_of {x : Int} {b : Nat} (h : x.natAbs ≤ b) (hb : b < 2 ^ 9000) : Sm x := by
  unfold Sm
  by_cases e : x.natAbs = 0
  · rw [e]; decide
  · exact (Nat.log2_lt e).mpr (Nat.lt_of_le_of_lt h hb)
theorem turn_ok {n k : Nat} (kk : Int) (hkk : kk = k) (hn : n ≤ 1000) (hk : k < n) {A A' E : Dt.Mx} {s ahead : Int} {L : List (List Int)} (B : Nat) (hB1 : 1 ≤ B) (hB : Dt.fac n * B ^ n < 2 ^ 9000) (hL : Sq n L) (b : Dt.Bar n k A A' E s ahead)
    (hA : ∀ r c, r < n → c < n → (A' r c).natAbs ≤ B) (hE : ∀ r c, k ≤ r → r < n → k ≤ c → c < n → ent L r c = E r c) (hp : E k k ≠ 0) :
    ∃ (q : List Int → Nat → Int) (L2 : List (List Int)), L2 = nwL n L k q ∧ g_cleared [.ls (L.map dR), .int kk, .int ahead] = .ok (.ol (((L.drop (k + 1)).map (nr n k q)).map dR)) ∧ ent L2 k k = E k k ∧
      Dt.Bar n (k + 1) A A' (Dt.nx E k ahead) s (E k k) ∧ ∀ r c, k + 1 ≤ r → r < n → k + 1 ≤ c → c < n → ent L2 r c = Dt.nx E k ahead r c := by
  let q : List Int → Nat → Int := fun R j => (R.getD j 0 * ent L k k - R.getD k 0 * ent L k j) / ahead
  have small : ∀ r c, k ≤ r → r < n → k ≤ c → c < n → Sm (ent L r c) := fun r c h1 h2 h3 h4 => by
    rw [hE r c h1 h2 h3 h4]
    exact Sm_of (Nat.le_trans (Dt.bar_abs b B hA hk h2 h4) (fac_mono B hB1 (by omega))) hB
  have hah : divOk ahead := by
    refine ⟨b.hn, .inr ?_⟩
    have : Sm ahead := by
      rw [b.ha]
      exact Sm_of (Nat.le_trans (Dt.det_abs B fun r j h1 _ h3 => hA r j (by omega) (by omega)) (fac_mono B hB1 (by omega))) hB
    exact this
  have hrow : ∀ R ∈ L.drop (k + 1), ∃ r, k + 1 ≤ r ∧ r < n ∧ R = rowN L r := fun R hR => by
    obtain ⟨i, hi, e⟩ := List.mem_iff_getElem.mp hR
    rw [List.length_drop, hL.len] at hi
    refine ⟨k + 1 + i, by omega, by omega, ?_⟩
    rw [← e, List.getElem_drop]
    unfold rowN
    rw [List.getD_eq_getElem?_getD, List.getElem?_eq_getElem (by rw [hL.len]; omega)]; rfl
  have qv : ∀ r c, k + 1 ≤ r → r < n → k ≤ c → c < n → q (rowN L r) c = Dt.nx E k ahead r c := fun r c h1 h2 h3 h4 => by
    show (ent L r c * ent L k k - ent L r k * ent L k c) / ahead = (E r c * E k k - E r k * E k c) / ahead
    rw [hE r c (by omega) h2 h3 h4, hE k k (Nat.le_refl k) hk (Nat.le_refl k) hk, hE r k (by omega) h2 (Nat.le_refl k) hk, hE k c (Nat.le_refl k) hk h3 h4]
  refine ⟨q, nwL n L k q, rfl, cleared_ok kk hkk hn hk hL hah (fun j h1 h2 => small k j (Nat.le_refl k) hk h1 h2) q (fun R hR => ?_), ?_, Dt.bar_next b hp, fun r c h1 h2 h3 h4 => ?_⟩
  · obtain ⟨r, h1, h2, rfl⟩ := hrow R hR
    refine ⟨fun j h3 h4 => small r j (by omega) h2 h3 h4, fun j h3 h4 => ?_⟩
    rw [qv r j h1 h2 (by omega) h4]
    have := (Dt.bar_exact b hp r j).1
    show ent L r j * ent L k k - ent L r k * ent L k j = _
    rw [hE r j (by omega) h2 (by omega) h4, hE k k (Nat.le_refl k) hk (Nat.le_refl k) hk, hE r k (by omega) h2 (Nat.le_refl k) hk, hE k j (Nat.le_refl k) hk (by omega) h4]
    exact this
  · unfold ent
    rw [nwL_lo hL (Nat.le_refl k) hk q]
    exact hE k k (Nat.le_refl k) hk (Nat.le_refl k) hk
  · unfold ent
    rw [nwL_hi hL (by omega) h2 q, nr_get q _ (by omega) h4]
    exact qv r c h1 h2 (by omega) h4
theorem body_same (kk : Int) (k n : Nat) (hkk : kk = k) (hn : n ≤ 1000) (hk : k < n) (x0 y6 : D) {L : List (List Int)} (hL : L.length = n) (s ahead : Int) (y5 : D) {M : List (List Int)} (hM : M.length = n - (k + 1)) (hcl : g_cleared [.ls (L.map dR), .int kk, .int ahead] = .ok (.ol (M.map dR)))
    {L2 : List (List Int)} (hL2 : L2 = L.take (k + 1) ++ M) (hS : Sq n L2) {e : Int} (he : e = ent L2 k k) (hf : g_first_row_with [.ls (L.map dR), .int kk] = .ok (.int kk)) :
    f_determinant_l1 [x0, .ol (L.map dR), .int s, .int ahead, .int kk, y5, y6] = .nx [x0, .ol (L2.map dR), .int s, .int e, .int kk, .int kk, y6] := by
  have be := body_end kk k n hkk hn hk x0 y6 hL s ahead (.int kk) hM hcl hL2 hS he
  rw [← be]
  have r1 := bR L
  have cd : calD g_first_row_with [.bo (L.map dR), .int kk] = .ok (.int kk) := by
    simp [calD, r1, hf]
  show sSeq _ (sSeq _ (sSeq _ _)) _ = _
  have ev : (sAsgF 5 (eOwn g_first_row_with (aCons (eVar 1) (aCons (eVar 4) (aNil))))) [x0, .ol (L.map dR), .int s, .int ahead, .int kk, y5, y6] = .nx [x0, .ol (L.map dR), .int s, .int ahead, .int kk, .int kk, y6] := by
    simp [r1, cd]
  unfold sSeq
  rw [ev]
  simp
theorem body_swap (kk ff : Int) (k f n : Nat) (hkk : kk = k) (hff : ff = f) (hn : n ≤ 1000) (hk : k < n) (hfk : k < f) (hfn : f < n) (x0 y6 : D) {L : List (List Int)} (hS0 : Sq n L) (s ahead : Int) (y5 : D) {M : List (List Int)} (hM : M.length = n - (k + 1)) (hcl : g_cleared [.ls ((swL L k f).map dR), .int kk, .int ahead] = .ok (.ol (M.map dR)))
    {L2 : List (List Int)} (hL2 : L2 = (swL L k f).take (k + 1) ++ M) (hS : Sq n L2) {e : Int} (he : e = ent L2 k k) (hf : g_first_row_with [.ls (L.map dR), .int kk] = .ok (.int ff)) :
    f_determinant_l1 [x0, .ol (L.map dR), .int s, .int ahead, .int kk, y5, y6] = .nx [x0, .ol (L2.map dR), .int (-s), .int e, .int kk, .int ff, y6] := by
  have be := body_end kk k n hkk hn hk x0 y6 (swL_sq hS0 hk hfn).len (-s) ahead (.int ff) hM hcl hL2 hS he
  rw [← be]
  have r1 := bR L
  have cd : calD g_first_row_with [.bo (L.map dR), .int kk] = .ok (.int ff) := by
    simp [calD, r1, hf]
  have ak := at_row (L := L) (r := k) (by rw [hS0.len]; exact hk)
  have af := at_row (L := L) (r := f) (by rw [hS0.len]; exact hfn)
  rw [← hkk] at ak
  rw [← hff] at af
  have ik : ixN L.length kk = some k := by rw [ixN_nat (by omega) (by rw [hS0.len]; omega), show kk.toNat = k by omega]
  have jf : ixN L.length ff = some f := by rw [ixN_nat (by omega) (by rw [hS0.len]; omega), show ff.toNat = f by omega]
  have ne : ¬ ff = kk := by omega
  have l2 : 2 ≤ lim := by rw [lim_eq]; omega
  have ev : (sAsgF 5 (eOwn g_first_row_with (aCons (eVar 1) (aCons (eVar 4) (aNil))))) [x0, .ol (L.map dR), .int s, .int ahead, .int kk, y5, y6] = .nx [x0, .ol (L.map dR), .int s, .int ahead, .int kk, .int ff, y6] := by
    simp [r1, cd]
  have ev2 : (sSwp 1 (eVar 4) (eVar 5) (eTup (aConsO (eBin opIx (eVar 1) (eVar 5)) (aConsO (eBin opIx (eVar 1) (eVar 4)) (aNil))))) [x0, .ol (L.map dR), .int s, .int ahead, .int kk, .int ff, y6] = .nx [x0, .ol ((swL L k f).map dR), .int s, .int ahead, .int kk, .int ff, y6] := by
    have e : ((L.map dR).set k (dR (rowN L f))).set f (dR (rowN L k)) = (swL L k f).map dR := by unfold swL; rw [List.map_set, List.map_set]
    simp only [dR] at e ak af r1 ⊢
    simp [r1, ak, af, ik, jf, l2, e]
  show sSeq _ (sSeq _ (sSeq _ _)) _ = _
  unfold sSeq
  rw [ev]
  simp [ne, ev2, -sSwp_]
theorem det_loop (x0 : D) {n : Nat} (hn : n ≤ 1000) {A : Dt.Mx} (B : Nat) (hB1 : 1 ≤ B) (hB : Dt.fac n * B ^ n < 2 ^ 9000) : ∀ (m k : Nat) (L : List (List Int)) (A' E : Dt.Mx) (s ahead : Int) (y4 y5 : D), k + m = n → Sq n L → Dt.Bar n k A A' E s ahead →
    (∀ r c, r < n → c < n → (A' r c).natAbs ≤ B) → (∀ r c, k ≤ r → r < n → k ≤ c → c < n → ent L r c = E r c) →
    (∃ (L' : List (List Int)) (s' a' : Int) (z4 z5 : D), forL (gtN 4) f_determinant_l1 (rng k m) [x0, .ol (L.map dR), .int s, .int ahead, y4, y5, .un] = .nx [x0, .ol (L'.map dR), .int s', .int a', z4, z5, .un] ∧ Dt.det n 0 A = s' * a' ∧ (s' = 1 ∨ s' = -1)) ∨
    (forL (gtN 4) f_determinant_l1 (rng k m) [x0, .ol (L.map dR), .int s, .int ahead, y4, y5, .un] = .rt (.int 0) ∧ Dt.det n 0 A = 0) := by
  intro m
  induction m with
  | zero =>
    intro k L A' E s ahead y4 y5 hk hS b hA hE
    have hk : k = n := by omega
    subst hk
    exact .inl ⟨L, s, ahead, y4, y5, by simp [rng_zero, forL], Dt.bar_end b, b.ss⟩
  | succ m IH =>
    intro k L A' E s ahead y4 y5 hkm hS b hA hE
    have hk : k < n := by omega
    have r1 := bR L
    rw [rng_succ]
    generalize hkk : (k : Int) = kk
    have hkk' : kk = k := hkk.symm
    have hk1 : kk + 1 = ((k + 1 : Nat) : Int) := by omega
    rcases first_ok hS hn k hk with ⟨f, f1, f2, f3, f4, f5⟩ | ⟨f1, f2⟩
    · rw [hkk] at f5
      by_cases e : f = k
      · subst e
        rw [hkk] at f5
        have hp : E f f ≠ 0 := by rw [← hE f f (Nat.le_refl f) hk (Nat.le_refl f) hk]; exact f3
        obtain ⟨q, L2, e1, e2, e3, e4, e5⟩ := turn_ok kk hkk' hn hk B hB1 hB hS b hA hE hp
        have bs := body_same kk f n hkk' hn hk x0 .un hS.len s ahead y5 (by rw [List.length_map, List.length_drop, hS.len]) e2 e1 (by rw [e1]; exact nwL_sq hS hk q) e3.symm f5
        rw [hk1]
        have st : forL (gtN 4) f_determinant_l1 (.int kk :: rng ((f + 1 : Nat) : Int) m) [x0, .ol (L.map dR), .int s, .int ahead, y4, y5, .un] = forL (gtN 4) f_determinant_l1 (rng ((f + 1 : Nat) : Int) m) [x0, .ol (L2.map dR), .int s, .int (E f f), .int kk, .int kk, .un] := by
          rw [forL_cons]
          simp only [gtN_, List.set_cons_succ, List.set_cons_zero, bs]
        rw [st]
        exact IH (f + 1) L2 A' _ s _ _ _ (by omega) (by rw [e1]; exact nwL_sq hS hk q) e4 hA e5
      · have hfk : k < f := by omega
        have b' := Dt.bar_swap b hfk f2
        have hS' := swL_sq hS hk f2
        have hE' : ∀ r c, k ≤ r → r < n → k ≤ c → c < n → ent (swL L k f) r c = E (Dt.sw k f r) c := fun r c h1 h2 h3 h4 => by
          have hb : k ≤ Dt.sw k f r ∧ Dt.sw k f r < n := by refine ⟨?_, ?_⟩ <;> (unfold Dt.sw; split; omega; split <;> omega)
          rw [← hE (Dt.sw k f r) c hb.1 hb.2 h3 h4]
          unfold ent
          rw [swL_row hS.len hk f2 h2]
        have hp : E (Dt.sw k f k) k ≠ 0 := by
          have : Dt.sw k f k = f := by unfold Dt.sw; rw [if_pos rfl]
          rw [this, ← hE f k f1 f2 (Nat.le_refl k) hk]; exact f3
        have hA' := Dt.bar_rows b B hA hk f2
        obtain ⟨q, L2, e1, e2, e3, e4, e5⟩ := turn_ok kk hkk' hn hk B hB1 hB hS' b' hA' hE' hp
        have bs := body_swap kk f k f n hkk' rfl hn hk hfk f2 x0 .un hS s ahead y5 (by rw [List.length_map, List.length_drop, hS'.len]) e2 e1 (by rw [e1]; exact nwL_sq hS' hk q) e3.symm f5
        rw [hk1]
        have st : forL (gtN 4) f_determinant_l1 (.int kk :: rng ((k + 1 : Nat) : Int) m) [x0, .ol (L.map dR), .int s, .int ahead, y4, y5, .un] = forL (gtN 4) f_determinant_l1 (rng ((k + 1 : Nat) : Int) m) [x0, .ol (L2.map dR), .int (-s), .int (E (Dt.sw k f k) k), .int kk, .int f, .un] := by
          rw [forL_cons]
          simp only [gtN_, List.set_cons_succ, List.set_cons_zero, bs]
        rw [st]
        exact IH (k + 1) L2 _ _ (-s) _ _ _ (by omega) (by rw [e1]; exact nwL_sq hS' hk q) e4 hA' e5
    · right
      rw [hkk] at f2
      have cd : calD g_first_row_with [.bo (L.map dR), .int kk] = .ok .non := by
        simp [calD, r1, f2]
      refine ⟨?_, Dt.bar_none b hk fun r h1 h2 => by rw [← hE r k h1 h2 (Nat.le_refl k) hk]; exact f1 r h1 h2⟩
      rw [forL_cons]
      simp [f_determinant_l1, r1, cd]
theorem determinant_ok {n : Nat} (hn : n ≤ 1000) {L : List (List Int)} (hL : Sq n L) (B : Nat) (hB1 : 1 ≤ B) (hB : Dt.fac n * B ^ n < 2 ^ 9000) (hA : ∀ r c, r < n → c < n → (ent L r c).natAbs ≤ B) :
    g_determinant [.ls (L.map dR)] = .ok (.int (Dt.det n 0 (ent L))) := by
  have lt := look_tab_ok hL
  have r1 := bR L
  have hr : rgOk (n : Int) := rgOk_of (by omega) (by omega)
  have hl := hL.len
  have bl : L.length ≤ lim := by rw [hl, lim_eq]; omega
  have bn : n ≤ lim := by rw [lim_eq]; omega
  have lc : ∀ x1 x2 x3 x4 x5 : D, lcL (gtN 6) tYesG f_determinant_c1 [.ls (L.map dR), x1, x2, x3, x4, x5, .un] (L.map dR) = .ok (L.map fun l => .ol (l.map D.int)) := fun x1 x2 x3 x4 x5 => by
    refine lcL_mapN _ fun l hl' => ?_
    have : l.length ≤ lim := by rw [hL.row l hl', lim_eq]; omega
    simp [f_determinant_c1, dR, this]
  have f1 : frzs (L.map fun l => D.ol (l.map D.int)) = L.map dR := by
    clear lc bl hl lt r1 hA hL
    induction L with
    | nil => rfl
    | cons a L ih => simp only [List.map_cons, frzs_cons, frz_ol, frzs_I, ih]; rfl
  have f2 : nods (L.map fun l => D.ol (l.map D.int)) = true := by
    clear lc bl hl lt r1 hA hL f1
    induction L with
    | nil => rfl
    | cons a L ih => simp only [List.map_cons, nods, nod, nods_I, ih]; rfl
  rcases det_loop (.ls (L.map dR)) hn B hB1 hB n 0 L (ent L) (ent L) 1 1 .un .un (by omega) hL (Dt.bar_start n (ent L)) hA (fun _ _ _ _ _ _ => rfl) with ⟨L', s', a', z4, z5, e, h1, h2⟩ | ⟨e, h1⟩
  · rw [h1]
    have om : opMul (.int s') (.int a') = some (.int (s' * a')) := by
      rw [opMul_eq, if_pos]
      simp only [mulOk]
      left; left
      rcases h2 with h2 | h2 <;> rw [h2] <;> decide
    simp only [Int.natCast_zero, Int.cast_ofNat_Int] at e
    simp [g_determinant, runF, f_determinant, lt, lc, f1, f2, bn, r1, hl, hr, e, om]
  · rw [h1]
    simp only [Int.natCast_zero, Int.cast_ofNat_Int] at e
    simp [g_determinant, runF, f_determinant, lt, lc, f1, f2, bn, r1, hl, hr, e]
end Lw

namespace Dt
abbrev Ed := Nat × Nat
def iv (b : Prop) [Decidable b] : Int := if b then 1 else 0
theorem iv_t {b : Prop} [Decidable b] (h : b) : iv b = 1 := if_pos h
theorem iv_f {b : Prop} [Decidable b] (h : ¬ b) : iv b = 0 := if_neg h
def xv (e : Ed) (j : Nat) : Int := iv (j = e.1) - iv (j = e.2)
def Xm (m : Nat → Nat) (e : Ed) (i : Nat) : Int := iv (m e.1 = i) - iv (m e.2 = i)
def Rw (m : Nat → Nat) : List Ed → Mx
  | [], _, _ => 0
  | e :: es, i, j => Xm m e i * xv e j + Rw m es i j
def Mat (m : Nat → Nat) (es : List Ed) : Mx := fun i j => if m i = i then Rw m es i j else iv (j = i) - iv (j = m i)
def D (n : Nat) (m : Nat → Nat) (es : List Ed) : Int := det n 0 (Mat m es)
structure Lab (n : Nat) (m : Nat → Nat) : Prop where
  le : ∀ i, i ≤ n → m i ≤ n
  id : ∀ i, i ≤ n → m (m i) = m i
  top : m n = n
def mrg (a b : Nat) (m : Nat → Nat) (v : Nat) : Nat := if m v = a then b else m v
theorem Lab.mrg {n : Nat} {m : Nat → Nat} (h : Lab n m) {a b : Nat} (ha : a ≠ n) (hb : b ≤ n) (hm : m b = b) (hn : a ≠ b) : Lab n (mrg a b m) where
  le := fun i hi => by
    unfold Dt.mrg; split
    · exact hb
    · exact h.le i hi
  id := fun i hi => by
    unfold Dt.mrg
    by_cases q : m i = a
    · rw [if_pos q, hm, if_neg (fun z => hn z.symm)]
    · rw [if_neg q, h.id i hi, if_neg q]
  top := by
    unfold Dt.mrg
    rw [h.top, if_neg (fun z => ha z.symm)]
theorem D_loop {n : Nat} {m : Nat → Nat} {e : Ed} (es : List Ed) (h : m e.1 = m e.2) : D n m (e :: es) = D n m es := by
  unfold D
  refine det_congr fun r j _ _ _ => ?_
  unfold Mat
  have : Xm m e r = 0 := by unfold Xm; rw [h]; omega
  simp only [Rw, this, Int.zero_mul, Int.zero_add]
theorem Rw_swap (m : Nat → Nat) (x y : Nat) (es : List Ed) : Rw m ((x, y) :: es) = Rw m ((y, x) :: es) := by
  funext i j
  have h1 : Xm m (x, y) i = - Xm m (y, x) i := by unfold Xm; dsimp only; omega
  have h2 : xv (x, y) j = - xv (y, x) j := by unfold xv; dsimp only; omega
  simp only [Rw, h1, h2, Int.neg_mul_neg]
theorem D_swap (n : Nat) (m : Nat → Nat) (x y : Nat) (es : List Ed) : D n m ((x, y) :: es) = D n m ((y, x) :: es) := by
  unfold D Mat; rw [Rw_swap]
theorem Rw_mrg_b (m : Nat → Nat) {a b : Nat} (hn : a ≠ b) : ∀ (es : List Ed) (j : Nat), Rw (mrg a b m) es b j = Rw m es b j + Rw m es a j
  | [], j => rfl
  | e :: es, j => by
    have q : ∀ v, iv (mrg a b m v = b) = iv (m v = b) + iv (m v = a) := fun v => by
      unfold mrg
      by_cases h : m v = a
      · rw [if_pos h, iv_t rfl, iv_t h, iv_f (by rw [h]; exact hn)]; rfl
      · rw [if_neg h, iv_f h]; omega
    have h1 : Xm (mrg a b m) e b = Xm m e b + Xm m e a := by unfold Xm; rw [q, q]; omega
    simp only [Rw, Rw_mrg_b m hn es j, h1, Int.add_mul]
    omega
theorem Rw_mrg_o (m : Nat → Nat) {a b i : Nat} (h1 : i ≠ a) (h2 : i ≠ b) : ∀ (es : List Ed) (j : Nat), Rw (mrg a b m) es i j = Rw m es i j
  | [], j => rfl
  | e :: es, j => by
    have q : ∀ v, iv (mrg a b m v = i) = iv (m v = i) := fun v => by
      unfold mrg
      by_cases h : m v = a
      · rw [if_pos h, iv_f (fun z => h2 z.symm), iv_f (by rw [h]; exact fun z => h1 z.symm)]
      · rw [if_neg h]
    have h3 : Xm (mrg a b m) e i = Xm m e i := by unfold Xm; rw [q, q]
    simp only [Rw, Rw_mrg_o m h1 h2 es j, h3]
theorem det_op' {n c r s : Nat} (A : Mx) (hs : s < n) (t : Int) (h : t = 0 ∨ (r < n ∧ r ≠ s)) : det n c (upd A s fun j => A s j + t * A r j) = det n c A := by
  rcases h with h | ⟨h1, h2⟩
  · subst h
    have : upd A s (fun j => A s j + 0 * A r j) = A := by
      funext i j; unfold upd
      by_cases q : i = s
      · subst q; rw [if_pos rfl]; omega
      · rw [if_neg q]
    rw [this]
  · exact det_op A h1 hs h2 t
theorem D_step {n : Nat} {m : Nat → Nat} (L : Lab n m) {x y : Nat} (hx : x ≤ n) (hy : y ≤ n) (es : List Ed) (hn : m x ≠ m y) (ha : m x ≠ n) : D n m ((x, y) :: es) = D n m es + D n (mrg (m x) (m y) m) es := by
  have maa := L.id x hx
  have mbb := L.id y hy
  have hxn : x ≠ n := fun z => ha (by rw [z]; exact L.top)
  have la : m x < n := by have := L.le x hx; omega
  have lb := L.le y hy
  have hyb : y ≠ m y → y < n := fun h => by
    rcases Nat.lt_or_ge y n with q | q
    · exact q
    · have : y = n := by omega
      exact absurd (by rw [this]; exact L.top.symm) h
  generalize hma : m x = a at *
  generalize hmb : m y = b at *
  have hba : ¬ b = a := fun z => hn z.symm
  unfold D
  -- the row of b with that of a added
  let C : (Nat → Int) → Mx := fun v i j => if i = a then v j else if i = b then Mat m es b j + Mat m es a j else Mat m es i j
  have hC : ∀ v, C v = upd (C fun _ => 0) a v := fun v => by
    funext i j; show (if i = a then _ else _) = upd _ _ _ _ _
    unfold upd
    by_cases q : i = a
    · rw [if_pos q, if_pos q]
    · rw [if_neg q, if_neg q]; show _ = if i = a then _ else _; rw [if_neg q]
  have s1 : det n 0 (Mat m ((x, y) :: es)) = det n 0 (C fun j => xv (x, y) j + Mat m es a j) := by
    rw [← det_ops (Mat m ((x, y) :: es)) la (fun i => iv (i = b)) (iv_f hn)]
    refine det_congr fun i j _ _ _ => ?_
    have ra : Mat m ((x, y) :: es) a j = xv (x, y) j + Mat m es a j := by
      unfold Mat
      rw [if_pos maa, if_pos maa]
      simp only [Rw, Xm, hma, hmb]
      rw [iv_t trivial, iv_f hba]; omega
    by_cases q : i = a
    · subst q
      rw [iv_f hn, ra]
      show _ = if i = i then xv (x, y) j + Mat m es i j else _
      rw [if_pos rfl]; omega
    · show _ = if i = a then _ else _
      rw [if_neg q]
      by_cases q2 : i = b
      · subst q2
        rw [if_pos rfl, iv_t rfl, ra]
        unfold Mat
        rw [if_pos mbb, if_pos mbb]
        simp only [Rw, Xm, hma, hmb]
        rw [iv_t trivial, iv_f hn, if_pos maa]; omega
      · rw [if_neg q2, iv_f q2]
        unfold Mat
        by_cases q3 : m i = i
        · rw [if_pos q3, if_pos q3]
          simp only [Rw, Xm, hma, hmb]
          rw [iv_f (fun z => q z.symm), iv_f (fun z => q2 z.symm)]; omega
        · rw [if_neg q3, if_neg q3]; omega
  have s2 : det n 0 (C fun j => xv (x, y) j + Mat m es a j) = det n 0 (C (xv (x, y))) + det n 0 (C (Mat m es a)) := by
    rw [hC, det_add _ _ _ la, ← hC, ← hC]
  have s3 : det n 0 (C (Mat m es a)) = det n 0 (Mat m es) := by
    rw [← det_ops (Mat m es) la (fun i => iv (i = b)) (iv_f hn)]
    refine det_congr fun i j _ _ _ => ?_
    show (if i = a then _ else _) = _
    by_cases q : i = a
    · subst q; rw [if_pos rfl, iv_f hn]; omega
    · rw [if_neg q]
      by_cases q2 : i = b
      · subst q2; rw [if_pos rfl, iv_t rfl]; omega
      · rw [if_neg q2, iv_f q2]; omega
  let Y : Nat → Int := fun j => iv (j = a) - iv (j = b)
  have s4 : det n 0 (C (xv (x, y))) = det n 0 (C Y) := by
    have cr : ∀ (v : Nat → Int) (i j : Nat), i ≠ a → m i ≠ i → C v i j = iv (j = i) - iv (j = m i) := fun v i j h1 h2 => by
      show (if i = a then _ else if i = b then _ else Mat m es i j) = _
      rw [if_neg h1, if_neg (fun z => h2 (by rw [z]; exact mbb))]
      unfold Mat; rw [if_neg h2]
    have o1 := det_op' (n := n) (c := 0) (r := x) (s := a) (C Y) la (if x = a then 0 else 1) (by
      by_cases q : x = a
      · left; rw [if_pos q]
      · right; exact ⟨by omega, q⟩)
    have e1 : upd (C Y) a (fun j => C Y a j + (if x = a then 0 else 1) * C Y x j) = C (fun j => iv (j = x) - iv (j = b)) := by
      rw [hC (fun j => iv (j = x) - iv (j = b)), hC Y, upd_upd]
      congr 1
      funext j
      rw [← hC Y]
      show (if a = a then Y j else _) + _ = _
      rw [if_pos rfl]
      by_cases q : x = a
      · rw [if_pos q, q]; show iv (j = a) - iv (j = b) + 0 * _ = _; omega
      · rw [if_neg q, cr Y x j q (by rw [hma]; exact fun z => q z.symm), hma]
        show iv (j = a) - iv (j = b) + 1 * _ = _
        omega
    rw [e1] at o1
    rw [← o1]
    have o2 := det_op' (n := n) (c := 0) (r := y) (s := a) (C (fun j => iv (j = x) - iv (j = b))) la (if y = b then 0 else -1) (by
      by_cases q : y = b
      · left; rw [if_pos q]
      · right; exact ⟨hyb q, fun z => hba (by rw [← hmb, z]; exact maa)⟩)
    rw [← o2]
    have e2 : upd (C (fun j => iv (j = x) - iv (j = b))) a (fun j => C (fun j => iv (j = x) - iv (j = b)) a j + (if y = b then 0 else -1) * C (fun j => iv (j = x) - iv (j = b)) y j) = C (xv (x, y)) := by
      rw [hC (xv (x, y)), hC (fun j => iv (j = x) - iv (j = b)), upd_upd]
      congr 1
      funext j
      rw [← hC (fun j => iv (j = x) - iv (j = b))]
      show (if a = a then iv (j = x) - iv (j = b) else _) + _ = iv (j = x) - iv (j = y)
      rw [if_pos rfl]
      by_cases q : y = b
      · rw [if_pos q, q]; omega
      · rw [if_neg q, cr (fun j => iv (j = x) - iv (j = b)) y j (fun z => hba (by rw [← hmb, z]; exact maa)) (by rw [hmb]; exact fun z => q z.symm), hmb]
        omega
    rw [e2]
  have s5 : det n 0 (C Y) = det n 0 (Mat (mrg a b m) es) := by
    rw [← det_ops (C Y) la (fun i => iv (m i = a ∧ i ≠ a)) (iv_f (fun z => z.2 rfl))]
    refine det_congr fun i j _ _ _ => ?_
    have ra : C Y a j = iv (j = a) - iv (j = b) := by show (if a = a then _ else _) = _; rw [if_pos rfl]
    rw [ra]
    show (if i = a then Y j else if i = b then Mat m es b j + Mat m es a j else Mat m es i j) + _ = _
    by_cases q : i = a
    · subst q
      rw [if_pos rfl, iv_f (fun z => z.2 rfl)]
      unfold Mat mrg
      rw [if_pos maa, if_neg hba]
      show iv (j = i) - iv (j = b) + 0 * _ = _
      omega
    · rw [if_neg q]
      by_cases q2 : i = b
      · subst q2
        rw [if_pos rfl, iv_f (by rw [mbb]; exact fun z => hba z.1)]
        have : mrg a i m i = i := by unfold mrg; rw [mbb, if_neg hba]
        unfold Mat
        rw [if_pos this, if_pos mbb, if_pos maa, Rw_mrg_b m hn es j]
        omega
      · rw [if_neg q2]
        by_cases q3 : m i = a
        · rw [iv_t ⟨q3, q⟩]
          have h1 : m i ≠ i := by rw [q3]; exact fun z => q z.symm
          have h2 : mrg a b m i = b := by unfold mrg; rw [if_pos q3]
          unfold Mat
          rw [if_neg h1, h2, if_neg (fun z => q2 z.symm), q3]
          omega
        · rw [iv_f (fun z => q3 z.1)]
          have h2 : mrg a b m i = m i := by unfold mrg; rw [if_neg q3]
          unfold Mat
          rw [h2]
          by_cases q4 : m i = i
          · rw [if_pos q4, if_pos q4, Rw_mrg_o m q q2 es j]; omega
          · rw [if_neg q4, if_neg q4]; omega
  rw [s1, s2, s3, s4, s5]
  omega
theorem det_unit : ∀ (n c : Nat), det n c (fun r j => iv (j = r + c)) = 1
  | 0, _ => rfl
  | n + 1, c => by
    rw [det_head fun r h _ => iv_f (by omega)]
    have := det_unit n (c + 1)
    have e : det n (c + 1) (fun r => (fun r j => iv (j = r + c)) (r + 1)) = det n (c + 1) (fun r j => iv (j = r + (c + 1))) := det_congr fun r j _ _ _ => by
      show iv (j = r + 1 + c) = _
      rw [show r + 1 + c = r + (c + 1) by omega]
    rw [e, this]
    show iv (c = 0 + c) * 1 = 1
    rw [iv_t (by omega)]; rfl
theorem D_nil {n : Nat} {m : Nat → Nat} (L : Lab n m) : D n m [] = if ∀ i, i ≤ n → m i = m n then 1 else 0 := by
  unfold D
  by_cases h : ∀ i, i ≤ n → m i = m n
  · rw [if_pos h, ← det_unit n 0]
    refine det_congr fun r j hr _ hj => ?_
    have := h r (by omega)
    rw [L.top] at this
    unfold Mat
    rw [this, if_neg (by omega), iv_f (by omega : ¬ j = n)]
    rw [show r + 0 = r by omega]; omega
  · rw [if_neg h]
    have : ∃ i, i < n ∧ m i = i := by
      apply Classical.byContradiction
      intro z
      refine h fun i hi => ?_
      rw [L.top]
      apply Classical.byContradiction
      intro q
      have h1 := L.le i hi
      exact z ⟨m i, by omega, L.id i hi⟩
    obtain ⟨i, hi, e⟩ := this
    have h2 := det_mul (n := n) (c := 0) 0 (fun _ => 0) (Mat m []) hi
    simp only [Int.zero_mul] at h2
    rw [← h2]
    refine det_congr fun r j _ _ _ => ?_
    unfold upd
    by_cases q : r = i
    · rw [if_pos q, q]; unfold Mat; rw [if_pos e]; rfl
    · rw [if_neg q]
def Cg (n : Nat) : (Nat → Nat) → List Ed → Nat
  | u, [] => if ∀ i, i ≤ n → u i = u n then 1 else 0
  | u, e :: es => Cg n u es + if u e.1 = u e.2 then 0 else Cg n (mrg (u e.1) (u e.2) u) es
def EdOk (n : Nat) (es : List Ed) : Prop := ∀ e ∈ es, e.1 ≤ n ∧ e.2 ≤ n
def Ker (n : Nat) (u v : Nat → Nat) : Prop := ∀ i j, i ≤ n → j ≤ n → (u i = u j ↔ v i = v j)
theorem mrg_eq {a b : Nat} {u : Nat → Nat} {i j : Nat} : mrg a b u i = mrg a b u j ↔ u i = u j ∨ (u i = a ∧ u j = b) ∨ (u i = b ∧ u j = a) := by
  unfold mrg
  by_cases h1 : u i = a <;> by_cases h2 : u j = a
  · rw [if_pos h1, if_pos h2]; exact ⟨fun _ => .inl (h1.trans h2.symm), fun _ => rfl⟩
  · rw [if_pos h1, if_neg h2]
    constructor
    · exact fun h => .inr (.inl ⟨h1, h.symm⟩)
    · rintro (h | h | h)
      · exact absurd (h ▸ h1) h2
      · exact h.2.symm
      · exact absurd h.2 h2
  · rw [if_neg h1, if_pos h2]
    constructor
    · exact fun h => .inr (.inr ⟨h, h2⟩)
    · rintro (h | h | h)
      · exact absurd (h.trans h2) h1
      · exact absurd h.1 h1
      · exact h.1
  · rw [if_neg h1, if_neg h2]
    constructor
    · exact .inl
    · rintro (h | h | h)
      · exact h
      · exact absurd h.1 h1
      · exact absurd h.2 h2
theorem Ker.mrg {n : Nat} {u v : Nat → Nat} (h : Ker n u v) {x y : Nat} (hx : x ≤ n) (hy : y ≤ n) : Ker n (mrg (u x) (u y) u) (mrg (v x) (v y) v) := fun i j hi hj => by
  rw [mrg_eq, mrg_eq, h i j hi hj, h i x hi hx, h j y hj hy, h i y hi hy, h j x hj hx]
theorem Ker.turn {n : Nat} {u : Nat → Nat} {x y : Nat} : Ker n (Dt.mrg (u x) (u y) u) (Dt.mrg (u y) (u x) u) := fun i j _ _ => by
  rw [mrg_eq, mrg_eq]
  constructor <;> (rintro (h | h | h); exact .inl h; exact .inr (.inr h); exact .inr (.inl h))
theorem Cg_ker {n : Nat} : ∀ (es : List Ed) {u v : Nat → Nat}, EdOk n es → Ker n u v → Cg n u es = Cg n v es
  | [], u, v, _, h => by
    have : (∀ i, i ≤ n → u i = u n) ↔ ∀ i, i ≤ n → v i = v n := ⟨fun q i hi => (h i n hi (Nat.le_refl n)).mp (q i hi), fun q i hi => (h i n hi (Nat.le_refl n)).mpr (q i hi)⟩
    unfold Cg
    by_cases q : ∀ i, i ≤ n → u i = u n
    · rw [if_pos q, if_pos (this.mp q)]
    · rw [if_neg q, if_neg fun z => q (this.mpr z)]
  | e :: es, u, v, ok, h => by
    obtain ⟨o1, o2⟩ := ok e (List.mem_cons_self ..)
    have ok' : EdOk n es := fun x hx => ok x (List.mem_cons_of_mem _ hx)
    unfold Cg
    rw [Cg_ker es ok' h, Cg_ker es ok' (h.mrg o1 o2)]
    have := h e.1 e.2 o1 o2
    by_cases q : u e.1 = u e.2
    · rw [if_pos q, if_pos (this.mp q)]
    · rw [if_neg q, if_neg fun z => q (this.mpr z)]
theorem D_count {n : Nat} : ∀ (es : List Ed) {m : Nat → Nat}, EdOk n es → Lab n m → D n m es = Cg n m es
  | [], m, _, L => by
    rw [D_nil L]
    unfold Cg
    split <;> rfl
  | (x, y) :: es, m, ok, L => by
    obtain ⟨o1, o2⟩ := ok (x, y) (List.mem_cons_self ..)
    have ok' : EdOk n es := fun x hx => ok x (List.mem_cons_of_mem _ hx)
    unfold Cg
    by_cases q : m x = m y
    · rw [if_pos q, D_loop es q, D_count es ok' L]; rfl
    · rw [if_neg q]
      by_cases q2 : m x = n
      · have q3 : m y ≠ n := fun z => q (q2.trans z.symm)
        rw [D_swap, D_step L o2 o1 es (fun z => q z.symm) q3, D_count es ok' L, D_count es ok' (L.mrg q3 (L.le x o1) (L.id x o1) fun z => q z.symm), Cg_ker es ok' (Ker.turn (u := m) (x := y) (y := x))]
        exact (Int.natCast_add _ _).symm
      · rw [D_step L o1 o2 es q q2, D_count es ok' L, D_count es ok' (L.mrg q2 (L.le y o2) (L.id y o2) q)]
        exact (Int.natCast_add _ _).symm
end Dt

namespace Lw
open DL L2 TL
structure Ind (p : Nat) (ts : List (Int × Int)) (J : List Int) : Prop where
  nd : J.Nodup
  inn : InT ts.length J
  ct : cnt p (tiesAt ts J) + J.length = p
theorem tiesAt_snoc (ts : List (Int × Int)) (J : List Int) (t : Int) : tiesAt ts (J ++ [t]) = tiesAt ts J ++ [tieAt ts t] := by simp [tiesAt]
theorem conn_at {ts : List (Int × Int)} {J : List Int} {t : Int} (h : t ∈ J) : Conn (tiesAt ts J) (tieAt ts t).1 (tieAt ts t).2 := .tie (List.mem_map.mpr ⟨t, h, rfl⟩)
theorem conn_sub {ts : List (Int × Int)} {J S : List Int} (h : ∀ x ∈ J, x ∈ S) {a b : Int} (c : Conn (tiesAt ts J) a b) : Conn (tiesAt ts S) a b :=
  c.mono fun e he => by
    obtain ⟨t, ht, rfl⟩ := List.mem_map.mp he
    exact List.mem_map.mpr ⟨t, h t ht, rfl⟩
theorem Ind.snoc {p : Nat} {ts : List (Int × Int)} (hE : EndsOk p ts) {J : List Int} (h : Ind p ts J) {t : Int} (t0 : 0 ≤ t ∧ t < ts.length) (c : ¬ Conn (tiesAt ts J) (tieAt ts t).1 (tieAt ts t).2) : Ind p ts (J ++ [t]) := by
  have hin : InT ts.length (J ++ [t]) := fun x hx => by
    rcases List.mem_append.mp hx with z | z
    · exact h.inn x z
    · simp at z; subst z; exact t0
  refine ⟨?_, hin, ?_⟩
  · rw [List.nodup_append]
    refine ⟨h.nd, by simp, fun a ha b hb e => ?_⟩
    simp at hb
    subst hb
    subst e
    exact c (conn_at ha)
  · have := cnt_new (p := p) (es := tiesAt ts J) (t := tieAt ts t) (by rw [← tiesAt_snoc]; exact tiesAt_ok hE hin) c
    have := h.ct
    rw [tiesAt_snoc, List.length_append, List.length_singleton]
    omega
theorem ind_ext {p : Nat} {ts : List (Int × Int)} (hE : EndsOk p ts) : ∀ (S J : List Int), Ind p ts J → InT ts.length S → ∃ J', Ind p ts J' ∧ (∀ x ∈ J, x ∈ J') ∧ (∀ x ∈ J', x ∈ J ∨ x ∈ S) ∧ ∀ t ∈ S, Conn (tiesAt ts J') (tieAt ts t).1 (tieAt ts t).2
  | [], J, h, _ => ⟨J, h, fun _ h => h, fun _ h => .inl h, fun _ h => (nomatch h)⟩
  | t :: S, J, h, hS => by
    by_cases c : Conn (tiesAt ts J) (tieAt ts t).1 (tieAt ts t).2
    · obtain ⟨J', h1, h2, h3, h4⟩ := ind_ext hE S J h fun x hx => hS x (List.mem_cons_of_mem _ hx)
      refine ⟨J', h1, h2, fun x hx => (h3 x hx).imp id (List.mem_cons_of_mem _), fun x hx => ?_⟩
      rcases List.mem_cons.mp hx with rfl | hx
      · exact conn_sub h2 c
      · exact h4 x hx
    · obtain ⟨J', h1, h2, h3, h4⟩ := ind_ext hE S (J ++ [t]) (h.snoc hE (hS t (List.mem_cons_self ..)) c) fun x hx => hS x (List.mem_cons_of_mem _ hx)
      refine ⟨J', h1, fun x hx => h2 x (List.mem_append_left _ hx), fun x hx => ?_, fun x hx => ?_⟩
      · rcases h3 x hx with z | z
        · rcases List.mem_append.mp z with z | z
          · exact .inl z
          · simp at z; subst z; exact .inr (List.mem_cons_self ..)
        · exact .inr (List.mem_cons_of_mem _ z)
      · rcases List.mem_cons.mp hx with rfl | hx
        · exact conn_at (h2 x (List.mem_append_right _ (by simp)))
        · exact h4 x hx
theorem ind_nil (p : Nat) (ts : List (Int × Int)) : Ind p ts [] := ⟨by simp, fun _ h => (nomatch h), by simp [tiesAt, cnt_nil]⟩
theorem treeB_nat {p : Nat} {ts : List (Int × Int)} {l : List Int} : treeB p ts l = true ↔ (l.length : Int) = p - 1 ∧ goodB ts.length l = true ∧ cnt p (tiesAt ts l) = 1 := by
  simp only [treeB, Bool.and_eq_true, decide_eq_true_eq, Int.toNat_natCast, and_assoc]
theorem cnt_srt {p : Nat} {ts : List (Int × Int)} (hE : EndsOk p ts) {l : List Int} (h : InT ts.length l) : cnt p (tiesAt ts (srt l)) = cnt p (tiesAt ts l) :=
  cnt_set (tiesAt_ok hE fun t ht => h t (srt_mem.mp ht)) (tiesAt_ok hE h) (tiesAt_mem fun x => srt_mem)
theorem tree_ind {p : Nat} {ts : List (Int × Int)} {T : List Int} (h : treeB p ts T = true) (hp : 1 ≤ p) : Ind p ts T := by
  obtain ⟨h1, h2, h3⟩ := treeB_nat.mp h
  exact ⟨good_nodup h2, good_in h2, by omega⟩
theorem Ind.sub {p : Nat} {ts : List (Int × Int)} (hE : EndsOk p ts) {J K : List Int} (h : Ind p ts J) (hn : K.Nodup) (hs : ∀ x ∈ K, x ∈ J) : Ind p ts K := by
  have hK : InT ts.length K := fun x hx => h.inn x (hs x hx)
  refine ⟨hn, hK, ?_⟩
  obtain ⟨K', k1, k2, k3, k4⟩ := ind_ext hE K [] (ind_nil p ts) hK
  obtain ⟨J', j1, j2, j3, j4⟩ := ind_ext hE J K' k1 h.inn
  have hKK : K'.length ≤ K.length := nodup_le k1.nd fun x hx => (k3 x hx).elim (fun z => (nomatch z)) id
  have e1 : cnt p (tiesAt ts K') = cnt p (tiesAt ts K) := cnt_eq (tiesAt_ok hE k1.inn) (tiesAt_ok hE hK)
    (fun e he => by
      obtain ⟨t, ht, rfl⟩ := List.mem_map.mp he
      exact conn_at ((k3 t ht).elim (fun z => (nomatch z)) id))
    (fun e he => by
      obtain ⟨t, ht, rfl⟩ := List.mem_map.mp he
      exact k4 t ht)
  -- as many as there are: else J would have a ring
  have hJJ : J'.length = J.length := by
    have a : cnt p (tiesAt ts J') = cnt p (tiesAt ts J) := cnt_eq (tiesAt_ok hE j1.inn) (tiesAt_ok hE h.inn)
      (fun e he => by
        obtain ⟨t, ht, rfl⟩ := List.mem_map.mp he
        refine conn_at ?_
        rcases j3 t ht with z | z
        · exact hs t ((k3 t z).elim (fun z => (nomatch z)) id)
        · exact z)
      (fun e he => by
        obtain ⟨t, ht, rfl⟩ := List.mem_map.mp he
        exact j4 t ht)
    have := j1.ct
    have := h.ct
    omega
  have sub : ∀ x ∈ J', x ∈ J := fun x hx => by
    rcases j3 x hx with z | z
    · exact hs x ((k3 x z).elim (fun z => (nomatch z)) id)
    · exact z
  have all : ∀ x ∈ J, x ∈ J' := fun x hx => by
    rcases Classical.em (x ∈ J') with z | z
    · exact z
    · have := nodup_le (l := x :: J') (m := J) (List.nodup_cons.mpr ⟨z, j1.nd⟩) fun y hy => by
        rcases List.mem_cons.mp hy with rfl | hy
        · exact hx
        · exact sub y hy
      simp at this
      omega
  -- each of K is in K': else it would be put in to K' behind, though hung together
  have hKl : K.length ≤ K'.length := by
    refine nodup_le hn fun x hx => ?_
    rcases Classical.em (x ∈ K') with z | z
    · exact z
    · exfalso
      have hxJ := all x (hs x hx)
      -- J' less x hangs together what J' does
      have c := k4 x hx
      have i1 : InT ts.length (J'.erase x) := fun y hy => j1.inn y (List.mem_of_mem_erase hy)
      have sub2 : ∀ y ∈ K', y ∈ J'.erase x := fun y hy => (List.mem_erase_of_ne (fun (e : y = x) => z (by rw [← e]; exact hy))).mpr (j2 y hy)
      have e2 : cnt p (tiesAt ts (J'.erase x)) = cnt p (tiesAt ts J') := cnt_eq (tiesAt_ok hE i1) (tiesAt_ok hE j1.inn)
        (fun e he => by
          obtain ⟨t, ht, rfl⟩ := List.mem_map.mp he
          exact conn_at (List.mem_of_mem_erase ht))
        (fun e he => by
          obtain ⟨t, ht, rfl⟩ := List.mem_map.mp he
          by_cases ee : t = x
          · subst ee; exact conn_sub sub2 c
          · exact conn_at ((List.mem_erase_of_ne ee).mpr ht))
      have lo := cnt_lo p _ _ rfl (tiesAt_ok hE i1)
      have l2 : (tiesAt ts (J'.erase x)).length = J'.length - 1 := by rw [tiesAt, List.length_map, List.length_erase_of_mem hxJ]
      have hp := List.length_pos_of_mem hxJ
      have := j1.ct
      omega
  rw [← e1]
  have := k1.ct
  omega
end Lw

noncomputable section
namespace Lw
open DL
end Lw
end

noncomputable section
namespace Lw
open DL
end Lw
end

namespace Lw
open DL L2
def wo (l : List Int) (t : Int) : List Int := l.filter fun x => !decide (x = t)
end Lw

noncomputable section
namespace Lw
open DL
end Lw
end

namespace Lw
open DL L2 TL
def swap (l : List Int) (o i : Int) : List Int := srt (wo l o ++ [i])
theorem wo_mem {l : List Int} {t x : Int} : x ∈ wo l t ↔ x ∈ l ∧ x ≠ t := by simp [wo]
theorem wo_nodup {l : List Int} (h : l.Nodup) (t : Int) : (wo l t).Nodup := h.filter _
theorem wo_erase {l : List Int} (h : l.Nodup) (t : Int) : wo l t = l.erase t := by
  rw [h.erase_eq_filter]
  unfold wo
  refine List.filter_congr fun x _ => ?_
  by_cases e : x = t <;> simp [e]
theorem wo_length {l : List Int} (h : l.Nodup) {t : Int} (ht : t ∈ l) : (wo l t).length + 1 = l.length := by
  rw [wo_erase h, List.length_erase_of_mem ht]
  have := List.length_pos_of_mem ht
  omega
end Lw

namespace Lw
open DL L2 TL
theorem Ind.le {p : Nat} {ts : List (Int × Int)} (hE : EndsOk p ts) {K J : List Int} (hK : Ind p ts K) (hJ : Ind p ts J) (h : ∀ t ∈ K, Conn (tiesAt ts J) (tieAt ts t).1 (tieAt ts t).2) : K.length ≤ J.length := by
  have : cnt p (tiesAt ts J) ≤ cnt p (tiesAt ts K) := cnt_le (tiesAt_ok hE hK.inn) (tiesAt_ok hE hJ.inn) fun e he => by
    obtain ⟨t, ht, rfl⟩ := List.mem_map.mp he
    exact h t ht
  have := hK.ct
  have := hJ.ct
  omega
end Lw

namespace Lw
open DL L2 TL
section
variable {p : Nat} (hp : 1 ≤ p) {ts : List (Int × Int)} (hE : EndsOk p ts) {T : List Int} (hT : treeB p ts T = true)
include hp hE hT
end
end Lw

namespace Lw
open DL L2 TL
end Lw

noncomputable section
namespace Lw
open DL
end Lw
end

namespace Lw
open DL L2 TL
theorem blsOf_map : ∀ bs : List Bool, blsOf (bs.map D.bl) = some bs
  | [] => rfl
  | b :: bs => by simp [blsOf, blsOf_map bs]
theorem caAll_bls (bs : List Bool) : caAll [.ls (bs.map D.bl)] = some (.bl (bs.all id)) := by simp [caAll, blsOf_map]
def nxt (k : Nat) (s : List Int) : Int := if k = 0 then 0 else nth s (k - 1 : Nat) + 1
end Lw

namespace Lw
open DL L2 TL
def KLt (L : List Int) (t u : Int) : Prop := nth L t < nth L u ∨ (nth L t = nth L u ∧ t < u)
instance (L : List Int) (t u : Int) : Decidable (KLt L t u) := by unfold KLt; infer_instance
structure Ord (L : List Int) (n : Nat) (O : List Int) : Prop where
  pm : O.Perm (iota n)
  lt : O.Pairwise (KLt L)
section
variable {L : List Int} {p : Nat} {ts : List (Int × Int)} {O : List Int}
end
end Lw

noncomputable section
namespace Lw
open DL
def f_law_at : Env → Out := sSeq (sIf (tC2 cLt (eVar 1) (eCall caLen (aCons (eVar 0) (aNil)))) (sRet (eBin opIx (eVar 0) (eVar 1))) (sNil)) (sRet (eC (.int 0)))
def g_law_at : List D → Res D := runF f_law_at 2
end Lw
end

namespace Lw
open DL L2
theorem at_ok (s : List Int) (k : Int) (hk : 0 ≤ k) : ∃ c : Int, g_law_at [.sc (s.map D.int), .int k] = .ok (.int c) := by
  by_cases h : k < s.length
  · obtain ⟨a, e, _⟩ := DL.atI_of hk h
    exact ⟨a, by simp [g_law_at, runF, f_law_at, h, e]⟩
  · exact ⟨0, by simp [g_law_at, runF, f_law_at, h]⟩
theorem log2_le {n k : Nat} (h : n < 2 ^ k) : n.log2 ≤ k := by
  by_cases h0 : n = 0
  · subst h0; simp
  · exact Nat.le_of_lt ((Nat.log2_lt h0).mpr h)
theorem opMul_500 {a b : Int} (h : a.natAbs < 2 ^ 500) (h' : b.natAbs < 2 ^ 500) : opMul (.int a) (.int b) = some (.int (a * b)) := by
  rw [opMul_eq, if_pos]
  have := log2_le h
  have := log2_le h'
  exact .inr (by omega)
theorem e60_lt : e60 < 2 ^ 250 := by decide
end Lw

namespace Lw
open DL L2
end Lw

noncomputable section
namespace Lw
open DL
end Lw
end

namespace Lw
open DL L2
end Lw

noncomputable section
namespace Lw
open DL
end Lw
end

namespace Lw
open DL L2 TL
def hj (m : List Int) (t : Int × Int) : List Int := m.map fun x => if x = nth m t.2 then nth m t.1 else x
theorem hj_step (m : List Int) (t : Int × Int) : hj m t = stepL m t := by
  unfold hj stepL
  split
  · rename_i h
    conv => rhs; rw [← List.map_id m]
    refine List.map_congr_left fun x _ => ?_
    split
    · rename_i h2; rw [h2]; exact h
    · rfl
  · rfl
theorem marksL_snoc (p : Nat) (ts : List (Int × Int)) (J : List Int) (t : Int) : marksL p ts (J ++ [t]) = hj (marksL p ts J) (tieAt ts t) := by
  rw [hj_step]
  simp [marksL, List.foldl_append]
end Lw

namespace Lw
open DL L2 TL
section
variable {p : Nat} {ts : List (Int × Int)}
theorem testL (hE : EndsOk p ts) {J : List Int} (hJ : InT ts.length J) {t : Int} (ht : 0 ≤ t ∧ t < ts.length) : nth (marksL p ts J) (tieAt ts t).1 = nth (marksL p ts J) (tieAt ts t).2 ↔ Conn (tiesAt ts J) (tieAt ts t).1 (tieAt ts t).2 := by
  obtain ⟨_, e2⟩ := tie_at ht.1 ht.2
  obtain ⟨⟨a0, a1⟩, b0, b1⟩ := hE _ e2
  exact nthL p ts hE J hJ _ _ a0 a1 b0 b1
end
end Lw

noncomputable section
namespace Lw
open DL
end Lw
end

namespace Lw
open DL L2 TL
end Lw

namespace Lw
open DL L2 TL Classical
theorem Ind.cuts {p : Nat} {ts : List (Int × Int)} (hE : EndsOk p ts) {J : List Int} (h : Ind p ts J) {f : Int} (hf : f ∈ J) : ¬ Conn (tiesAt ts (wo J f)) (tieAt ts f).1 (tieAt ts f).2 := by
  intro c
  have hW := h.sub hE (wo_nodup h.nd f) (fun x hx => (wo_mem.mp hx).1)
  have e : cnt p (tiesAt ts (wo J f)) = cnt p (tiesAt ts J) := cnt_eq (tiesAt_ok hE hW.inn) (tiesAt_ok hE h.inn)
    (fun e he => by
      obtain ⟨t, ht, rfl⟩ := List.mem_map.mp he
      exact conn_at (wo_mem.mp ht).1)
    (fun e he => by
      obtain ⟨t, ht, rfl⟩ := List.mem_map.mp he
      by_cases q : t = f
      · subst q; exact c
      · exact conn_at (wo_mem.mpr ⟨ht, q⟩))
  have := h.ct
  have := hW.ct
  have := wo_length h.nd hf
  omega
theorem conn_snoc' {ts : List (Int × Int)} {J : List Int} {t : Int} {i j : Int} : Conn (tiesAt ts (J ++ [t])) i j ↔ Conn (tiesAt ts J) i j ∨ (Conn (tiesAt ts J) i (tieAt ts t).1 ∧ Conn (tiesAt ts J) (tieAt ts t).2 j) ∨ (Conn (tiesAt ts J) i (tieAt ts t).2 ∧ Conn (tiesAt ts J) (tieAt ts t).1 j) := by
  rw [tiesAt_snoc]; exact conn_snoc
end Lw

namespace Lw
open DL L2 TL
def pL (x : Int × Int) : List Int := [x.1, x.2]
theorem pL_inj {x y : Int × Int} (h : pL x = pL y) : x = y := by
  unfold pL at h
  injection h with h1 h2
  injection h2 with h2
  exact Prod.ext h1 h2
theorem dP_pL (l : List (Int × Int)) : l.map dP = (l.map pL).map dT := by
  rw [List.map_map]
  exact List.map_congr_left fun x _ => by simp [dP, dT, pL]
section
variable {p : Nat} (hp : 1 ≤ p) {ts : List (Int × Int)} (hE : EndsOk p ts) {T : List Int} (hT : treeB p ts T = true) (L : List Int)
include hp hE hT
end
end Lw

namespace Lw
open DL L2 TL
section
variable {p : Nat} {ts : List (Int × Int)}
def gi (p : Nat) (ts : List (Int × Int)) (ins : List Int) : List Int → List Int → Option (List Int)
  | [], J => some J
  | t :: s, J => if nth (marksL p ts J) (tieAt ts t).1 = nth (marksL p ts J) (tieAt ts t).2 then (if t ∈ ins then none else gi p ts ins s J) else gi p ts ins s (J ++ [t])
theorem ind_not {J : List Int} (hE : EndsOk p ts) {t : Int} (hJ : Ind p ts J) (ht : 0 ≤ t ∧ t < ts.length) (c : Conn (tiesAt ts J) (tieAt ts t).1 (tieAt ts t).2) : ¬ Ind p ts (J ++ [t]) := fun h => by
  have h1 := h.ct
  have h2 := hJ.ct
  have h3 := cnt_same (p := p) (es := tiesAt ts J) (t := tieAt ts t) (by rw [← tiesAt_snoc]; exact tiesAt_ok hE h.inn) c
  rw [tiesAt_snoc, h3] at h1
  simp at h1
  omega
def wth (p : Nat) (ts : List (Int × Int)) (ins outs : List Int) : List (List Int) := (trees p ts).filter fun T => ins.all (fun t => decide (t ∈ T)) && !outs.any (fun t => decide (t ∈ T))
theorem wth_mem (hp : 1 ≤ p) {ins outs T : List Int} : T ∈ wth p ts ins outs ↔ treeB p ts T = true ∧ (∀ t ∈ ins, t ∈ T) ∧ ∀ t ∈ outs, t ∉ T := by
  unfold wth
  rw [List.mem_filter, trees_mem hp]
  simp
theorem wth_nodup (ins outs : List Int) : (wth p ts ins outs).Nodup := (trees_nodup p ts).sublist List.filter_sublist
end
end Lw

namespace Lw
open DL L2 TL
def tn (t : Int × Int) : Dt.Ed := (t.1.toNat, t.2.toNat)
def eds (ts : List (Int × Int)) (outs : List Int) : Nat → Nat → List Dt.Ed
  | _, 0 => []
  | k, d + 1 => if (k : Int) ∈ outs then eds ts outs (k + 1) d else tn (tieAt ts k) :: eds ts outs (k + 1) d
def flt (ins : List Int) (k : Nat) (T : List Int) : List Int := T.filter fun x => decide (x < (k : Int)) && !decide (x ∈ ins)
theorem flt_mem {ins T : List Int} {k : Nat} {x : Int} : x ∈ flt ins k T ↔ x ∈ T ∧ x < k ∧ x ∉ ins := by simp [flt]
theorem flt_same {ins T : List Int} {k : Nat} (h : (k : Int) ∉ T ∨ (k : Int) ∈ ins) : flt ins (k + 1) T = flt ins k T := by
  unfold flt
  refine List.filter_congr fun x hx => ?_
  rw [Bool.eq_iff_iff]
  simp only [Bool.and_eq_true, decide_eq_true_eq, Bool.not_eq_true', decide_eq_false_iff_not]
  constructor
  · rintro ⟨h1, h2⟩
    refine ⟨?_, h2⟩
    by_cases e : x = k
    · subst e
      rcases h with h | h
      · exact absurd hx h
      · exact absurd h h2
    · omega
  · rintro ⟨h1, h2⟩; exact ⟨by omega, h2⟩
theorem flt_more {ins T : List Int} {k : Nat} (hr : T.Pairwise (· < ·)) (h : (k : Int) ∈ T) (h2 : (k : Int) ∉ ins) : flt ins (k + 1) T = flt ins k T ++ [(k : Int)] := by
  refine rise_uniq (hr.filter _) (List.pairwise_append.mpr ⟨hr.filter _, List.pairwise_singleton .., fun a ha b hb => by rw [List.mem_singleton.mp hb]; exact (flt_mem.mp ha).2.1⟩) fun x => ?_
  rw [flt_mem, List.mem_append, flt_mem, List.mem_singleton]
  constructor
  · rintro ⟨q1, q2, q3⟩
    by_cases e : x = k
    · exact .inr e
    · exact .inl ⟨q1, by omega, q3⟩
  · rintro (⟨q1, q2, q3⟩ | q)
    · exact ⟨q1, by omega, q3⟩
    · subst q; exact ⟨h, by omega, h2⟩
section
variable {p : Nat} {ts : List (Int × Int)}
theorem tn_ok (hE : EndsOk p ts) {k : Nat} (hk : k < ts.length) : (tn (tieAt ts k)).1 ≤ p - 1 ∧ (tn (tieAt ts k)).2 ≤ p - 1 ∧ (((tn (tieAt ts k)).1 : Nat) : Int) = (tieAt ts k).1 ∧ (((tn (tieAt ts k)).2 : Nat) : Int) = (tieAt ts k).2 := by
  obtain ⟨_, e2⟩ := tie_at (ts := ts) (i := (k : Int)) (by omega) (by omega)
  obtain ⟨⟨a0, a1⟩, b0, b1⟩ := hE _ e2
  unfold tn
  refine ⟨?_, ?_, ?_, ?_⟩ <;> dsimp only <;> omega
theorem len_splitG {α : Type} (l : List α) (q : α → Bool) : l.length = (l.filter q).length + (l.filter fun x => !q x).length := by
  induction l with
  | nil => rfl
  | cons a l ih => cases h : q a <;> simp [List.filter_cons, h, ih] <;> omega
theorem one_of {L : List (List Int)} (nd : L.Nodup) {a : List Int} (h : ∀ x ∈ L, x = a) (ha : a ∈ L) : L.length = 1 := by
  match L, ha with
  | [x], _ => rfl
  | x :: y :: L, _ =>
    have e1 := h x (by simp)
    have e2 := h y (by simp)
    rw [e1, e2] at nd
    simp at nd
theorem cg_wth (hp : 1 ≤ p) (hE : EndsOk p ts) {ins outs : List Int} (hd : ∀ x ∈ ins, x ∉ outs) : ∀ (d k : Nat) (s : List Int) (u : Nat → Nat), k + d = ts.length → Ind p ts (ins ++ s) → (∀ x ∈ s, (0 ≤ x ∧ x < k) ∧ x ∉ ins ∧ x ∉ outs) → s.Pairwise (· < ·) →
    (∀ i j : Nat, i ≤ p - 1 → j ≤ p - 1 → (u i = u j ↔ Conn (tiesAt ts (ins ++ s)) i j)) →
    Dt.Cg (p - 1) u (eds ts outs k d) = ((wth p ts ins outs).filter fun T => decide (flt ins k T = s)).length
  | 0, k, s, u, hk, hI, hs, hr, hu => by
    have full : ∀ T ∈ wth p ts ins outs, flt ins k T = s → T = srt (ins ++ s) := fun T hT e => by
      obtain ⟨t1, t2, t3⟩ := (wth_mem hp).mp hT
      have tI := tree_ind t1 hp
      refine rise_uniq (good_iff.mp (treeB_nat.mp t1).2.1).2 (srt_lt hI.nd) fun x => ?_
      rw [srt_mem, List.mem_append]
      constructor
      · intro hx
        by_cases m : x ∈ ins
        · exact .inl m
        · right; rw [← e]; have := tI.inn x hx; exact flt_mem.mpr ⟨hx, by omega, m⟩
      · rintro (h | h)
        · exact t2 x h
        · rw [← e] at h; exact (flt_mem.mp h).1
    have con : ((ins ++ s).length : Int) = (p : Int) - 1 ∧ cnt p (tiesAt ts (ins ++ s)) = 1 ↔ ∀ i, i ≤ p - 1 → u i = u (p - 1) := by
      have c1 := cnt_one hp (tiesAt_ok hE hI.inn)
      have ct := hI.ct
      constructor
      · rintro ⟨_, h⟩ i hi
        exact (hu i (p - 1) hi (Nat.le_refl _)).mpr (c1.mp h i (p - 1 : Nat) (by omega) (by omega) (by omega) (by omega))
      · intro h
        have : cnt p (tiesAt ts (ins ++ s)) = 1 := c1.mpr fun i j i0 i1 j0 j1 => by
          have e1 := h i.toNat (by omega)
          have e2 := h j.toNat (by omega)
          have := (hu i.toNat j.toNat (by omega) (by omega)).mp (e1.trans e2.symm)
          rw [Int.toNat_of_nonneg i0, Int.toNat_of_nonneg j0] at this
          exact this
        exact ⟨by omega, this⟩
    unfold eds Dt.Cg
    by_cases q : ∀ i, i ≤ p - 1 → u i = u (p - 1)
    · rw [if_pos q]
      obtain ⟨q1, q2⟩ := con.mpr q
      have hT : srt (ins ++ s) ∈ wth p ts ins outs := (wth_mem hp).mpr ⟨treeB_nat.mpr ⟨by rw [srt_len]; exact q1, srt_good hI.inn hI.nd, by rw [cnt_srt hE hI.inn]; exact q2⟩, fun t ht => srt_mem.mpr (List.mem_append_left _ ht), fun t ht z => by
        rcases List.mem_append.mp (srt_mem.mp z) with h | h
        · exact hd t h ht
        · exact (hs t h).2.2 ht⟩
      refine (one_of ((wth_nodup ins outs).filter _) (a := srt (ins ++ s)) (fun x hx => ?_) ?_).symm
      · obtain ⟨h1, h2⟩ := List.mem_filter.mp hx
        exact full x h1 (of_decide_eq_true h2)
      · refine List.mem_filter.mpr ⟨hT, decide_eq_true ?_⟩
        refine rise_uniq ((srt_lt hI.nd).filter _) hr fun x => ?_
        show x ∈ flt ins k (srt (ins ++ s)) ↔ _
        rw [flt_mem, srt_mem, List.mem_append]
        constructor
        · rintro ⟨h | h, _, n⟩
          · exact absurd h n
          · exact h
        · intro h; obtain ⟨h1, h2, _⟩ := hs x h; exact ⟨.inr h, h1.2, h2⟩
    · rw [if_neg q]
      symm
      rw [List.length_eq_zero_iff, List.filter_eq_nil_iff]
      intro T hT e
      have e := of_decide_eq_true e
      have := full T hT e
      obtain ⟨t1, _, _⟩ := (wth_mem hp).mp hT
      obtain ⟨h1, _, h3⟩ := treeB_nat.mp t1
      rw [this, srt_len] at h1
      rw [this, cnt_srt hE hI.inn] at h3
      exact q (con.mp ⟨h1, h3⟩)
  | d + 1, k, s, u, hk, hI, hs, hr, hu => by
    have hs' : ∀ x ∈ s, (0 ≤ x ∧ x < ((k + 1 : Nat) : Int)) ∧ x ∉ ins ∧ x ∉ outs := fun x hx => by
      obtain ⟨h1, h2⟩ := hs x hx
      exact ⟨by omega, h2⟩
    have ih := cg_wth hp hE hd d (k + 1) s u (by omega) hI hs' hr hu
    unfold eds
    by_cases ho : (k : Int) ∈ outs
    · rw [if_pos ho, ih]
      congr 1
      refine List.filter_congr fun T hT => ?_
      rw [flt_same (.inl ((wth_mem hp).mp hT |>.2.2 _ ho))]
    · rw [if_neg ho]
      obtain ⟨o1, o2, o3, o4⟩ := tn_ok hE (k := k) (by omega)
      have key := hu _ _ o1 o2
      rw [o3, o4] at key
      unfold Dt.Cg
      rw [ih]
      have trees : ∀ T ∈ wth p ts ins outs, T.Pairwise (· < ·) ∧ Ind p ts T ∧ ∀ t ∈ ins, t ∈ T := fun T hT => by
        obtain ⟨t1, t2, _⟩ := (wth_mem hp).mp hT
        exact ⟨(good_iff.mp (treeB_nat.mp t1).2.1).2, tree_ind t1 hp, t2⟩
      by_cases hi : (k : Int) ∈ ins
      · rw [if_pos (key.mpr (conn_at (List.mem_append_left _ hi))), Nat.add_zero]
        congr 1
        refine List.filter_congr fun T hT => ?_
        rw [flt_same (.inr hi)]
      · by_cases c : u (tn (tieAt ts k)).1 = u (tn (tieAt ts k)).2
        · rw [if_pos c, Nat.add_zero]
          congr 1
          refine List.filter_congr fun T hT => ?_
          obtain ⟨r1, r2, r3⟩ := trees T hT
          rw [decide_eq_decide]
          have nk : (k : Int) ∈ T → flt ins k T = s → False := fun hkT e => by
            have hsT : ∀ x ∈ ins ++ s ++ [(k : Int)], x ∈ T := fun x hx => by
              rcases List.mem_append.mp hx with h | h
              · rcases List.mem_append.mp h with h | h
                · exact r3 x h
                · rw [← e] at h; exact (flt_mem.mp h).1
              · rw [List.mem_singleton.mp h]; exact hkT
            have nd : (ins ++ s ++ [(k : Int)]).Nodup := List.nodup_append.mpr ⟨hI.nd, by simp, fun a ha b hb e => by
              rw [List.mem_singleton.mp hb] at e
              subst e
              rcases List.mem_append.mp ha with h | h
              · exact hi h
              · have := (hs _ h).1.2; omega⟩
            exact ind_not hE hI ⟨by omega, by omega⟩ (key.mp c) (r2.sub hE nd hsT)
          constructor
          · intro e
            have : (k : Int) ∉ T := fun h => by
              have : (k : Int) ∈ flt ins (k + 1) T := flt_mem.mpr ⟨h, by omega, hi⟩
              rw [e] at this
              have := (hs _ this).1.2
              omega
            rw [← flt_same (.inl this)]; exact e
          · intro e
            rw [flt_same (.inl fun h => nk h e)]; exact e
        · rw [if_neg c]
          have cn : ¬ Conn (tiesAt ts (ins ++ s)) (tieAt ts k).1 (tieAt ts k).2 := fun z => c (key.mpr z)
          have hI2 : Ind p ts (ins ++ (s ++ [(k : Int)])) := by
            rw [← List.append_assoc]
            exact hI.snoc hE ⟨by omega, by omega⟩ cn
          have ih2 := cg_wth hp hE hd d (k + 1) (s ++ [(k : Int)]) (Dt.mrg (u (tn (tieAt ts k)).1) (u (tn (tieAt ts k)).2) u) (by omega) hI2 (fun x hx => by
              rcases List.mem_append.mp hx with h | h
              · exact hs' x h
              · rw [List.mem_singleton.mp h]; exact ⟨⟨by omega, by omega⟩, hi, ho⟩)
            (List.pairwise_append.mpr ⟨hr, List.pairwise_singleton .., fun a ha b hb => by rw [List.mem_singleton.mp hb]; exact (hs a ha).1.2⟩)
            (fun i j hi hj => by
              rw [← List.append_assoc, conn_snoc', Dt.mrg_eq, hu i j hi hj, hu i _ hi o1, hu j _ hj o2, hu i _ hi o2, hu j _ hj o1, o3, o4]
              constructor
              · rintro (h | ⟨h1, h2⟩ | ⟨h1, h2⟩)
                · exact .inl h
                · exact .inr (.inl ⟨h1, h2.symm⟩)
                · exact .inr (.inr ⟨h1, h2.symm⟩)
              · rintro (h | ⟨h1, h2⟩ | ⟨h1, h2⟩)
                · exact .inl h
                · exact .inr (.inl ⟨h1, h2.symm⟩)
                · exact .inr (.inr ⟨h1, h2.symm⟩))
          rw [ih2, len_splitG ((wth p ts ins outs).filter fun T => decide (flt ins k T = s)) (fun T : List Int => !decide ((k : Int) ∈ T)), List.filter_filter, List.filter_filter]
          congr 2
          · refine List.filter_congr fun T hT => ?_
            rw [Bool.eq_iff_iff]
            simp only [Bool.and_eq_true, decide_eq_true_eq, Bool.not_eq_true', decide_eq_false_iff_not]
            constructor
            · intro e
              have : (k : Int) ∉ T := fun h => by
                have : (k : Int) ∈ flt ins (k + 1) T := flt_mem.mpr ⟨h, by omega, hi⟩
                rw [e] at this
                have := (hs _ this).1.2
                omega
              exact ⟨this, by rw [← flt_same (.inl this)]; exact e⟩
            · rintro ⟨h1, h2⟩
              rw [flt_same (.inl h1)]; exact h2
          · refine List.filter_congr fun T hT => ?_
            obtain ⟨r1, r2, r3⟩ := trees T hT
            rw [Bool.eq_iff_iff]
            simp only [Bool.and_eq_true, decide_eq_true_eq, Bool.not_not]
            constructor
            · intro e
              have hkT : (k : Int) ∈ T := by
                have : (k : Int) ∈ flt ins (k + 1) T := by rw [e]; simp
                exact (flt_mem.mp this).1
              rw [flt_more r1 hkT hi] at e
              exact ⟨hkT, (List.append_inj' e rfl).1⟩
            · rintro ⟨h1, h2⟩
              rw [flt_more r1 h1 hi, h2]
theorem count_wth (hp : 1 ≤ p) (hE : EndsOk p ts) {ins outs : List Int} (hd : ∀ x ∈ ins, x ∉ outs) (hI : Ind p ts ins) {u : Nat → Nat}
    (hu : ∀ i j : Nat, i ≤ p - 1 → j ≤ p - 1 → (u i = u j ↔ Conn (tiesAt ts ins) i j)) : Dt.Cg (p - 1) u (eds ts outs 0 ts.length) = (wth p ts ins outs).length := by
  have := cg_wth hp hE hd ts.length 0 [] u (by omega) (by rw [List.append_nil]; exact hI) (fun _ h => nomatch h) .nil (by rw [List.append_nil]; exact hu)
  rw [this]
  congr 1
  refine List.filter_eq_self.mpr fun T hT => decide_eq_true ?_
  refine List.eq_nil_iff_forall_not_mem.mpr fun x hx => ?_
  obtain ⟨h1, h2, _⟩ := flt_mem.mp hx
  have := (tree_ind ((wth_mem hp).mp hT).1 hp).inn x h1
  omega
theorem wth_all (p : Nat) (ts : List (Int × Int)) : wth p ts [] [] = trees p ts := by
  unfold wth
  exact List.filter_eq_self.mpr fun T _ => by simp
end
end Lw

namespace Lw
open DL L2 TL
def dO' (l : List Int) : D := .ol (l.map D.int)
def up1 (T : List (List Int)) (a c : Nat) (v : Int) : List (List Int) := T.set a ((rowN T a).set c (ent T a c + v))
theorem up1_sq {n : Nat} {T : List (List Int)} (h : Sq n T) {a : Nat} (ha : a < n) (c : Nat) (v : Int) : Sq n (up1 T a c v) where
  len := by unfold up1; rw [List.length_set, h.len]
  row := fun l hl => by
    unfold up1 at hl
    rcases List.mem_or_eq_of_mem_set hl with hl | rfl
    · exact h.row l hl
    · rw [List.length_set]; exact h.rowl ha
theorem up1_ent {n : Nat} {T : List (List Int)} (h : Sq n T) {a c i j : Nat} (ha : a < n) (hc : c < n) (hi : i < n) (v : Int) : ent (up1 T a c v) i j = ent T i j + if i = a ∧ j = c then v else 0 := by
  unfold ent up1 rowN
  have hr := h.rowl ha
  unfold rowN at hr
  rw [List.getD_eq_getElem?_getD (l := List.set _ _ _)]
  by_cases q : i = a
  · subst q
    rw [List.getElem?_set_self (by rw [h.len]; exact hi)]
    simp only [Option.getD_some]
    rw [List.getD_eq_getElem?_getD (l := List.set _ _ _)]
    by_cases q2 : j = c
    · subst q2
      rw [List.getElem?_set_self (by omega)]
      simp [ent, rowN]
    · rw [List.getElem?_set_ne (fun z => q2 z.symm), if_neg (fun z => q2 z.2), ← List.getD_eq_getElem?_getD]; omega
  · rw [List.getElem?_set_ne (fun z => q z.symm), if_neg (fun z => q z.1), ← List.getD_eq_getElem?_getD]; omega
theorem aug_ok (op : Int → Int → Int) {n : Nat} {T : List (List Int)} (h : Sq n T) (x0 x1 : D) (a b c d : Int) (x5 : D) (k1 k2 : Nat) (hk1 : k1 < n) (hk2 : k2 < n) (hn : n ≤ 1000) (j1 j2 : Nat)
    (h1 : [x0, x1, .ol (T.map dO'), .int a, .int b, x5][j1]? = some (.int (k1 : Int))) (h2 : [x0, x1, .ol (T.map dO'), .int a, .int b, x5][j2]? = some (.int (k2 : Int))) :
    sAug2 op 2 j1 j2 (eC (.int 1)) [x0, x1, .ol (T.map dO'), .int a, .int b, x5] = .nx [x0, x1, .ol ((T.set k1 ((rowN T k1).set k2 (op (ent T k1 k2) 1))).map dO'), .int a, .int b, x5] := by
  have hl := h.len
  have i1 : ixN (T.map dO').length (k1 : Int) = some k1 := by rw [ixN_nat (by omega) (by rw [List.length_map, hl]; omega)]; rfl
  have g1 : (T.map dO')[k1]? = some (.ol ((rowN T k1).map D.int)) := by
    rw [List.getElem?_map, List.getElem?_eq_getElem (by omega)]
    unfold rowN
    rw [List.getD_eq_getElem?_getD, List.getElem?_eq_getElem (by omega)]
    rfl
  have g2 : ((rowN T k1).map D.int)[k2]? = some (.int (ent T k1 k2)) := by
    have hr := h.rowl hk1
    rw [List.getElem?_map, List.getElem?_eq_getElem (by omega)]
    unfold ent
    rw [List.getD_eq_getElem?_getD, List.getElem?_eq_getElem (by omega)]
    rfl
  rw [sAug2_, h1, h2]
  simp only [List.getElem?_cons_succ, List.getElem?_cons_zero, i1, g1]
  rw [if_pos ⟨by omega, by omega⟩]
  have e2 : ((k2 : Int)).toNat = k2 := rfl
  rw [e2, g2]
  simp only [eC_, Res.st_ok, opd_int, List.set_cons_succ, List.set_cons_zero]
  congr 3
  · congr 1
    rw [List.map_set]
    congr 1
    unfold dO'
    rw [List.map_set]
theorem pull_ent (a b i j : Nat) (e : Dt.Ed) (he : e = (a, b)) (hn : a ≠ b) : (if i = a ∧ j = a then (1 : Int) else 0) + (if i = b ∧ j = b then 1 else 0) + (if i = a ∧ j = b then -1 else 0) + (if i = b ∧ j = a then -1 else 0) = Dt.Xm (fun v => v) e i * Dt.xv e j := by
  subst he
  have hn' : ¬ b = a := fun z => hn z.symm
  unfold Dt.Xm Dt.xv Dt.iv
  dsimp only
  by_cases h1 : i = a <;> by_cases h2 : i = b <;> by_cases h3 : j = a <;> by_cases h4 : j = b
  all_goals first
    | (exfalso; omega)
    | (have q1 : ∀ x, (x = i) = (i = x) := fun x => propext ⟨Eq.symm, Eq.symm⟩
       simp only [q1, h1, h2, h3, h4, hn, hn', and_true, and_false, true_and, false_and, if_true, if_false]
       try omega)
theorem pulls_l1 {n : Nat} (hn : n ≤ 1000) (x0 x1 : D) : ∀ (es : List (Int × Int)) (T : List (List Int)) (y3 y4 : D), Sq n T → EndsOk n es →
    ∃ (T' : List (List Int)) (z3 z4 : D), Sq n T' ∧ (∀ i j, i < n → j < n → ent T' i j = ent T i j + Dt.Rw (fun v => v) (es.map tn) i j) ∧
      forL (gtT 2 (gtCons (gtN 3) (gtCons (gtN 4) (gtNil)))) f_pulls_l1 (es.map dP) [x0, x1, .ol (T.map dO'), y3, y4, .un] = .nx [x0, x1, .ol (T'.map dO'), z3, z4, .un] := by
  intro es
  induction es with
  | nil => exact fun T y3 y4 hT _ => ⟨T, y3, y4, hT, fun i j _ _ => by simp [Dt.Rw], by simp [forL]⟩
  | cons e es IH =>
    intro T y3 y4 hT hE
    obtain ⟨⟨a0, a1⟩, b0, b1⟩ := hE e (List.mem_cons_self ..)
    have hE' : EndsOk n es := fun x hx => hE x (List.mem_cons_of_mem _ hx)
    obtain ⟨a, ha⟩ : ∃ a : Nat, e.1 = a := ⟨e.1.toNat, by omega⟩
    obtain ⟨b, hb⟩ : ∃ b : Nat, e.2 = b := ⟨e.2.toNat, by omega⟩
    have te : tn e = (a, b) := by unfold tn; rw [ha, hb]; rfl
    have la : a < n := by omega
    have lb : b < n := by omega
    by_cases c : a = b
    · subst c
      obtain ⟨T', z3, z4, i1, i2, i3⟩ := IH T (.int a) (.int a) hT hE'
      refine ⟨T', z3, z4, i1, fun i j hi hj => ?_, ?_⟩
      · rw [i2 i j hi hj, List.map_cons]
        have : Dt.Xm (fun v => v) (tn e) i = 0 := by unfold Dt.Xm; rw [te]; dsimp only; omega
        simp only [Dt.Rw, this]; omega
      · rw [← i3, List.map_cons, forL_cons]
        simp [f_pulls_l1, dP, ha, hb]
    · have s1 := up1_sq hT la a 1
      have s2 := up1_sq s1 lb b 1
      have s3 := up1_sq s2 la b (-1)
      have s4 := up1_sq s3 lb a (-1)
      obtain ⟨T', z3, z4, i1, i2, i3⟩ := IH _ (.int a) (.int b) s4 hE'
      refine ⟨T', z3, z4, i1, fun i j hi hj => ?_, ?_⟩
      · rw [i2 i j hi hj, up1_ent s3 lb la hi, up1_ent s2 la lb hi, up1_ent s1 lb lb hi, up1_ent hT la la hi, List.map_cons]
        have := pull_ent a b i j (tn e) te c
        simp only [Dt.Rw]
        rw [← this]
        omega
      · rw [← i3, List.map_cons, forL_cons]
        have g1 := aug_ok (fun a b => a + b) hT x0 x1 a b 0 0 .un a a la la hn 3 3 rfl rfl
        have g2 := aug_ok (fun a b => a + b) s1 x0 x1 a b 0 0 .un b b lb lb hn 4 4 rfl rfl
        have g3 := aug_ok (fun a b => a - b) s2 x0 x1 a b 0 0 .un a b la lb hn 3 4 rfl rfl
        have g4 := aug_ok (fun a b => a - b) s3 x0 x1 a b 0 0 .un b a lb la hn 4 3 rfl rfl
        have ne : ¬ (a : Int) = b := by omega
        have q3 : ∀ (M : List (List Int)) (k1 k2 : Nat), M.set k1 ((rowN M k1).set k2 ((fun a b : Int => a - b) (ent M k1 k2) 1)) = up1 M k1 k2 (-1) := fun M k1 k2 => rfl
        have q1 : ∀ (M : List (List Int)) (k1 k2 : Nat), M.set k1 ((rowN M k1).set k2 ((fun a b : Int => a + b) (ent M k1 k2) 1)) = up1 M k1 k2 1 := fun M k1 k2 => rfl
        rw [q1] at g1 g2
        rw [q3] at g3 g4
        simp [f_pulls_l1, dP, ha, hb, ne, g1, g2, g3, g4, -sAug2_]
def zrs (n : Nat) : List (List Int) := List.replicate n (List.replicate n 0)
theorem zrs_sq (n : Nat) : Sq n (zrs n) := ⟨by simp [zrs], fun l hl => by rw [(List.mem_replicate.mp hl).2]; simp⟩
theorem zrs_ent (n : Nat) {i j : Nat} (hi : i < n) (hj : j < n) : ent (zrs n) i j = 0 := by
  unfold ent rowN zrs
  rw [List.getD_eq_getElem?_getD, List.getD_eq_getElem?_getD, List.getElem?_replicate, if_pos hi]
  simp [hj]
theorem pulls_ok {n : Nat} (nn : Int) (hnn : nn = n) (hn : n ≤ 900) (es : List (Int × Int)) (hE : EndsOk n es) : ∃ T : List (List Int), Sq n T ∧ (∀ i j, i < n → j < n → ent T i j = Dt.Rw (fun v => v) (es.map tn) i j) ∧ g_pulls [.int nn, .ls (es.map dP)] = .ok (.ol (T.map dO')) := by
  obtain ⟨T, z3, z4, h1, h2, h3⟩ := pulls_l1 (by omega) (.int nn) (.ls (es.map dP)) es (zrs n) .un .un (zrs_sq n) hE
  refine ⟨T, h1, fun i j hi hj => by rw [h2 i j hi hj, zrs_ent n hi hj]; omega, ?_⟩
  have hr : rgOk nn := rgOk_of (by omega) (by omega)
  have oz : ∀ z : Int, z = n → opMul (.ls [.int 0]) (.int z) = some (.ol ((List.replicate n (0 : Int)).map D.int)) := fun z hz => by
    have e : z.toNat = n := by omega
    have h1 : z < 9223372036854775808 := by omega
    have h2 : -9223372036854775808 ≤ z := by omega
    have h3 : n ≤ lim := by rw [lim_eq]; omega
    have h4 : ∀ m : Nat, (List.replicate m [D.int 0]).flatten = (List.replicate m (0 : Int)).map D.int := by
      intro m
      induction m with
      | zero => rfl
      | succ m ih => simp only [List.replicate_succ, List.flatten_cons, ih, List.map_cons]; rfl
    simp [opMul, h1, h2, h3, h4, e, -List.map_replicate]
  have lc : ∀ x2 x3 x4 x5 : D, lcL (gtN 5) tYesG f_pulls_c1 [.int nn, .ls (es.map dP), x2, x3, x4, x5] ((iota n).map D.int) = .ok ((zrs n).map dO') := fun x2 x3 x4 x5 => by
    have e : (zrs n).map dO' = (iota n).map fun _ => dO' (List.replicate n 0) := by
      unfold zrs
      have hl : (iota n).length = n := by simp [iota]
      apply List.ext_getElem
      · simp [hl]
      · intro i h1 h2; simp
    rw [e]
    refine lcL_mapN _ fun x _ => ?_
    have o := oz nn hnn
    have l1 : 1 ≤ lim := by rw [lim_eq]; omega
    simp [f_pulls_c1, o, l1, dO', -List.map_replicate]
  have b1 : n ≤ lim := by rw [lim_eq]; omega
  have b2 : (zrs n).length ≤ lim := by rw [(zrs_sq n).len]; exact b1
  have et : rng 0 nn.toNat = (iota n).map D.int := by rw [show nn.toNat = n by omega, rng_iota]
  simp [g_pulls, runF, f_pulls, hr, et, lc, b1, h3]
end Lw

namespace Lw
open DL L2 TL
theorem cut_last8 {α : Type} (l : List α) : cut l none (some (-1)) = l.dropLast := by
  rw [List.dropLast_eq_take]
  unfold cut
  have : HT.sIx l.length l.length (some (-1)) = l.length - 1 := by simp [HT.sIx]; omega
  rw [this]
  simp [HT.sIx]
theorem fO (T : List (List Int)) : frzs (T.map dO') = T.map dR ∧ nods (T.map dO') = true := by
  induction T with
  | nil => exact ⟨rfl, rfl⟩
  | cons a T ih => simp only [List.map_cons, frzs_cons, nods, nod, ih.1, ih.2]; exact ⟨by simp [dO', dR], by simp [dO']⟩
theorem without_ok8 {T : List (List Int)} (hl : T.length ≤ 1000) (hr : ∀ l ∈ T, l.length ≤ 1000) : g_without_last [.ls (T.map dR)] = .ok (.ol ((T.dropLast.map List.dropLast).map dO')) := by
  have ct := cut_last8 T
  have b1 : T.dropLast.length ≤ lim := by rw [List.length_dropLast, lim_eq]; omega
  have r1 := bR T.dropLast
  have lc : ∀ x0 : D, lcL (gtN 1) tYesG f_without_last_c1 [x0, .un] (T.dropLast.map dR) = .ok ((T.dropLast.map List.dropLast).map dO') := fun x0 => by
    rw [List.map_map]
    refine lcL_mapN _ fun l hl' => ?_
    have c2 := cut_last8 l
    simp [f_without_last_c1, dR, dO', c2]
  have b2 : T.length - 1 ≤ lim := by rw [lim_eq]; omega
  simp [g_without_last, runF, f_without_last, ct, b1, b2, r1, lc, -List.map_map, -List.length_dropLast, -List.map_dropLast]
theorem drop_sq {n : Nat} {T : List (List Int)} (h : Sq (n + 1) T) : Sq n (T.dropLast.map List.dropLast) where
  len := by rw [List.length_map, List.length_dropLast, h.len]; rfl
  row := fun l hl => by
    obtain ⟨m, hm, rfl⟩ := List.mem_map.mp hl
    rw [List.length_dropLast, h.row m (List.dropLast_sublist _ |>.subset hm)]; rfl
theorem drop_ent {n : Nat} {T : List (List Int)} (h : Sq (n + 1) T) {i j : Nat} (hi : i < n) (hj : j < n) : ent (T.dropLast.map List.dropLast) i j = ent T i j := by
  have hl := h.len
  have hr := h.rowl (r := i) (by omega)
  unfold ent
  have e : rowN (T.dropLast.map List.dropLast) i = (rowN T i).dropLast := by
    unfold rowN
    rw [List.getD_eq_getElem?_getD, List.getElem?_map, List.dropLast_eq_take, List.getElem?_take_of_lt (by omega), List.getElem?_eq_getElem (by omega), List.getD_eq_getElem?_getD, List.getElem?_eq_getElem (by omega)]
    rfl
  rw [e, List.getD_eq_getElem?_getD, List.dropLast_eq_take, List.getElem?_take_of_lt (by omega), List.getD_eq_getElem?_getD]
theorem Rw_abs (m : Nat → Nat) (i j : Nat) : ∀ es : List Dt.Ed, (Dt.Rw m es i j).natAbs ≤ es.length
  | [] => by simp [Dt.Rw]
  | e :: es => by
    have ih := Rw_abs m i j es
    have h1 : (Dt.Xm m e i * Dt.xv e j).natAbs ≤ 1 := by
      rw [Int.natAbs_mul]
      have a : (Dt.Xm m e i).natAbs ≤ 1 := by unfold Dt.Xm Dt.iv; split <;> split <;> simp
      have b : (Dt.xv e j).natAbs ≤ 1 := by unfold Dt.xv Dt.iv; split <;> split <;> simp
      exact Nat.mul_le_mul a b
    have := Int.natAbs_add_le (Dt.Xm m e i * Dt.xv e j) (Dt.Rw m es i j)
    simp only [Dt.Rw, List.length_cons]
    omega
theorem fac64 : Dt.fac 14 * 64 ^ 14 < 2 ^ 9000 := by decide +kernel
theorem pulls_det {p : Nat} (hp : 1 ≤ p) (hp2 : p ≤ 15) (nn : Int) (hnn : nn = p) (es : List (Int × Int)) (hE : EndsOk p es) (hl : es.length ≤ 64) :
    ∃ T : List (List Int), g_pulls [.int nn, .ls (es.map dP)] = .ok (.ol (T.map dO')) ∧ g_without_last [.ls (T.map dR)] = .ok (.ol ((T.dropLast.map List.dropLast).map dO')) ∧
      g_determinant [.ls ((T.dropLast.map List.dropLast).map dR)] = .ok (.int (Dt.Cg (p - 1) (fun v => v) (es.map tn))) := by
  obtain ⟨T, h1, h2, h3⟩ := pulls_ok nn hnn (by omega) es hE
  obtain ⟨n, rfl⟩ : ∃ n, p = n + 1 := ⟨p - 1, by omega⟩
  refine ⟨T, h3, without_ok8 (by rw [h1.len]; omega) (fun l hl' => by rw [h1.row l hl']; omega), ?_⟩
  have hb : Dt.fac n * 64 ^ n < 2 ^ 9000 := Nat.lt_of_le_of_lt (fac_mono 64 (by decide) (by omega)) fac64
  rw [determinant_ok (by omega) (drop_sq h1) 64 (by decide) hb fun r c hr hc => by
    rw [drop_ent h1 hr hc, h2 r c (by omega) (by omega)]
    refine Nat.le_trans (Rw_abs _ r c _) ?_
    rw [List.length_map]; exact hl]
  have ok : Dt.EdOk n (es.map tn) := fun e he => by
    obtain ⟨t, ht, rfl⟩ := List.mem_map.mp he
    obtain ⟨⟨a0, a1⟩, b0, b1⟩ := hE t ht
    unfold tn; dsimp only; omega
  have L : Dt.Lab n (fun v => v) := ⟨fun _ h => h, fun _ _ => rfl, rfl⟩
  have := Dt.D_count (es.map tn) ok L
  rw [show n + 1 - 1 = n from rfl, ← this]
  congr 2
  unfold Dt.D
  refine Dt.det_congr fun r j hr _ hj => ?_
  rw [drop_ent h1 hr (by omega), h2 r j (by omega) (by omega)]
  unfold Dt.Mat
  rw [if_pos rfl]
theorem eds_all (ts : List (Int × Int)) : ∀ (d k : Nat), k + d = ts.length → eds ts [] k d = (ts.drop k).map tn
  | 0, k, h => by rw [List.drop_eq_nil_of_le (by omega)]; rfl
  | d + 1, k, h => by
    unfold eds
    rw [if_neg (by simp), eds_all ts d (k + 1) (by omega), List.drop_eq_getElem_cons (by omega : k < ts.length), List.map_cons]
    congr 1
    unfold tieAt
    simp [List.getElem?_eq_getElem (show k < ts.length by omega)]
theorem tree_count_ok {p : Nat} (hp : 1 ≤ p) (hp2 : p ≤ 15) (ts : List (Int × Int)) (hE : EndsOk p ts) (hl : ts.length ≤ 64) :
    g_tree_count [.ob 14 [.int p, .ls (ts.map dP)]] = .ok (.int (trees p ts).length) := by
  obtain ⟨T, h1, h2, h3⟩ := pulls_det hp hp2 p rfl ts hE hl
  have hc : Dt.Cg (p - 1) (fun v => v) (ts.map tn) = (trees p ts).length := by
    have := count_wth hp hE (ins := []) (outs := []) (fun _ h => nomatch h) (ind_nil p ts) (u := fun v => v) (fun i j _ _ => ⟨fun h => by rw [h]; exact .refl _, fun h => by have := conn_nil h; omega⟩)
    rw [eds_all ts ts.length 0 (by omega), wth_all] at this
    exact this
  rw [hc] at h3
  have f1 := fO T
  have f2 := fO (T.dropLast.map List.dropLast)
  generalize hP : (p : Int) = pp at *
  have g1 : g_pull_table [.ob 14 [.int pp, .ls (ts.map dP)]] = .ok (.ol (T.map dO')) := by
    simp [g_pull_table, runF, f_pull_table, h1]
  simp [g_tree_count, runF, f_tree_count, g1, f1, f2, h2, h3, -List.map_map, -List.map_dropLast]
end Lw

noncomputable section
namespace Lw
open DL
def f_law_mixed_v2 : Env → Out := sSeq (sAsgF 2 (eBin opMul (eBin opAdd (eBin opMod (eVar 0) (eBin opPow (eC (.int 10)) (eC (.int 60)))) (eC (.int 3))) (eBin opAdd (eC (.int 16180339887498948482045868343656381177203)) (eBin opMul (eBin opMul (eC (.int 2)) (eVar 1)) (eVar 1))))) (sSeq (sAsgF 2 (eBin opAdd (eVar 2) (eBin opMul (eC (.int 6151)) (eVar 1)))) (sRet (eBin opMod (eBin opMul (eVar 2) (eVar 2)) (eBin opAdd (eBin opPow (eC (.int 10)) (eC (.int 60))) (eC (.int 33))))))
def g_law_mixed_v2 : List D → Res D := runF f_law_mixed_v2 3
def f_law_ties_v2_l1 : Env → Out := sSeq (sIf (tC2 cEq (eVar 4) (eC (.int 0))) (sAsgF 4 (eOwn g_law_mixed_v2 (aCons (eOwn g_law_at (aCons (eVar 0) (aCons (eC (.int 2)) (aNil)))) (aCons (eVar 6) (aNil))))) (sNil)) (sSeq (sAsgF 7 (eBin opMod (eVar 4) (eBin opAdd (eBin opMul (eVar 1) (eVar 1)) (eC (.int 1))))) (sSeq (sApp 3 (eTup (aConsO (eBin opMod (eVar 7) (eVar 1)) (aConsO (eBin opMod (eBin opDiv (eVar 7) (eVar 1)) (eVar 1)) (aNil))))) (sAsgF 4 (eBin opDiv (eVar 4) (eBin opAdd (eBin opMul (eVar 1) (eVar 1)) (eC (.int 1)))))))
def f_law_ties_v2_l2 : Env → Out := sSeq (sAsgF 9 (eOwn g_law_mixed_v2 (aCons (eVar 8) (aCons (eBin opMod (eVar 6) (eC (.int 37))) (aNil))))) (sIf (tC2 cLt (eVar 6) (eVar 2)) (sApp 3 (eTup (aConsO (eBin opMod (eBin opDiv (eVar 9) (eC (.int 8))) (eVar 1)) (aConsO (eBin opMod (eBin opDiv (eVar 9) (eC (.int 800))) (eVar 1)) (aNil))))) (sSeq (sAsgF 10 (eBin opMod (eVar 6) (eVar 2))) (sSeq (sAsgF 9 (eOwn g_law_mixed_v2 (aCons (eBin opAdd (eBin opAdd (eVar 9) (eBin opIx (eBin opIx (eVar 3) (eVar 10)) (eC (.int 0)))) (eBin opMul (eC (.int 7)) (eBin opIx (eBin opIx (eVar 3) (eVar 10)) (eC (.int 1))))) (aCons (eC (.int 5)) (aNil))))) (sSet 3 (eVar 10) (eTup (aConsO (eBin opMod (eBin opDiv (eVar 9) (eC (.int 8))) (eVar 1)) (aConsO (eBin opMod (eBin opDiv (eVar 9) (eC (.int 800))) (eVar 1)) (aNil))))))))
def f_law_ties_v2 : Env → Out := sSeq (sAsg 3 (eLst (aNil))) (sSeq (sIf (tC2 cEq (eBin opMod (eOwn g_law_at (aCons (eVar 0) (aCons (eC (.int 1)) (aNil)))) (eC (.int 2))) (eC (.int 0))) (sSeq (sAsgF 4 (eBin opMod (eOwn g_law_at (aCons (eVar 0) (aCons (eC (.int 2)) (aNil)))) (eBin opPow (eC (.int 10)) (eC (.int 60))))) (sSeq (sAsgF 5 (eBin opMod (eVar 4) (eBin opAdd (eVar 2) (eC (.int 1))))) (sSeq (sAsgF 4 (eBin opDiv (eVar 4) (eBin opAdd (eVar 2) (eC (.int 1))))) (sSeq (sFor (iRg1 (aCons (eVar 5) (aNil))) (gtN 6) f_law_ties_v2_l1) (sRetV 3))))) (sNil)) (sSeq (sFor (iEnm (aCons (eSl (eVar 0) (ePart (some (eC (.int 2)))) (ePart none)) (aNil))) (gtT 2 (gtCons (gtN 6) (gtCons (gtN 8) (gtNil)))) f_law_ties_v2_l2) (sRetV 3)))
def g_law_ties_v2 : List D → Res D := runF f_law_ties_v2 11
def f_law_trees_c1 : Env → Res D := eBin opIx (eLst (aConsO (eVar 10) (aConsO (eVar 8) (aNil)))) (eCall caInt (aCons (eB (tC2 cEq (eVar 10) (eVar 9))) (aNil)))
def f_law_trees_l2 : Env → Out := sSeq (sAsgF 8 (eBin opIx (eVar 7) (eBin opIx (eVar 4) (eC (.int 0))))) (sSeq (sAsgF 9 (eBin opIx (eVar 7) (eBin opIx (eVar 4) (eC (.int 1))))) (sIf (tC2 cNe (eVar 8) (eVar 9)) (sApp 5 (eTup (aConsO (eBin opAdd (eVar 6) (eTup (aConsO (eVar 3) (aNil)))) (aConsO (eLc (iSeq (eVar 7)) [10] (gtN 10) (tYesG) f_law_trees_c1) (aNil))))) (sNil)))
def f_law_trees_l3 : Env → Out := sSeq (sAsg 5 (eLst (aNil))) (sSeq (sFor (iSeq (eVar 2)) (gtT 2 (gtCons (gtN 6) (gtCons (gtN 7) (gtNil)))) f_law_trees_l2) (sAsgF 2 (eBin opAdd (eVar 2) (eVar 5))))
def f_law_trees_c4 : Env → Res D := eVar 6
def f_law_trees_c4t : Env → Res Bool := tC2 cEq (eCall caLen (aCons (eVar 6) (aNil))) (eBin opSub (eVar 0) (eC (.int 1)))
def f_law_trees : Env → Out := sSeq (sAsgF 2 (eLst (aConsO (eTup (aConsO (eTup (aNil)) (aConsO (eLR1 (eVar 0)) (aNil)))) (aNil)))) (sSeq (sFor (iEnm (aCons (eVar 1) (aNil))) (gtT 2 (gtCons (gtN 3) (gtCons (gtN 4) (gtNil)))) f_law_trees_l3) (sRet (eCall caSorted3 (aCons (eLc (iSeq (eVar 2)) [6, 7] (gtT 2 (gtCons (gtN 6) (gtCons (gtN 7) (gtNil)))) (f_law_trees_c4t) f_law_trees_c4) (aNil)))))
def g_law_trees : List D → Res D := runF f_law_trees 11
end Lw
end

namespace Lw
open DL L2 TL
def mxK : Int := 16180339887498948482045868343656381177203
def mxA (c k : Int) : Int := (c % e60 + 3) * (mxK + 2 * k * k) + 6151 * k
def mxF (c k : Int) : Int := mxA c k * mxA c k % (e60 + 33)
theorem mxA_lt (c k : Int) (h0 : 0 ≤ k) (h1 : k ≤ 1000) : (mxA c k).natAbs < 2 ^ 500 := by
  have c0 : 0 ≤ c % e60 := Int.emod_nonneg _ (by have := e60_pos; omega)
  have c1 : c % e60 < e60 := Int.emod_lt_of_pos _ e60_pos
  have hE := e60_lt
  have kk : 0 ≤ 2 * k * k := Int.mul_nonneg (by omega) h0
  have kk2 : 2 * k * k ≤ 2000 * 1000 := Int.mul_le_mul (by omega) h1 h0 (by omega)
  have a1 : (c % e60 + 3).natAbs < 2 ^ 251 := by
    have : (2 : Int) ^ 251 = 2 ^ 250 + 2 ^ 250 := by decide
    have : (3 : Int) < 2 ^ 250 := by decide
    have : ((2 : Nat) ^ 251 : Nat) = ((2 : Int) ^ 251).natAbs := by decide
    omega
  have a2 : (mxK + 2 * k * k).natAbs < 2 ^ 200 := by
    have : mxK + 2000000 < 2 ^ 200 := by decide
    have : (0 : Int) < mxK := by decide
    have : ((2 : Nat) ^ 200 : Nat) = ((2 : Int) ^ 200).natAbs := by decide
    omega
  have a3 : ((c % e60 + 3) * (mxK + 2 * k * k)).natAbs ≤ 2 ^ 251 * 2 ^ 200 := by
    rw [Int.natAbs_mul]
    exact Nat.mul_le_mul (Nat.le_of_lt a1) (Nat.le_of_lt a2)
  have a4 : (6151 * k).natAbs ≤ 6151000 := by omega
  unfold mxA
  have a5 := Int.natAbs_add_le ((c % e60 + 3) * (mxK + 2 * k * k)) (6151 * k)
  have a6 : 2 ^ 251 * 2 ^ 200 + 6151000 < 2 ^ 500 := by decide
  omega
theorem mx_ok (c k : Int) (h0 : 0 ≤ k) (h1 : k ≤ 1000) : g_law_mixed_v2 [.int c, .int k] = .ok (.int (mxF c k)) := by
  have c0 : 0 ≤ c % e60 := Int.emod_nonneg _ (by have := e60_pos; omega)
  have c1 : c % e60 < e60 := Int.emod_lt_of_pos _ e60_pos
  have hE := e60_lt
  have kk : 0 ≤ 2 * k * k := Int.mul_nonneg (by omega) h0
  have kk2 : 2 * k * k ≤ 2000 * 1000 := Int.mul_le_mul (by omega) h1 h0 (by omega)
  have a1 : (c % e60 + 3).natAbs < 2 ^ 500 := by
    have : ((2 : Nat) ^ 251 : Nat) = ((2 : Int) ^ 251).natAbs := by decide
    have h1 : (c % e60 + 3).natAbs < 2 ^ 251 := by
      have : (2 : Int) ^ 251 = 2 ^ 250 + 2 ^ 250 := by decide
      have : (3 : Int) < 2 ^ 250 := by decide
      omega
    exact Nat.lt_trans h1 (by decide)
  have a2 : (mxK + 2 * k * k).natAbs < 2 ^ 500 := by
    have h1 : (mxK + 2 * k * k).natAbs < 2 ^ 200 := by
      have : mxK + 2000000 < 2 ^ 200 := by decide
      have : (0 : Int) < mxK := by decide
      have : ((2 : Nat) ^ 200 : Nat) = ((2 : Int) ^ 200).natAbs := by decide
      omega
    exact Nat.lt_trans h1 (by decide)
  have e1 := opMul_500 a1 a2
  have e2 := opMul_500 (mxA_lt c k h0 h1) (mxA_lt c k h0 h1)
  have e0 : opMul (.int (2 * k)) (.int k) = some (.int (2 * k * k)) := opMul_r (by omega) (by omega)
  have p33 : 0 < e60 + 33 := by decide
  have eA : (c % e60 + 3) * (16180339887498948482045868343656381177203 + 2 * k * k) + 6151 * k = mxA c k := rfl
  have e1' : opMul (.int (c % e60 + 3)) (.int (16180339887498948482045868343656381177203 + 2 * k * k)) = some (.int ((c % e60 + 3) * (16180339887498948482045868343656381177203 + 2 * k * k))) := e1
  have eF : mxA c k * mxA c k % (e60 + 33) = mxF c k := rfl
  simp [g_law_mixed_v2, runF, f_law_mixed_v2, e0, e1', eA, e2, p33, eF]
end Lw

namespace Lw
open DL L2 TL
theorem ties2_l1 (s : List Int) (p most : Int) (hp : 0 < p) (hp2 : p ≤ 1000) (x5 y8 y9 y10 : D) : ∀ (n : Nat) (lo : Int) (r : Int) (l : List (Int × Int)) (y6 y7 : D), 0 ≤ lo → lo + n ≤ 1000 → l.length + n ≤ 1000 → EndsOk p l →
    ∃ (r' : Int) (l' : List (Int × Int)) (z6 z7 : D), l'.length = l.length + n ∧ EndsOk p l' ∧ forL (gtN 6) f_law_ties_v2_l1 (rng lo n) [.sc (s.map D.int), .int p, .int most, .ol (l.map dP), .int r, x5, y6, y7, y8, y9, y10] = .nx [.sc (s.map D.int), .int p, .int most, .ol (l'.map dP), .int r', x5, z6, z7, y8, y9, y10]
  | 0, lo, r, l, y6, y7, _, _, _, hE => ⟨r, l, y6, y7, by omega, hE, by simp [rng_zero, forL]⟩
  | n + 1, lo, r, l, y6, y7, h0, h1, h2, hE => by
    obtain ⟨c, ec⟩ := at_ok s 2 (by omega)
    have a4 : p < 1073741824 := by omega
    have a5 : -18446744073709551616 < p := by omega
    have a6 : p < 18446744073709551616 := by omega
    have a7 : 0 < p * p := Int.mul_pos hp hp
    have a9 : 0 < p * p + 1 := by omega
    have a8 : p * p + 1 < 1073741824 := by
      have : p * p ≤ 1000 * 1000 := Int.mul_le_mul hp2 hp2 (by omega) (by omega)
      omega
    have hlim : l.length < lim := by rw [lim_eq]; omega
    have mx := mx_ok c lo h0 (by omega)
    have fin : ∀ q : Int, (if r = 0 then mxF c lo else r) = q → ∃ (r' : Int) (l' : List (Int × Int)) (z6 z7 : D), l'.length = l.length + (n + 1) ∧ EndsOk p l' ∧ forL (gtN 6) f_law_ties_v2_l1 (rng lo (n + 1)) [.sc (s.map D.int), .int p, .int most, .ol (l.map dP), .int r, x5, y6, y7, y8, y9, y10] = .nx [.sc (s.map D.int), .int p, .int most, .ol (l'.map dP), .int r', x5, z6, z7, y8, y9, y10] := fun q hq => by
      have o1 := Int.emod_nonneg (q % (p * p + 1)) (by omega : p ≠ 0)
      have o2 := Int.emod_lt_of_pos (q % (p * p + 1)) hp
      have p1 := Int.emod_nonneg (q % (p * p + 1) / p) (by omega : p ≠ 0)
      have p2 := Int.emod_lt_of_pos (q % (p * p + 1) / p) hp
      obtain ⟨r', l', z6, z7, h3, h4, h5⟩ := ties2_l1 s p most hp hp2 x5 y8 y9 y10 n (lo + 1) (q / (p * p + 1)) (l ++ [(q % (p * p + 1) % p, q % (p * p + 1) / p % p)]) (.int lo) (.int (q % (p * p + 1))) (by omega) (by omega) (by simp; omega) (hE.app (.one ⟨⟨o1, o2⟩, p1, p2⟩))
      refine ⟨r', l', z6, z7, by simp at h3; omega, h4, ?_⟩
      rw [← h5]
      by_cases c0 : r = 0
      · rw [if_pos c0] at hq
        subst hq
        simp [rng_succ, forL, f_law_ties_v2_l1, c0, ec, mx, hp, a4, a5, a6, a9, a8, hlim]
      · rw [if_neg c0] at hq
        subst hq
        simp [rng_succ, forL, f_law_ties_v2_l1, c0, hp, a4, a5, a6, a9, a8, hlim]
    exact fin _ rfl
theorem forL_step {tg : D → Env → Option Env} {b : Env → Out} {d : D} {ds : List D} {g g1 g' : Env} (h : tg d g = some g1) (hb : b g1 = .nx g') : forL tg b (d :: ds) g = forL tg b ds g' := by
  rw [forL_cons, h]
  simp only [hb]
theorem ties2_step (s : List Int) (p most : Int) (hp : 0 < p) (hp2 : p ≤ 1000) (hm : 1 ≤ most) (hm2 : most ≤ 500) (y4 y5 y7 : D) (c : Int) (k : Int) (kn : 0 ≤ k) (l : List (Int × Int)) (y6 y8 y9 y10 : D) (hl : (l.length : Int) = min (k : Int) most) (hE : EndsOk p l) :
    ∃ (l' : List (Int × Int)) (z9 z10 : D), (l'.length : Int) = min ((k : Int) + 1) most ∧ EndsOk p l' ∧ f_law_ties_v2_l2 [.sc (s.map D.int), .int p, .int most, .ol (l.map dP), y4, y5, .int k, y7, .int c, y9, y10] = .nx [.sc (s.map D.int), .int p, .int most, .ol (l'.map dP), y4, y5, .int k, y7, .int c, z9, z10] := by
  have k0 := Int.emod_nonneg (k : Int) (by omega : (37 : Int) ≠ 0)
  have k1 := Int.emod_lt_of_pos (k : Int) (by omega : (0 : Int) < 37)
  have mx := mx_ok c ((k : Int) % 37) k0 (by omega)
  have a4 : p < 1073741824 := by omega
  by_cases q : (k : Int) < most
  · have hlim : l.length < lim := by rw [lim_eq]; omega
    generalize mxF c ((k : Int) % 37) = m at mx
    have o1 := Int.emod_nonneg (m / 8) (by omega : p ≠ 0)
    have o2 := Int.emod_lt_of_pos (m / 8) hp
    have p1 := Int.emod_nonneg (m / 800) (by omega : p ≠ 0)
    have p2 := Int.emod_lt_of_pos (m / 800) hp
    refine ⟨l ++ [(m / 8 % p, m / 800 % p)], .int m, y10, by simp; omega, hE.app (.one ⟨⟨o1, o2⟩, p1, p2⟩), ?_⟩
    simp [f_law_ties_v2_l2, mx, q, hp, hlim]
  · have t0 := Int.emod_nonneg (k : Int) (by omega : most ≠ 0)
    have t1 := Int.emod_lt_of_pos (k : Int) (by omega : 0 < most)
    have hmost : 0 < most := by omega
    obtain ⟨a, ea, _⟩ := DL.atI_of (l := l) (i := (k : Int) % most) t0 (by omega)
    generalize mxF c ((k : Int) % 37) = m at mx
    have mx2 := mx_ok (m + a.1 + 7 * a.2) 5 (by omega) (by omega)
    generalize mxF (m + a.1 + 7 * a.2) 5 = m2 at mx2
    have hix : L2.ixN l.length ((k : Int) % most) = some ((k : Int) % most).toNat := ixN_nat t0 (by omega)
    have o1 := Int.emod_nonneg (m2 / 8) (by omega : p ≠ 0)
    have o2 := Int.emod_lt_of_pos (m2 / 8) hp
    have p1 := Int.emod_nonneg (m2 / 800) (by omega : p ≠ 0)
    have p2 := Int.emod_lt_of_pos (m2 / 800) hp
    refine ⟨l.set ((k : Int) % most).toNat (m2 / 8 % p, m2 / 800 % p), .int m2, .int ((k : Int) % most), by rw [List.length_set]; omega, fun e he => ?_, ?_⟩
    · rcases List.mem_or_eq_of_mem_set he with z | z
      · exact hE e z
      · subst z; exact ⟨⟨o1, o2⟩, p1, p2⟩
    · simp [f_law_ties_v2_l2, mx, q, hmost, hp, ea, mx2, hix, dP]
theorem ties2_l2 (s : List Int) (p most : Int) (hp : 0 < p) (hp2 : p ≤ 1000) (hm : 1 ≤ most) (hm2 : most ≤ 500) (y4 y5 y7 : D) (cs : List Int) : ∀ (k : Nat) (l : List (Int × Int)) (y6 y8 y9 y10 : D), (l.length : Int) = min (k : Int) most → EndsOk p l →
    ∃ (l' : List (Int × Int)) (z6 z8 z9 z10 : D), (l'.length : Int) ≤ most ∧ EndsOk p l' ∧ forL (gtT 2 (gtCons (gtN 6) (gtCons (gtN 8) (gtNil)))) f_law_ties_v2_l2 (enm k (cs.map D.int)) [.sc (s.map D.int), .int p, .int most, .ol (l.map dP), y4, y5, y6, y7, y8, y9, y10] = .nx [.sc (s.map D.int), .int p, .int most, .ol (l'.map dP), y4, y5, z6, y7, z8, z9, z10] := by
  induction cs with
  | nil => exact fun k l y6 y8 y9 y10 hl hE => ⟨l, y6, y8, y9, y10, by omega, hE, by simp [enm, forL]⟩
  | cons c cs ih =>
    intro k l y6 y8 y9 y10 hl hE
    obtain ⟨l1, z9, z10, h1, h2, h3⟩ := ties2_step s p most hp hp2 hm hm2 y4 y5 y7 c k (by omega) l y6 y8 y9 y10 hl hE
    obtain ⟨l', w6, w8, w9, w10, h4, h5, h6⟩ := ih (k + 1) l1 (.int k) (.int c) z9 z10 (by omega) h2
    refine ⟨l', w6, w8, w9, w10, h4, h5, ?_⟩
    exact (forL_step rfl h3).trans h6
theorem ties2_ok (s : List Int) (hs : s.length ≤ 900) (p most : Int) (hp : 1 ≤ p) (hp2 : p ≤ 1000) (hm : 1 ≤ most) (hm2 : most ≤ 500) :
    ∃ l : List (Int × Int), (l.length : Int) ≤ most ∧ EndsOk p l ∧ g_law_ties_v2 [.sc (s.map D.int), .int p, .int most] = .ok (.ol (l.map dP)) := by
  obtain ⟨w, ew⟩ := at_ok s 1 (by omega)
  obtain ⟨c, ec⟩ := at_ok s 2 (by omega)
  by_cases q : w % 2 = 0
  · have n0 := Int.emod_nonneg (c % e60) (by omega : most + 1 ≠ 0)
    have n1 := Int.emod_lt_of_pos (c % e60) (by omega : 0 < most + 1)
    obtain ⟨r', l, z6, z7, h1, h2, h3⟩ := ties2_l1 s p most (by omega) hp2 (.int (c % e60 % (most + 1))) .un .un .un (c % e60 % (most + 1)).toNat 0 (c % e60 / (most + 1)) [] .un .un (by omega) (by omega) (by simp; omega) (fun _ h => nomatch h)
    have a2 : 0 < most + 1 := by omega
    have a3 : most + 1 < 1073741824 := by omega
    have hr : rgOk (c % e60 % (most + 1)) := rgOk_of (by omega) (by omega)
    refine ⟨l, by simp at h1; omega, h2, ?_⟩
    simp at h3
    simp [g_law_ties_v2, runF, f_law_ties_v2, ew, q, ec, a2, a3, hr, h3]
  · obtain ⟨l, z6, z8, z9, z10, h1, h2, h3⟩ := ties2_l2 s p most (by omega) hp2 hm hm2 .un .un .un (s.drop 2) 0 [] .un .un .un .un (by simp; omega) (fun _ h => nomatch h)
    have cf : cut s (some 2) none = s.drop 2 := by rw [cut_from s 2 (by omega)]; rfl
    refine ⟨l, h1, h2, ?_⟩
    simp [-List.map_drop] at h3
    simp [g_law_ties_v2, runF, f_law_ties_v2, ew, q, cf, h3, -List.map_drop]
end Lw

namespace Lw
open DL L2 TL
def unl (p : Nat) (ts : List (Int × Int)) (k : Nat) (s : List Int) : Bool := !decide (nth (marksL p ts s) (tieAt ts k).1 = nth (marksL p ts s) (tieAt ts k).2)
def fo (p : Nat) (ts : List (Int × Int)) : Nat → List (List Int)
  | 0 => [[]]
  | k + 1 => fo p ts k ++ ((fo p ts k).filter (unl p ts k)).map (· ++ [(k : Int)])
theorem fo_len (p : Nat) (ts : List (Int × Int)) : ∀ k : Nat, (fo p ts k).length ≤ 2 ^ k
  | 0 => by simp [fo]
  | k + 1 => by
    have := fo_len p ts k
    have h2 := List.length_filter_le (unl p ts k) (fo p ts k)
    simp only [fo, List.length_append, List.length_map, Nat.pow_succ]
    omega
theorem unl_iff {p : Nat} {ts : List (Int × Int)} (hE : EndsOk p ts) {k : Nat} (hk : k < ts.length) {s : List Int} (hs : InT ts.length s) : unl p ts k s = true ↔ ¬ Conn (tiesAt ts s) (tieAt ts k).1 (tieAt ts k).2 := by
  unfold unl
  rw [← testL hE hs ⟨by omega, by omega⟩]
  simp
theorem fo_mem {p : Nat} {ts : List (Int × Int)} (hE : EndsOk p ts) : ∀ (k : Nat) (hk : k ≤ ts.length) (l : List Int), l ∈ fo p ts k ↔ goodB k l = true ∧ Ind p ts l
  | 0, _, l => by
    simp only [fo, List.mem_singleton]
    constructor
    · rintro rfl; exact ⟨by simp [goodB, goodAux], ind_nil p ts⟩
    · rintro ⟨h, _⟩
      match l, good_in h with
      | [], _ => rfl
      | x :: l, h => have := h x (List.mem_cons_self ..); omega
  | k + 1, hk, l => by
    have ih := fo_mem hE k (by omega)
    simp only [fo, List.mem_append, List.mem_map, List.mem_filter]
    constructor
    · rintro (h | ⟨m, ⟨h, h3⟩, rfl⟩)
      · obtain ⟨h2, h4⟩ := (ih l).mp h
        obtain ⟨k1, k2⟩ := good_iff.mp h2
        exact ⟨good_of (fun t ht => by have := k1 t ht; omega) k2, h4⟩
      · obtain ⟨h2, h4⟩ := (ih m).mp h
        obtain ⟨k1, k2⟩ := good_iff.mp h2
        refine ⟨good_of (fun t ht => ?_) ?_, h4.snoc hE ⟨by omega, by omega⟩ ((unl_iff hE (by omega) h4.inn).mp h3)⟩
        · rcases List.mem_append.mp ht with z | z
          · have := k1 t z; omega
          · simp at z; omega
        · rw [List.pairwise_append]
          exact ⟨k2, List.pairwise_singleton _ _, fun a ha b hb => by simp at hb; have := k1 a ha; omega⟩
    · rintro ⟨h2, h4⟩
      obtain ⟨k1, k2⟩ := good_iff.mp h2
      by_cases hk2 : (k : Int) ∈ l
      · right
        have hne : l ≠ [] := List.ne_nil_of_mem hk2
        have hs := List.dropLast_concat_getLast hne
        generalize l.dropLast = m at hs
        generalize l.getLast hne = x at hs
        subst hs
        rw [List.pairwise_append] at k2
        obtain ⟨p1, _, p3⟩ := k2
        have hx := k1 x (by simp)
        have ex : x = (k : Int) := by
          rcases List.mem_append.mp hk2 with z | z
          · have := p3 _ z x (by simp); omega
          · simp at z; exact z.symm
        subst ex
        have gm : goodB k m = true := good_of (fun t ht => by
          have a := k1 t (List.mem_append_left _ ht)
          have b := p3 t ht (k : Int) (by simp)
          omega) p1
        have hm : Ind p ts m := h4.sub hE (good_nodup gm) fun x hx => List.mem_append_left _ hx
        refine ⟨m, ⟨(ih m).mpr ⟨gm, hm⟩, (unl_iff hE (by omega) hm.inn).mpr ?_⟩, rfl⟩
        have c := h4.cuts hE (f := (k : Int)) (by simp)
        have e : wo (m ++ [(k : Int)]) k = m := by
          unfold wo
          rw [List.filter_append, List.filter_eq_self.mpr fun x hx => by have := p3 x hx (k : Int) (by simp); simp; omega]
          simp
        rw [e] at c
        exact c
      · left
        refine (ih l).mpr ⟨good_of (fun t ht => ?_) k2, h4⟩
        have := k1 t ht
        have ne : t ≠ (k : Int) := fun z => hk2 (z ▸ ht)
        omega
theorem fo_nodup {p : Nat} {ts : List (Int × Int)} (hE : EndsOk p ts) : ∀ (k : Nat) (hk : k ≤ ts.length), (fo p ts k).Nodup
  | 0, _ => by simp [fo]
  | k + 1, hk => by
    simp only [fo]
    rw [List.nodup_append]
    refine ⟨fo_nodup hE k (by omega), ?_, fun a ha b hb e => ?_⟩
    · refine List.Pairwise.map _ (fun a b h e => h ?_) ((fo_nodup hE k (by omega)).filter _)
      simpa using e
    · obtain ⟨m, _, rfl⟩ := List.mem_map.mp hb
      subst e
      have := good_in ((fo_mem hE k (by omega) _).mp ha).1 (k : Int) (by simp)
      omega
theorem fo_trees {p : Nat} (hp : 1 ≤ p) {ts : List (Int × Int)} (hE : EndsOk p ts) : srtL ((fo p ts ts.length).filter fun l => decide ((l.length : Int) = p - 1)) = trees p ts := by
  have pm : ((fo p ts ts.length).filter fun l => decide ((l.length : Int) = p - 1)).Perm (trees p ts) := by
    rw [List.perm_ext_iff_of_nodup ((fo_nodup hE _ (Nat.le_refl _)).filter _) (trees_nodup p ts)]
    intro l
    rw [trees_mem hp, List.mem_filter, fo_mem hE _ (Nat.le_refl _)]
    constructor
    · rintro ⟨⟨h1, h2⟩, h3⟩
      have h3 := of_decide_eq_true h3
      have := h2.ct
      exact treeB_nat.mpr ⟨h3, h1, by omega⟩
    · intro h
      obtain ⟨h1, h2, h3⟩ := treeB_nat.mp h
      exact ⟨⟨h2, tree_ind h hp⟩, decide_eq_true h1⟩
  have hr : Rise (trees p ts) := srtL_rise _
  exact (srtL_uniq pm.symm hr).symm
def dM (p : Nat) (ts : List (Int × Int)) (s : List Int) : D := .tp [dT s, .ls ((marksL p ts s).map D.int)]
theorem dull_M (p : Nat) (ts : List (Int × Int)) (s : List Int) : dull (dM p ts s) := by
  refine ⟨?_, ?_, ?_, ?_, ?_, ?_⟩ <;> simp [dM, dT]
theorem trees1_l2 (p : Nat) (hp : 1 ≤ p) (hp2 : p ≤ 1000) (ts : List (Int × Int)) (hE : EndsOk p ts) (k : Nat) (hk : k < ts.length) (x1 x2 y10 : D) : ∀ (L A : List (List Int)) (y6 y7 y8 y9 : D), A.length + L.length ≤ 5000 → (∀ l ∈ L, InT ts.length l ∧ l.length ≤ 1000) →
    ∃ (z6 z7 z8 z9 : D), forL (gtT 2 (gtCons (gtN 6) (gtCons (gtN 7) (gtNil)))) f_law_trees_l2 (L.map (dM p ts)) [.int p, x1, x2, .int k, dP (tieAt ts k), .ol (A.map (dM p ts)), y6, y7, y8, y9, y10] = .nx [.int p, x1, x2, .int k, dP (tieAt ts k), .ol ((A ++ (L.filter (unl p ts k)).map (· ++ [(k : Int)])).map (dM p ts)), z6, z7, z8, z9, y10]
  | [], A, y6, y7, y8, y9, _, _ => ⟨y6, y7, y8, y9, by simp [forL]⟩
  | l :: L, A, y6, y7, y8, y9, hn, hL => by
    obtain ⟨hl, hl2⟩ := hL l (List.mem_cons_self ..)
    have ht := (tie_at (ts := ts) (i := (k : Int)) (by omega) (by omega)).2
    obtain ⟨⟨a0, a1⟩, b0, b1⟩ := hE _ ht
    have ml : (marksL p ts l).length = p := marksL_len ..
    have ea := nth_at (m := marksL p ts l) a0 (by omega)
    have eb := nth_at (m := marksL p ts l) b0 (by omega)
    simp only [List.length_cons] at hn
    by_cases c : nth (marksL p ts l) (tieAt ts k).1 = nth (marksL p ts l) (tieAt ts k).2
    · obtain ⟨z6, z7, z8, z9, ih⟩ := trees1_l2 p hp hp2 ts hE k hk x1 x2 y10 L A (dT l) (.ls ((marksL p ts l).map D.int)) (.int (nth (marksL p ts l) (tieAt ts k).1)) (.int (nth (marksL p ts l) (tieAt ts k).2)) (by omega) (fun x hx => hL x (List.mem_cons_of_mem _ hx))
      have hu : unl p ts k l = false := by unfold unl; rw [decide_eq_true c]; rfl
      refine ⟨z6, z7, z8, z9, ?_⟩
      rw [List.filter_cons_of_neg (by rw [hu]; simp), ← ih]
      simp [forL, dM, f_law_trees_l2, ea, eb, c]
    · have hu : unl p ts k l = true := by unfold unl; rw [decide_eq_false c]; rfl
      obtain ⟨z6, z7, z8, z9, ih⟩ := trees1_l2 p hp hp2 ts hE k hk x1 x2 y10 L (A ++ [l ++ [(k : Int)]]) (dT l) (.ls ((marksL p ts l).map D.int)) (.int (nth (marksL p ts l) (tieAt ts k).1)) (.int (nth (marksL p ts l) (tieAt ts k).2)) (by simp; omega) (fun x hx => hL x (List.mem_cons_of_mem _ hx))
      refine ⟨z6, z7, z8, z9, ?_⟩
      have eq : A ++ ((l :: L).filter (unl p ts k)).map (· ++ [(k : Int)]) = A ++ [l ++ [(k : Int)]] ++ (L.filter (unl p ts k)).map (· ++ [(k : Int)]) := by rw [List.filter_cons_of_pos hu]; simp
      rw [eq, ← ih]
      have hlim : A.length < lim := by rw [lim_eq]; omega
      have bl : (marksL p ts l).length ≤ lim := by rw [lim_eq]; omega
      have lb : l.length + 1 ≤ lim := by rw [lim_eq]; omega
      have lc : ∀ x6 : D, lcL (gtN 10) tYesG f_law_trees_c1 [.int p, x1, x2, .int k, dP (tieAt ts k), .ol (A.map (dM p ts)), x6, .ls ((marksL p ts l).map D.int), .int (nth (marksL p ts l) (tieAt ts k).1), .int (nth (marksL p ts l) (tieAt ts k).2), .un] ((marksL p ts l).map D.int) = .ok ((marksL p ts (l ++ [(k : Int)])).map D.int) := fun x6 => by
        rw [marksL_snoc]
        unfold hj
        rw [← map_int]
        refine lcL_mapN _ fun x _ => ?_
        by_cases c : x = nth (marksL p ts l) (tieAt ts k).2 <;> simp [f_law_trees_c1, c]
      simp only [dM, dT, dP] at lc
      simp [forL, dM, dT, f_law_trees_l2, ea, eb, c, hlim, bl, lb, lc]
theorem nils_short : ∀ {l : List (List Int)}, (∀ a ∈ l, a = []) → l.Nodup → l.length < 2
  | [], _, _ => by simp
  | [a], _, _ => by simp
  | a :: b :: r, h, nd => by
    have ha := h a (by simp)
    have hb := h b (by simp)
    subst ha; subst hb
    simp at nd
theorem fo_big (p : Nat) (ts : List (Int × Int)) (ht : ts.length ≤ 10) (k : Nat) (hk : k ≤ ts.length) : (fo p ts k).length ≤ 1024 :=
  Nat.le_trans (fo_len p ts k) (Nat.le_trans (Nat.pow_le_pow_right (by omega) (show k ≤ 10 by omega)) (by decide))
theorem fo_in {p : Nat} {ts : List (Int × Int)} (hE : EndsOk p ts) {k : Nat} (hk : k ≤ ts.length) {l : List Int} (h : l ∈ fo p ts k) : InT ts.length l ∧ l.length ≤ p := by
  have h2 := ((fo_mem hE k hk l).mp h).2
  have := h2.ct
  exact ⟨h2.inn, by omega⟩
theorem trees1_l3 (p : Nat) (hp : 1 ≤ p) (hp2 : p ≤ 1000) (ts : List (Int × Int)) (hE : EndsOk p ts) (ht : ts.length ≤ 10) (x1 y10 : D) : ∀ (rest pre : List (Int × Int)) (y3 y4 y5 y6 y7 y8 y9 : D), ts = pre ++ rest →
    ∃ (z3 z4 z5 z6 z7 z8 z9 : D), forL (gtT 2 (gtCons (gtN 3) (gtCons (gtN 4) (gtNil)))) f_law_trees_l3 (enm pre.length (rest.map dP)) [.int p, x1, .ls ((fo p ts pre.length).map (dM p ts)), y3, y4, y5, y6, y7, y8, y9, y10] = .nx [.int p, x1, .ls ((fo p ts ts.length).map (dM p ts)), z3, z4, z5, z6, z7, z8, z9, y10]
  | [], pre, y3, y4, y5, y6, y7, y8, y9, e => ⟨y3, y4, y5, y6, y7, y8, y9, by simp at e; subst e; simp [enm, forL]⟩
  | t :: rest, pre, y3, y4, y5, y6, y7, y8, y9, e => by
    have hk : pre.length < ts.length := by rw [e]; simp
    have et : tieAt ts (pre.length : Int) = t := by rw [e]; simp [tieAt]
    have b1 := fo_big p ts ht pre.length (by omega)
    obtain ⟨w6, w7, w8, w9, h2⟩ := trees1_l2 p hp hp2 ts hE pre.length hk x1 (.ls ((fo p ts pre.length).map (dM p ts))) y10 (fo p ts pre.length) [] y6 y7 y8 y9 (by simp; omega) (fun l hl => by
      obtain ⟨q1, q2⟩ := fo_in hE (by omega) hl
      exact ⟨q1, by omega⟩)
    obtain ⟨z3, z4, z5, z6, z7, z8, z9, ih⟩ := trees1_l3 p hp hp2 ts hE ht x1 y10 rest (pre ++ [t]) (.int pre.length) (dP t) (.ol (((fo p ts pre.length).filter (unl p ts pre.length)).map (· ++ [(pre.length : Int)]) |>.map (dM p ts))) w6 w7 w8 w9 (by rw [e]; simp)
    refine ⟨z3, z4, z5, z6, z7, z8, z9, ?_⟩
    rw [← ih]
    rw [List.nil_append, List.map_nil, et] at h2
    have b2 := List.length_filter_le (unl p ts pre.length) (fo p ts pre.length)
    have b3 : (fo p ts pre.length).length + (List.filter (unl p ts pre.length) (fo p ts pre.length)).length ≤ lim := by rw [lim_eq]; omega
    have n1 := (dulls (dull_M p ts) (((fo p ts pre.length).filter (unl p ts pre.length)).map (· ++ [(pre.length : Int)])))
    have n2 := (dulls (dull_M p ts) (fo p ts pre.length))
    rw [show (pre ++ [t]).length = pre.length + 1 by simp, List.map_cons, enm]
    refine forL_step rfl ?_
    simp only [dP] at h2
    simp [f_law_trees_l3, h2, fo, b3, n1.1, n1.2.1, n1.2.2.1, n1.2.2.2.1, n1.2.2.2.2.1, n2.2.2.2.2.1, n2.1, n2.2.1, n2.2.2.1, n2.2.2.2.1, -List.map_map]
theorem trees1_ok (p : Nat) (hp : 1 ≤ p) (hp2 : p ≤ 1000) (ts : List (Int × Int)) (hE : EndsOk p ts) (ht : ts.length ≤ 10) : g_law_trees [.int p, .ls (ts.map dP)] = .ok (.ol ((trees p ts).map dT)) := by
  have hr : rgOk (p : Int) := rgOk_of (by omega) (by omega)
  obtain ⟨z3, z4, z5, z6, z7, z8, z9, h3⟩ := trees1_l3 p hp hp2 ts hE ht (.ls (ts.map dP)) .un ts [] .un .un .un .un .un .un .un rfl
  have h0 : (fo p ts ([] : List (Int × Int)).length).map (dM p ts) = [.tp [.tp [], .ls ((iota p).map D.int)]] := by
    simp [fo, dM, dT, marksL]
  rw [h0] at h3
  have b1 := fo_big p ts ht ts.length (Nat.le_refl _)
  have b2 : (fo p ts ts.length).length ≤ lim := by rw [lim_eq]; omega
  have lc : ∀ x2 x3 x4 x5 x8 x9 x10 : D, lcL (gtT 2 (gtCons (gtN 6) (gtCons (gtN 7) (gtNil)))) f_law_trees_c4t f_law_trees_c4 [.int p, .ls (ts.map dP), x2, x3, x4, x5, .un, .un, x8, x9, x10] ((fo p ts ts.length).map (dM p ts)) = .ok (((fo p ts ts.length).filter fun l => decide ((l.length : Int) = p - 1)).map dT) := fun x2 x3 x4 x5 x8 x9 x10 => by
    refine lcL_filter _ fun l hl => ?_
    exact ⟨[.int p, .ls (ts.map dP), x2, x3, x4, x5, dT l, .ls ((marksL p ts l).map D.int), x8, x9, x10], by simp [dM], by simp [f_law_trees_c4t, dT], fun _ => by simp [f_law_trees_c4, dT]⟩
  have b3 := List.length_filter_le (fun l : List Int => decide ((l.length : Int) = p - 1)) (fo p ts ts.length)
  have cs := caSorted3_TL ((fo p ts ts.length).filter fun l => decide ((l.length : Int) = p - 1)) (by
    by_cases hp1 : p = 1
    · left
      have this : ∀ l ∈ (fo p ts ts.length).filter (fun l => decide ((l.length : Int) = p - 1)), l = [] := fun l hl => by
        have := of_decide_eq_true (List.mem_filter.mp hl).2
        exact List.eq_nil_of_length_eq_zero (by omega)
      have nd := (fo_nodup hE ts.length (Nat.le_refl _)).filter (fun l => decide ((l.length : Int) = p - 1))
      exact nils_short this nd
    · right
      rw [List.all_eq_true]
      intro l hl
      have := of_decide_eq_true (List.mem_filter.mp hl).2
      cases l with
      | nil => simp at this; omega
      | cons a l => rfl)
  rw [fo_trees hp hE] at cs
  have h5 : (p : Int) ≤ 1000000 := by omega
  simp only [List.length_nil] at h3
  simp [g_law_trees, runF, f_law_trees, hr, h5, rng_iota, h3, lc, b2, cs, -List.map_map]
end Lw

noncomputable section
namespace Lw
open DL
end Lw
end

namespace Lw
open DL L2
structure Canon (p : Nat) (m : List Int) : Prop where
  len : m.length = p
  le : ∀ i : Int, 0 ≤ i → i < p → 0 ≤ nth m i ∧ nth m i ≤ i ∧ nth m (nth m i) = nth m i
section
variable (L : List (List Int))
@[simp] theorem brws_OO : brws (L.map fun l => D.ol (l.map D.int)) = L.map fun l => .bo (l.map D.int) := by induction L <;> simp [*]
@[simp] theorem frzs_OO : frzs (L.map fun l => D.ol (l.map D.int)) = L.map fun l => .ls (l.map D.int) := by induction L <;> simp [*]
@[simp] theorem nods_OO : nods (L.map fun l => D.ol (l.map D.int)) = true := by induction L <;> simp [*]
@[simp] theorem shd_LL : shd (L.map fun l => D.ls (l.map D.int)) = true := by induction L <;> simp [*]
@[simp] theorem brws_LL : brws (L.map fun l => D.ls (l.map D.int)) = L.map fun l => .ls (l.map D.int) := by induction L <;> simp [*]
@[simp] theorem frzs_LL : frzs (L.map fun l => D.ls (l.map D.int)) = L.map fun l => .ls (l.map D.int) := by induction L <;> simp [*]
@[simp] theorem nods_LL : nods (L.map fun l => D.ls (l.map D.int)) = true := by induction L <;> simp [*]
theorem toPys_BB : toPys (L.map fun l => D.bo (l.map D.int)) = toPys (L.map fun l => D.ls (l.map D.int)) := by
  induction L with
  | nil => rfl
  | cons a L ih => simp [toPys, toPy_bo, ih]
end
@[simp] theorem pyEq_LL (L M : List (List Int)) : pyEq (.ls (L.map fun l => .ls (l.map D.int))) (.ls (M.map fun l => .ls (l.map D.int))) = some (decide (L = M)) := enc_int.ls.ls.eq (by omega) L M
@[simp] theorem pyEq_BL (L M : List (List Int)) : pyEq (.ls (L.map fun l => .bo (l.map D.int))) (.ls (M.map fun l => .ls (l.map D.int))) = some (decide (L = M)) := by
  rw [← pyEq_LL]
  simp [pyEq, toPy, toPys_BB]
end Lw

noncomputable section
namespace Lw
open DL
end Lw
end

namespace Lw
open DL L2 TL
def IntD (A : List (Int × D)) : Prop := ∀ x ∈ A, ∃ n : Int, x.2 = .int n
theorem IntD.put {A : List (Int × D)} (h : IntD A) (k n : Int) : IntD (putG A k (.int n)) := fun x hx => by
  unfold putG at hx
  split at hx
  · obtain ⟨y, hy, rfl⟩ := List.mem_map.mp hx
    by_cases q : y.1 = k
    · rw [if_pos q]; exact ⟨n, rfl⟩
    · rw [if_neg q]; exact h y hy
  · rcases List.mem_append.mp hx with hx | hx
    · exact h x hx
    · rw [List.mem_singleton.mp hx]; exact ⟨n, rfl⟩
theorem IntD.all {A : List (Int × D)} (h : IntD A) : ((ddV A).all fun d => !own1 d) = true ∧ brws (ddV A) = ddV A := by
  induction A with
  | nil => exact ⟨rfl, rfl⟩
  | cons a A ih =>
    obtain ⟨n, e⟩ := h a (List.mem_cons_self ..)
    obtain ⟨i1, i2⟩ := ih fun x hx => h x (List.mem_cons_of_mem _ hx)
    unfold ddV at *
    simp only [List.map_cons, List.all_cons, e, i1, brws_cons, i2]
    exact ⟨rfl, rfl⟩
end Lw

noncomputable section
namespace Lw
open DL
def f_law_whole : Env → Out := sRet (eB (tAn (tV (eIsT "int" (eVar 0))) (tNo (tV (eIsT "bool" (eVar 0))))))
def g_law_whole : List D → Res D := runF f_law_whole 1
end Lw
end

namespace Lw
open DL L2 TL
theorem whole20 (n : Int) : g_law_whole [.int n] = .ok (.bl true) := by simp [g_law_whole, runF, f_law_whole]
end Lw

namespace Lw
open DL L2 TL
theorem forL_nil {tg : D → Env → Option Env} {b : Env → Out} {g : Env} : forL tg b [] g = .nx g := rfl
end Lw

noncomputable section
namespace Lw
open DL L2
theorem seq_to {f u : Env → Out} {g g1 : Env} {o : Out} (h : f g = .nx g1) (h2 : u g1 = o) : sSeq f u g = o := by
  rw [sSeq_, h]
  exact h2
end Lw
end

noncomputable section
namespace Lw
open DL
def f_law_pulls_c1 : Env → Res D := eVar 7
def f_law_pulls_c1t : Env → Res Bool := tC2 cIn2 (eVar 7) (eLst (aConsO (eTup (aConsO (eVar 3) (aConsO (eVar 5) (aNil)))) (aConsO (eTup (aConsO (eVar 5) (aConsO (eVar 3) (aNil)))) (aNil))))
def f_law_pulls_c3 : Env → Res D := eVar 7
def f_law_pulls_c3t : Env → Res Bool := tAn (tC2 cNe (eBin opIx (eVar 7) (eC (.int 0))) (eBin opIx (eVar 7) (eC (.int 1)))) (tC2 cIn (eVar 3) (eVar 7))
def f_law_pulls_l5 : Env → Out := sSeq (sAsgF 6 (eCall caLen (aCons (eLc (iSeq (eVar 1)) [7] (gtN 7) (f_law_pulls_c1t) f_law_pulls_c1) (aNil)))) (sSeq (sIf (tC2 cEq (eVar 3) (eVar 5)) (sAsgF 6 (eCall caLen (aCons (eLc (iSeq (eVar 1)) [7] (gtN 7) (f_law_pulls_c3t) f_law_pulls_c3) (aNil)))) (sAsgF 6 (eUn opNeg (eVar 6)))) (sApp 4 (eVar 6)))
def f_law_pulls_l6 : Env → Out := sSeq (sAsg 4 (eLst (aNil))) (sSeq (sFor (iRg1 (aCons (eVar 0) (aNil))) (gtN 5) f_law_pulls_l5) (sFrz 4 (sApp 2 (eVar 4))))
def f_law_pulls : Env → Out := sSeq (sAsg 2 (eLst (aNil))) (sSeq (sFor (iRg1 (aCons (eVar 0) (aNil))) (gtN 3) f_law_pulls_l6) (sRetV 2))
def g_law_pulls : List D → Res D := runF f_law_pulls 8
def f_law_k19_c1 : Env → Res D := eOwn g_law_whole (aCons (eVar 8) (aNil))
def f_law_k19_l2 : Env → Out := sSeq (sAsg 6 (eOwn g_pull_table (aCons (eVar 3) (aNil)))) (sSeq (sIf (tOr_ (tNo (tTr (eIsT "list" (eVar 6)))) (tC2 cNe (eVar 6) (eVar 4))) (sRet (eC (.bl false))) (sNil)) (sSeq (sForClr 6 7 (tOr_ (tNo (tTr (eIsT "list" (eVar 7)))) (tNo (tTr (eCall caAll (aCons (eLc (iSeq (eVar 7)) [8] (gtN 8) (tYesG) f_law_k19_c1) (aNil))))))) (sClr 6)))
def f_law_k19 : Env → Out := sSeq (sAsgF 1 (eBin opAdd (eC (.int 1)) (eBin opMod (eOwn g_law_at (aCons (eVar 0) (aCons (eC (.int 0)) (aNil)))) (eC (.int 6))))) (sSeq (sAsgF 2 (eOwn g_law_ties_v2 (aCons (eVar 0) (aCons (eVar 1) (aCons (eC (.int 10)) (aNil)))))) (sSeq (sAsgF 3 (eMkF 14 g_Web_init (aCons (eVar 1) (aCons (eVar 2) (aNil))))) (sSeq (sAsgF 4 (eOwn g_law_pulls (aCons (eVar 1) (aCons (eVar 2) (aNil))))) (sSeq (sFor (iRg1 (aCons (eC (.int 2)) (aNil))) (gtN 5) f_law_k19_l2) (sSeq (sAsg 6 (eOwn g_tree_count (aCons (eVar 3) (aNil)))) (sRet (eB (tAn (tV (eOwn g_law_whole (aCons (eVar 6) (aNil)))) (tC2 cEq (eVar 6) (eCall caLen (aCons (eOwn g_law_trees (aCons (eVar 1) (aCons (eVar 2) (aNil)))) (aNil))))))))))))
def g_law_k19 : List D → Res D := runF f_law_k19 9
end Lw
end

noncomputable section
namespace Lw
open DL L2 TL
theorem rt19 {f : Env → Out} {n : Nat} {ds : List D} {g : Env} {d : D} (h : f g = .rt d) (hg : ds ++ List.replicate (n - ds.length) .un = g) : runF f n ds = .ok d := by
  unfold runF
  rw [hg, h]
theorem cIn2_P19 (a b : Int) (L : List (Int × Int)) : cIn2 (.tp [.int a, .int b]) (.ls (L.map dP)) = some (decide ((a, b) ∈ L)) := by
  have h := cIn2_TL (pL (a, b)) (L.map pL)
  rw [← dP_pL] at h
  have e : decide (pL (a, b) ∈ L.map pL) = decide ((a, b) ∈ L) := by
    rw [decide_eq_decide, List.mem_map]
    constructor
    · rintro ⟨x, hx, e⟩; rw [← pL_inj e]; exact hx
    · exact fun h => ⟨_, h, rfl⟩
  rw [e] at h
  exact h
def nLp (ts : List (Int × Int)) (i : Int) : Int := (ts.filter fun e => !decide (e.1 = e.2) && (decide (i = e.1) || decide (i = e.2))).length
def nPr (ts : List (Int × Int)) (i j : Int) : Int := (ts.filter fun e => decide (e = (i, j) ∨ e = (j, i))).length
def pulN (ts : List (Int × Int)) (i j : Int) : Int := if i = j then nLp ts i else -nPr ts i j
def dueR (p : Nat) (ts : List (Int × Int)) (i : Int) : List Int := (iota p).map (pulN ts i)
def dueT (p : Nat) (ts : List (Int × Int)) : List (List Int) := (iota p).map (dueR p ts)
section
variable {p : Nat} {ts : List (Int × Int)}
theorem lp_c1 {x0 x1 x2 x4 x6 : D} {i j : Int} : lcL (gtN 7) f_law_pulls_c1t f_law_pulls_c1 [x0, x1, x2, .int i, x4, .int j, x6, .un] (ts.map dP) = .ok ((ts.filter fun e => decide (e = (i, j) ∨ e = (j, i))).map dP) := by
  refine lcL_filterN ts fun e _ => ⟨?_, fun _ => by simp [f_law_pulls_c1, dP]⟩
  have c := cIn2_P19 e.1 e.2 [(i, j), (j, i)]
  have d : decide ((e.1, e.2) ∈ [(i, j), (j, i)]) = decide (e = (i, j) ∨ e = (j, i)) := by
    rw [decide_eq_decide]
    obtain ⟨a, b⟩ := e
    simp
  rw [d] at c
  have l2 : 2 ≤ lim := by rw [lim_eq]; omega
  simp only [List.map_cons, List.map_nil, dP] at c
  simp [f_law_pulls_c1t, dP, c, l2]
theorem lp_c3 {x0 x1 x2 x4 x5 x6 : D} {i : Int} : lcL (gtN 7) f_law_pulls_c3t f_law_pulls_c3 [x0, x1, x2, .int i, x4, x5, x6, .un] (ts.map dP) = .ok ((ts.filter fun e => !decide (e.1 = e.2) && (decide (i = e.1) || decide (i = e.2))).map dP) := by
  refine lcL_filterN ts fun e _ => ⟨?_, fun _ => by simp [f_law_pulls_c3, dP]⟩
  by_cases c : e.1 = e.2
  · simp [f_law_pulls_c3t, dP, c]
  · have ci : cIn (.int i) (.tp ([e.1, e.2].map D.int)) = some (decide (i ∈ [e.1, e.2])) := cIn_tp ..
    have di : decide (i ∈ [e.1, e.2]) = (decide (i = e.1) || decide (i = e.2)) := by
      rw [← Bool.decide_or, decide_eq_decide]
      simp
    rw [di] at ci
    simp only [List.map_cons, List.map_nil] at ci
    simp [f_law_pulls_c3t, dP, c, ci]
theorem lp_l5 {x0 x2 y6 : D} {i j : Int} {A : List Int} (bt : ts.length ≤ lim) (bA : A.length < lim) : f_law_pulls_l5 [x0, .ls (ts.map dP), x2, .int i, .ol (A.map D.int), .int j, y6, .un] = .nx [x0, .ls (ts.map dP), x2, .int i, .ol ((A ++ [pulN ts i j]).map D.int), .int j, .int (pulN ts i j), .un] := by
  have c1 := fun x0 x1 x2 x4 x6 => lp_c1 (x0 := x0) (x1 := x1) (x2 := x2) (x4 := x4) (x6 := x6) (i := i) (j := j) (ts := ts)
  have c3 := fun x0 x1 x2 x4 x5 x6 => lp_c3 (x0 := x0) (x1 := x1) (x2 := x2) (x4 := x4) (x5 := x5) (x6 := x6) (i := i) (ts := ts)
  have e1 : (((ts.filter fun e => decide (e = (i, j) ∨ e = (j, i))).map dP).length : Int) = nPr ts i j := by rw [List.length_map]; rfl
  have e3 : (((ts.filter fun e => !decide (e.1 = e.2) && (decide (i = e.1) || decide (i = e.2))).map dP).length : Int) = nLp ts i := by rw [List.length_map]; rfl
  obtain ⟨u1, u2, u3, u4, u5, u6⟩ := dulls dull_P (ts.filter fun e => decide (e = (i, j) ∨ e = (j, i)))
  obtain ⟨v1, v2, v3, v4, v5, v6⟩ := dulls dull_P (ts.filter fun e => !decide (e.1 = e.2) && (decide (i = e.1) || decide (i = e.2)))
  have lt : (ts.map dP).length = ts.length := List.length_map ..
  obtain ⟨t1, t2, t3, t4, t5, t6⟩ := dulls dull_P ts
  generalize (ts.filter fun e => decide (e = (i, j) ∨ e = (j, i))).map dP = U at *
  generalize (ts.filter fun e => !decide (e.1 = e.2) && (decide (i = e.1) || decide (i = e.2))).map dP = V at *
  generalize hT : ts.map dP = TT at *
  unfold f_law_pulls_l5
  refine seq_to (g1 := [x0, .ls TT, x2, .int i, .ol (A.map D.int), .int j, .int (nPr ts i j), .un]) (by simp [c1, lt, bt, u1, u2, u4, e1]) ?_
  by_cases c : i = j
  · refine seq_to (g1 := [x0, .ls TT, x2, .int i, .ol (A.map D.int), .int j, .int (nLp ts i), .un]) (by simp [c]; rw [← c]; simp [c3, lt, bt, v1, v2, v4, e3]) ?_
    simp [pulN, c, bA]
  · refine seq_to (g1 := [x0, .ls TT, x2, .int i, .ol (A.map D.int), .int j, .int (-nPr ts i j), .un]) (by simp [c]) ?_
    simp [pulN, c, bA]
theorem iota_snoc19 (n : Nat) : iota (n + 1) = iota n ++ [(n : Int)] := by
  unfold iota
  rw [List.range_succ, List.map_append]
  rfl
theorem lp_f5 {x0 x2 : D} {i : Int} (bt : ts.length ≤ lim) : ∀ (m lo : Nat) (y5 y6 : D), lo + m ≤ 1000 → ∃ z5 z6, forL (gtN 5) f_law_pulls_l5 (rng lo m) [x0, .ls (ts.map dP), x2, .int i, .ol (((iota lo).map (pulN ts i)).map D.int), y5, y6, .un] = .nx [x0, .ls (ts.map dP), x2, .int i, .ol (((iota (lo + m)).map (pulN ts i)).map D.int), z5, z6, .un]
  | 0, lo, y5, y6, _ => ⟨y5, y6, by rw [rng_zero]; rfl⟩
  | m + 1, lo, y5, y6, h => by
    obtain ⟨z5, z6, ih⟩ := lp_f5 (x0 := x0) (x2 := x2) (i := i) bt m (lo + 1) (.int (lo : Int)) (.int (pulN ts i (lo : Int))) (by omega)
    refine ⟨z5, z6, ?_⟩
    have st := lp_l5 (x0 := x0) (x2 := x2) (y6 := y6) (i := i) (j := (lo : Int)) (A := (iota lo).map (pulN ts i)) bt (by rw [List.length_map, iota_len, lim_eq]; omega)
    have e : (iota lo).map (pulN ts i) ++ [pulN ts i (lo : Int)] = (iota (lo + 1)).map (pulN ts i) := by rw [iota_snoc19, List.map_append]; rfl
    rw [e] at st
    rw [Int.natCast_succ, show lo + 1 + m = lo + (m + 1) by omega] at ih
    rw [rng_succ]
    exact (forL_step (g1 := [x0, .ls (ts.map dP), x2, .int i, .ol (((iota lo).map (pulN ts i)).map D.int), .int (lo : Int), y6, .un]) rfl st).trans ih
theorem lp_l6 {y4 y5 y6 : D} {i : Int} {A : List (List Int)} (bt : ts.length ≤ lim) (hp2 : p ≤ 100) (bA : A.length < lim) : ∃ z4 z5 z6, f_law_pulls_l6 [.int p, .ls (ts.map dP), .ol (A.map dR), .int i, y4, y5, y6, .un] = .nx [.int p, .ls (ts.map dP), .ol ((A ++ [dueR p ts i]).map dR), .int i, z4, z5, z6, .un] := by
  obtain ⟨z5, z6, e⟩ := lp_f5 (ts := ts) (x0 := .int p) (x2 := .ol (A.map dR)) (i := i) bt p 0 y5 y6 (by omega)
  rw [Nat.zero_add, show ((0 : Nat) : Int) = 0 from rfl] at e
  have hr : rgOk (p : Int) := rgOk_of (by omega) (by omega)
  have bA' : (A.map dR).length < lim := by rw [List.length_map]; exact bA
  obtain ⟨d1, d2, d3, d4, d5, d6⟩ := dulls dull_int ((iota p).map (pulN ts i))
  have er : dR (dueR p ts i) = .ls (((iota p).map (pulN ts i)).map D.int) := rfl
  have hp6 : (p : Int) ≤ 1000000 := by omega
  rw [List.map_append, List.map_singleton, er]
  generalize ((iota p).map (pulN ts i)).map D.int = RR at *
  generalize A.map dR = AA at *
  generalize ts.map dP = TT at *
  refine ⟨.ls RR, z5, z6, ?_⟩
  unfold f_law_pulls_l6
  refine seq_to (g1 := [.int p, .ls TT, .ol AA, .int i, .ol [], y5, y6, .un]) (by simp) ?_
  refine seq_to (g1 := [.int p, .ls TT, .ol AA, .int i, .ol RR, z5, z6, .un]) ?_ ?_
  · refine Eq.trans ?_ e
    simp [hr]
    rfl
  · simp [frzAt, d1, d2, d4, bA']
theorem lp_f6 (bt : ts.length ≤ lim) (hp2 : p ≤ 100) : ∀ (m lo : Nat) (y3 y4 y5 y6 : D), lo + m ≤ 100 → ∃ z3 z4 z5 z6, forL (gtN 3) f_law_pulls_l6 (rng lo m) [.int p, .ls (ts.map dP), .ol (((iota lo).map (dueR p ts)).map dR), y3, y4, y5, y6, .un] = .nx [.int p, .ls (ts.map dP), .ol (((iota (lo + m)).map (dueR p ts)).map dR), z3, z4, z5, z6, .un]
  | 0, lo, y3, y4, y5, y6, _ => ⟨y3, y4, y5, y6, by rw [rng_zero]; rfl⟩
  | m + 1, lo, y3, y4, y5, y6, h => by
    obtain ⟨w4, w5, w6, st⟩ := lp_l6 (p := p) (ts := ts) (y4 := y4) (y5 := y5) (y6 := y6) (i := (lo : Int)) (A := (iota lo).map (dueR p ts)) bt hp2 (by rw [List.length_map, iota_len, lim_eq]; omega)
    obtain ⟨z3, z4, z5, z6, ih⟩ := lp_f6 bt hp2 m (lo + 1) (.int (lo : Int)) w4 w5 w6 (by omega)
    refine ⟨z3, z4, z5, z6, ?_⟩
    have e : (iota lo).map (dueR p ts) ++ [dueR p ts (lo : Int)] = (iota (lo + 1)).map (dueR p ts) := by rw [iota_snoc19, List.map_append]; rfl
    rw [e] at st
    rw [Int.natCast_succ, show lo + 1 + m = lo + (m + 1) by omega] at ih
    rw [rng_succ]
    exact (forL_step (g1 := [.int p, .ls (ts.map dP), .ol (((iota lo).map (dueR p ts)).map dR), .int (lo : Int), y4, y5, y6, .un]) rfl st).trans ih
theorem lp_ok (bt : ts.length ≤ lim) (hp2 : p ≤ 100) : g_law_pulls [.int p, .ls (ts.map dP)] = .ok (.ol ((dueT p ts).map dR)) := by
  obtain ⟨z3, z4, z5, z6, e⟩ := lp_f6 bt hp2 p 0 .un .un .un .un (by omega)
  rw [Nat.zero_add, show ((0 : Nat) : Int) = 0 from rfl] at e
  have hr : rgOk (p : Int) := rgOk_of (by omega) (by omega)
  obtain ⟨d1, d2, d3, d4, d5, d6⟩ := dulls dull_R (dueT p ts)
  rw [show (iota p).map (dueR p ts) = dueT p ts from rfl] at e
  generalize (dueT p ts).map dR = RR at *
  have f : f_law_pulls [.int p, .ls (ts.map dP), .un, .un, .un, .un, .un, .un] = .rt (.ol RR) := by
    unfold f_law_pulls
    refine seq_to (g1 := [.int p, .ls (ts.map dP), .ol [], .un, .un, .un, .un, .un]) (by simp) ?_
    refine seq_to (g1 := [.int p, .ls (ts.map dP), .ol RR, z3, z4, z5, z6, .un]) ?_ ?_
    · refine Eq.trans ?_ e
      simp [hr]
      rfl
    · simp [d1, d2, d4]
  exact rt19 f rfl
theorem nLp_cons (e : Int × Int) (es : List (Int × Int)) (i : Int) : nLp (e :: es) i = (if ¬ e.1 = e.2 ∧ (i = e.1 ∨ i = e.2) then 1 else 0) + nLp es i := by
  unfold nLp
  rw [List.filter_cons]
  by_cases c : ¬ e.1 = e.2 ∧ (i = e.1 ∨ i = e.2)
  · rw [if_pos c, if_pos (by simpa using c), List.length_cons]; omega
  · rw [if_neg c, if_neg (by simpa using c)]; omega
theorem nPr_cons (e : Int × Int) (es : List (Int × Int)) (i j : Int) : nPr (e :: es) i j = (if e = (i, j) ∨ e = (j, i) then 1 else 0) + nPr es i j := by
  unfold nPr
  rw [List.filter_cons]
  by_cases c : e = (i, j) ∨ e = (j, i)
  · rw [if_pos c, if_pos (by simpa using c), List.length_cons]; omega
  · rw [if_neg c, if_neg (by simpa using c)]; omega
theorem rw_lp {i : Nat} : ∀ es : List (Int × Int), EndsOk p es → i < p → Dt.Rw (fun v => v) (es.map tn) i i = nLp es (i : Int)
  | [], _, _ => rfl
  | e :: es, hE, hi => by
    have ih := rw_lp es (fun x hx => hE x (List.mem_cons_of_mem _ hx)) hi
    obtain ⟨⟨a0, a1⟩, b0, b1⟩ := hE e (List.mem_cons_self ..)
    obtain ⟨x, y⟩ := e
    simp only at a0 a1 b0 b1
    rw [List.map_cons, nLp_cons]
    unfold Dt.Rw
    rw [ih]
    generalize nLp es (i : Int) = z
    unfold Dt.Xm Dt.xv tn
    simp only [Dt.iv]
    have h1 : (x.toNat = i) ↔ (i : Int) = x := by omega
    have h2 : (y.toNat = i) ↔ (i : Int) = y := by omega
    have h3 : (i = x.toNat) ↔ (i : Int) = x := by omega
    have h4 : (i = y.toNat) ↔ (i : Int) = y := by omega
    simp only [h1, h2, h3, h4]
    by_cases c1 : (i : Int) = x <;> by_cases c2 : (i : Int) = y
    · have c : x = y := c1.symm.trans c2
      simp [c1, c2, c]
    · have c : ¬ x = y := fun z => c2 (c1.trans z)
      have k : (if ¬ x = y ∧ ((i : Int) = x ∨ (i : Int) = y) then (1 : Int) else 0) = 1 := if_pos ⟨c, .inl c1⟩
      rw [k, if_pos c1, if_neg c2]
      omega
    · have c : ¬ x = y := fun z => c1 (c2.trans z.symm)
      have k : (if ¬ x = y ∧ ((i : Int) = x ∨ (i : Int) = y) then (1 : Int) else 0) = 1 := if_pos ⟨c, .inr c2⟩
      rw [k, if_neg c1, if_pos c2]
      omega
    · have k : (if ¬ x = y ∧ ((i : Int) = x ∨ (i : Int) = y) then (1 : Int) else 0) = 0 := if_neg (fun h => h.2.elim c1 c2)
      rw [k, if_neg c1, if_neg c2]
      omega
theorem rw_pr {i j : Nat} (hij : i ≠ j) : ∀ es : List (Int × Int), EndsOk p es → i < p → j < p → Dt.Rw (fun v => v) (es.map tn) i j = -nPr es (i : Int) (j : Int)
  | [], _, _, _ => rfl
  | e :: es, hE, hi, hj => by
    have ih := rw_pr hij es (fun x hx => hE x (List.mem_cons_of_mem _ hx)) hi hj
    obtain ⟨⟨a0, a1⟩, b0, b1⟩ := hE e (List.mem_cons_self ..)
    obtain ⟨x, y⟩ := e
    simp only at a0 a1 b0 b1
    rw [List.map_cons, nPr_cons]
    unfold Dt.Rw
    rw [ih]
    generalize nPr es (i : Int) (j : Int) = z
    unfold Dt.Xm Dt.xv tn
    simp only [Dt.iv]
    have h1 : (x.toNat = i) ↔ x = (i : Int) := by omega
    have h2 : (y.toNat = i) ↔ y = (i : Int) := by omega
    have h3 : (j = x.toNat) ↔ x = (j : Int) := by omega
    have h4 : (j = y.toNat) ↔ y = (j : Int) := by omega
    have hij' : ¬ (i : Int) = (j : Int) := by omega
    have hji' : ¬ (j : Int) = (i : Int) := by omega
    simp only [h1, h2, h3, h4, Prod.mk.injEq]
    by_cases c1 : x = (i : Int) <;> by_cases c2 : y = (j : Int) <;> by_cases c3 : x = (j : Int) <;> by_cases c4 : y = (i : Int) <;>
      first
      | exact absurd (c1.symm.trans c3) hij'
      | exact absurd (c4.symm.trans c2) hij'
      | (simp [c1, c2, c3, c4, hij', hji']; try omega)
theorem table19 {T : List (List Int)} (hs : Sq p T) (hE : EndsOk p ts) (he : ∀ i j, i < p → j < p → ent T i j = Dt.Rw (fun v => v) (ts.map tn) i j) : T = dueT p ts := by
  have hl : T.length = p := hs.len
  apply List.ext_getElem
  · rw [hl]; simp [dueT, iota_len]
  · intro i h1 h2
    have hi : i < p := hl ▸ h1
    have hr : T[i].length = p := hs.2 _ (List.getElem_mem h1)
    apply List.ext_getElem
    · rw [hr]; simp [dueT, dueR, iota_len]
    · intro j h3 h4
      have hj : j < p := hr ▸ h3
      have e := he i j hi hj
      have e1 : ent T i j = T[i][j] := by
        unfold ent rowN
        rw [List.getD_eq_getElem?_getD, List.getD_eq_getElem?_getD, List.getElem?_eq_getElem h1]
        simp only [Option.getD_some]
        rw [List.getElem?_eq_getElem h3]
        rfl
      have e2 : (dueT p ts)[i][j] = pulN ts (i : Int) (j : Int) := by
        simp [dueT, dueR, iota]
      rw [← e1, e, e2]
      unfold pulN
      by_cases c : i = j
      · subst c
        rw [if_pos rfl]
        exact rw_lp ts hE hi
      · rw [if_neg (by omega)]
        exact rw_pr c ts hE hi hj
def dB19 (l : List Int) : D := .bo (l.map D.int)
theorem brws_int19 : ∀ l : List Int, brws (l.map D.int) = l.map D.int
  | [] => by simp [brws]
  | a :: l => by simp [brws, brw, brws_int19 l]
theorem brws_O19 : ∀ T : List (List Int), brws (T.map dO') = T.map dB19
  | [] => by simp [brws]
  | a :: T => by simp only [List.map_cons, brws, brws_O19 T]; simp [dO', brw, dB19, brws_int19]
theorem toPys_B19 : ∀ T : List (List Int), toPys (T.map dB19) = toPys (T.map dR)
  | [] => rfl
  | a :: T => by simp only [List.map_cons, toPys, toPys_B19 T]; simp [dB19, dR, toPy]
theorem pyEq_19 (T : List (List Int)) : pyEq (.bo (T.map dB19)) (.ls (T.map dR)) = some true := by
  have h := (enc_int.ls.ls).eq (by omega) T T
  have e : pyEq (.bo (T.map dB19)) (.ls (T.map dR)) = pyEq (.ls (T.map dR)) (.ls (T.map dR)) := by
    unfold pyEq
    simp only [toPy, toPys_B19]
  rw [e]
  have h : pyEq (.ls (T.map dR)) (.ls (T.map dR)) = some (decide (T = T)) := h
  rw [h]
  simp
theorem rowsOf_19 : ∀ T : List (List Int), rowsOf (T.map dO') = some (T.map fun l => l.map D.int)
  | [] => rfl
  | a :: T => by
    simp only [List.map_cons, dO', rowsOf]
    rw [show (T.map dO') = T.map dO' from rfl, rowsOf_19 T]
    have : ((a.map D.int).all fun d => !own1 d) = true := by
      rw [List.all_eq_true]
      intro d hd
      obtain ⟨x, _, rfl⟩ := List.mem_map.mp hd
      rfl
    rw [if_pos this]
    rfl
def f_law_k19_l2t : Env → Res Bool := tOr_ (tNo (tTr (eIsT "list" (eVar 7)))) (tNo (tTr (eCall caAll (aCons (eLc (iSeq (eVar 7)) [8] (gtN 8) (tYesG) f_law_k19_c1) (aNil)))))
theorem wh19 {x0 x1 x2 x3 x4 x5 x6 : D} (l : List Int) (hl : l.length ≤ lim) : f_law_k19_l2t [x0, x1, x2, x3, x4, x5, x6, .ls (l.map D.int), .un] = .ok false := by
  have lc : lcL (gtN 8) tYesG f_law_k19_c1 [x0, x1, x2, x3, x4, x5, x6, .ls (l.map D.int), .un] (l.map D.int) = .ok ((l.map fun _ => true).map D.bl) := by
    rw [List.map_map]
    refine lcL_mapN l fun t _ => ?_
    simp [f_law_k19_c1, whole20]
  have ca : caAll [.ls ((l.map fun _ => true).map D.bl)] = some (.bl true) := by
    rw [caAll_bls]
    simp
  obtain ⟨d1, d2, _, d4, _, _⟩ := dulls dull_bl (l.map fun _ => true)
  simp [f_law_k19_l2t, lc, ca, hl, d2, d4, -List.map_map]
theorem k19_l2 {x0 x1 y5 y6 y7 : D} {T : List (List Int)} (hT : T = dueT p ts) (hg : g_pull_table [.ob 14 [.int p, .ls (ts.map dP)]] = .ok (.ol (T.map dO'))) (hp2 : p ≤ 100) :
    f_law_k19_l2 [x0, x1, .ls (ts.map dP), .ob 14 [.int p, .ls (ts.map dP)], .ls ((dueT p ts).map dR), y5, y6, y7, .un] = .nx [x0, x1, .ls (ts.map dP), .ob 14 [.int p, .ls (ts.map dP)], .ls ((dueT p ts).map dR), y5, .ol [], .un, .un] := by
  have bw := brws_O19 T
  have pe := pyEq_19 T
  have ro := rowsOf_19 T
  have hl : ∀ l ∈ T, l.length ≤ lim := fun l hl => by
    rw [hT] at hl
    obtain ⟨i, _, rfl⟩ := List.mem_map.mp hl
    simp [dueR, iota_len, lim_eq]
    omega
  rw [← hT]
  unfold f_law_k19_l2
  refine seq_to (g1 := [x0, x1, .ls (ts.map dP), .ob 14 [.int p, .ls (ts.map dP)], .ls (T.map dR), y5, .ol (T.map dO'), y7, .un]) (by simp [hg]) ?_
  refine seq_to (g1 := [x0, x1, .ls (ts.map dP), .ob 14 [.int p, .ls (ts.map dP)], .ls (T.map dR), y5, .ol (T.map dO'), y7, .un]) (by simp [bw, cNe, cEq, pe]) ?_
  refine seq_to (g1 := [x0, x1, .ls (ts.map dP), .ob 14 [.int p, .ls (ts.map dP)], .ls (T.map dR), y5, .ol ((T.map fun l => l.map D.int).map fun _ => .ol []), .un, .un]) ?_ (by simp)
  have hall : ((T.map fun l => l.map D.int).all fun xs => okF (f_law_k19_l2t [x0, x1, .ls (ts.map dP), .ob 14 [.int p, .ls (ts.map dP)], .ls (T.map dR), y5, .un, .ls xs, .un])) = true := by
    rw [List.all_eq_true]
    intro xs hx
    obtain ⟨l, hl', rfl⟩ := List.mem_map.mp hx
    rw [wh19 l (hl l hl')]
    rfl
  have fc : sForClr 6 7 f_law_k19_l2t [x0, x1, .ls (ts.map dP), .ob 14 [.int p, .ls (ts.map dP)], .ls (T.map dR), y5, .ol (T.map dO'), y7, .un] = .nx [x0, x1, .ls (ts.map dP), .ob 14 [.int p, .ls (ts.map dP)], .ls (T.map dR), y5, .ol ((T.map fun l => l.map D.int).map fun _ => .ol []), .un, .un] := by
    have e6 : ([x0, x1, .ls (ts.map dP), .ob 14 [.int p, .ls (ts.map dP)], .ls (T.map dR), y5, .ol (T.map dO'), y7, .un] : Env)[6]? = some (.ol (T.map dO')) := rfl
    unfold sForClr
    rw [e6]
    simp only [ro]
    exact if_pos (by rw [Bool.and_eq_true]; exact ⟨rfl, hall⟩)
  exact fc
end
theorem true_law_k19 (ns : List Int) (h : ns.length ≤ 63) : g_law_k19 [.sc (ns.map D.int)] = .ok (.bl true) := by
  obtain ⟨c, ec⟩ := at_ok ns 0 (by omega)
  have q0 := Int.emod_nonneg c (show (6 : Int) ≠ 0 by omega)
  have q1 := Int.emod_lt_of_pos c (show (0 : Int) < 6 by omega)
  generalize hq : 1 + c % 6 = p' at *
  have p1 : 1 ≤ p' := by omega
  have p2 : p' ≤ 6 := by omega
  obtain ⟨p, rfl⟩ : ∃ p : Nat, p' = p := ⟨p'.toNat, by omega⟩
  obtain ⟨ts, t1, t2, t3⟩ := ties2_ok ns (by omega) p 10 p1 (by omega) (by omega) (by omega)
  have ei := web_init_ok p ts (by omega) (by omega) (by omega) t2
  have p1' : 1 ≤ p := by omega
  have tr := trees1_ok p p1' (by omega) ts t2 (by omega)
  have hl := trees_len p ts
  have hb : (trees p ts).length ≤ 90000 := Nat.le_trans hl (Nat.le_trans (Nat.pow_le_pow_right (by omega) (show ts.length ≤ 10 by omega)) (by decide))
  have tc := tree_count_ok p1' (by omega) ts t2 (by omega)
  have lp := lp_ok (p := p) (ts := ts) (by rw [lim_eq]; omega) (by omega)
  obtain ⟨T, h1, h2, h3⟩ := pulls_ok (n := p) (p : Int) rfl (by omega) ts t2
  have hT := table19 h1 t2 h2
  have g1 : g_pull_table [.ob 14 [.int p, .ls (ts.map dP)]] = .ok (.ol (T.map dO')) := by
    simp [g_pull_table, runF, f_pull_table, h3]
  have st := fun x0 x1 y5 y6 y7 => k19_l2 (x0 := x0) (x1 := x1) (y5 := y5) (y6 := y6) (y7 := y7) hT g1 (by omega)
  have fr := (dulls dull_R (dueT p ts))
  obtain ⟨d1, d2, d3, d4, d5, d6⟩ := fr
  have hr : rgOk 2 := rgOk_of (by omega) (by omega)
  have r2 : rng 0 2 = [.int 0, .int 1] := rfl
  have lt : (trees p ts).length ≤ lim := by rw [lim_eq]; omega
  have lf : forL (gtN 5) f_law_k19_l2 (rng 0 2) [.sc (ns.map D.int), .int p, .ls (ts.map dP), .ob 14 [.int p, .ls (ts.map dP)], .ls ((dueT p ts).map dR), .un, .un, .un, .un] = .nx [.sc (ns.map D.int), .int p, .ls (ts.map dP), .ob 14 [.int p, .ls (ts.map dP)], .ls ((dueT p ts).map dR), .int 1, .ol [], .un, .un] := by
    rw [r2]
    refine (forL_step rfl (st ..)).trans ((forL_step rfl (st ..)).trans rfl)
  simp [g_law_k19, runF, f_law_k19, ec, hq, t3, ei, tr, hr, lp, d1, d2, d4, lf, tc, whole20, lt]
end Lw
end

namespace Lw
open PySem L2 DL
def top (i : Nat) : Stmt := PySem.Challenge.pw_spanrow_k19_pull_tables_and_counts.main.body.getD i (.Pass ⟨0, 0, 0, 0⟩)
abbrev s_look_at_table : Stmt := top 5
abbrev s_first_row_with : Stmt := top 6
abbrev s_cleared : Stmt := top 7
abbrev s_determinant : Stmt := top 8
abbrev s_Web_init : Stmt := inClass (top 12) 0
abbrev s_pulls : Stmt := top 14
abbrev s_without_last : Stmt := top 15
abbrev s_pull_table : Stmt := top 16
abbrev s_tree_count : Stmt := top 17
abbrev s_law_at : Stmt := top 19
abbrev s_law_mixed_v2 : Stmt := top 20
abbrev s_law_ties_v2 : Stmt := top 21
abbrev s_law_trees : Stmt := top 22
abbrev s_law_whole : Stmt := top 23
abbrev s_law_pulls : Stmt := top 24
abbrev s_law_k19 : Stmt := top 25
abbrev N_look_at_table : List Str := ["table", "row"]
abbrev N_first_row_with : List Str := ["rows", "at", "k"]
abbrev N_cleared : List Str := ["rows", "at", "ahead", "told", "pivot", "row", "made", "j"]
abbrev N_determinant : List Str := ["table", "rows", "sign", "ahead", "at", "found", "row"]
abbrev N_Web_init : List Str := ["self", "places", "ties", "one", "other"]
abbrev N_pulls : List Str := ["count", "ties", "table", "one", "other", "place"]
abbrev N_without_last : List Str := ["table", "row"]
abbrev N_pull_table : List Str := ["web"]
abbrev N_tree_count : List Str := ["web"]
abbrev N_law_at : List Str := ["script", "k"]
abbrev N_law_mixed_v2 : List Str := ["cell", "k", "big"]
abbrev N_law_ties_v2 : List Str := ["script", "count", "most", "told", "rest", "amount", "k", "digit", "cell", "m", "at"]
abbrev N_law_trees : List Str := ["count", "ties", "told", "tie", "pair", "more", "row", "marks", "low", "high", "mark"]
abbrev N_law_whole : List Str := ["found"]
abbrev N_law_pulls : List Str := ["count", "ties", "table", "one", "row", "other", "number", "pair"]
abbrev N_law_k19 : List Str := ["script", "count", "ties", "web", "due", "again", "found", "row", "number"]
theorem sc_look_at_table : FnScope ["table", "row"] ["table"] (defScope s_look_at_table) := ⟨rfl, rfl, rfl, by decide +kernel, rfl, by decide +kernel, by decide +kernel⟩
theorem sc_first_row_with : FnScope ["rows", "at", "k"] ["rows", "at"] (defScope s_first_row_with) := ⟨rfl, rfl, rfl, by decide +kernel, rfl, by decide +kernel, by decide +kernel⟩
theorem sc_cleared : FnScope ["rows", "at", "ahead", "told", "pivot", "row", "made", "j"] ["rows", "at", "ahead"] (defScope s_cleared) := ⟨rfl, rfl, rfl, by decide +kernel, rfl, by decide +kernel, by decide +kernel⟩
theorem sc_determinant : FnScope ["table", "rows", "sign", "ahead", "at", "found", "row"] ["table"] (defScope s_determinant) := ⟨rfl, rfl, rfl, by decide +kernel, rfl, by decide +kernel, by decide +kernel⟩
theorem sc_Web_init : FnScope ["self", "places", "ties", "one", "other"] ["self", "places", "ties"] (defScope s_Web_init) := ⟨rfl, rfl, rfl, by decide +kernel, rfl, by decide +kernel, by decide +kernel⟩
theorem sc_pulls : FnScope ["count", "ties", "table", "one", "other", "place"] ["count", "ties"] (defScope s_pulls) := ⟨rfl, rfl, rfl, by decide +kernel, rfl, by decide +kernel, by decide +kernel⟩
theorem sc_without_last : FnScope ["table", "row"] ["table"] (defScope s_without_last) := ⟨rfl, rfl, rfl, by decide +kernel, rfl, by decide +kernel, by decide +kernel⟩
theorem sc_pull_table : FnScope ["web"] ["web"] (defScope s_pull_table) := ⟨rfl, rfl, rfl, by decide +kernel, rfl, by decide +kernel, by decide +kernel⟩
theorem sc_tree_count : FnScope ["web"] ["web"] (defScope s_tree_count) := ⟨rfl, rfl, rfl, by decide +kernel, rfl, by decide +kernel, by decide +kernel⟩
theorem sc_law_at : FnScope ["script", "k"] ["script", "k"] (defScope s_law_at) := ⟨rfl, rfl, rfl, by decide +kernel, rfl, by decide +kernel, by decide +kernel⟩
theorem sc_law_mixed_v2 : FnScope ["cell", "k", "big"] ["cell", "k"] (defScope s_law_mixed_v2) := ⟨rfl, rfl, rfl, by decide +kernel, rfl, by decide +kernel, by decide +kernel⟩
theorem sc_law_ties_v2 : FnScope ["script", "count", "most", "told", "rest", "amount", "k", "digit", "cell", "m", "at"] ["script", "count", "most"] (defScope s_law_ties_v2) := ⟨rfl, rfl, rfl, by decide +kernel, rfl, by decide +kernel, by decide +kernel⟩
theorem sc_law_trees : FnScope ["count", "ties", "told", "tie", "pair", "more", "row", "marks", "low", "high", "mark"] ["count", "ties"] (defScope s_law_trees) := ⟨rfl, rfl, rfl, by decide +kernel, rfl, by decide +kernel, by decide +kernel⟩
theorem sc_law_whole : FnScope ["found"] ["found"] (defScope s_law_whole) := ⟨rfl, rfl, rfl, by decide +kernel, rfl, by decide +kernel, by decide +kernel⟩
theorem sc_law_pulls : FnScope ["count", "ties", "table", "one", "row", "other", "number", "pair"] ["count", "ties"] (defScope s_law_pulls) := ⟨rfl, rfl, rfl, by decide +kernel, rfl, by decide +kernel, by decide +kernel⟩
theorem sc_law_k19 : FnScope ["script", "count", "ties", "web", "due", "again", "found", "row", "number"] ["script"] (defScope s_law_k19) := ⟨rfl, rfl, rfl, by decide +kernel, rfl, by decide +kernel, by decide +kernel⟩
set_option maxHeartbeats 8000000 in
structure Tx (K : PySem.W.Frag) (mg : Str → Option Value) : Type where
  C_WebError : Addr
  C_BadWeb : Addr
  C_NotSquare : Addr
  C_Web : Addr
  a_look_at_table : Addr
  d_look_at_table : FuncData
  a_first_row_with : Addr
  d_first_row_with : FuncData
  a_cleared : Addr
  d_cleared : FuncData
  a_determinant : Addr
  d_determinant : FuncData
  a_Web_init : Addr
  d_Web_init : FuncData
  a_pulls : Addr
  d_pulls : FuncData
  a_without_last : Addr
  d_without_last : FuncData
  a_pull_table : Addr
  d_pull_table : FuncData
  a_tree_count : Addr
  d_tree_count : FuncData
  a_law_at : Addr
  d_law_at : FuncData
  a_law_mixed_v2 : Addr
  d_law_mixed_v2 : FuncData
  a_law_ties_v2 : Addr
  d_law_ties_v2 : FuncData
  a_law_trees : Addr
  d_law_trees : FuncData
  a_law_whole : Addr
  d_law_whole : FuncData
  a_law_pulls : Addr
  d_law_pulls : FuncData
  a_law_k19 : Addr
  d_law_k19 : FuncData
  t_MOST_PLACES : Tok
  t_MOST_TIES : Tok
  m_WebError : mg "WebError" = some (.ref C_WebError)
  x_WebError : PySem.W.excIn K C_WebError [.type "ValueError", .type "Exception", .type "BaseException", .type "object"] "ValueError.__new__" = true
  kx_WebError : PySem.W.keepIn K (.ref C_WebError) = true
  bx_WebError : PySem.W.subIn K (.ref C_WebError) (.type "BaseException") = some true
  tx_WebError : PySem.W.typeIn K (.ref C_WebError) = some (.type "type")
  m_BadWeb : mg "BadWeb" = some (.ref C_BadWeb)
  x_BadWeb : PySem.W.excIn K C_BadWeb [.type "ValueError", .type "Exception", .type "BaseException", .type "object"] "ValueError.__new__" = true
  kx_BadWeb : PySem.W.keepIn K (.ref C_BadWeb) = true
  bx_BadWeb : PySem.W.subIn K (.ref C_BadWeb) (.type "BaseException") = some true
  tx_BadWeb : PySem.W.typeIn K (.ref C_BadWeb) = some (.type "type")
  m_NotSquare : mg "NotSquare" = some (.ref C_NotSquare)
  x_NotSquare : PySem.W.excIn K C_NotSquare [.type "ValueError", .type "Exception", .type "BaseException", .type "object"] "ValueError.__new__" = true
  kx_NotSquare : PySem.W.keepIn K (.ref C_NotSquare) = true
  bx_NotSquare : PySem.W.subIn K (.ref C_NotSquare) (.type "BaseException") = some true
  tx_NotSquare : PySem.W.typeIn K (.ref C_NotSquare) = some (.type "type")
  m_Web : mg "Web" = some (.ref C_Web)
  cl_Web : L2.Cls K C_Web
  na_Web_places : NoAttr K C_Web "places"
  na_Web_ties : NoAttr K C_Web "ties"
  mk_Web : Mk K C_Web a_Web_init
  F_look_at_table : Fun K "look_at_table" "look_at_table" s_look_at_table a_look_at_table d_look_at_table
  b_look_at_table : Binds K d_look_at_table ["table"] []
  m_look_at_table : mg "look_at_table" = some (.ref a_look_at_table)
  k_look_at_table : PySem.W.keepIn K (.ref a_look_at_table) = true
  F_first_row_with : Fun K "first_row_with" "first_row_with" s_first_row_with a_first_row_with d_first_row_with
  b_first_row_with : Binds K d_first_row_with ["rows", "at"] []
  m_first_row_with : mg "first_row_with" = some (.ref a_first_row_with)
  k_first_row_with : PySem.W.keepIn K (.ref a_first_row_with) = true
  F_cleared : Fun K "cleared" "cleared" s_cleared a_cleared d_cleared
  b_cleared : Binds K d_cleared ["rows", "at", "ahead"] []
  m_cleared : mg "cleared" = some (.ref a_cleared)
  k_cleared : PySem.W.keepIn K (.ref a_cleared) = true
  F_determinant : Fun K "determinant" "determinant" s_determinant a_determinant d_determinant
  b_determinant : Binds K d_determinant ["table"] []
  m_determinant : mg "determinant" = some (.ref a_determinant)
  k_determinant : PySem.W.keepIn K (.ref a_determinant) = true
  F_Web_init : Fun K "__init__" "Web.__init__" s_Web_init a_Web_init d_Web_init
  b_Web_init : Binds K d_Web_init ["self", "places", "ties"] []
  k_Web_init : PySem.W.keepIn K (.ref a_Web_init) = true
  F_pulls : Fun K "pulls" "pulls" s_pulls a_pulls d_pulls
  b_pulls : Binds K d_pulls ["count", "ties"] []
  m_pulls : mg "pulls" = some (.ref a_pulls)
  k_pulls : PySem.W.keepIn K (.ref a_pulls) = true
  F_without_last : Fun K "without_last" "without_last" s_without_last a_without_last d_without_last
  b_without_last : Binds K d_without_last ["table"] []
  m_without_last : mg "without_last" = some (.ref a_without_last)
  k_without_last : PySem.W.keepIn K (.ref a_without_last) = true
  F_pull_table : Fun K "pull_table" "pull_table" s_pull_table a_pull_table d_pull_table
  b_pull_table : Binds K d_pull_table ["web"] []
  m_pull_table : mg "pull_table" = some (.ref a_pull_table)
  k_pull_table : PySem.W.keepIn K (.ref a_pull_table) = true
  F_tree_count : Fun K "tree_count" "tree_count" s_tree_count a_tree_count d_tree_count
  b_tree_count : Binds K d_tree_count ["web"] []
  m_tree_count : mg "tree_count" = some (.ref a_tree_count)
  k_tree_count : PySem.W.keepIn K (.ref a_tree_count) = true
  F_law_at : Fun K "_law_at" "_law_at" s_law_at a_law_at d_law_at
  b_law_at : Binds K d_law_at ["script", "k"] []
  m_law_at : mg "_law_at" = some (.ref a_law_at)
  k_law_at : PySem.W.keepIn K (.ref a_law_at) = true
  F_law_mixed_v2 : Fun K "_law_mixed" "_law_mixed" s_law_mixed_v2 a_law_mixed_v2 d_law_mixed_v2
  b_law_mixed_v2 : Binds K d_law_mixed_v2 ["cell", "k"] []
  m_law_mixed_v2 : mg "_law_mixed" = some (.ref a_law_mixed_v2)
  k_law_mixed_v2 : PySem.W.keepIn K (.ref a_law_mixed_v2) = true
  F_law_ties_v2 : Fun K "_law_ties" "_law_ties" s_law_ties_v2 a_law_ties_v2 d_law_ties_v2
  b_law_ties_v2 : Binds K d_law_ties_v2 ["script", "count", "most"] []
  m_law_ties_v2 : mg "_law_ties" = some (.ref a_law_ties_v2)
  k_law_ties_v2 : PySem.W.keepIn K (.ref a_law_ties_v2) = true
  F_law_trees : Fun K "_law_trees" "_law_trees" s_law_trees a_law_trees d_law_trees
  b_law_trees : Binds K d_law_trees ["count", "ties"] []
  m_law_trees : mg "_law_trees" = some (.ref a_law_trees)
  k_law_trees : PySem.W.keepIn K (.ref a_law_trees) = true
  F_law_whole : Fun K "_law_whole" "_law_whole" s_law_whole a_law_whole d_law_whole
  b_law_whole : Binds K d_law_whole ["found"] []
  m_law_whole : mg "_law_whole" = some (.ref a_law_whole)
  k_law_whole : PySem.W.keepIn K (.ref a_law_whole) = true
  F_law_pulls : Fun K "_law_pulls" "_law_pulls" s_law_pulls a_law_pulls d_law_pulls
  b_law_pulls : Binds K d_law_pulls ["count", "ties"] []
  m_law_pulls : mg "_law_pulls" = some (.ref a_law_pulls)
  k_law_pulls : PySem.W.keepIn K (.ref a_law_pulls) = true
  F_law_k19 : Fun K "law" "law" s_law_k19 a_law_k19 d_law_k19
  b_law_k19 : Binds K d_law_k19 ["script"] []
  m_law_k19 : mg "law" = some (.ref a_law_k19)
  k_law_k19 : PySem.W.keepIn K (.ref a_law_k19) = true
  v_MOST_PLACES : mg "MOST_PLACES" = some (.int 14 t_MOST_PLACES)
  v_MOST_TIES : mg "MOST_TIES" = some (.int 30 t_MOST_TIES)
  z_all : mg "all" = none
  z_bool : mg "bool" = none
  z_enumerate : mg "enumerate" = none
  z_int : mg "int" = none
  z_isinstance : mg "isinstance" = none
  z_len : mg "len" = none
  z_list : mg "list" = none
  z_range : mg "range" = none
  z_sorted : mg "sorted" = none
section
variable {P : Program} {w : World} {K : PySem.W.Frag} {mg : Str → Option Value} {base : Heap}
def Tx.cls (T : Tx K mg) : DL.Cls := fun c => ([some (T.C_WebError, []), some (T.C_BadWeb, []), none, none, none, none, none, some (T.C_NotSquare, []), none, none, none, none, none, none, some (T.C_Web, ["places", "ties"]), none, none] : List (Option (Addr × List Str))).getD c none
theorem Tx.e_WebError (T : Tx K mg) : ExOk K mg T.cls 0 "WebError" T.C_WebError := ⟨rfl, T.m_WebError, T.x_WebError, T.kx_WebError, T.bx_WebError, T.tx_WebError⟩
theorem Tx.e_BadWeb (T : Tx K mg) : ExOk K mg T.cls 1 "BadWeb" T.C_BadWeb := ⟨rfl, T.m_BadWeb, T.x_BadWeb, T.kx_BadWeb, T.bx_BadWeb, T.tx_BadWeb⟩
theorem Tx.e_NotSquare (T : Tx K mg) : ExOk K mg T.cls 7 "NotSquare" T.C_NotSquare := ⟨rfl, T.m_NotSquare, T.x_NotSquare, T.kx_NotSquare, T.bx_NotSquare, T.tx_NotSquare⟩
theorem Tx.o_Web (T : Tx K mg) : ClsOk K T.cls 14 T.C_Web ["places", "ties"] := ⟨rfl, by decide +kernel, T.cl_Web, fun f h => (by simp at h; rcases h with rfl | rfl <;> first | exact T.na_Web_places | exact T.na_Web_ties)⟩
set_option maxHeartbeats 4000000 in
theorem ok_look_at_table (T : Tx K mg) : FnOk P w K mg base (L2.CX P w) 1 T.a_look_at_table T.d_look_at_table ["table"] (spD K T.cls 1 g_look_at_table) :=
  fnD_ok T.F_look_at_table sc_look_at_table rfl (fun cdv A outer s H E c => jss_one (js_for c (ji_seq (je_var 0)) (jg_name (i := 1) c.nd rfl (by first | exact Or.inl rfl | exact Or.inr rfl)) (jss_one (js_if (jt_cmp (op_ne4 c.eq) ok_ne (je_callB call_len ok_len T.z_len (by decide +kernel) (ja_cons (je_var 1) (ja_nil))) (je_callB call_len ok_len T.z_len (by decide +kernel) (ja_cons (je_var 0) (ja_nil))) (nomark _)) (jss_one (js_raise c T.e_NotSquare)) (jss_nil))))) (fun _ _ => .inr rfl)
set_option maxHeartbeats 4000000 in
theorem ok_first_row_with (T : Tx K mg) : FnOk P w K mg base (L2.CX P w) 1 T.a_first_row_with T.d_first_row_with ["rows", "at"] (spD K T.cls 2 g_first_row_with) :=
  fnD_ok T.F_first_row_with sc_first_row_with rfl (fun cdv A outer s H E c => jss_cons (js_for c (ji_rg2 T.z_range (ja_cons (je_var 1) (ja_cons (je_callB call_len ok_len T.z_len (by decide +kernel) (ja_cons (je_var 0) (ja_nil))) (ja_nil)))) (jg_name (i := 2) c.nd rfl (by first | exact Or.inl rfl | exact Or.inr rfl)) (jss_one (js_if (jt_cmp (op_ne4 c.eq) ok_ne (je_ix (je_ix (je_var 0) (je_var 2)) (je_var 1)) (je_int) (nomark _)) (jss_one (js_retV 2)) (jss_nil)))) (jss_one (js_ret (je_non)))) (fun _ _ => .inr rfl)
set_option maxHeartbeats 4000000 in
theorem ok_cleared (T : Tx K mg) : FnOk P w K mg base (L2.CX P w) 1 T.a_cleared T.d_cleared ["rows", "at", "ahead"] (spD K T.cls 3 g_cleared) :=
  fnD_ok T.F_cleared sc_cleared rfl (fun cdv A outer s H E c => jss_cons (js_set (i := 3) c rfl (by first | exact Or.inl rfl | exact Or.inr rfl) (je_lst (jao_nil))) (jss_cons (js_setF (i := 4) c rfl (by first | exact Or.inl rfl | exact Or.inr rfl) (je_ix (je_var 0) (je_var 1))) (jss_cons (js_for c (ji_seq (je_sl (je_var 0) (jp_some (je_bin op_add4 ok_add (je_var 1) (je_int))) (jp_none))) (jg_name (i := 5) c.nd rfl (by first | exact Or.inl rfl | exact Or.inr rfl)) (jss_cons (js_set (i := 6) c rfl (by first | exact Or.inl rfl | exact Or.inr rfl) (je_bin op_mul4 ok_mul (je_lst (jao_cons (je_int) (jao_nil))) (je_bin op_add4 ok_add (je_var 1) (je_int)))) (jss_cons (js_for c (ji_rg2 T.z_range (ja_cons (je_bin op_add4 ok_add (je_var 1) (je_int)) (ja_cons (je_callB call_len ok_len T.z_len (by decide +kernel) (ja_cons (je_var 5) (ja_nil))) (ja_nil)))) (jg_name (i := 7) c.nd rfl (by first | exact Or.inl rfl | exact Or.inr rfl)) (jss_one (js_app (i := 6) rfl (by first | exact Or.inl rfl | exact Or.inr (Or.inl rfl) | exact Or.inr (Or.inr rfl)) (je_bin op_divX ok_div (je_bin op_sub ok_sub (je_bin op_mul4 ok_mul (je_ix (je_var 5) (je_var 7)) (je_ix (je_var 4) (je_var 1))) (je_bin op_mul4 ok_mul (je_ix (je_var 5) (je_var 1)) (je_ix (je_var 4) (je_var 7)))) (je_var 2))))) (jss_one (js_frz 6 (js_app (i := 3) rfl (by first | exact Or.inl rfl | exact Or.inr (Or.inl rfl) | exact Or.inr (Or.inr rfl)) (je_var 6))))))) (jss_one (js_retV 3))))) (fun _ _ => .inr rfl)
set_option maxHeartbeats 4000000 in
theorem ok_determinant (T : Tx K mg) (G_look_at_table : FnOk P w K mg base (L2.CX P w) 1 T.a_look_at_table T.d_look_at_table ["table"] (spD K T.cls 1 g_look_at_table)) (G_first_row_with : FnOk P w K mg base (L2.CX P w) 1 T.a_first_row_with T.d_first_row_with ["rows", "at"] (spD K T.cls 2 g_first_row_with)) (G_cleared : FnOk P w K mg base (L2.CX P w) 1 T.a_cleared T.d_cleared ["rows", "at", "ahead"] (spD K T.cls 3 g_cleared)) : FnOk P w K mg base (L2.CX P w) 2 T.a_determinant T.d_determinant ["table"] (spD K T.cls 1 g_determinant) :=
  fnD_ok T.F_determinant sc_determinant rfl (fun cdv A outer s H E c => jss_cons (js_exp (je_own (c.mono (by decide)) G_look_at_table T.m_look_at_table T.k_look_at_table T.b_look_at_table (ja_cons (je_var 0) (ja_nil)) (alS (al0)))) (jss_cons (js_setLcI (i := 1) [("row", 6)] c rfl rfl (sw_true rfl rfl rfl (by decide +kernel)) (ji_seq (je_var 0)) (blkOk_by (N := N_determinant) (sc := defScope s_determinant) (by decide +kernel)) (fun _ _ _ _ _ => jg_name (i := 6) c.nd rfl (by first | exact Or.inl rfl | exact Or.inr rfl)) (fun _ _ _ _ _ c => jts_nil) (fun _ _ _ _ _ c => je_callTy call_list_of ok_list T.z_list (by decide +kernel) (ja_cons (je_var 6) (ja_nil))) (by decide)) (jss_cons (js_setF (i := 2) c rfl (by first | exact Or.inl rfl | exact Or.inr rfl) (je_int)) (jss_cons (js_setF (i := 3) c rfl (by first | exact Or.inl rfl | exact Or.inr rfl) (je_int)) (jss_cons (js_for c (ji_rg1 T.z_range (ja_cons (je_callB call_len ok_len T.z_len (by decide +kernel) (ja_cons (je_var 1) (ja_nil))) (ja_nil))) (jg_name (i := 4) c.nd rfl (by first | exact Or.inl rfl | exact Or.inr rfl)) (jss_cons (js_setF (i := 5) c rfl (by first | exact Or.inl rfl | exact Or.inr rfl) (je_own (c.mono (by decide)) G_first_row_with T.m_first_row_with T.k_first_row_with T.b_first_row_with (ja_cons (je_var 1) (ja_cons (je_var 4) (ja_nil))) (alS (alS (al0))))) (jss_cons (js_if (jt_cmp op_isN ok_isN (je_var 5) (je_non) (nomark _)) (jss_one (js_ret (je_int))) (jss_nil)) (jss_cons (js_if (jt_cmp (op_ne4 c.eq) ok_ne (je_var 5) (je_var 4) (nomark _)) (jss_cons (js_swp (i := 1) c rfl (by first | exact Or.inl rfl | exact Or.inr (Or.inl rfl) | exact Or.inr (Or.inr rfl)) (je_tup (jao_cons (je_ix (je_var 1) (je_var 5)) (jao_cons (je_ix (je_var 1) (je_var 4)) (jao_nil)))) (je_var 4) (je_var 5)) (jss_one (js_setF (i := 2) c rfl (by first | exact Or.inl rfl | exact Or.inr rfl) (je_un un_neg ok_neg (je_var 2))))) (jss_nil)) (jss_cons (js_frz 1 (js_set (i := 1) c rfl (by first | exact Or.inl rfl | exact Or.inr rfl) (je_bin op_add4 ok_add (je_sl (je_var 1) (jp_none) (jp_some (je_bin op_add4 ok_add (je_var 4) (je_int)))) (je_own (c.mono (by decide)) G_cleared T.m_cleared T.k_cleared T.b_cleared (ja_cons (je_var 1) (ja_cons (je_var 4) (ja_cons (je_var 3) (ja_nil)))) (alS (alS (alS (al0)))))))) (jss_one (js_setF (i := 3) c rfl (by first | exact Or.inl rfl | exact Or.inr rfl) (je_ix (je_ix (je_var 1) (je_var 4)) (je_var 4))))))))) (jss_one (js_ret (je_bin op_mul4 ok_mul (je_var 2) (je_var 3))))))))) (fun _ _ => .inr rfl)
set_option maxHeartbeats 4000000 in
theorem ok_Web_init (T : Tx K mg) : FnOk P w K mg base (L2.CX P w) 1 T.a_Web_init T.d_Web_init ["self", "places", "ties"] (spI K T.cls 14 2 g_Web_init) :=
  fnI_ok T.F_Web_init sc_Web_init rfl (fun cdv A outer s H E c => jss_cons (js_if (jt_w (jw_or (jt_not (jt_chain op_le op_le ok_le ok_le (je_int) (je_var 1) (je_gint T.v_MOST_PLACES))) (jw_or1 (jt_cmp op_gt ok_gt (je_callB call_len ok_len T.z_len (by decide +kernel) (ja_cons (je_var 2) (ja_nil))) (je_gint T.v_MOST_TIES) (nomark _))))) (jss_one (js_raise c T.e_BadWeb)) (jss_nil)) (jss_cons (js_for c (ji_seq (je_var 2)) (jg_tup c.calm (jgs_cons (jg_name (i := 3) c.nd rfl (by first | exact Or.inl rfl | exact Or.inr rfl)) (jgs_cons (jg_name (i := 4) c.nd rfl (by first | exact Or.inl rfl | exact Or.inr rfl)) (jgs_nil)))) (jss_one (js_if (jt_w (jw_or (jt_not (jt_chain op_le op_lt ok_le ok_lt (je_int) (je_var 3) (je_var 1))) (jw_or1 (jt_not (jt_chain op_le op_lt ok_le ok_lt (je_int) (je_var 4) (je_var 1)))))) (jss_one (js_raise c T.e_BadWeb)) (jss_nil)))) (jss_cons (js_fld (i := 0) T.o_Web (j := 0) rfl (by decide) rfl (by first | exact Or.inl rfl | exact Or.inr (Or.inl rfl) | exact Or.inr (Or.inr rfl)) (je_var 1)) (jss_one (js_fld (i := 0) T.o_Web (j := 1) rfl (by decide) rfl (by first | exact Or.inl rfl | exact Or.inr (Or.inl rfl) | exact Or.inr (Or.inr rfl)) (je_callTy call_list_of ok_list T.z_list (by decide +kernel) (ja_cons (je_var 2) (ja_nil)))))))) (mirI_ok)
set_option maxHeartbeats 4000000 in
theorem ok_pulls (T : Tx K mg) : FnOk P w K mg base (L2.CX P w) 1 T.a_pulls T.d_pulls ["count", "ties"] (spD K T.cls 2 g_pulls) :=
  fnD_ok T.F_pulls sc_pulls rfl (fun cdv A outer s H E c => jss_cons (js_setLc (i := 2) [("place", 5)] c rfl rfl (sw_true rfl rfl rfl (by decide +kernel)) (ji_rg1 T.z_range (ja_cons (je_var 0) (ja_nil))) (blkOk_by (N := N_pulls) (sc := defScope s_pulls) (by decide +kernel)) (fun _ _ _ _ _ => jg_name (i := 5) c.nd rfl (by first | exact Or.inl rfl | exact Or.inr rfl)) (fun _ _ _ _ _ c => jts_nil) (fun _ _ _ _ _ c => je_bin op_mul4 ok_mul (je_lst (jao_cons (je_int) (jao_nil))) (je_var 0)) (by decide)) (jss_cons (js_for c (ji_seq (je_var 1)) (jg_tup c.calm (jgs_cons (jg_name (i := 3) c.nd rfl (by first | exact Or.inl rfl | exact Or.inr rfl)) (jgs_cons (jg_name (i := 4) c.nd rfl (by first | exact Or.inl rfl | exact Or.inr rfl)) (jgs_nil)))) (jss_one (js_if (jt_cmp (op_ne4 c.eq) ok_ne (je_var 3) (je_var 4) (nomark _)) (jss_cons (js_aug2 (i := 2) (j1 := 3) (j2 := 3) ip_add rfl (by first | exact Or.inl rfl | exact Or.inr (Or.inl rfl) | exact Or.inr (Or.inr rfl)) rfl (by first | exact Or.inl rfl | exact Or.inr (Or.inl rfl) | exact Or.inr (Or.inr rfl)) rfl (by first | exact Or.inl rfl | exact Or.inr (Or.inl rfl) | exact Or.inr (Or.inr rfl)) (je_int)) (jss_cons (js_aug2 (i := 2) (j1 := 4) (j2 := 4) ip_add rfl (by first | exact Or.inl rfl | exact Or.inr (Or.inl rfl) | exact Or.inr (Or.inr rfl)) rfl (by first | exact Or.inl rfl | exact Or.inr (Or.inl rfl) | exact Or.inr (Or.inr rfl)) rfl (by first | exact Or.inl rfl | exact Or.inr (Or.inl rfl) | exact Or.inr (Or.inr rfl)) (je_int)) (jss_cons (js_aug2 (i := 2) (j1 := 3) (j2 := 4) ip_sub rfl (by first | exact Or.inl rfl | exact Or.inr (Or.inl rfl) | exact Or.inr (Or.inr rfl)) rfl (by first | exact Or.inl rfl | exact Or.inr (Or.inl rfl) | exact Or.inr (Or.inr rfl)) rfl (by first | exact Or.inl rfl | exact Or.inr (Or.inl rfl) | exact Or.inr (Or.inr rfl)) (je_int)) (jss_one (js_aug2 (i := 2) (j1 := 4) (j2 := 3) ip_sub rfl (by first | exact Or.inl rfl | exact Or.inr (Or.inl rfl) | exact Or.inr (Or.inr rfl)) rfl (by first | exact Or.inl rfl | exact Or.inr (Or.inl rfl) | exact Or.inr (Or.inr rfl)) rfl (by first | exact Or.inl rfl | exact Or.inr (Or.inl rfl) | exact Or.inr (Or.inr rfl)) (je_int)))))) (jss_nil)))) (jss_one (js_retV 2)))) (fun _ _ => .inr rfl)
set_option maxHeartbeats 4000000 in
theorem ok_without_last (T : Tx K mg) : FnOk P w K mg base (L2.CX P w) 1 T.a_without_last T.d_without_last ["table"] (spD K T.cls 1 g_without_last) :=
  fnD_ok T.F_without_last sc_without_last rfl (fun cdv A outer s H E c => jss_one (js_ret (je_lc [("row", 1)] c (ji_seq (je_sl (je_var 0) (jp_none) (jp_some (je_un un_neg ok_neg (je_int))))) (blkOk_by (N := N_without_last) (sc := defScope s_without_last) (by decide +kernel)) (fun _ _ _ _ _ => jg_name (i := 1) c.nd rfl (by first | exact Or.inl rfl | exact Or.inr rfl)) (fun _ _ _ _ _ c => jts_nil) (fun _ _ _ _ _ c => je_sl (je_var 1) (jp_none) (jp_some (je_un un_neg ok_neg (je_int)))) (by decide)))) (fun _ _ => .inr rfl)
set_option maxHeartbeats 4000000 in
theorem ok_pull_table (T : Tx K mg) (G_pulls : FnOk P w K mg base (L2.CX P w) 1 T.a_pulls T.d_pulls ["count", "ties"] (spD K T.cls 2 g_pulls)) : FnOk P w K mg base (L2.CX P w) 2 T.a_pull_table T.d_pull_table ["web"] (spD K T.cls 1 g_pull_table) :=
  fnD_ok T.F_pull_table sc_pull_table rfl (fun cdv A outer s H E c => jss_one (js_ret (je_own (c.mono (by decide)) G_pulls T.m_pulls T.k_pulls T.b_pulls (ja_cons (je_fld T.o_Web (i := 0) rfl (je_var 0)) (ja_cons (je_fld T.o_Web (i := 1) rfl (je_var 0)) (ja_nil))) (alS (alS (al0)))))) (fun _ _ => .inr rfl)
set_option maxHeartbeats 4000000 in
theorem ok_tree_count (T : Tx K mg) (G_determinant : FnOk P w K mg base (L2.CX P w) 2 T.a_determinant T.d_determinant ["table"] (spD K T.cls 1 g_determinant)) (G_without_last : FnOk P w K mg base (L2.CX P w) 1 T.a_without_last T.d_without_last ["table"] (spD K T.cls 1 g_without_last)) (G_pull_table : FnOk P w K mg base (L2.CX P w) 2 T.a_pull_table T.d_pull_table ["web"] (spD K T.cls 1 g_pull_table)) : FnOk P w K mg base (L2.CX P w) 3 T.a_tree_count T.d_tree_count ["web"] (spD K T.cls 1 g_tree_count) :=
  fnD_ok T.F_tree_count sc_tree_count rfl (fun cdv A outer s H E c => jss_one (js_ret (je_own (c.mono (by decide)) G_determinant T.m_determinant T.k_determinant T.b_determinant (ja_cons (je_own (c.mono (by decide)) G_without_last T.m_without_last T.k_without_last T.b_without_last (ja_cons (je_own (c.mono (by decide)) G_pull_table T.m_pull_table T.k_pull_table T.b_pull_table (ja_cons (je_var 0) (ja_nil)) (alS (al0))) (ja_nil)) (alS (al0))) (ja_nil)) (alS (al0))))) (fun _ _ => .inr rfl)
set_option maxHeartbeats 4000000 in
theorem ok_law_at (T : Tx K mg) : FnOk P w K mg base (L2.CX P w) 1 T.a_law_at T.d_law_at ["script", "k"] (spD K T.cls 2 g_law_at) :=
  fnD_ok T.F_law_at sc_law_at rfl (fun cdv A outer s H E c => jss_cons (js_if (jt_cmp op_lt ok_lt (je_var 1) (je_callB call_len ok_len T.z_len (by decide +kernel) (ja_cons (je_var 0) (ja_nil))) (nomark _)) (jss_one (js_ret (je_ix (je_var 0) (je_var 1)))) (jss_nil)) (jss_one (js_ret (je_int)))) (fun _ _ => .inr rfl)
set_option maxHeartbeats 4000000 in
theorem ok_law_mixed_v2 (T : Tx K mg) : FnOk P w K mg base (L2.CX P w) 1 T.a_law_mixed_v2 T.d_law_mixed_v2 ["cell", "k"] (spD K T.cls 2 g_law_mixed_v2) :=
  fnD_ok T.F_law_mixed_v2 sc_law_mixed_v2 rfl (fun cdv A outer s H E c => jss_cons (js_setF (i := 2) c rfl (by first | exact Or.inl rfl | exact Or.inr rfl) (je_bin op_mul4 ok_mul (je_bin op_add4 ok_add (je_bin op_modX ok_mod (je_var 0) (je_bin op_pow ok_pow (je_int) (je_int))) (je_int)) (je_bin op_add4 ok_add (je_int) (je_bin op_mul4 ok_mul (je_bin op_mul4 ok_mul (je_int) (je_var 1)) (je_var 1))))) (jss_cons (js_setF (i := 2) c rfl (by first | exact Or.inl rfl | exact Or.inr rfl) (je_bin op_add4 ok_add (je_var 2) (je_bin op_mul4 ok_mul (je_int) (je_var 1)))) (jss_one (js_ret (je_bin op_modX ok_mod (je_bin op_mul4 ok_mul (je_var 2) (je_var 2)) (je_bin op_add4 ok_add (je_bin op_pow ok_pow (je_int) (je_int)) (je_int))))))) (fun _ _ => .inr rfl)
set_option maxHeartbeats 4000000 in
theorem ok_law_ties_v2 (T : Tx K mg) (G_law_at : FnOk P w K mg base (L2.CX P w) 1 T.a_law_at T.d_law_at ["script", "k"] (spD K T.cls 2 g_law_at)) (G_law_mixed_v2 : FnOk P w K mg base (L2.CX P w) 1 T.a_law_mixed_v2 T.d_law_mixed_v2 ["cell", "k"] (spD K T.cls 2 g_law_mixed_v2)) : FnOk P w K mg base (L2.CX P w) 2 T.a_law_ties_v2 T.d_law_ties_v2 ["script", "count", "most"] (spD K T.cls 3 g_law_ties_v2) :=
  fnD_ok T.F_law_ties_v2 sc_law_ties_v2 rfl (fun cdv A outer s H E c => jss_cons (js_set (i := 3) c rfl (by first | exact Or.inl rfl | exact Or.inr rfl) (je_lst (jao_nil))) (jss_cons (js_if (jt_cmp (op_eq4 c.eq) ok_eq (je_bin op_modX ok_mod (je_own (c.mono (by decide)) G_law_at T.m_law_at T.k_law_at T.b_law_at (ja_cons (je_var 0) (ja_cons (je_int) (ja_nil))) (alS (alS (al0)))) (je_int)) (je_int) (nomark _)) (jss_cons (js_setF (i := 4) c rfl (by first | exact Or.inl rfl | exact Or.inr rfl) (je_bin op_modX ok_mod (je_own (c.mono (by decide)) G_law_at T.m_law_at T.k_law_at T.b_law_at (ja_cons (je_var 0) (ja_cons (je_int) (ja_nil))) (alS (alS (al0)))) (je_bin op_pow ok_pow (je_int) (je_int)))) (jss_cons (js_setF (i := 5) c rfl (by first | exact Or.inl rfl | exact Or.inr rfl) (je_bin op_modX ok_mod (je_var 4) (je_bin op_add4 ok_add (je_var 2) (je_int)))) (jss_cons (js_setF (i := 4) c rfl (by first | exact Or.inl rfl | exact Or.inr rfl) (je_bin op_divX ok_div (je_var 4) (je_bin op_add4 ok_add (je_var 2) (je_int)))) (jss_cons (js_for c (ji_rg1 T.z_range (ja_cons (je_var 5) (ja_nil))) (jg_name (i := 6) c.nd rfl (by first | exact Or.inl rfl | exact Or.inr rfl)) (jss_cons (js_if (jt_cmp (op_eq4 c.eq) ok_eq (je_var 4) (je_int) (nomark _)) (jss_one (js_setF (i := 4) c rfl (by first | exact Or.inl rfl | exact Or.inr rfl) (je_own (c.mono (by decide)) G_law_mixed_v2 T.m_law_mixed_v2 T.k_law_mixed_v2 T.b_law_mixed_v2 (ja_cons (je_own (c.mono (by decide)) G_law_at T.m_law_at T.k_law_at T.b_law_at (ja_cons (je_var 0) (ja_cons (je_int) (ja_nil))) (alS (alS (al0)))) (ja_cons (je_var 6) (ja_nil))) (alS (alS (al0)))))) (jss_nil)) (jss_cons (js_setF (i := 7) c rfl (by first | exact Or.inl rfl | exact Or.inr rfl) (je_bin op_modX ok_mod (je_var 4) (je_bin op_add4 ok_add (je_bin op_mul4 ok_mul (je_var 1) (je_var 1)) (je_int)))) (jss_cons (js_app (i := 3) rfl (by first | exact Or.inl rfl | exact Or.inr (Or.inl rfl) | exact Or.inr (Or.inr rfl)) (je_tup (jao_cons (je_bin op_modX ok_mod (je_var 7) (je_var 1)) (jao_cons (je_bin op_modX ok_mod (je_bin op_divX ok_div (je_var 7) (je_var 1)) (je_var 1)) (jao_nil))))) (jss_one (js_setF (i := 4) c rfl (by first | exact Or.inl rfl | exact Or.inr rfl) (je_bin op_divX ok_div (je_var 4) (je_bin op_add4 ok_add (je_bin op_mul4 ok_mul (je_var 1) (je_var 1)) (je_int))))))))) (jss_one (js_retV 3)))))) (jss_nil)) (jss_cons (js_for c (ji_enm T.z_enumerate (ja_cons (je_sl (je_var 0) (jp_some (je_int)) (jp_none)) (ja_nil))) (jg_tup c.calm (jgs_cons (jg_name (i := 6) c.nd rfl (by first | exact Or.inl rfl | exact Or.inr rfl)) (jgs_cons (jg_name (i := 8) c.nd rfl (by first | exact Or.inl rfl | exact Or.inr rfl)) (jgs_nil)))) (jss_cons (js_setF (i := 9) c rfl (by first | exact Or.inl rfl | exact Or.inr rfl) (je_own (c.mono (by decide)) G_law_mixed_v2 T.m_law_mixed_v2 T.k_law_mixed_v2 T.b_law_mixed_v2 (ja_cons (je_var 8) (ja_cons (je_bin op_modX ok_mod (je_var 6) (je_int)) (ja_nil))) (alS (alS (al0))))) (jss_one (js_if (jt_cmp op_lt ok_lt (je_var 6) (je_var 2) (nomark _)) (jss_one (js_app (i := 3) rfl (by first | exact Or.inl rfl | exact Or.inr (Or.inl rfl) | exact Or.inr (Or.inr rfl)) (je_tup (jao_cons (je_bin op_modX ok_mod (je_bin op_divX ok_div (je_var 9) (je_int)) (je_var 1)) (jao_cons (je_bin op_modX ok_mod (je_bin op_divX ok_div (je_var 9) (je_int)) (je_var 1)) (jao_nil)))))) (jss_cons (js_setF (i := 10) c rfl (by first | exact Or.inl rfl | exact Or.inr rfl) (je_bin op_modX ok_mod (je_var 6) (je_var 2))) (jss_cons (js_setF (i := 9) c rfl (by first | exact Or.inl rfl | exact Or.inr rfl) (je_own (c.mono (by decide)) G_law_mixed_v2 T.m_law_mixed_v2 T.k_law_mixed_v2 T.b_law_mixed_v2 (ja_cons (je_bin op_add4 ok_add (je_bin op_add4 ok_add (je_var 9) (je_ix (je_ix (je_var 3) (je_var 10)) (je_int))) (je_bin op_mul4 ok_mul (je_int) (je_ix (je_ix (je_var 3) (je_var 10)) (je_int)))) (ja_cons (je_int) (ja_nil))) (alS (alS (al0))))) (jss_one (js_setIx (i := 3) rfl (by first | exact Or.inl rfl | exact Or.inr (Or.inl rfl) | exact Or.inr (Or.inr rfl)) (je_tup (jao_cons (je_bin op_modX ok_mod (je_bin op_divX ok_div (je_var 9) (je_int)) (je_var 1)) (jao_cons (je_bin op_modX ok_mod (je_bin op_divX ok_div (je_var 9) (je_int)) (je_var 1)) (jao_nil)))) (je_var 10))))))))) (jss_one (js_retV 3))))) (fun _ _ => .inr rfl)
set_option maxHeartbeats 4000000 in
theorem ok_law_trees (T : Tx K mg) : FnOk P w K mg base (L2.CX P w) 1 T.a_law_trees T.d_law_trees ["count", "ties"] (spD K T.cls 2 g_law_trees) :=
  fnD_ok T.F_law_trees sc_law_trees rfl (fun cdv A outer s H E c => jss_cons (js_setF (i := 2) c rfl (by first | exact Or.inl rfl | exact Or.inr rfl) (je_lst (jao_cons (je_tup (jao_cons (je_tup (jao_nil)) (jao_cons (je_lr1 c T.z_list T.z_range (je_var 0)) (jao_nil)))) (jao_nil)))) (jss_cons (js_for c (ji_enm T.z_enumerate (ja_cons (je_var 1) (ja_nil))) (jg_tup c.calm (jgs_cons (jg_name (i := 3) c.nd rfl (by first | exact Or.inl rfl | exact Or.inr rfl)) (jgs_cons (jg_name (i := 4) c.nd rfl (by first | exact Or.inl rfl | exact Or.inr rfl)) (jgs_nil)))) (jss_cons (js_set (i := 5) c rfl (by first | exact Or.inl rfl | exact Or.inr rfl) (je_lst (jao_nil))) (jss_cons (js_for c (ji_seq (je_var 2)) (jg_tup c.calm (jgs_cons (jg_name (i := 6) c.nd rfl (by first | exact Or.inl rfl | exact Or.inr rfl)) (jgs_cons (jg_name (i := 7) c.nd rfl (by first | exact Or.inl rfl | exact Or.inr rfl)) (jgs_nil)))) (jss_cons (js_setF (i := 8) c rfl (by first | exact Or.inl rfl | exact Or.inr rfl) (je_ix (je_var 7) (je_ix (je_var 4) (je_int)))) (jss_cons (js_setF (i := 9) c rfl (by first | exact Or.inl rfl | exact Or.inr rfl) (je_ix (je_var 7) (je_ix (je_var 4) (je_int)))) (jss_one (js_if (jt_cmp (op_ne4 c.eq) ok_ne (je_var 8) (je_var 9) (nomark _)) (jss_one (js_app (i := 5) rfl (by first | exact Or.inl rfl | exact Or.inr (Or.inl rfl) | exact Or.inr (Or.inr rfl)) (je_tup (jao_cons (je_bin op_add4 ok_add (je_var 6) (je_tup (jao_cons (je_var 3) (jao_nil)))) (jao_cons (je_lc [("mark", 10)] c (ji_seq (je_var 7)) (blkOk_by (N := N_law_trees) (sc := defScope s_law_trees) (by decide +kernel)) (fun _ _ _ _ _ => jg_name (i := 10) c.nd rfl (by first | exact Or.inl rfl | exact Or.inr rfl)) (fun _ _ _ _ _ c => jts_nil) (fun _ _ _ _ _ c => je_ix (je_lst (jao_cons (je_var 10) (jao_cons (je_var 8) (jao_nil)))) (je_callTy call_int1 ok_int T.z_int (by decide +kernel) (ja_cons (je_cmp (op_eq4 c.eq) ok_eq (je_var 10) (je_var 9) (nomark _)) (ja_nil)))) (by decide)) (jao_nil)))))) (jss_nil)))))) (jss_one (js_setF (i := 2) c rfl (by first | exact Or.inl rfl | exact Or.inr rfl) (je_bin op_add4 ok_add (je_var 2) (je_var 5))))))) (jss_one (js_ret (je_callB cr_sorted3 ok_sorted3 T.z_sorted (by decide +kernel) (ja_cons (je_lc [("row", 6), ("marks", 7)] c (ji_seq (je_var 2)) (blkOk_by (N := N_law_trees) (sc := defScope s_law_trees) (by decide +kernel)) (fun _ _ _ _ _ => jg_tup c.calm (jgs_cons (jg_name (i := 6) c.nd rfl (by first | exact Or.inl rfl | exact Or.inr rfl)) (jgs_cons (jg_name (i := 7) c.nd rfl (by first | exact Or.inl rfl | exact Or.inr rfl)) (jgs_nil)))) (fun _ _ _ _ _ c => jts_one (jt_cmp (op_eq4 c.eq) ok_eq (je_callB call_len ok_len T.z_len (by decide +kernel) (ja_cons (je_var 6) (ja_nil))) (je_bin op_sub ok_sub (je_var 0) (je_int)) (nomark _))) (fun _ _ _ _ _ c => je_var 6) (by decide)) (ja_nil))))))) (fun _ _ => .inr rfl)
set_option maxHeartbeats 4000000 in
theorem ok_law_whole (T : Tx K mg) : FnOk P w K mg base (L2.CX P w) 1 T.a_law_whole T.d_law_whole ["found"] (spD K T.cls 1 g_law_whole) :=
  fnD_ok T.F_law_whole sc_law_whole rfl (fun cdv A outer s H E c => jss_one (js_ret (je_and (je_tV (je_isT T.z_isinstance T.z_int (by decide +kernel) (je_var 0))) (je_one (je_not (je_tV (je_isT T.z_isinstance T.z_bool (by decide +kernel) (je_var 0)))))))) (fun _ _ => .inr rfl)
set_option maxHeartbeats 4000000 in
theorem ok_law_pulls (T : Tx K mg) : FnOk P w K mg base (L2.CX P w) 1 T.a_law_pulls T.d_law_pulls ["count", "ties"] (spD K T.cls 2 g_law_pulls) :=
  fnD_ok T.F_law_pulls sc_law_pulls rfl (fun cdv A outer s H E c => jss_cons (js_set (i := 2) c rfl (by first | exact Or.inl rfl | exact Or.inr rfl) (je_lst (jao_nil))) (jss_cons (js_for c (ji_rg1 T.z_range (ja_cons (je_var 0) (ja_nil))) (jg_name (i := 3) c.nd rfl (by first | exact Or.inl rfl | exact Or.inr rfl)) (jss_cons (js_set (i := 4) c rfl (by first | exact Or.inl rfl | exact Or.inr rfl) (je_lst (jao_nil))) (jss_cons (js_for c (ji_rg1 T.z_range (ja_cons (je_var 0) (ja_nil))) (jg_name (i := 5) c.nd rfl (by first | exact Or.inl rfl | exact Or.inr rfl)) (jss_cons (js_setF (i := 6) c rfl (by first | exact Or.inl rfl | exact Or.inr rfl) (je_callB call_len ok_len T.z_len (by decide +kernel) (ja_cons (je_lc [("pair", 7)] c (ji_seq (je_var 1)) (blkOk_by (N := N_law_pulls) (sc := defScope s_law_pulls) (by decide +kernel)) (fun _ _ _ _ _ => jg_name (i := 7) c.nd rfl (by first | exact Or.inl rfl | exact Or.inr rfl)) (fun _ _ _ _ _ c => jts_one (jt_cmp (op_in5 c.eq65) ok_in2 (je_var 7) (je_lst (jao_cons (je_tup (jao_cons (je_var 3) (jao_cons (je_var 5) (jao_nil)))) (jao_cons (je_tup (jao_cons (je_var 5) (jao_cons (je_var 3) (jao_nil)))) (jao_nil)))) (by rfl))) (fun _ _ _ _ _ c => je_var 7) (by decide)) (ja_nil)))) (jss_cons (js_if (jt_cmp (op_eq4 c.eq) ok_eq (je_var 3) (je_var 5) (nomark _)) (jss_one (js_setF (i := 6) c rfl (by first | exact Or.inl rfl | exact Or.inr rfl) (je_callB call_len ok_len T.z_len (by decide +kernel) (ja_cons (je_lc [("pair", 7)] c (ji_seq (je_var 1)) (blkOk_by (N := N_law_pulls) (sc := defScope s_law_pulls) (by decide +kernel)) (fun _ _ _ _ _ => jg_name (i := 7) c.nd rfl (by first | exact Or.inl rfl | exact Or.inr rfl)) (fun _ _ _ _ _ c => jts_one (jt_w (jw_and (jt_cmp (op_ne4 c.eq) ok_ne (je_ix (je_var 7) (je_int)) (je_ix (je_var 7) (je_int)) (nomark _)) (jw_and1 (jt_cmp op_in_seq ok_in (je_var 3) (je_var 7) (by rfl)))))) (fun _ _ _ _ _ c => je_var 7) (by decide)) (ja_nil))))) (jss_one (js_setF (i := 6) c rfl (by first | exact Or.inl rfl | exact Or.inr rfl) (je_un un_neg ok_neg (je_var 6))))) (jss_one (js_app (i := 4) rfl (by first | exact Or.inl rfl | exact Or.inr (Or.inl rfl) | exact Or.inr (Or.inr rfl)) (je_var 6)))))) (jss_one (js_frz 4 (js_app (i := 2) rfl (by first | exact Or.inl rfl | exact Or.inr (Or.inl rfl) | exact Or.inr (Or.inr rfl)) (je_var 4))))))) (jss_one (js_retV 2)))) (fun _ _ => .inr rfl)
set_option maxHeartbeats 4000000 in
theorem ok_law_k19 (T : Tx K mg) (G_law_at : FnOk P w K mg base (L2.CX P w) 1 T.a_law_at T.d_law_at ["script", "k"] (spD K T.cls 2 g_law_at)) (G_law_ties_v2 : FnOk P w K mg base (L2.CX P w) 2 T.a_law_ties_v2 T.d_law_ties_v2 ["script", "count", "most"] (spD K T.cls 3 g_law_ties_v2)) (G_Web_init : FnOk P w K mg base (L2.CX P w) 1 T.a_Web_init T.d_Web_init ["self", "places", "ties"] (spI K T.cls 14 2 g_Web_init)) (G_law_pulls : FnOk P w K mg base (L2.CX P w) 1 T.a_law_pulls T.d_law_pulls ["count", "ties"] (spD K T.cls 2 g_law_pulls)) (G_pull_table : FnOk P w K mg base (L2.CX P w) 2 T.a_pull_table T.d_pull_table ["web"] (spD K T.cls 1 g_pull_table)) (G_law_whole : FnOk P w K mg base (L2.CX P w) 1 T.a_law_whole T.d_law_whole ["found"] (spD K T.cls 1 g_law_whole)) (G_tree_count : FnOk P w K mg base (L2.CX P w) 3 T.a_tree_count T.d_tree_count ["web"] (spD K T.cls 1 g_tree_count)) (G_law_trees : FnOk P w K mg base (L2.CX P w) 1 T.a_law_trees T.d_law_trees ["count", "ties"] (spD K T.cls 2 g_law_trees)) : FnOk P w K mg base (L2.CX P w) 4 T.a_law_k19 T.d_law_k19 ["script"] (spD K T.cls 1 g_law_k19) :=
  fnD_ok T.F_law_k19 sc_law_k19 rfl (fun cdv A outer s H E c => jss_cons (js_setF (i := 1) c rfl (by first | exact Or.inl rfl | exact Or.inr rfl) (je_bin op_add4 ok_add (je_int) (je_bin op_modX ok_mod (je_own (c.mono (by decide)) G_law_at T.m_law_at T.k_law_at T.b_law_at (ja_cons (je_var 0) (ja_cons (je_int) (ja_nil))) (alS (alS (al0)))) (je_int)))) (jss_cons (js_setF (i := 2) c rfl (by first | exact Or.inl rfl | exact Or.inr rfl) (je_own (c.mono (by decide)) G_law_ties_v2 T.m_law_ties_v2 T.k_law_ties_v2 T.b_law_ties_v2 (ja_cons (je_var 0) (ja_cons (je_var 1) (ja_cons (je_int) (ja_nil)))) (alS (alS (alS (al0)))))) (jss_cons (js_setF (i := 3) c rfl (by first | exact Or.inl rfl | exact Or.inr rfl) (je_make (c.mono (by decide)) T.o_Web.e T.mk_Web G_Web_init T.m_Web T.b_Web_init (ja_cons (je_var 1) (ja_cons (je_var 2) (ja_nil))) (alS (alS (al0))))) (jss_cons (js_setF (i := 4) c rfl (by first | exact Or.inl rfl | exact Or.inr rfl) (je_own (c.mono (by decide)) G_law_pulls T.m_law_pulls T.k_law_pulls T.b_law_pulls (ja_cons (je_var 1) (ja_cons (je_var 2) (ja_nil))) (alS (alS (al0))))) (jss_cons (js_for c (ji_rg1 T.z_range (ja_cons (je_int) (ja_nil))) (jg_name (i := 5) c.nd rfl (by first | exact Or.inl rfl | exact Or.inr rfl)) (jss_cons (js_set (i := 6) c rfl (by first | exact Or.inl rfl | exact Or.inr rfl) (je_own (c.mono (by decide)) G_pull_table T.m_pull_table T.k_pull_table T.b_pull_table (ja_cons (je_var 3) (ja_nil)) (alS (al0)))) (jss_cons (js_if (jt_w (jw_or (jt_not (jt_truth (je_isT T.z_isinstance T.z_list (by decide +kernel) (je_var 6)))) (jw_or1 (jt_cmp (op_ne4 c.eq) ok_ne (je_var 6) (je_var 4) (nomark _))))) (jss_one (js_ret (je_bl))) (jss_nil)) (jss_cons (js_forClr (i := 6) (j := 7) c rfl (by first | exact Or.inl rfl | exact Or.inr (Or.inl rfl) | exact Or.inr (Or.inr rfl)) rfl (by first | exact Or.inl rfl | exact Or.inr rfl) (by first | exact Or.inl rfl | exact Or.inr (Or.inl rfl) | exact Or.inr (Or.inr rfl)) (jt_w (jw_or (jt_not (jt_truth (je_isT T.z_isinstance T.z_list (by decide +kernel) (je_var 7)))) (jw_or1 (jt_not (jt_truth (je_callB (cr_all c.calm) ok_all T.z_all (by decide +kernel) (ja_cons (je_lc [("number", 8)] c (ji_seq (je_var 7)) (blkOk_by (N := N_law_k19) (sc := defScope s_law_k19) (by decide +kernel)) (fun _ _ _ _ _ => jg_name (i := 8) c.nd rfl (by first | exact Or.inl rfl | exact Or.inr rfl)) (fun _ _ _ _ _ c => jts_nil) (fun _ _ _ _ _ c => je_own (c.mono (by decide)) G_law_whole T.m_law_whole T.k_law_whole T.b_law_whole (ja_cons (je_var 8) (ja_nil)) (alS (al0))) (by decide)) (ja_nil)))))))) (jss_one (js_ret (je_bl)))) (jss_one (js_clear (i := 6) rfl (by first | exact Or.inl rfl | exact Or.inr (Or.inl rfl) | exact Or.inr (Or.inr rfl)))))))) (jss_cons (js_set (i := 6) c rfl (by first | exact Or.inl rfl | exact Or.inr rfl) (je_own (c.mono (by decide)) G_tree_count T.m_tree_count T.k_tree_count T.b_tree_count (ja_cons (je_var 3) (ja_nil)) (alS (al0)))) (jss_one (js_ret (je_and (je_tV (je_own (c.mono (by decide)) G_law_whole T.m_law_whole T.k_law_whole T.b_law_whole (ja_cons (je_var 6) (ja_nil)) (alS (al0)))) (je_one (je_cmp (op_eq4 c.eq) ok_eq (je_var 6) (je_callB call_len ok_len T.z_len (by decide +kernel) (ja_cons (je_own (c.mono (by decide)) G_law_trees T.m_law_trees T.k_law_trees T.b_law_trees (ja_cons (je_var 1) (ja_cons (je_var 2) (ja_nil))) (alS (alS (al0)))) (ja_nil))) (nomark _)))))))))))) (fun _ _ => .inr rfl)
set_option maxHeartbeats 8000000 in
theorem all_mk {K : PySem.W.Frag} {h : Heap} {mg : Str → Option Value} (X : K.In h) (G : h.Ns mainGlobals mg) {C_WebError C_BadWeb C_NotSquare C_Web a_look_at_table a_first_row_with a_cleared a_determinant a_Web_init a_pulls a_without_last a_pull_table a_tree_count a_law_at a_law_mixed_v2 a_law_ties_v2 a_law_trees a_law_whole a_law_pulls a_law_k19 : Addr} {od_look_at_table an_look_at_table od_first_row_with an_first_row_with od_cleared an_cleared od_determinant an_determinant od_Web_init an_Web_init od_pulls an_pulls od_without_last an_without_last od_pull_table an_pull_table od_tree_count an_tree_count od_law_at an_law_at od_law_mixed_v2 an_law_mixed_v2 od_law_ties_v2 an_law_ties_v2 od_law_trees an_law_trees od_law_whole an_law_whole od_law_pulls an_law_pulls od_law_k19 an_law_k19 : Option Addr} {sl_look_at_table sl_first_row_with sl_cleared sl_determinant sl_Web_init sl_pulls sl_without_last sl_pull_table sl_tree_count sl_law_at sl_law_mixed_v2 sl_law_ties_v2 sl_law_trees sl_law_whole sl_law_pulls sl_law_k19 : Array (Option Value)} {oc_look_at_table kV_look_at_table dc_look_at_table pm_look_at_table cd_look_at_table ct_look_at_table oc_first_row_with kV_first_row_with dc_first_row_with pm_first_row_with cd_first_row_with ct_first_row_with oc_cleared kV_cleared dc_cleared pm_cleared cd_cleared ct_cleared oc_determinant kV_determinant dc_determinant pm_determinant cd_determinant ct_determinant oc_Web_init kV_Web_init dc_Web_init pm_Web_init cd_Web_init ct_Web_init oc_pulls kV_pulls dc_pulls pm_pulls cd_pulls ct_pulls oc_without_last kV_without_last dc_without_last pm_without_last cd_without_last ct_without_last oc_pull_table kV_pull_table dc_pull_table pm_pull_table cd_pull_table ct_pull_table oc_tree_count kV_tree_count dc_tree_count pm_tree_count cd_tree_count ct_tree_count oc_law_at kV_law_at dc_law_at pm_law_at cd_law_at ct_law_at oc_law_mixed_v2 kV_law_mixed_v2 dc_law_mixed_v2 pm_law_mixed_v2 cd_law_mixed_v2 ct_law_mixed_v2 oc_law_ties_v2 kV_law_ties_v2 dc_law_ties_v2 pm_law_ties_v2 cd_law_ties_v2 ct_law_ties_v2 oc_law_trees kV_law_trees dc_law_trees pm_law_trees cd_law_trees ct_law_trees oc_law_whole kV_law_whole dc_law_whole pm_law_whole cd_law_whole ct_law_whole oc_law_pulls kV_law_pulls dc_law_pulls pm_law_pulls cd_law_pulls ct_law_pulls oc_law_k19 kV_law_k19 dc_law_k19 pm_law_k19 cd_law_k19 ct_law_k19 : Value} {t_MOST_PLACES t_MOST_TIES : Tok}
    (a_WebError : PySem.W.nsIn K mainGlobals "WebError" = some (some (.ref C_WebError)))
    (x_WebError : PySem.W.excIn K C_WebError [.type "ValueError", .type "Exception", .type "BaseException", .type "object"] "ValueError.__new__" = true)
    (kx_WebError : PySem.W.keepIn K (.ref C_WebError) = true)
    (bx_WebError : PySem.W.subIn K (.ref C_WebError) (.type "BaseException") = some true)
    (tx_WebError : PySem.W.typeIn K (.ref C_WebError) = some (.type "type"))
    (a_BadWeb : PySem.W.nsIn K mainGlobals "BadWeb" = some (some (.ref C_BadWeb)))
    (x_BadWeb : PySem.W.excIn K C_BadWeb [.type "ValueError", .type "Exception", .type "BaseException", .type "object"] "ValueError.__new__" = true)
    (kx_BadWeb : PySem.W.keepIn K (.ref C_BadWeb) = true)
    (bx_BadWeb : PySem.W.subIn K (.ref C_BadWeb) (.type "BaseException") = some true)
    (tx_BadWeb : PySem.W.typeIn K (.ref C_BadWeb) = some (.type "type"))
    (a_NotSquare : PySem.W.nsIn K mainGlobals "NotSquare" = some (some (.ref C_NotSquare)))
    (x_NotSquare : PySem.W.excIn K C_NotSquare [.type "ValueError", .type "Exception", .type "BaseException", .type "object"] "ValueError.__new__" = true)
    (kx_NotSquare : PySem.W.keepIn K (.ref C_NotSquare) = true)
    (bx_NotSquare : PySem.W.subIn K (.ref C_NotSquare) (.type "BaseException") = some true)
    (tx_NotSquare : PySem.W.typeIn K (.ref C_NotSquare) = some (.type "type"))
    (a_Web : PySem.W.nsIn K mainGlobals "Web" = some (some (.ref C_Web)))
    (pg_Web : PySem.W.plainGet K C_Web Str.empty = true)
    (hd_Web : PySem.W.hasDictIn K C_Web = true)
    (po_Web : PySem.W.plainOver K C_Web = true)
    (sa_Web : PySem.W.findIn K (.ref C_Web) "__setattr__" = some (some (.builtin "object.__setattr__")))
    (mk_Web : PySem.W.makesIn K C_Web = true)
    (kc_Web : PySem.W.keepIn K (.ref C_Web) = true)
    (na_Web_places : PySem.W.findIn K (.ref C_Web) "places" = some none)
    (na_Web_ties : PySem.W.findIn K (.ref C_Web) "ties" = some none)
    (n_look_at_table : PySem.W.nsIn K mainGlobals "look_at_table" = some (some (.ref a_look_at_table)))
    (l_look_at_table : K.lookup a_look_at_table = some ⟨oc_look_at_table, od_look_at_table, .func (PySem.W.fnOf "look_at_table" "look_at_table" (defArgs s_look_at_table) (defBody s_look_at_table) (defScope s_look_at_table) .none kV_look_at_table dc_look_at_table pm_look_at_table an_look_at_table cd_look_at_table ct_look_at_table), sl_look_at_table⟩)
    (c_look_at_table : PySem.W.codeIn K cd_look_at_table "look_at_table" = true)
    (k_look_at_table : PySem.W.keepIn K (.ref a_look_at_table) = true)
    (n_first_row_with : PySem.W.nsIn K mainGlobals "first_row_with" = some (some (.ref a_first_row_with)))
    (l_first_row_with : K.lookup a_first_row_with = some ⟨oc_first_row_with, od_first_row_with, .func (PySem.W.fnOf "first_row_with" "first_row_with" (defArgs s_first_row_with) (defBody s_first_row_with) (defScope s_first_row_with) .none kV_first_row_with dc_first_row_with pm_first_row_with an_first_row_with cd_first_row_with ct_first_row_with), sl_first_row_with⟩)
    (c_first_row_with : PySem.W.codeIn K cd_first_row_with "first_row_with" = true)
    (k_first_row_with : PySem.W.keepIn K (.ref a_first_row_with) = true)
    (n_cleared : PySem.W.nsIn K mainGlobals "cleared" = some (some (.ref a_cleared)))
    (l_cleared : K.lookup a_cleared = some ⟨oc_cleared, od_cleared, .func (PySem.W.fnOf "cleared" "cleared" (defArgs s_cleared) (defBody s_cleared) (defScope s_cleared) .none kV_cleared dc_cleared pm_cleared an_cleared cd_cleared ct_cleared), sl_cleared⟩)
    (c_cleared : PySem.W.codeIn K cd_cleared "cleared" = true)
    (k_cleared : PySem.W.keepIn K (.ref a_cleared) = true)
    (n_determinant : PySem.W.nsIn K mainGlobals "determinant" = some (some (.ref a_determinant)))
    (l_determinant : K.lookup a_determinant = some ⟨oc_determinant, od_determinant, .func (PySem.W.fnOf "determinant" "determinant" (defArgs s_determinant) (defBody s_determinant) (defScope s_determinant) .none kV_determinant dc_determinant pm_determinant an_determinant cd_determinant ct_determinant), sl_determinant⟩)
    (c_determinant : PySem.W.codeIn K cd_determinant "determinant" = true)
    (k_determinant : PySem.W.keepIn K (.ref a_determinant) = true)
    (n_Web_init : PySem.W.findIn K (.ref C_Web) "__init__" = some (some (.ref a_Web_init)))
    (i_Web_init : PySem.W.isFn K (.ref a_Web_init) = true)
    (l_Web_init : K.lookup a_Web_init = some ⟨oc_Web_init, od_Web_init, .func (PySem.W.fnOf "__init__" "Web.__init__" (defArgs s_Web_init) (defBody s_Web_init) (defScope s_Web_init) .none kV_Web_init dc_Web_init pm_Web_init an_Web_init cd_Web_init ct_Web_init), sl_Web_init⟩)
    (c_Web_init : PySem.W.codeIn K cd_Web_init "Web.__init__" = true)
    (k_Web_init : PySem.W.keepIn K (.ref a_Web_init) = true)
    (n_pulls : PySem.W.nsIn K mainGlobals "pulls" = some (some (.ref a_pulls)))
    (l_pulls : K.lookup a_pulls = some ⟨oc_pulls, od_pulls, .func (PySem.W.fnOf "pulls" "pulls" (defArgs s_pulls) (defBody s_pulls) (defScope s_pulls) .none kV_pulls dc_pulls pm_pulls an_pulls cd_pulls ct_pulls), sl_pulls⟩)
    (c_pulls : PySem.W.codeIn K cd_pulls "pulls" = true)
    (k_pulls : PySem.W.keepIn K (.ref a_pulls) = true)
    (n_without_last : PySem.W.nsIn K mainGlobals "without_last" = some (some (.ref a_without_last)))
    (l_without_last : K.lookup a_without_last = some ⟨oc_without_last, od_without_last, .func (PySem.W.fnOf "without_last" "without_last" (defArgs s_without_last) (defBody s_without_last) (defScope s_without_last) .none kV_without_last dc_without_last pm_without_last an_without_last cd_without_last ct_without_last), sl_without_last⟩)
    (c_without_last : PySem.W.codeIn K cd_without_last "without_last" = true)
    (k_without_last : PySem.W.keepIn K (.ref a_without_last) = true)
    (n_pull_table : PySem.W.nsIn K mainGlobals "pull_table" = some (some (.ref a_pull_table)))
    (l_pull_table : K.lookup a_pull_table = some ⟨oc_pull_table, od_pull_table, .func (PySem.W.fnOf "pull_table" "pull_table" (defArgs s_pull_table) (defBody s_pull_table) (defScope s_pull_table) .none kV_pull_table dc_pull_table pm_pull_table an_pull_table cd_pull_table ct_pull_table), sl_pull_table⟩)
    (c_pull_table : PySem.W.codeIn K cd_pull_table "pull_table" = true)
    (k_pull_table : PySem.W.keepIn K (.ref a_pull_table) = true)
    (n_tree_count : PySem.W.nsIn K mainGlobals "tree_count" = some (some (.ref a_tree_count)))
    (l_tree_count : K.lookup a_tree_count = some ⟨oc_tree_count, od_tree_count, .func (PySem.W.fnOf "tree_count" "tree_count" (defArgs s_tree_count) (defBody s_tree_count) (defScope s_tree_count) .none kV_tree_count dc_tree_count pm_tree_count an_tree_count cd_tree_count ct_tree_count), sl_tree_count⟩)
    (c_tree_count : PySem.W.codeIn K cd_tree_count "tree_count" = true)
    (k_tree_count : PySem.W.keepIn K (.ref a_tree_count) = true)
    (n_law_at : PySem.W.nsIn K mainGlobals "_law_at" = some (some (.ref a_law_at)))
    (l_law_at : K.lookup a_law_at = some ⟨oc_law_at, od_law_at, .func (PySem.W.fnOf "_law_at" "_law_at" (defArgs s_law_at) (defBody s_law_at) (defScope s_law_at) .none kV_law_at dc_law_at pm_law_at an_law_at cd_law_at ct_law_at), sl_law_at⟩)
    (c_law_at : PySem.W.codeIn K cd_law_at "_law_at" = true)
    (k_law_at : PySem.W.keepIn K (.ref a_law_at) = true)
    (n_law_mixed_v2 : PySem.W.nsIn K mainGlobals "_law_mixed" = some (some (.ref a_law_mixed_v2)))
    (l_law_mixed_v2 : K.lookup a_law_mixed_v2 = some ⟨oc_law_mixed_v2, od_law_mixed_v2, .func (PySem.W.fnOf "_law_mixed" "_law_mixed" (defArgs s_law_mixed_v2) (defBody s_law_mixed_v2) (defScope s_law_mixed_v2) .none kV_law_mixed_v2 dc_law_mixed_v2 pm_law_mixed_v2 an_law_mixed_v2 cd_law_mixed_v2 ct_law_mixed_v2), sl_law_mixed_v2⟩)
    (c_law_mixed_v2 : PySem.W.codeIn K cd_law_mixed_v2 "_law_mixed" = true)
    (k_law_mixed_v2 : PySem.W.keepIn K (.ref a_law_mixed_v2) = true)
    (n_law_ties_v2 : PySem.W.nsIn K mainGlobals "_law_ties" = some (some (.ref a_law_ties_v2)))
    (l_law_ties_v2 : K.lookup a_law_ties_v2 = some ⟨oc_law_ties_v2, od_law_ties_v2, .func (PySem.W.fnOf "_law_ties" "_law_ties" (defArgs s_law_ties_v2) (defBody s_law_ties_v2) (defScope s_law_ties_v2) .none kV_law_ties_v2 dc_law_ties_v2 pm_law_ties_v2 an_law_ties_v2 cd_law_ties_v2 ct_law_ties_v2), sl_law_ties_v2⟩)
    (c_law_ties_v2 : PySem.W.codeIn K cd_law_ties_v2 "_law_ties" = true)
    (k_law_ties_v2 : PySem.W.keepIn K (.ref a_law_ties_v2) = true)
    (n_law_trees : PySem.W.nsIn K mainGlobals "_law_trees" = some (some (.ref a_law_trees)))
    (l_law_trees : K.lookup a_law_trees = some ⟨oc_law_trees, od_law_trees, .func (PySem.W.fnOf "_law_trees" "_law_trees" (defArgs s_law_trees) (defBody s_law_trees) (defScope s_law_trees) .none kV_law_trees dc_law_trees pm_law_trees an_law_trees cd_law_trees ct_law_trees), sl_law_trees⟩)
    (c_law_trees : PySem.W.codeIn K cd_law_trees "_law_trees" = true)
    (k_law_trees : PySem.W.keepIn K (.ref a_law_trees) = true)
    (n_law_whole : PySem.W.nsIn K mainGlobals "_law_whole" = some (some (.ref a_law_whole)))
    (l_law_whole : K.lookup a_law_whole = some ⟨oc_law_whole, od_law_whole, .func (PySem.W.fnOf "_law_whole" "_law_whole" (defArgs s_law_whole) (defBody s_law_whole) (defScope s_law_whole) .none kV_law_whole dc_law_whole pm_law_whole an_law_whole cd_law_whole ct_law_whole), sl_law_whole⟩)
    (c_law_whole : PySem.W.codeIn K cd_law_whole "_law_whole" = true)
    (k_law_whole : PySem.W.keepIn K (.ref a_law_whole) = true)
    (n_law_pulls : PySem.W.nsIn K mainGlobals "_law_pulls" = some (some (.ref a_law_pulls)))
    (l_law_pulls : K.lookup a_law_pulls = some ⟨oc_law_pulls, od_law_pulls, .func (PySem.W.fnOf "_law_pulls" "_law_pulls" (defArgs s_law_pulls) (defBody s_law_pulls) (defScope s_law_pulls) .none kV_law_pulls dc_law_pulls pm_law_pulls an_law_pulls cd_law_pulls ct_law_pulls), sl_law_pulls⟩)
    (c_law_pulls : PySem.W.codeIn K cd_law_pulls "_law_pulls" = true)
    (k_law_pulls : PySem.W.keepIn K (.ref a_law_pulls) = true)
    (n_law_k19 : PySem.W.nsIn K mainGlobals "law" = some (some (.ref a_law_k19)))
    (l_law_k19 : K.lookup a_law_k19 = some ⟨oc_law_k19, od_law_k19, .func (PySem.W.fnOf "law" "law" (defArgs s_law_k19) (defBody s_law_k19) (defScope s_law_k19) .none kV_law_k19 dc_law_k19 pm_law_k19 an_law_k19 cd_law_k19 ct_law_k19), sl_law_k19⟩)
    (c_law_k19 : PySem.W.codeIn K cd_law_k19 "law" = true)
    (k_law_k19 : PySem.W.keepIn K (.ref a_law_k19) = true)
    (v_MOST_PLACES : PySem.W.nsIn K mainGlobals "MOST_PLACES" = some (some (.int 14 t_MOST_PLACES)))
    (v_MOST_TIES : PySem.W.nsIn K mainGlobals "MOST_TIES" = some (some (.int 30 t_MOST_TIES)))
    (z_all : PySem.W.nsIn K mainGlobals "all" = some none)
    (z_bool : PySem.W.nsIn K mainGlobals "bool" = some none)
    (z_enumerate : PySem.W.nsIn K mainGlobals "enumerate" = some none)
    (z_int : PySem.W.nsIn K mainGlobals "int" = some none)
    (z_isinstance : PySem.W.nsIn K mainGlobals "isinstance" = some none)
    (z_len : PySem.W.nsIn K mainGlobals "len" = some none)
    (z_list : PySem.W.nsIn K mainGlobals "list" = some none)
    (z_range : PySem.W.nsIn K mainGlobals "range" = some none)
    (z_sorted : PySem.W.nsIn K mainGlobals "sorted" = some none)
    : ∃ T : Tx K mg, mg "law" = some (.ref T.a_law_k19) ∧ ∀ (s : Shared) (v : Value), BindsTo s T.d_law_k19 ⟨[v], []⟩ [("script", v)] := by
  refine ⟨{
    C_WebError := C_WebError,
    C_BadWeb := C_BadWeb,
    C_NotSquare := C_NotSquare,
    C_Web := C_Web,
    a_look_at_table := a_look_at_table,
    d_look_at_table := PySem.W.fnOf "look_at_table" "look_at_table" (defArgs s_look_at_table) (defBody s_look_at_table) (defScope s_look_at_table) .none kV_look_at_table dc_look_at_table pm_look_at_table an_look_at_table cd_look_at_table ct_look_at_table,
    a_first_row_with := a_first_row_with,
    d_first_row_with := PySem.W.fnOf "first_row_with" "first_row_with" (defArgs s_first_row_with) (defBody s_first_row_with) (defScope s_first_row_with) .none kV_first_row_with dc_first_row_with pm_first_row_with an_first_row_with cd_first_row_with ct_first_row_with,
    a_cleared := a_cleared,
    d_cleared := PySem.W.fnOf "cleared" "cleared" (defArgs s_cleared) (defBody s_cleared) (defScope s_cleared) .none kV_cleared dc_cleared pm_cleared an_cleared cd_cleared ct_cleared,
    a_determinant := a_determinant,
    d_determinant := PySem.W.fnOf "determinant" "determinant" (defArgs s_determinant) (defBody s_determinant) (defScope s_determinant) .none kV_determinant dc_determinant pm_determinant an_determinant cd_determinant ct_determinant,
    a_Web_init := a_Web_init,
    d_Web_init := PySem.W.fnOf "__init__" "Web.__init__" (defArgs s_Web_init) (defBody s_Web_init) (defScope s_Web_init) .none kV_Web_init dc_Web_init pm_Web_init an_Web_init cd_Web_init ct_Web_init,
    a_pulls := a_pulls,
    d_pulls := PySem.W.fnOf "pulls" "pulls" (defArgs s_pulls) (defBody s_pulls) (defScope s_pulls) .none kV_pulls dc_pulls pm_pulls an_pulls cd_pulls ct_pulls,
    a_without_last := a_without_last,
    d_without_last := PySem.W.fnOf "without_last" "without_last" (defArgs s_without_last) (defBody s_without_last) (defScope s_without_last) .none kV_without_last dc_without_last pm_without_last an_without_last cd_without_last ct_without_last,
    a_pull_table := a_pull_table,
    d_pull_table := PySem.W.fnOf "pull_table" "pull_table" (defArgs s_pull_table) (defBody s_pull_table) (defScope s_pull_table) .none kV_pull_table dc_pull_table pm_pull_table an_pull_table cd_pull_table ct_pull_table,
    a_tree_count := a_tree_count,
    d_tree_count := PySem.W.fnOf "tree_count" "tree_count" (defArgs s_tree_count) (defBody s_tree_count) (defScope s_tree_count) .none kV_tree_count dc_tree_count pm_tree_count an_tree_count cd_tree_count ct_tree_count,
    a_law_at := a_law_at,
    d_law_at := PySem.W.fnOf "_law_at" "_law_at" (defArgs s_law_at) (defBody s_law_at) (defScope s_law_at) .none kV_law_at dc_law_at pm_law_at an_law_at cd_law_at ct_law_at,
    a_law_mixed_v2 := a_law_mixed_v2,
    d_law_mixed_v2 := PySem.W.fnOf "_law_mixed" "_law_mixed" (defArgs s_law_mixed_v2) (defBody s_law_mixed_v2) (defScope s_law_mixed_v2) .none kV_law_mixed_v2 dc_law_mixed_v2 pm_law_mixed_v2 an_law_mixed_v2 cd_law_mixed_v2 ct_law_mixed_v2,
    a_law_ties_v2 := a_law_ties_v2,
    d_law_ties_v2 := PySem.W.fnOf "_law_ties" "_law_ties" (defArgs s_law_ties_v2) (defBody s_law_ties_v2) (defScope s_law_ties_v2) .none kV_law_ties_v2 dc_law_ties_v2 pm_law_ties_v2 an_law_ties_v2 cd_law_ties_v2 ct_law_ties_v2,
    a_law_trees := a_law_trees,
    d_law_trees := PySem.W.fnOf "_law_trees" "_law_trees" (defArgs s_law_trees) (defBody s_law_trees) (defScope s_law_trees) .none kV_law_trees dc_law_trees pm_law_trees an_law_trees cd_law_trees ct_law_trees,
    a_law_whole := a_law_whole,
    d_law_whole := PySem.W.fnOf "_law_whole" "_law_whole" (defArgs s_law_whole) (defBody s_law_whole) (defScope s_law_whole) .none kV_law_whole dc_law_whole pm_law_whole an_law_whole cd_law_whole ct_law_whole,
    a_law_pulls := a_law_pulls,
    d_law_pulls := PySem.W.fnOf "_law_pulls" "_law_pulls" (defArgs s_law_pulls) (defBody s_law_pulls) (defScope s_law_pulls) .none kV_law_pulls dc_law_pulls pm_law_pulls an_law_pulls cd_law_pulls ct_law_pulls,
    a_law_k19 := a_law_k19,
    d_law_k19 := PySem.W.fnOf "law" "law" (defArgs s_law_k19) (defBody s_law_k19) (defScope s_law_k19) .none kV_law_k19 dc_law_k19 pm_law_k19 an_law_k19 cd_law_k19 ct_law_k19,
    t_MOST_PLACES := t_MOST_PLACES,
    t_MOST_TIES := t_MOST_TIES,
    m_WebError := PySem.W.mg_of X G a_WebError,
    x_WebError := x_WebError,
    kx_WebError := kx_WebError,
    bx_WebError := bx_WebError,
    tx_WebError := tx_WebError,
    m_BadWeb := PySem.W.mg_of X G a_BadWeb,
    x_BadWeb := x_BadWeb,
    kx_BadWeb := kx_BadWeb,
    bx_BadWeb := bx_BadWeb,
    tx_BadWeb := tx_BadWeb,
    m_NotSquare := PySem.W.mg_of X G a_NotSquare,
    x_NotSquare := x_NotSquare,
    kx_NotSquare := kx_NotSquare,
    bx_NotSquare := bx_NotSquare,
    tx_NotSquare := tx_NotSquare,
    m_Web := PySem.W.mg_of X G a_Web,
    cl_Web := ⟨pg_Web, hd_Web, po_Web, sa_Web⟩,
    na_Web_places := na_Web_places,
    na_Web_ties := na_Web_ties,
    mk_Web := ⟨mk_Web, n_Web_init, i_Web_init, kc_Web⟩,
    F_look_at_table := fun_mk (st := s_look_at_table) l_look_at_table c_look_at_table k_look_at_table,
    b_look_at_table := (fun_mk (st := s_look_at_table) l_look_at_table c_look_at_table k_look_at_table).binds (ps := ["table"]) fun _ _ _ _ _ _ us hl => match us, hl with | [_], _ => rfl,
    m_look_at_table := PySem.W.mg_of X G n_look_at_table,
    k_look_at_table := k_look_at_table,
    F_first_row_with := fun_mk (st := s_first_row_with) l_first_row_with c_first_row_with k_first_row_with,
    b_first_row_with := (fun_mk (st := s_first_row_with) l_first_row_with c_first_row_with k_first_row_with).binds (ps := ["rows", "at"]) fun _ _ _ _ _ _ us hl => match us, hl with | [_, _], _ => rfl,
    m_first_row_with := PySem.W.mg_of X G n_first_row_with,
    k_first_row_with := k_first_row_with,
    F_cleared := fun_mk (st := s_cleared) l_cleared c_cleared k_cleared,
    b_cleared := (fun_mk (st := s_cleared) l_cleared c_cleared k_cleared).binds (ps := ["rows", "at", "ahead"]) fun _ _ _ _ _ _ us hl => match us, hl with | [_, _, _], _ => rfl,
    m_cleared := PySem.W.mg_of X G n_cleared,
    k_cleared := k_cleared,
    F_determinant := fun_mk (st := s_determinant) l_determinant c_determinant k_determinant,
    b_determinant := (fun_mk (st := s_determinant) l_determinant c_determinant k_determinant).binds (ps := ["table"]) fun _ _ _ _ _ _ us hl => match us, hl with | [_], _ => rfl,
    m_determinant := PySem.W.mg_of X G n_determinant,
    k_determinant := k_determinant,
    F_Web_init := fun_mk (st := s_Web_init) l_Web_init c_Web_init k_Web_init,
    b_Web_init := (fun_mk (st := s_Web_init) l_Web_init c_Web_init k_Web_init).binds (ps := ["self", "places", "ties"]) fun _ _ _ _ _ _ us hl => match us, hl with | [_, _, _], _ => rfl,
    k_Web_init := k_Web_init,
    F_pulls := fun_mk (st := s_pulls) l_pulls c_pulls k_pulls,
    b_pulls := (fun_mk (st := s_pulls) l_pulls c_pulls k_pulls).binds (ps := ["count", "ties"]) fun _ _ _ _ _ _ us hl => match us, hl with | [_, _], _ => rfl,
    m_pulls := PySem.W.mg_of X G n_pulls,
    k_pulls := k_pulls,
    F_without_last := fun_mk (st := s_without_last) l_without_last c_without_last k_without_last,
    b_without_last := (fun_mk (st := s_without_last) l_without_last c_without_last k_without_last).binds (ps := ["table"]) fun _ _ _ _ _ _ us hl => match us, hl with | [_], _ => rfl,
    m_without_last := PySem.W.mg_of X G n_without_last,
    k_without_last := k_without_last,
    F_pull_table := fun_mk (st := s_pull_table) l_pull_table c_pull_table k_pull_table,
    b_pull_table := (fun_mk (st := s_pull_table) l_pull_table c_pull_table k_pull_table).binds (ps := ["web"]) fun _ _ _ _ _ _ us hl => match us, hl with | [_], _ => rfl,
    m_pull_table := PySem.W.mg_of X G n_pull_table,
    k_pull_table := k_pull_table,
    F_tree_count := fun_mk (st := s_tree_count) l_tree_count c_tree_count k_tree_count,
    b_tree_count := (fun_mk (st := s_tree_count) l_tree_count c_tree_count k_tree_count).binds (ps := ["web"]) fun _ _ _ _ _ _ us hl => match us, hl with | [_], _ => rfl,
    m_tree_count := PySem.W.mg_of X G n_tree_count,
    k_tree_count := k_tree_count,
    F_law_at := fun_mk (st := s_law_at) l_law_at c_law_at k_law_at,
    b_law_at := (fun_mk (st := s_law_at) l_law_at c_law_at k_law_at).binds (ps := ["script", "k"]) fun _ _ _ _ _ _ us hl => match us, hl with | [_, _], _ => rfl,
    m_law_at := PySem.W.mg_of X G n_law_at,
    k_law_at := k_law_at,
    F_law_mixed_v2 := fun_mk (st := s_law_mixed_v2) l_law_mixed_v2 c_law_mixed_v2 k_law_mixed_v2,
    b_law_mixed_v2 := (fun_mk (st := s_law_mixed_v2) l_law_mixed_v2 c_law_mixed_v2 k_law_mixed_v2).binds (ps := ["cell", "k"]) fun _ _ _ _ _ _ us hl => match us, hl with | [_, _], _ => rfl,
    m_law_mixed_v2 := PySem.W.mg_of X G n_law_mixed_v2,
    k_law_mixed_v2 := k_law_mixed_v2,
    F_law_ties_v2 := fun_mk (st := s_law_ties_v2) l_law_ties_v2 c_law_ties_v2 k_law_ties_v2,
    b_law_ties_v2 := (fun_mk (st := s_law_ties_v2) l_law_ties_v2 c_law_ties_v2 k_law_ties_v2).binds (ps := ["script", "count", "most"]) fun _ _ _ _ _ _ us hl => match us, hl with | [_, _, _], _ => rfl,
    m_law_ties_v2 := PySem.W.mg_of X G n_law_ties_v2,
    k_law_ties_v2 := k_law_ties_v2,
    F_law_trees := fun_mk (st := s_law_trees) l_law_trees c_law_trees k_law_trees,
    b_law_trees := (fun_mk (st := s_law_trees) l_law_trees c_law_trees k_law_trees).binds (ps := ["count", "ties"]) fun _ _ _ _ _ _ us hl => match us, hl with | [_, _], _ => rfl,
    m_law_trees := PySem.W.mg_of X G n_law_trees,
    k_law_trees := k_law_trees,
    F_law_whole := fun_mk (st := s_law_whole) l_law_whole c_law_whole k_law_whole,
    b_law_whole := (fun_mk (st := s_law_whole) l_law_whole c_law_whole k_law_whole).binds (ps := ["found"]) fun _ _ _ _ _ _ us hl => match us, hl with | [_], _ => rfl,
    m_law_whole := PySem.W.mg_of X G n_law_whole,
    k_law_whole := k_law_whole,
    F_law_pulls := fun_mk (st := s_law_pulls) l_law_pulls c_law_pulls k_law_pulls,
    b_law_pulls := (fun_mk (st := s_law_pulls) l_law_pulls c_law_pulls k_law_pulls).binds (ps := ["count", "ties"]) fun _ _ _ _ _ _ us hl => match us, hl with | [_, _], _ => rfl,
    m_law_pulls := PySem.W.mg_of X G n_law_pulls,
    k_law_pulls := k_law_pulls,
    F_law_k19 := fun_mk (st := s_law_k19) l_law_k19 c_law_k19 k_law_k19,
    b_law_k19 := (fun_mk (st := s_law_k19) l_law_k19 c_law_k19 k_law_k19).binds (ps := ["script"]) fun _ _ _ _ _ _ us hl => match us, hl with | [_], _ => rfl,
    m_law_k19 := PySem.W.mg_of X G n_law_k19,
    k_law_k19 := k_law_k19,
    v_MOST_PLACES := PySem.W.mg_of X G v_MOST_PLACES,
    v_MOST_TIES := PySem.W.mg_of X G v_MOST_TIES,
    z_all := PySem.W.mg_none_of X G z_all,
    z_bool := PySem.W.mg_none_of X G z_bool,
    z_enumerate := PySem.W.mg_none_of X G z_enumerate,
    z_int := PySem.W.mg_none_of X G z_int,
    z_isinstance := PySem.W.mg_none_of X G z_isinstance,
    z_len := PySem.W.mg_none_of X G z_len,
    z_list := PySem.W.mg_none_of X G z_list,
    z_range := PySem.W.mg_none_of X G z_range,
    z_sorted := PySem.W.mg_none_of X G z_sorted }, PySem.W.mg_of X G n_law_k19, fun s v => .of_eq rfl⟩
def spLaw (K : PySem.W.Frag) : Sp := fun vs H Q _ => ∃ (a : Addr) (ns : List Int), vs = [.ref a] ∧ SqL K H a (ns.map V.int) ∧ ns.length ≤ 63 ∧ ∀ v H', v = .bl true → Q v H'
set_option maxHeartbeats 8000000 in
theorem law_ok (T : Tx K mg) : FnOk P w K mg base (L2.CX P w) 4 T.a_law_k19 T.d_law_k19 ["script"] (spLaw K) := by
  have G_look_at_table := ok_look_at_table (P := P) (w := w) (base := base) T
  have G_first_row_with := ok_first_row_with (P := P) (w := w) (base := base) T
  have G_cleared := ok_cleared (P := P) (w := w) (base := base) T
  have G_determinant := ok_determinant (P := P) (w := w) (base := base) T G_look_at_table G_first_row_with G_cleared
  have G_Web_init := ok_Web_init (P := P) (w := w) (base := base) T
  have G_pulls := ok_pulls (P := P) (w := w) (base := base) T
  have G_without_last := ok_without_last (P := P) (w := w) (base := base) T
  have G_pull_table := ok_pull_table (P := P) (w := w) (base := base) T G_pulls
  have G_tree_count := ok_tree_count (P := P) (w := w) (base := base) T G_determinant G_without_last G_pull_table
  have G_law_at := ok_law_at (P := P) (w := w) (base := base) T
  have G_law_mixed_v2 := ok_law_mixed_v2 (P := P) (w := w) (base := base) T
  have G_law_ties_v2 := ok_law_ties_v2 (P := P) (w := w) (base := base) T G_law_at G_law_mixed_v2
  have G_law_trees := ok_law_trees (P := P) (w := w) (base := base) T
  have G_law_whole := ok_law_whole (P := P) (w := w) (base := base) T
  have G_law_pulls := ok_law_pulls (P := P) (w := w) (base := base) T
  have G_law_k19 := ok_law_k19 (P := P) (w := w) (base := base) T G_law_at G_law_ties_v2 G_Web_init G_law_pulls G_pull_table G_law_whole G_tree_count G_law_trees
  refine G_law_k19.imp fun vs H Q E q => ?_
  obtain ⟨a, ns, rfl, hS, hl, k⟩ := q
  have e := law_sp (K := K) (cls := T.cls) (g := g_law_k19) (H := H) (true_law_k19 ns hl) hS
  obtain ⟨F, ds, h1, h2, h3, h4⟩ := e
  refine ⟨F, ds, h1, h2, h3, ?_⟩
  cases eg : g_law_k19 ds with
  | ok d => rw [eg] at h4; exact fun v F' H' O' x y z => k v H' (h4 v F' H' O' x y z)
  | xc c => rw [eg] at h4; exact fun F' H' x => (h4 F' H' x).elim
  | bad => rw [eg] at h4; exact h4.elim
end
theorem walk {l : PySem.W.OpenLaw} {q : Program} {loose : List Str} {XP : (Str → Option Value) → Heap → Prop} {YP : World → Heap → Prop} {d : DefRec} {K : Params → PySem.W.Frag} (hn : l.most = some 63) (hdf : d.params.defaults = []) (hname : d.name = "law")
    (hY : ∀ (w : World) (h : Heap), YP w h → (K w.params).In h)
    (F : ∀ (w : World) (mg : Str → Option Value) (h : Heap), (K w.params).In h → h.Ns mainGlobals mg → ∃ T : Tx (K w.params) mg, mg "law" = some (.ref T.a_law_k19) ∧ ∀ (s : Shared) (v : Value), BindsTo s T.d_law_k19 ⟨[v], []⟩ [("script", v)]) :
    PySem.W.WalkO q loose XP YP l.row.toRowW d [] (fun f vs => PySem.call f vs) :=
  L2.walk_of (n := 63) (k := 4) (x := "script") (CX := fun w => L2.CX l.prog w) (sp := fun w => spLaw (K w.params)) hn (by decide) hdf ⟨rfl, by decide, by decide⟩ hY (fun w mg fa h KX G hmg => by
    obtain ⟨T, h1, h2⟩ := F w mg h KX G
    rw [hname, h1] at hmg
    cases hmg
    exact ⟨T.d_law_k19, h2, fun base _ _ => law_ok T⟩) (fun _ _ a ns hl _ hS => ⟨a, ns, rfl, hS, hl, fun _ _ h => h⟩) fun _ _ _ _ _ z => law_cx z
end Lw
open PySem PySem.W PyProof.Rows in
set_option maxRecDepth 100000 in
set_option maxHeartbeats 0 in
theorem PySem.Challenge.cw_spanrow_k19_pull_tables_and_counts_holds : PySem.Challenge.rw_spanrow_k19_pull_tables_and_counts.Holds := by
  w_on; o_law; k_head; (case hw => w_witness2)
  k_fill
  refine Lw.walk (l := PySem.Challenge.rw_spanrow_k19_pull_tables_and_counts) rfl rfl rfl (fun w h Y => PySem.W.kIn_of Y) ?F
  case F =>
    intro w mg h KX G
    refine' Lw.all_mk KX G ?a_WebError ?x_WebError ?kx_WebError ?bx_WebError ?tx_WebError ?a_BadWeb ?x_BadWeb ?kx_BadWeb ?bx_BadWeb ?tx_BadWeb ?a_NotSquare ?x_NotSquare ?kx_NotSquare ?bx_NotSquare ?tx_NotSquare ?a_Web ?pg_Web ?hd_Web ?po_Web ?sa_Web ?mk_Web ?kc_Web ?na_Web_places ?na_Web_ties ?n_look_at_table ?l_look_at_table ?c_look_at_table ?k_look_at_table ?n_first_row_with ?l_first_row_with ?c_first_row_with ?k_first_row_with ?n_cleared ?l_cleared ?c_cleared ?k_cleared ?n_determinant ?l_determinant ?c_determinant ?k_determinant ?n_Web_init ?i_Web_init ?l_Web_init ?c_Web_init ?k_Web_init ?n_pulls ?l_pulls ?c_pulls ?k_pulls ?n_without_last ?l_without_last ?c_without_last ?k_without_last ?n_pull_table ?l_pull_table ?c_pull_table ?k_pull_table ?n_tree_count ?l_tree_count ?c_tree_count ?k_tree_count ?n_law_at ?l_law_at ?c_law_at ?k_law_at ?n_law_mixed_v2 ?l_law_mixed_v2 ?c_law_mixed_v2 ?k_law_mixed_v2 ?n_law_ties_v2 ?l_law_ties_v2 ?c_law_ties_v2 ?k_law_ties_v2 ?n_law_trees ?l_law_trees ?c_law_trees ?k_law_trees ?n_law_whole ?l_law_whole ?c_law_whole ?k_law_whole ?n_law_pulls ?l_law_pulls ?c_law_pulls ?k_law_pulls ?n_law_k19 ?l_law_k19 ?c_law_k19 ?k_law_k19 ?v_MOST_PLACES ?v_MOST_TIES ?z_all ?z_bool ?z_enumerate ?z_int ?z_isinstance ?z_len ?z_list ?z_range ?z_sorted
    (case a_WebError => k_is)
    (case x_WebError => k_exc)
    (case kx_WebError => k_is)
    (case bx_WebError => k_is)
    (case tx_WebError => k_is)
    (case a_BadWeb => k_is)
    (case x_BadWeb => k_exc)
    (case kx_BadWeb => k_is)
    (case bx_BadWeb => k_is)
    (case tx_BadWeb => k_is)
    (case a_NotSquare => k_is)
    (case x_NotSquare => k_exc)
    (case kx_NotSquare => k_is)
    (case bx_NotSquare => k_is)
    (case tx_NotSquare => k_is)
    (case a_Web => k_is)
    (case pg_Web => k_is)
    (case hd_Web => k_is)
    (case po_Web => k_is)
    (case sa_Web => k_is)
    (case mk_Web => k_is)
    (case kc_Web => k_is)
    (case na_Web_places => k_is)
    (case na_Web_ties => k_is)
    (case n_look_at_table => k_is)
    (case l_look_at_table => k_is)
    (case c_look_at_table => k_is)
    (case k_look_at_table => k_is)
    (case n_first_row_with => k_is)
    (case l_first_row_with => k_is)
    (case c_first_row_with => k_is)
    (case k_first_row_with => k_is)
    (case n_cleared => k_is)
    (case l_cleared => k_is)
    (case c_cleared => k_is)
    (case k_cleared => k_is)
    (case n_determinant => k_is)
    (case l_determinant => k_is)
    (case c_determinant => k_is)
    (case k_determinant => k_is)
    (case n_Web_init => k_is)
    (case i_Web_init => k_is)
    (case l_Web_init => k_is)
    (case c_Web_init => k_is)
    (case k_Web_init => k_is)
    (case n_pulls => k_is)
    (case l_pulls => k_is)
    (case c_pulls => k_is)
    (case k_pulls => k_is)
    (case n_without_last => k_is)
    (case l_without_last => k_is)
    (case c_without_last => k_is)
    (case k_without_last => k_is)
    (case n_pull_table => k_is)
    (case l_pull_table => k_is)
    (case c_pull_table => k_is)
    (case k_pull_table => k_is)
    (case n_tree_count => k_is)
    (case l_tree_count => k_is)
    (case c_tree_count => k_is)
    (case k_tree_count => k_is)
    (case n_law_at => k_is)
    (case l_law_at => k_is)
    (case c_law_at => k_is)
    (case k_law_at => k_is)
    (case n_law_mixed_v2 => k_is)
    (case l_law_mixed_v2 => k_is)
    (case c_law_mixed_v2 => k_is)
    (case k_law_mixed_v2 => k_is)
    (case n_law_ties_v2 => k_is)
    (case l_law_ties_v2 => k_is)
    (case c_law_ties_v2 => k_is)
    (case k_law_ties_v2 => k_is)
    (case n_law_trees => k_is)
    (case l_law_trees => k_is)
    (case c_law_trees => k_is)
    (case k_law_trees => k_is)
    (case n_law_whole => k_is)
    (case l_law_whole => k_is)
    (case c_law_whole => k_is)
    (case k_law_whole => k_is)
    (case n_law_pulls => k_is)
    (case l_law_pulls => k_is)
    (case c_law_pulls => k_is)
    (case k_law_pulls => k_is)
    (case n_law_k19 => k_is)
    (case l_law_k19 => k_is)
    (case c_law_k19 => k_is)
    (case k_law_k19 => k_is)
    (case v_MOST_PLACES => k_is)
    (case v_MOST_TIES => k_is)
    (case z_all => k_is)
    (case z_bool => k_is)
    (case z_enumerate => k_is)
    (case z_int => k_is)
    (case z_isinstance => k_is)
    (case z_len => k_is)
    (case z_list => k_is)
    (case z_range => k_is)
    (case z_sorted => k_is)
