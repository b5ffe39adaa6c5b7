import PyProof.Rows.All
import Wide.All
import OpenK.AllK
import Wide.FinOn
import HandS.ForMost
import HandS.ForExc
import HandS.TupAny
import HandS.Wide
import HandS.SortInts
import HandS.ExcIs
import HandS.TryOnly
import HandS.Rev
import HandS.RevRange
import HandS.WordsExc
import HandS.SetFor
import HandS.Strs
import HandS.Conv
import HandS.IsInst
import HandS.RevTup
import HandS.NamedTupSort
import HandS.SortRule
import HandS.Deep
import HandS.WideBits
import KE.DataMinMax
import HandS.Iter
import KE.GoesMore
import KE.SortData
import HandS.More
import HandS.Dict
import HandS.Zip
import KE.GoesZip
import KE.KTurns
import KE.KTupSum
import HandS.TupLe
import KE.KDictSum
import KE.DataFind
import HandS.WordsDict
import HandS.TupSets
import HandS.EndBits
import KE.RegKIsAll
import PySem.Challenge.RW_spanrow_k76_turns_refused
set_option Elab.async false
set_option linter.all false
set_option maxRecDepth 100000
namespace DL
open PySem L2

inductive D where
  | un | non | bl (b : Bool) | int (i : Int) | str (x : Str)
  | sc (xs : List D) | ls (xs : List D) | tp (xs : List D) | ob (c : Nat) (fs : List D)
  | ol (xs : List D) | bo (xs : List D)
  | od (ks : List Key) (xs : List D) | bd (ks : List Key) (xs : List D)
  | oo (o : Option Addr) (c : Nat) (fs : List D) | bb (c : Nat) (fs : List D)
  | rf (a : Addr)

abbrev Cls := Nat → Option (Addr × List Str)
abbrev Env := List D

inductive Res (α : Type) where
  | ok (a : α) | xc (c : Nat) | bad
inductive Out where
  | nx (g : Env) | rt (d : D) | bk (g : Env) | ct (g : Env) | xc (c : Nat) (g : Env) | bad

def excV (cls : Cls) (c : Nat) : Value := match cls c with
  | some (C, _) => .ref C
  | none => .none

mutual
inductive Rp (K : PySem.W.Frag) (cls : Cls) (F : Hp) : V → D → Prop
  | non : Rp K cls F .non .non
  | bl (b : Bool) : Rp K cls F (.bl b) (.bl b)
  | int (i : Int) : Rp K cls F (.int i) (.int i)
  | str (x : Str) : Rp K cls F (.str x) (.str x)
  | rf (a : Addr) : Rp K cls F (.ref a) (.rf a)
  | sc {a : Addr} {vs : List V} {ds : List D} : SqL K F a vs → Rps K cls F vs ds → Rp K cls F (.ref a) (.sc ds)
  | ls {a : Addr} {vs : List V} {ds : List D} : F a = some (.lst vs) → Rps K cls F vs ds → Rp K cls F (.ref a) (.ls ds)
  | tp {a : Addr} {vs : List V} {ds : List D} : SqT K F a vs → Rps K cls F vs ds → Rp K cls F (.ref a) (.tp ds)
  | ob {a C dx : Addr} {c : Nat} {ns : List Str} {vs : List V} {ds : List D} : cls c = some (C, ns) → F a = some (.ins C dx (ns.zip vs)) → vs.length ≤ ns.length → Rps K cls F vs ds → Rp K cls F (.ref a) (.ob c ds)
inductive Rps (K : PySem.W.Frag) (cls : Cls) (F : Hp) : List V → List D → Prop
  | nil : Rps K cls F [] []
  | cons {v : V} {d : D} {vs : List V} {ds : List D} : Rp K cls F v d → Rps K cls F vs ds → Rps K cls F (v :: vs) (d :: ds)
end

mutual
inductive Ow (K : PySem.W.Frag) (cls : Cls) (F H : Hp) : V → D → List Addr → Prop
  | sh {v : V} {d : D} : Rp K cls F v d → Ow K cls F H v d []
  | ol {a : Addr} {vs : List V} {ds : List D} {O : List Addr} : F a = none → H a = some (.lst vs) → a ∉ O → Ows K cls F H vs ds O → Ow K cls F H (.ref a) (.ol ds) (a :: O)
  | od {a : Addr} {ks : List Key} {vs : List V} {ds : List D} {O : List Addr} : F a = none → H a = some (.dK (ks.zip vs)) → ks.length = vs.length → a ∉ O → Ows K cls F H vs ds O → Ow K cls F H (.ref a) (.od ks ds) (a :: O)
  | oo {o : Option Addr} {a C dx : Addr} {c : Nat} {ns : List Str} {vs : List V} {ds : List D} {O : List Addr} : (∀ x, o = some x → x = a) → cls c = some (C, ns) → F a = none → H a = some (.ins C dx (ns.zip vs)) → vs.length ≤ ns.length → a ∉ O → Ows K cls F H vs ds O → Ow K cls F H (.ref a) (.oo o c ds) (a :: O)
inductive Ows (K : PySem.W.Frag) (cls : Cls) (F H : Hp) : List V → List D → List Addr → Prop
  | nil : Ows K cls F H [] [] []
  | cons {v : V} {d : D} {vs : List V} {ds : List D} {O1 O2 O : List Addr} : Ow K cls F H v d O1 → Ows K cls F H vs ds O2 → (∀ a ∈ O1, a ∉ O2) → O = O1 ++ O2 → Ows K cls F H (v :: vs) (d :: ds) O
end

mutual
inductive Bo (K : PySem.W.Frag) (cls : Cls) (F H : Hp) : V → D → Prop
  | sh {v : V} {d : D} : Rp K cls F v d → Bo K cls F H v d
  | bo {a : Addr} {vs : List V} {ds : List D} : H a = some (.lst vs) → Bos K cls F H vs ds → Bo K cls F H (.ref a) (.bo ds)
  | bd {a : Addr} {ks : List Key} {vs : List V} {ds : List D} : H a = some (.dK (ks.zip vs)) → ks.length = vs.length → Bos K cls F H vs ds → Bo K cls F H (.ref a) (.bd ks ds)
  | bb {a C dx : Addr} {c : Nat} {ns : List Str} {vs : List V} {ds : List D} : cls c = some (C, ns) → H a = some (.ins C dx (ns.zip vs)) → vs.length ≤ ns.length → Bos K cls F H vs ds → Bo K cls F H (.ref a) (.bb c ds)
inductive Bos (K : PySem.W.Frag) (cls : Cls) (F H : Hp) : List V → List D → Prop
  | nil : Bos K cls F H [] []
  | cons {v : V} {d : D} {vs : List V} {ds : List D} : Bo K cls F H v d → Bos K cls F H vs ds → Bos K cls F H (v :: vs) (d :: ds)
end

def Tm (K : PySem.W.Frag) (cls : Cls) (F H : Hp) (v : V) (d : D) (O : List Addr) : Prop := Ow K cls F H v d O ∨ (Bo K cls F H v d ∧ O = [])

inductive Sts (K : PySem.W.Frag) (cls : Cls) (F H : Hp) : St → Env → List Addr → Prop
  | nil : Sts K cls F H [] [] []
  | un {o : Option V} {σ : St} {g : Env} {O : List Addr} : Sts K cls F H σ g O → Sts K cls F H (o :: σ) (.un :: g) O
  | cons {v : V} {d : D} {σ : St} {g : Env} {O1 O2 O : List Addr} : Ow K cls F H v d O1 → Sts K cls F H σ g O2 → (∀ a ∈ O1, a ∉ O2) → O = O1 ++ O2 → Sts K cls F H (some v :: σ) (d :: g) O

def Fresh (H : Hp) (O : List Addr) : Prop := ∀ a ∈ O, H a = none

structure Ext (F H F' H' : Hp) : Prop where
  ff : Same F F'
  hh : Same H H'
  fh : Same F' H'
  ow : ∀ a, F a = none → H a ≠ none → F' a = none

structure SExt (F H : Hp) (O : List Addr) (F' H' : Hp) (O' : List Addr) : Prop where
  ff : Same F F'
  fh : Same F' H'
  fr : ∀ a o, H a = some o → a ∉ O → H' a = some o
  ow : ∀ a, F a = none → H a ≠ none → a ∉ O → F' a = none
  oo : ∀ a ∈ O', a ∈ O ∨ H a = none

section
variable {K : PySem.W.Frag} {cls : Cls} {F H F' H' F'' H'' : Hp} {O O' O'' : List Addr}

theorem Ext.refl (s : Same F H) : Ext F H F H := ⟨.refl F, .refl H, s, fun _ h _ => h⟩
theorem Ext.trans (x : Ext F H F' H') (y : Ext F' H' F'' H'') : Ext F H F'' H'' :=
  ⟨x.ff.trans y.ff, x.hh.trans y.hh, y.fh, fun a h1 h2 => y.ow a (x.ow a h1 h2) (fun e => by
    cases q : H a with
    | none => exact h2 q
    | some o => rw [x.hh a o q] at e; cases e)⟩
theorem Ext.some (x : Ext F H F' H') {a : Addr} (h : H a ≠ none) : H' a ≠ none := fun e => by
  cases q : H a with
  | none => exact h q
  | some o => rw [x.hh a o q] at e; cases e
theorem Ext.fresh (x : Ext F H F' H') (h : Fresh H' O) : Fresh H O := fun a ha => x.hh.free (h a ha)
theorem Fresh.mono (s : Same H H') (h : Fresh H' O) : Fresh H O := fun a ha => s.free (h a ha)
theorem Fresh.nil : Fresh H [] := fun _ h => nomatch h
theorem SExt.refl (s : Same F H) : SExt F H O F H O := ⟨.refl F, s, fun _ _ h _ => h, fun _ h _ _ => h, fun _ h => .inl h⟩
theorem SExt.trans (x : SExt F H O F' H' O') (y : SExt F' H' O' F'' H'' O'') : SExt F H O F'' H'' O'' := by
  have no : ∀ a o, H a = .some o → a ∉ O → a ∉ O' := fun a o h n h' => by
    rcases x.oo a h' with e | e
    · exact n e
    · rw [h] at e; cases e
  have ne : ∀ a, H a ≠ none → ∃ o, H a = .some o := fun a h => by
    cases q : H a with
    | none => exact (h q).elim
    | some o => exact ⟨o, rfl⟩
  refine ⟨x.ff.trans y.ff, y.fh, fun a o h n => y.fr a o (x.fr a o h n) (no a o h n), fun a h1 h2 n => ?_, fun a h => ?_⟩
  · obtain ⟨o, q⟩ := ne a h2
    exact y.ow a (x.ow a h1 h2 n) (by rw [x.fr a o q n]; exact fun e => nomatch e) (no a o q n)
  · rcases y.oo a h with e | e
    · exact x.oo a e
    · cases q : H a with
      | none => exact .inr rfl
      | some o =>
        by_cases n : a ∈ O
        · exact .inl n
        · rw [x.fr a o q n] at e; cases e
theorem Ext.sext (x : Ext F H F' H') (h : ∀ a ∈ O', a ∈ O ∨ H a = none) : SExt F H O F' H' O' := ⟨x.ff, x.fh, fun a o e _ => x.hh a o e, fun a h1 h2 _ => x.ow a h1 h2, h⟩
theorem SExt.ext (x : SExt F H [] F' H' O') : Ext F H F' H' := ⟨x.ff, fun a o e => x.fr a o e (by simp), x.fh, fun a h1 h2 => x.ow a h1 h2 (by simp)⟩

mutual
theorem Rp.mono (s : Same F F') : ∀ {v : V} {d : D}, Rp K cls F v d → Rp K cls F' v d
  | _, _, .non => .non
  | _, _, .bl b => .bl b
  | _, _, .int i => .int i
  | _, _, .str x => .str x
  | _, _, .rf x => .rf x
  | _, _, .sc h r => .sc (s.seq h) (Rps.mono s r)
  | _, _, .ls h r => .ls (s _ _ h) (Rps.mono s r)
  | _, _, .tp h r => .tp (by
      rcases h with (h | ⟨o, h⟩) | h
      · exact .inl (.inl (s _ _ h))
      · exact .inl (.inr ⟨o, s _ _ h⟩)
      · exact .inr h) (Rps.mono s r)
  | _, _, .ob c h l r => .ob c (s _ _ h) l (Rps.mono s r)
theorem Rps.mono (s : Same F F') : ∀ {v : List V} {d : List D}, Rps K cls F v d → Rps K cls F' v d
  | _, _, .nil => .nil
  | _, _, .cons h r => .cons (Rp.mono s h) (Rps.mono s r)
end
mutual
theorem Ow.frame (s : Same F F') : ∀ {v : V} {d : D} {O : List Addr}, Ow K cls F H v d O → (∀ a ∈ O, H' a = H a ∧ F' a = none) → Ow K cls F' H' v d O
  | _, _, _, .sh r, _ => .sh (r.mono s)
  | _, _, _, .ol h1 h2 h3 r, k => .ol (k _ (by simp)).2 ((k _ (by simp)).1.trans h2) h3 (Ows.frame s r fun a ha => k a (by simp [ha]))
  | _, _, _, .od h1 h2 hl h3 r, k => .od (k _ (by simp)).2 ((k _ (by simp)).1.trans h2) hl h3 (Ows.frame s r fun a ha => k a (by simp [ha]))
  | _, _, _, .oo ho hc h1 h2 hl h3 r, k => .oo ho hc (k _ (by simp)).2 ((k _ (by simp)).1.trans h2) hl h3 (Ows.frame s r fun a ha => k a (by simp [ha]))
theorem Ows.frame (s : Same F F') : ∀ {v : List V} {d : List D} {O : List Addr}, Ows K cls F H v d O → (∀ a ∈ O, H' a = H a ∧ F' a = none) → Ows K cls F' H' v d O
  | _, _, _, .nil, _ => .nil
  | _, _, _, .cons h r dj e, k => .cons (Ow.frame s h fun a ha => k a (by simp [e, ha])) (Ows.frame s r fun a ha => k a (by simp [e, ha])) dj e
end
mutual
theorem Ow.dom : ∀ {v : V} {d : D} {O : List Addr}, Ow K cls F H v d O → ∀ a ∈ O, F a = none ∧ H a ≠ none
  | _, _, _, .sh r, _, h => nomatch h
  | _, _, _, .ol h1 h2 h3 r, a, h => by
    rcases List.mem_cons.mp h with rfl | h
    · exact ⟨h1, by rw [h2]; exact fun e => nomatch e⟩
    · exact Ows.dom r a h
  | _, _, _, .od h1 h2 hl h3 r, a, h => by
    rcases List.mem_cons.mp h with rfl | h
    · exact ⟨h1, by rw [h2]; exact fun e => nomatch e⟩
    · exact Ows.dom r a h
  | _, _, _, .oo ho hc h1 h2 hl h3 r, a, h => by
    rcases List.mem_cons.mp h with rfl | h
    · exact ⟨h1, by rw [h2]; exact fun e => nomatch e⟩
    · exact Ows.dom r a h
theorem Ows.dom : ∀ {v : List V} {d : List D} {O : List Addr}, Ows K cls F H v d O → ∀ a ∈ O, F a = none ∧ H a ≠ none
  | _, _, _, .nil, _, h => nomatch h
  | _, _, _, .cons h r dj e, a, ha => by
    rw [e] at ha
    rcases List.mem_append.mp ha with q | q
    · exact Ow.dom h a q
    · exact Ows.dom r a q
end
theorem Ext.get (x : Ext F H F' H') {a : Addr} (h1 : F a = none) (h2 : H a ≠ none) : H' a = H a ∧ F' a = none := by
  refine ⟨?_, x.ow a h1 h2⟩
  cases q : H a with
  | none => exact (h2 q).elim
  | some o => exact x.hh a o q
theorem Ow.ext (x : Ext F H F' H') {v : V} {d : D} (h : Ow K cls F H v d O) : Ow K cls F' H' v d O :=
  h.frame x.ff fun a ha => x.get (h.dom a ha).1 (h.dom a ha).2
theorem Ows.ext (x : Ext F H F' H') {v : List V} {d : List D} (h : Ows K cls F H v d O) : Ows K cls F' H' v d O :=
  h.frame x.ff fun a ha => x.get (h.dom a ha).1 (h.dom a ha).2
mutual
theorem Bo.ext (x : Ext F H F' H') : ∀ {v : V} {d : D}, Bo K cls F H v d → Bo K cls F' H' v d
  | _, _, .sh r => .sh (r.mono x.ff)
  | _, _, .bo h r => .bo (x.hh _ _ h) (Bos.ext x r)
  | _, _, .bd h l r => .bd (x.hh _ _ h) l (Bos.ext x r)
  | _, _, .bb hc h l r => .bb hc (x.hh _ _ h) l (Bos.ext x r)
theorem Bos.ext (x : Ext F H F' H') : ∀ {v : List V} {d : List D}, Bos K cls F H v d → Bos K cls F' H' v d
  | _, _, .nil => .nil
  | _, _, .cons h r => .cons (Bo.ext x h) (Bos.ext x r)
end
theorem Tm.ext (x : Ext F H F' H') {v : V} {d : D} (h : Tm K cls F H v d O) : Tm K cls F' H' v d O := by
  rcases h with h | ⟨h, e⟩
  · exact .inl (h.ext x)
  · exact .inr ⟨h.ext x, e⟩
theorem Sts.dom : ∀ {σ : St} {g : Env} {O : List Addr}, Sts K cls F H σ g O → ∀ a ∈ O, F a = none ∧ H a ≠ none
  | _, _, _, .nil, _, h => nomatch h
  | _, _, _, .un r, a, h => r.dom a h
  | _, _, _, .cons h r dj e, a, ha => by
    rw [e] at ha
    rcases List.mem_append.mp ha with q | q
    · exact Ow.dom h a q
    · exact Sts.dom r a q
theorem Sts.frame (s : Same F F') : ∀ {σ : St} {g : Env} {O : List Addr}, Sts K cls F H σ g O → (∀ a ∈ O, H' a = H a ∧ F' a = none) → Sts K cls F' H' σ g O
  | _, _, _, .nil, _ => .nil
  | _, _, _, .un r, k => .un (r.frame s k)
  | _, _, _, .cons h r dj e, k => .cons (h.frame s fun a ha => k a (by simp [e, ha])) (r.frame s fun a ha => k a (by simp [e, ha])) dj e
theorem Sts.ext (x : Ext F H F' H') {σ : St} {g : Env} (h : Sts K cls F H σ g O) : Sts K cls F' H' σ g O :=
  h.frame x.ff fun a ha => x.get (h.dom a ha).1 (h.dom a ha).2
theorem Sts.len : ∀ {σ : St} {g : Env} {O : List Addr}, Sts K cls F H σ g O → σ.length = g.length
  | _, _, _, .nil => rfl
  | _, _, _, .un r => by simp [r.len]
  | _, _, _, .cons h r dj e => by simp [r.len]

theorem Sts.at : ∀ {σ : St} {g : Env} {O : List Addr} (i : Nat), Sts K cls F H σ g O → i < g.length → ∃ O1 : List Addr, (∀ a ∈ O1, a ∈ O) ∧
    (g[i]? = some .un ∧ O1 = [] ∨ ∃ v d, σ[i]? = some (some v) ∧ g[i]? = some d ∧ Ow K cls F H v d O1) ∧
    (∀ (F' H' : Hp) (v' : V) (d' : D) (O1' : List Addr), (∀ b ∈ O, b ∉ O1 → H' b = H b ∧ F' b = none) → Same F F' → Ow K cls F' H' v' d' O1' → (∀ a ∈ O1', a ∈ O → a ∈ O1) →
      ∃ O'', Sts K cls F' H' (σ.set i (some v')) (g.set i d') O'' ∧ ∀ a ∈ O'', a ∈ O ∨ a ∈ O1') ∧
    (∀ (F' H' : Hp) (o : Option V), (∀ b ∈ O, b ∉ O1 → H' b = H b ∧ F' b = none) → Same F F' →
      ∃ O'', Sts K cls F' H' (σ.set i o) (g.set i .un) O'' ∧ (∀ a ∈ O'', a ∈ O) ∧ ∀ a ∈ O'', a ∉ O1)
  | _, _, _, i, .nil, h => absurd h (Nat.not_lt_zero i)
  | _, _, _, 0, .un (o := o) (O := O) r, _ => by
    refine ⟨[], fun _ h => (nomatch h), .inl ⟨rfl, rfl⟩, fun F' H' v' d' O1' k s w dj => ⟨O1' ++ O, ?_, fun a ha => ?_⟩, fun F' H' o' k s => ⟨O, ?_, fun _ h => h, fun _ _ h => (nomatch h)⟩⟩
    · exact .cons w (r.frame s fun a ha => k a ha (by simp)) (fun a h1 h2 => (nomatch (dj a h1 h2))) rfl
    · rcases List.mem_append.mp ha with q | q
      · exact .inr q
      · exact .inl q
    · exact .un (r.frame s fun a ha => k a ha (by simp))
  | _, _, _, 0, .cons (v := v) (d := d) (O1 := O1) (O2 := O2) h r dj e, _ => by
    subst e
    refine ⟨O1, fun a h => List.mem_append_left _ h, .inr ⟨v, d, rfl, rfl, h⟩, fun F' H' v' d' O1' k s w dj' => ⟨O1' ++ O2, ?_, fun a ha => ?_⟩, fun F' H' o' k s => ⟨O2, ?_, fun a h => List.mem_append_right _ h, fun a h1 h2 => dj a h2 h1⟩⟩
    · refine .cons w (r.frame s fun a ha => k a (List.mem_append_right _ ha) fun q => dj a q ha) (fun a h1 h2 => ?_) rfl
      exact dj a (dj' a h1 (List.mem_append_right _ h2)) h2
    · rcases List.mem_append.mp ha with q | q
      · exact .inr q
      · exact .inl (List.mem_append_right _ q)
    · exact .un (r.frame s fun a ha => k a (List.mem_append_right _ ha) fun q => dj a q ha)
  | _, _, _, i + 1, .un (o := o) (O := O) r, hi => by
    obtain ⟨O1, h1, h2, h3, h4⟩ := r.at i (Nat.lt_of_succ_lt_succ hi)
    refine ⟨O1, h1, by simpa using h2, fun F' H' v' d' O1' k s w dj => ?_, fun F' H' o' k s => ?_⟩
    · obtain ⟨O'', q1, q2⟩ := h3 F' H' v' d' O1' k s w dj
      exact ⟨O'', .un q1, q2⟩
    · obtain ⟨O'', q1, q2⟩ := h4 F' H' o' k s
      exact ⟨O'', .un q1, q2⟩
  | _, _, _, i + 1, .cons (v := v) (d := d) (O1 := P1) (O2 := P2) h r dj e, hi => by
    subst e
    obtain ⟨O1, h1, h2, h3, h4⟩ := r.at i (Nat.lt_of_succ_lt_succ hi)
    have n1 : ∀ a ∈ P1, a ∉ O1 := fun a q q' => dj a q (h1 a q')
    refine ⟨O1, fun a q => List.mem_append_right _ (h1 a q), by simpa using h2, fun F' H' v' d' O1' k s w dj' => ?_, fun F' H' o' k s => ?_⟩
    · obtain ⟨O'', q1, q2⟩ := h3 F' H' v' d' O1' (fun b hb => k b (List.mem_append_right _ hb)) s w fun a q q' => dj' a q (List.mem_append_right _ q')
      refine ⟨P1 ++ O'', .cons (h.frame s fun a ha => k a (List.mem_append_left _ ha) (n1 a ha)) q1 (fun a ha hb => ?_) rfl, fun a ha => ?_⟩
      · rcases q2 a hb with z | z
        · exact dj a ha z
        · exact n1 a ha (dj' a z (List.mem_append_left _ ha))
      · rcases List.mem_append.mp ha with z | z
        · exact .inl (List.mem_append_left _ z)
        · rcases q2 a z with z | z
          · exact .inl (List.mem_append_right _ z)
          · exact .inr z
    · obtain ⟨O'', q1, q2, q3⟩ := h4 F' H' o' (fun b hb => k b (List.mem_append_right _ hb)) s
      refine ⟨P1 ++ O'', .cons (h.frame s fun a ha => k a (List.mem_append_left _ ha) (n1 a ha)) q1 (fun a ha hb => dj a ha (q2 a hb)) rfl, fun a ha => ?_, fun a ha hb => ?_⟩
      · rcases List.mem_append.mp ha with z | z
        · exact List.mem_append_left _ z
        · exact List.mem_append_right _ (q2 a z)
      · rcases List.mem_append.mp ha with z | z
        · exact n1 a z hb
        · exact q3 a z hb

mutual
/-- a value all of whose lists are shared from now on -/
def frz : D → D
  | .ol xs => .ls (frzs xs)
  | .oo _ c xs => .ob c (frzs xs)
  | d => d
def frzs : List D → List D
  | [] => []
  | d :: ds => frz d :: frzs ds
end
mutual
/-- how an owned value is read -/
def brw : D → D
  | .ol xs => .bo (brws xs)
  | .od ks xs => .bd ks (brws xs)
  | .oo _ c xs => .bb c (brws xs)
  | d => d
def brws : List D → List D
  | [] => []
  | d :: ds => brw d :: brws ds
end
mutual
/-- a borrowed value as plain data -/
def pln : D → D
  | .bo xs => .ls (plns xs)
  | .bb c xs => .ob c (plns xs)
  | d => d
def plns : List D → List D
  | [] => []
  | d :: ds => pln d :: plns ds
end
mutual
theorem Ow.brw (s : Same F H) : ∀ {v : V} {d : D} {O : List Addr}, Ow K cls F H v d O → Bo K cls F H v (brw d)
  | _, _, _, .sh r => by cases r <;> exact .sh (by first | assumption | constructor <;> assumption | constructor)
  | _, _, _, .ol h1 h2 h3 r => .bo h2 (Ows.brws s r)
  | _, _, _, .od h1 h2 hl h3 r => .bd h2 hl (Ows.brws s r)
  | _, _, _, .oo ho hc h1 h2 hl h3 r => .bb hc h2 hl (Ows.brws s r)
theorem Ows.brws (s : Same F H) : ∀ {v : List V} {d : List D} {O : List Addr}, Ows K cls F H v d O → Bos K cls F H v (brws d)
  | _, _, _, .nil => .nil
  | _, _, _, .cons h r _ _ => .cons (Ow.brw s h) (Ows.brws s r)
end
end
end DL

namespace DL
open PySem L2

def Res.bind {α β : Type} (r : Res α) (f : α → Res β) : Res β := match r with
  | .ok a => f a
  | .xc c => .xc c
  | .bad => .bad
@[simp] theorem Res.bind_ok {α β : Type} (a : α) (f : α → Res β) : (Res.ok a).bind f = f a := rfl
@[simp] theorem Res.bind_xc {α β : Type} (c : Nat) (f : α → Res β) : (Res.xc c : Res α).bind f = .xc c := rfl
@[simp] theorem Res.bind_bad {α β : Type} (f : α → Res β) : (Res.bad : Res α).bind f = .bad := rfl
def Res.of {α : Type} : Option α → Res α
  | some a => .ok a
  | none => .bad
@[simp] theorem Res.of_some {α : Type} (a : α) : Res.of (some a) = .ok a := rfl
@[simp] theorem Res.of_none {α : Type} : Res.of (none : Option α) = .bad := rfl

mutual
@[simp] def nod : D → Bool
  | .od _ _ => false
  | .ol xs => nods xs
  | .oo _ _ xs => nods xs
  | _ => true
@[simp] def nods : List D → Bool
  | [] => true
  | d :: ds => nod d && nods ds
end
section
variable {K : PySem.W.Frag} {cls : Cls} {F H F' H' F'' H'' : Hp} {O O' O'' : List Addr}
mutual
theorem Ow.freeze (s : Same F F') : ∀ {v : V} {d : D} {O : List Addr}, Ow K cls F H v d O → (∀ a ∈ O, F' a = H a) → nod d = true → Rp K cls F' v (frz d)
  | _, d, _, .sh r, _, _ => by
    have r' := r.mono s
    cases r <;> (simp only [frz]; exact r')
  | _, _, _, .ol (ds := ds) h1 h2 h3 r, k, n => by
    simp only [frz]
    exact .ls ((k _ (by simp)).trans h2) (Ows.freeze s r (fun a ha => k a (by simp [ha])) (by simpa using n))
  | _, _, _, .od h1 h2 hl h3 r, k, n => by simp at n
  | _, _, _, .oo (ds := ds) ho hc h1 h2 hl h3 r, k, n => by
    simp only [frz]
    exact .ob hc ((k _ (by simp)).trans h2) hl (Ows.freeze s r (fun a ha => k a (by simp [ha])) (by simpa using n))
theorem Ows.freeze (s : Same F F') : ∀ {v : List V} {d : List D} {O : List Addr}, Ows K cls F H v d O → (∀ a ∈ O, F' a = H a) → nods d = true → Rps K cls F' v (frzs d)
  | _, _, _, .nil, _, _ => .nil
  | _, _, _, .cons h r dj e, k, n => by
    simp only [nods, Bool.and_eq_true] at n
    simp only [frzs]
    exact .cons (Ow.freeze s h (fun a ha => k a (by simp [e, ha])) n.1) (Ows.freeze s r (fun a ha => k a (by simp [e, ha])) n.2)
end
def addF (F H : Hp) (O : List Addr) : Hp := fun a => if a ∈ O then H a else F a
theorem addF_ext {F0 H0 : Hp} (x : Ext F0 H0 F H) (f : Fresh H0 O) (n : ∀ a ∈ O, F a = none) : Ext F0 H0 (addF F H O) H := by
  have s1 : Same F (addF F H O) := fun a o e => by
    unfold addF
    split
    · rename_i q; rw [n a q] at e; cases e
    · exact e
  refine ⟨x.ff.trans s1, x.hh, fun a o e => ?_, fun a h1 h2 => ?_⟩
  · unfold addF at e
    split at e
    · exact e
    · exact x.fh a o e
  · unfold addF
    rw [if_neg (fun q => h2 (f a q))]
    exact x.ow a h1 h2
theorem addF_same (n : ∀ a ∈ O, F a = none) : Same F (addF F H O) := fun a o e => by
  unfold addF
  split
  · rename_i q; rw [n a q] at e; cases e
  · exact e
theorem addF_at : ∀ a ∈ O, addF F H O a = H a := fun a h => by unfold addF; rw [if_pos h]
theorem addF_no {a : Addr} (h : a ∉ O) : addF F H O a = F a := by unfold addF; rw [if_neg h]

def opd (d : D) : D := if nod d = true then frz d else brw d
theorem Rp.opd {v : V} {d : D} (r : Rp K cls F v d) : opd d = d := by cases r <;> rfl
theorem Bo.opd {v : V} {d : D} (r : Bo K cls F H v d) : opd d = d := by
  cases r with
  | sh r => exact r.opd
  | bo => rfl
  | bd => rfl
  | bb => rfl
@[simp] theorem opd_un : opd .un = .un := rfl
@[simp] theorem opd_non : opd .non = .non := rfl
@[simp] theorem opd_bl {b} : opd (.bl b) = .bl b := rfl
@[simp] theorem opd_int {b} : opd (.int b) = .int b := rfl
@[simp] theorem opd_str {b} : opd (.str b) = .str b := rfl
@[simp] theorem opd_sc {b} : opd (.sc b) = .sc b := rfl
@[simp] theorem opd_ls {b} : opd (.ls b) = .ls b := rfl
@[simp] theorem opd_tp {b} : opd (.tp b) = .tp b := rfl
@[simp] theorem opd_ob {c b} : opd (.ob c b) = .ob c b := rfl
@[simp] theorem opd_bo {b} : opd (.bo b) = .bo b := rfl
@[simp] theorem opd_bd {c b} : opd (.bd c b) = .bd c b := rfl
@[simp] theorem opd_od {c b} : opd (.od c b) = .bd c (brws b) := rfl
@[simp] theorem opd_rf {b} : opd (.rf b) = .rf b := rfl
@[simp] theorem opd_bb {c b} : opd (.bb c b) = .bb c b := rfl
@[simp] theorem opd_oo {o c b} : opd (.oo o c b) = if nods b = true then .ob c (frzs b) else .bb c (brws b) := rfl
@[simp] theorem opd_ol {b} : opd (.ol b) = if nods b = true then .ls (frzs b) else .bo (brws b) := by
  rfl
theorem Tm.operand {F0 H0 : Hp} {v : V} {d : D} (x : Ext F0 H0 F H) (f : Fresh H0 O) (t : Tm K cls F H v d O) : ∃ F', Ext F0 H0 F' H ∧ Same F F' ∧ (∀ a, a ∉ O → F' a = F a) ∧ Bo K cls F' H v (opd d) := by
  rcases t with t | ⟨t, e⟩
  · by_cases n : nod d = true
    · refine ⟨addF F H O, addF_ext x f fun a ha => (t.dom a ha).1, addF_same fun a ha => (t.dom a ha).1, fun a ha => addF_no ha, ?_⟩
      unfold DL.opd
      rw [if_pos n]
      exact .sh (t.freeze (addF_same fun a ha => (t.dom a ha).1) addF_at n)
    · refine ⟨F, x, .refl F, fun _ _ => rfl, ?_⟩
      unfold DL.opd
      rw [if_neg n]
      exact t.brw x.fh
  · refine ⟨F, x, .refl F, fun _ _ => rfl, ?_⟩
    rw [t.opd]
    exact t

@[simp] def kp : D → Res D
  | .bo _ => .bad
  | .bd _ _ => .bad
  | .bb _ _ => .bad
  | d => .ok d
theorem Tm.keep {v : V} {d d' : D} (t : Tm K cls F H v d O) (e : kp d = .ok d') : Ow K cls F H v d' O := by
  rcases t with t | ⟨t, rfl⟩
  · have : d' = d := by
      cases t with
      | sh r => cases r <;> (simp at e; exact e.symm)
      | ol => simp at e; exact e.symm
      | od => simp at e; exact e.symm
      | oo => simp at e; exact e.symm
    rw [this]; exact t
  · cases t with
    | sh r =>
      have : d' = d := by cases r <;> (simp at e; exact e.symm)
      rw [this]; exact .sh r
    | bo => simp at e
    | bd => simp at e
    | bb => simp at e

def PostE (K : PySem.W.Frag) (cls : Cls) (W : WX) (σ : St) (F H : Hp) (Q : VK) : Res D → Prop
  | .ok d => ∀ v F' H' O', Ext F H F' H' → Fresh H O' → Tm K cls F' H' v d O' → Q v H'
  | .xc c => ∀ F' H', Ext F H F' H' → W (excV cls c) none σ H'
  | .bad => False
def PostB (K : PySem.W.Frag) (cls : Cls) (W : WX) (σ : St) (F H : Hp) (Q : VK) : Res D → Prop
  | .ok d => ∀ v F' H', Ext F H F' H' → Bo K cls F' H' v d → Q v H'
  | .xc c => ∀ F' H', Ext F H F' H' → W (excV cls c) none σ H'
  | .bad => False
def PostO (K : PySem.W.Frag) (cls : Cls) (W : WX) (σ : St) (F H : Hp) (Q : VK) : Res D → Prop
  | .ok d => ∀ v F' H' O', Ext F H F' H' → Fresh H O' → Ow K cls F' H' v d O' → Q v H'
  | .xc c => ∀ F' H', Ext F H F' H' → W (excV cls c) none σ H'
  | .bad => False
def PostT (cls : Cls) (W : WX) (σ : St) (F H : Hp) (Q : Bool → Hp → Prop) : Res Bool → Prop
  | .ok b => ∀ F' H', Ext F H F' H' → Q b H'
  | .xc c => ∀ F' H', Ext F H F' H' → W (excV cls c) none σ H'
  | .bad => False
def PostA (K : PySem.W.Frag) (cls : Cls) (W : WX) (σ : St) (F H : Hp) (Q : List V → Hp → Prop) : Res (List D) → Prop
  | .ok d => ∀ v F' H', Ext F H F' H' → Bos K cls F' H' v d → Q v H'
  | .xc c => ∀ F' H', Ext F H F' H' → W (excV cls c) none σ H'
  | .bad => False
def PostAO (K : PySem.W.Frag) (cls : Cls) (W : WX) (σ : St) (F H : Hp) (Q : List V → Hp → Prop) : Res (List D) → Prop
  | .ok d => ∀ v F' H' O', Ext F H F' H' → Fresh H O' → Ows K cls F' H' v d O' → Q v H'
  | .xc c => ∀ F' H', Ext F H F' H' → W (excV cls c) none σ H'
  | .bad => False
def DE (K : PySem.W.Frag) (cls : Cls) (W : WX) (t : TE) (f : Env → Res D) : Prop :=
  ∀ σ F H g O Q, Same F H → Sts K cls F H σ g O → PostE K cls W σ F H Q (f g) → t σ H Q
def DB (K : PySem.W.Frag) (cls : Cls) (W : WX) (t : TE) (f : Env → Res D) : Prop :=
  ∀ σ F H g O Q, Same F H → Sts K cls F H σ g O → PostB K cls W σ F H Q (f g) → t σ H Q
def DO (K : PySem.W.Frag) (cls : Cls) (W : WX) (t : TE) (f : Env → Res D) : Prop :=
  ∀ σ F H g O Q, Same F H → Sts K cls F H σ g O → PostO K cls W σ F H Q (f g) → t σ H Q
def DT (K : PySem.W.Frag) (cls : Cls) (W : WX) (t : TT) (f : Env → Res Bool) : Prop :=
  ∀ σ F H g O Q, Same F H → Sts K cls F H σ g O → PostT cls W σ F H Q (f g) → t σ H Q
def DA (K : PySem.W.Frag) (cls : Cls) (W : WX) (t : TA) (f : Env → Res (List D)) : Prop :=
  ∀ σ F H g O Q, Same F H → Sts K cls F H σ g O → PostA K cls W σ F H Q (f g) → t σ H Q
def DAO (K : PySem.W.Frag) (cls : Cls) (W : WX) (t : TA) (f : Env → Res (List D)) : Prop :=
  ∀ σ F H g O Q, Same F H → Sts K cls F H σ g O → PostAO K cls W σ F H Q (f g) → t σ H Q

def bF (f : Env → Res D) : Env → Res D := fun g => (f g).bind fun d => .ok (opd d)
def oF (f : Env → Res D) : Env → Res D := fun g => (f g).bind kp
section
variable {f : Env → Res D} {g : Env}
theorem bF_ok {d : D} (e : f g = .ok d) : bF f g = .ok (opd d) := by unfold bF; rw [e]; rfl
theorem bF_xc {d : Nat} (e : f g = .xc d) : bF f g = .xc d := by unfold bF; rw [e]; rfl
theorem bF_bad (e : f g = .bad) : bF f g = .bad := by unfold bF; rw [e]; rfl
theorem oF_ok {d : D} (e : f g = .ok d) : oF f g = kp d := by unfold oF; rw [e]; rfl
theorem oF_xc {d : Nat} (e : f g = .xc d) : oF f g = .xc d := by unfold oF; rw [e]; rfl
theorem oF_bad (e : f g = .bad) : oF f g = .bad := by unfold oF; rw [e]; rfl
end
theorem kp_ok {d : D} : kp d = .ok d ∨ kp d = .bad := by cases d <;> simp
theorem DE.toB {W : WX} {t : TE} {f : Env → Res D} (h : DE K cls W t f) : DB K cls W t (bF f) := by
  intro σ F H g O Q s st p
  refine h σ F H g O Q s st ?_
  cases e : f g with
  | ok d =>
    rw [bF_ok e] at p
    intro v F' H' O' x fr tm
    obtain ⟨F2, x2, _, _, b⟩ := tm.operand x fr
    exact p v F2 H' x2 b
  | xc c => rw [bF_xc e] at p; exact p
  | bad => rw [bF_bad e] at p; exact p
theorem DE.toO {W : WX} {t : TE} {f : Env → Res D} (h : DE K cls W t f) : DO K cls W t (oF f) := by
  intro σ F H g O Q s st p
  refine h σ F H g O Q s st ?_
  cases e : f g with
  | ok d =>
    rw [oF_ok e] at p
    intro v F' H' O' x fr tm
    rcases kp_ok (d := d) with e2 | e2
    · rw [e2] at p; exact p v F' H' O' x fr (tm.keep e2)
    · rw [e2] at p; exact p.elim
  | xc c => rw [oF_xc e] at p; exact p
  | bad => rw [oF_bad e] at p; exact p

theorem PostE.mono {W : WX} {σ : St} {F H F1 H1 : Hp} {Q : VK} {r : Res D} (x : Ext F H F1 H1) (p : PostE K cls W σ F H Q r) : PostE K cls W σ F1 H1 Q r := by
  cases r with
  | ok d => exact fun v F' H' O' y fr tm => p v F' H' O' (x.trans y) (fr.mono x.hh) tm
  | xc c => exact fun F' H' y => p F' H' (x.trans y)
  | bad => exact p
theorem PostT.mono {W : WX} {σ : St} {F H F1 H1 : Hp} {Q : Bool → Hp → Prop} {r : Res Bool} (x : Ext F H F1 H1) (p : PostT cls W σ F H Q r) : PostT cls W σ F1 H1 Q r := by
  cases r with
  | ok d => exact fun F' H' y => p F' H' (x.trans y)
  | xc c => exact fun F' H' y => p F' H' (x.trans y)
  | bad => exact p
theorem PostA.mono {W : WX} {σ : St} {F H F1 H1 : Hp} {Q : List V → Hp → Prop} {r : Res (List D)} (x : Ext F H F1 H1) (p : PostA K cls W σ F H Q r) : PostA K cls W σ F1 H1 Q r := by
  cases r with
  | ok d => exact fun v F' H' y tm => p v F' H' (x.trans y) tm
  | xc c => exact fun F' H' y => p F' H' (x.trans y)
  | bad => exact p
theorem PostAO.mono {W : WX} {σ : St} {F H F1 H1 : Hp} {Q : List V → Hp → Prop} {r : Res (List D)} (x : Ext F H F1 H1) (p : PostAO K cls W σ F H Q r) : PostAO K cls W σ F1 H1 Q r := by
  cases r with
  | ok d => exact fun v F' H' O' y fr tm => p v F' H' O' (x.trans y) (fr.mono x.hh) tm
  | xc c => exact fun F' H' y => p F' H' (x.trans y)
  | bad => exact p

structure JE (X : Cx) (cls : Cls) (W : WX) (e : Expr) (f : Env → Res D) : Prop where
  ex : ∃ t, PE X e t ∧ DE X.K cls W t f
structure JT (X : Cx) (cls : Cls) (W : WX) (e : Expr) (f : Env → Res Bool) : Prop where
  ex : ∃ t, PT X e t ∧ DT X.K cls W t f
structure JW (X : Cx) (cls : Cls) (W : WX) (e : Expr) (f : Env → Res Bool) : Prop where
  ex : ∃ t, PW X e t ∧ DT X.K cls W t f
structure JA (X : Cx) (cls : Cls) (W : WX) (e : List Expr) (f : Env → Res (List D)) : Prop where
  ex : ∃ t, PA X e t ∧ DA X.K cls W t f
structure JAO (X : Cx) (cls : Cls) (W : WX) (e : List Expr) (f : Env → Res (List D)) : Prop where
  ex : ∃ t, PA X e t ∧ DAO X.K cls W t f
end

section
variable {X : Cx} {cls : Cls} {W : WX} {a b c : Expr} {es : List Expr} {fa fb fc : Env → Res D} {fs : Env → Res (List D)} {pos : Pos}
@[simp] def gv (g : Env) (i : Nat) : Res D := match g[i]? with
  | some .un => .bad
  | some d => .ok (brw d)
  | none => .bad
def eVar (i : Nat) : Env → Res D := fun g => gv g i
@[simp] theorem eVar_ (i : Nat) (g : Env) : eVar i g = gv g i := rfl
theorem de_var {K : PySem.W.Frag} (i : Nat) : DE K cls W (tVar i) (eVar i) := by
  intro σ F H g O Q s st p
  unfold eVar gv at p
  cases e : g[i]? with
  | none => rw [e] at p; exact p.elim
  | some d =>
    have hi : i < g.length := (List.getElem?_eq_some_iff.mp e).1
    obtain ⟨O1, h1, h2, _⟩ := st.at i hi
    rcases h2 with ⟨h2, _⟩ | ⟨v, d', h2, h3, ow⟩
    · rw [e] at h2; cases h2; rw [e] at p; exact p.elim
    · rw [e] at h3; cases h3
      refine ⟨v, h2, ?_⟩
      rw [e] at p
      have q : PostE K cls W σ F H Q (.ok (brw d)) := by
        cases d <;> first | exact p | exact p.elim
      exact q v F H [] (.refl s) Fresh.nil (.inr ⟨ow.brw s, rfl⟩)
theorem je_var (i : Nat) {x : Str} (hN : X.N[i]? = some x := by rfl) (hv : Vis X.env.scope x := by first | exact Or.inl rfl | exact Or.inr (Or.inl rfl) | exact Or.inr (Or.inr rfl)) (hd : (x == ("__debug__" : Str)) = false := by decide)
    (hcd : (x == ("__classdict__" : Str)) = false := by decide) : JE X cls W (.Name x pos) (eVar i) := ⟨_, pe_var hN hv hd hcd, de_var i⟩
def eC (d : D) : Env → Res D := fun _ => .ok d
@[simp] theorem eC_ (d : D) (g : Env) : eC d g = .ok d := rfl
theorem de_c {K : PySem.W.Frag} {v : V} {d : D} (h : ∀ F, Rp K cls F v d) : DE K cls W (tC v) (eC d) := by
  intro σ F H g O Q s st p
  exact p v F H [] (.refl s) Fresh.nil (.inl (.sh (h F)))
theorem je_int {i : Int} {j} : JE X cls W (.Constant (.int i) j pos) (eC (.int i)) := ⟨_, pe_int, de_c fun _ => .int i⟩
theorem je_bl {i : Bool} {j} : JE X cls W (.Constant (.bool i) j pos) (eC (.bl i)) := ⟨_, pe_bl, de_c fun _ => .bl i⟩
theorem je_non {j} : JE X cls W (.Constant .none j pos) (eC .non) := ⟨_, pe_non, de_c fun _ => .non⟩
theorem je_str {i : Str} {j} : JE X cls W (.Constant (.str i) j pos) (eC (.str i)) := ⟨_, pe_str, de_c fun _ => .str i⟩
theorem je_gint {x : Str} {i : Int} {t : Tok} (hm : X.mg x = some (.int i t)) (hg : Gl X x := by rfl) (hd : (x == ("__debug__" : Str)) = false := by decide) : JE X cls W (.Name x pos) (eC (.int i)) :=
  ⟨_, pe_glob (v := .int i) hg hm ⟨t, rfl⟩ hd, de_c fun _ => .int i⟩
def R2Ok (K : PySem.W.Frag) (cls : Cls) (r : R2) (op : D → D → Option D) : Prop :=
  ∀ F H x y a b d Q, Same F H → Bo K cls F H x a → Bo K cls F H y b → op a b = some d → (∀ v F' H' O', Ext F H F' H' → Fresh H O' → Tm K cls F' H' v d O' → Q v H') → r x y H Q
def eBin (op : D → D → Option D) (fa fb : Env → Res D) : Env → Res D := fun g => (fa g).bind fun a => (fb g).bind fun b => .of (op (opd a) (opd b))
@[simp] theorem eBin_ (op : D → D → Option D) (fa fb : Env → Res D) (g : Env) : eBin op fa fb g = (fa g).bind fun a => (fb g).bind fun b => .of (op (opd a) (opd b)) := rfl
theorem de_bin {K : PySem.W.Frag} {r : R2} {op : D → D → Option D} {ta tb : TE} (hr : R2Ok K cls r op) (ha : DE K cls W ta fa) (hb : DE K cls W tb fb) : DE K cls W (tOp r ta tb) (eBin op fa fb) := by
  intro σ F H g O Q s st p
  have e0 : eBin op fa fb g = (fa g).bind fun a => (fb g).bind fun b => .of (op (opd a) (opd b)) := rfl
  rw [e0] at p
  refine ha.toB σ F H g O _ s st ?_
  cases ea : fa g with
  | xc c => rw [ea] at p; rw [bF_xc ea]; exact p
  | bad => rw [ea] at p; exact p.elim
  | ok a =>
    rw [ea] at p
    rw [bF_ok ea]
    intro x F1 H1 x1 b1
    refine hb.toB σ F1 H1 g O _ x1.fh (st.ext x1) ?_
    simp only [Res.bind] at p
    cases eb : fb g with
    | xc c => rw [eb] at p; rw [bF_xc eb]; exact p.mono x1
    | bad => rw [eb] at p; exact p.elim
    | ok b =>
      rw [eb] at p
      rw [bF_ok eb]
      simp only [] at p
      intro y F2 H2 x2 b2
      cases eo : op (opd a) (opd b) with
      | none => rw [eo] at p; exact p.elim
      | some d =>
        rw [eo] at p
        exact hr F2 H2 x y _ _ d Q x2.fh (b1.ext x2) b2 eo fun v F' H' O' x3 fr tm => p v F' H' O' (x1.trans (x2.trans x3)) (fr.mono (x1.trans x2).hh) tm
theorem je_bin {o : Operator} {r : R2} {op : D → D → Option D} (ho : OpR X (binaryOp o) r) (hr : R2Ok X.K cls r op) (ha : JE X cls W a fa) (hb : JE X cls W b fb) : JE X cls W (.BinOp a o b pos) (eBin op fa fb) := by
  obtain ⟨ta, pa, da⟩ := ha.ex
  obtain ⟨tb, pb, db⟩ := hb.ex
  exact ⟨_, pe_op ho pa pb, de_bin hr da db⟩
def C2Ok (K : PySem.W.Frag) (cls : Cls) (r : R2) (op : D → D → Option Bool) : Prop :=
  ∀ F H x y a b d Q, Same F H → Bo K cls F H x a → Bo K cls F H y b → op a b = some d → Q (.bl d) H → r x y H Q
def tC2 (op : D → D → Option Bool) (fa fb : Env → Res D) : Env → Res Bool := fun g => (fa g).bind fun a => (fb g).bind fun b => .of (op (opd a) (opd b))
@[simp] theorem tC2_ (op : D → D → Option Bool) (fa fb : Env → Res D) (g : Env) : tC2 op fa fb g = (fa g).bind fun a => (fb g).bind fun b => .of (op (opd a) (opd b)) := rfl
def eB (f : Env → Res Bool) : Env → Res D := fun g => (f g).bind fun b => .ok (.bl b)
@[simp] theorem eB_ (f : Env → Res Bool) (g : Env) : eB f g = (f g).bind fun b => .ok (.bl b) := rfl
theorem de_c2 {K : PySem.W.Frag} {r : R2} {op : D → D → Option Bool} {ta tb : TE} (hr : C2Ok K cls r op) (ha : DE K cls W ta fa) (hb : DE K cls W tb fb) : DE K cls W (tOp r ta tb) (eB (tC2 op fa fb)) := by
  have h : R2Ok K cls r (fun a b => (op a b).map D.bl) := fun F H x y a b d Q s b1 b2 e q => by
    have e : (op a b).map D.bl = some d := e
    cases eo : op a b with
    | none => rw [eo] at e; cases e
    | some k =>
      rw [eo] at e
      cases e
      exact hr F H x y a b k Q s b1 b2 eo (q _ F H [] (.refl s) Fresh.nil (.inl (.sh (.bl k))))
  have q := de_bin (W := W) h ha hb
  have e : eBin (fun a b => (op a b).map D.bl) fa fb = eB (tC2 op fa fb) := by
    funext g
    unfold eBin eB tC2
    cases fa g with
    | ok a =>
      cases fb g with
      | ok b => simp only [Res.bind]; cases op (opd a) (opd b) <;> rfl
      | xc c => rfl
      | bad => rfl
    | xc c => rfl
    | bad => rfl
  rw [e] at q
  exact q
theorem dt_of {K : PySem.W.Frag} {t : TE} {f : Env → Res Bool} (h : DE K cls W t (eB f)) : DT K cls W (tTest t) f := by
  intro σ F H g O Q s st p
  refine h σ F H g O _ s st ?_
  unfold eB
  cases e : f g with
  | ok k =>
    rw [e] at p
    intro v F' H' O' x fr tm
    have : v = .bl k := by
      rcases tm with t | ⟨t, _⟩
      · cases t with
        | sh r => cases r; rfl
      · cases t with
        | sh r => cases r; rfl
    subst this
    exact ⟨k, rfl, p F' H' x⟩
  | xc c => rw [e] at p; exact p
  | bad => rw [e] at p; exact p
theorem je_cmp {o : CmpOp} {r : R2} {op : D → D → Option Bool} (ho : OpR X (compareOp o) r) (hr : C2Ok X.K cls r op) (ha : JE X cls W a fa) (hb : JE X cls W b fb) (hm : behindInMarks o b = false) : JE X cls W (.Compare a [o] [b] pos) (eB (tC2 op fa fb)) := by
  obtain ⟨ta, pa, da⟩ := ha.ex
  obtain ⟨tb, pb, db⟩ := hb.ex
  exact ⟨_, pe_cmpR ho pa pb hm, de_c2 hr da db⟩
theorem jt_cmp {o : CmpOp} {r : R2} {op : D → D → Option Bool} (ho : OpR X (compareOp o) r) (hr : C2Ok X.K cls r op) (ha : JE X cls W a fa) (hb : JE X cls W b fb) (hm : behindInMarks o b = false) : JT X cls W (.Compare a [o] [b] pos) (tC2 op fa fb) := by
  obtain ⟨ta, pa, da⟩ := ha.ex
  obtain ⟨tb, pb, db⟩ := hb.ex
  exact ⟨_, pt_cmpR ho pa pb hm, dt_of (de_c2 hr da db)⟩
end
end DL

namespace DL
open PySem L2
section
variable {K : PySem.W.Frag} {cls : Cls} {W : WX} {X : Cx} {a b c : Expr} {es : List Expr} {fa fb fc : Env → Res D} {ga gb : Env → Res Bool} {fs : Env → Res (List D)} {pos : Pos}
  {F H F1 H1 : Hp} {Q : VK} {σ : St}

def R1Ok (K : PySem.W.Frag) (cls : Cls) (r : V → Hp → VK → Prop) (op : D → Option D) : Prop :=
  ∀ F H x a d Q, Same F H → Bo K cls F H x a → op a = some d → (∀ v F' H' O', Ext F H F' H' → Fresh H O' → Tm K cls F' H' v d O' → Q v H') → r x H Q
def eUn (op : D → Option D) (fa : Env → Res D) : Env → Res D := fun g => (fa g).bind fun a => .of (op (opd a))
@[simp] theorem eUn_ (op : D → Option D) (fa : Env → Res D) (g : Env) : eUn op fa g = (fa g).bind fun a => .of (op (opd a)) := rfl
theorem de_un {r : V → Hp → VK → Prop} {op : D → Option D} {ta : TE} (hr : R1Ok K cls r op) (ha : DE K cls W ta fa) : DE K cls W (tUn r ta) (eUn op fa) := by
  intro σ F H g O Q s st p
  rw [eUn_] at p
  refine ha.toB σ F H g O _ s st ?_
  cases ea : fa g with
  | xc c => rw [ea] at p; rw [bF_xc ea]; exact p
  | bad => rw [ea] at p; exact p.elim
  | ok a =>
    rw [ea] at p
    rw [bF_ok ea]
    simp only [Res.bind] at p
    intro x F1 H1 x1 b1
    cases eo : op (opd a) with
    | none => rw [eo] at p; exact p.elim
    | some d =>
      rw [eo] at p
      exact hr F1 H1 x _ d Q x1.fh b1 eo fun v F' H' O' x3 fr tm => p v F' H' O' (x1.trans x3) (fr.mono x1.hh) tm
theorem je_un {o : UnaryOp} {r : V → Hp → VK → Prop} {op : D → Option D} (ho : UnR X (unaryOp o) r) (hr : R1Ok X.K cls r op) (ha : JE X cls W a fa) : JE X cls W (.UnaryOp o a pos) (eUn op fa) := by
  obtain ⟨ta, pa, da⟩ := ha.ex
  exact ⟨_, pe_un ho pa, de_un hr da⟩

def tru : D → Option Bool
  | .non => some false
  | .bl b => some b
  | .int i => some (i != 0)
  | .str y => if y.length ≤ 1000000 then some ((y.length : Int) != 0) else none
  | .sc xs => some (!xs.isEmpty)
  | .ls xs => some (!xs.isEmpty)
  | .bo xs => some (!xs.isEmpty)
  | .tp xs => some (!xs.isEmpty)
  | .bd ks xs => some (!ks.isEmpty)
  | _ => none
theorem Rps.empty {vs : List V} {ds : List D} (h : Rps K cls F vs ds) : (!vs.isEmpty) = !ds.isEmpty := by cases h <;> rfl
theorem Bos.empty {vs : List V} {ds : List D} (h : Bos K cls F H vs ds) : (!vs.isEmpty) = !ds.isEmpty := by cases h <;> rfl
theorem sameL {a : Addr} {xs : List V} (s : Same F H) (h : SqL K F a xs) : SqL K H a xs := s.seq h
theorem sameT {a : Addr} {xs : List V} (s : Same F H) (h : SqT K F a xs) : SqT K H a xs := by
  rcases h with (h | ⟨o, h⟩) | h
  · exact .inl (.inl (s _ _ h))
  · exact .inl (.inr ⟨o, s _ _ h⟩)
  · exact .inr h
theorem lim_line : (1000000 : Nat) < sizeLine := by rw [sizeLine_eq]; decide
theorem Bo.tru {v : V} {d : D} {k : Bool} (s : Same F H) (b : Bo K cls F H v d) (e : tru d = some k) : TruV K v H k := by
  cases b with
  | sh r =>
    cases r with
    | non => cases e; rfl
    | bl => cases e; rfl
    | int => cases e; rfl
    | str y =>
      have e : (if y.length ≤ 1000000 then some ((y.length : Int) != 0) else none) = some k := e
      split at e
      · rename_i hy
        cases e
        exact ⟨Nat.le_trans hy (Nat.le_of_lt lim_line), rfl⟩
      · cases e
    | sc h r => cases e; exact .inl ⟨_, sameL s h, r.empty.symm⟩
    | ls h r => cases e; exact .inl ⟨_, SqL.of (s _ _ h), r.empty.symm⟩
    | tp h r => cases e; exact .inr (.inl ⟨_, sameT s h, r.empty.symm⟩)
    | ob => cases e
    | rf => cases e
  | bo h r => cases e; exact .inl ⟨_, SqL.of h, r.empty.symm⟩
  | bd h l r =>
    cases e
    refine .inr (.inr ⟨_, h, ?_⟩)
    rename_i a ks vs ds
    cases ks <;> cases vs <;> first | rfl | (simp at l)
  | bb => cases e
def tTr (fa : Env → Res D) : Env → Res Bool := fun g => (fa g).bind fun a => .of (tru (opd a))
@[simp] theorem tTr_ (fa : Env → Res D) (g : Env) : tTr fa g = (fa g).bind fun a => .of (tru (opd a)) := rfl
theorem jt_truth (ha : JE X cls W a fa) (he : ∀ whole, isTrue a X.env whole = (do let v ← whole; standAt a.pos; holding [v] (truthy v)) := by intro _; rfl) : JT X cls W a (tTr fa) := by
  obtain ⟨ta, pa, da⟩ := ha.ex
  refine ⟨_, pt_truth pa he, ?_⟩
  intro σ F H g O Q s st p
  rw [tTr_] at p
  refine da.toB σ F H g O _ s st ?_
  cases ea : fa g with
  | xc c => rw [ea] at p; rw [bF_xc ea]; exact p
  | bad => rw [ea] at p; exact p.elim
  | ok a =>
    rw [ea] at p
    rw [bF_ok ea]
    simp only [Res.bind] at p
    intro x F1 H1 x1 b1
    cases eo : tru (opd a) with
    | none => rw [eo] at p; exact p.elim
    | some d =>
      rw [eo] at p
      exact ⟨d, b1.tru x1.fh eo, p F1 H1 x1⟩
def tAn (ga gb : Env → Res Bool) : Env → Res Bool := fun g => (ga g).bind fun k => if k = true then gb g else .ok false
def tOr_ (ga gb : Env → Res Bool) : Env → Res Bool := fun g => (ga g).bind fun k => if k = true then .ok true else gb g
def tNo (ga : Env → Res Bool) : Env → Res Bool := fun g => (ga g).bind fun k => .ok (!k)
@[simp] theorem tAn_ (ga gb : Env → Res Bool) (g : Env) : tAn ga gb g = (ga g).bind fun k => if k = true then gb g else .ok false := rfl
@[simp] theorem tOr__ (ga gb : Env → Res Bool) (g : Env) : tOr_ ga gb g = (ga g).bind fun k => if k = true then .ok true else gb g := rfl
@[simp] theorem tNo_ (ga : Env → Res Bool) (g : Env) : tNo ga g = (ga g).bind fun k => .ok (!k) := rfl
theorem DT.go {t : TT} (ha : DT K cls W t ga) {σ : St} {F H : Hp} {g : Env} {O : List Addr} {Q : Bool → Hp → Prop} (s : Same F H) (st : Sts K cls F H σ g O)
    (hx : ∀ c, ga g = .xc c → ∀ F' H', Ext F H F' H' → W (excV cls c) none σ H') (hb : ga g ≠ .bad) (hk : ∀ k, ga g = .ok k → ∀ F' H', Ext F H F' H' → Q k H') : t σ H Q := by
  refine ha σ F H g O Q s st ?_
  cases e : ga g with
  | ok k => exact hk k e
  | xc c => exact hx c e
  | bad => exact (hb e).elim
theorem dt_and {ta tb : TT} (ha : DT K cls W ta ga) (hb : DT K cls W tb gb) : DT K cls W (tAnd ta tb) (tAn ga gb) := by
  intro σ F H g O Q s st p
  rw [tAn_] at p
  refine ha.go s st (fun c e => by rw [e] at p; exact p) (fun e => by rw [e] at p; exact p) fun k e F1 H1 x => ?_
  rw [e] at p
  simp only [Res.bind] at p
  cases k with
  | true =>
    rw [if_pos rfl] at p
    rw [if_pos rfl]
    exact hb σ F1 H1 g O Q x.fh (st.ext x) (p.mono x)
  | false =>
    rw [if_neg (by decide)] at p
    rw [if_neg (by decide)]
    exact p F1 H1 x
theorem dt_or {ta tb : TT} (ha : DT K cls W ta ga) (hb : DT K cls W tb gb) : DT K cls W (tOr ta tb) (tOr_ ga gb) := by
  intro σ F H g O Q s st p
  rw [tOr__] at p
  refine ha.go s st (fun c e => by rw [e] at p; exact p) (fun e => by rw [e] at p; exact p) fun k e F1 H1 x => ?_
  rw [e] at p
  simp only [Res.bind] at p
  cases k with
  | true =>
    rw [if_pos rfl] at p
    rw [if_pos rfl]
    exact p F1 H1 x
  | false =>
    rw [if_neg (by decide)] at p
    rw [if_neg (by decide)]
    exact hb σ F1 H1 g O Q x.fh (st.ext x) (p.mono x)
theorem dt_not {ta : TT} (ha : DT K cls W ta ga) : DT K cls W (tNot ta) (tNo ga) := by
  intro σ F H g O Q s st p
  rw [tNo_] at p
  refine ha.go s st (fun c e => by rw [e] at p; exact p) (fun e => by rw [e] at p; exact p) fun k e F1 H1 x => ?_
  rw [e] at p
  exact p F1 H1 x
theorem jw_and1 (h : JT X cls W a ga) : JW X cls W (.BoolOp .And [a] pos) ga := by
  obtain ⟨ta, pa, da⟩ := h.ex
  exact ⟨_, pw_and1 pa, da⟩
theorem jw_or1 (h : JT X cls W a ga) : JW X cls W (.BoolOp .Or [a] pos) ga := by
  obtain ⟨ta, pa, da⟩ := h.ex
  exact ⟨_, pw_or1 pa, da⟩
theorem jw_and (h : JT X cls W a ga) (h2 : JW X cls W (.BoolOp .And (b :: es) pos) gb) : JW X cls W (.BoolOp .And (a :: b :: es) pos) (tAn ga gb) := by
  obtain ⟨ta, pa, da⟩ := h.ex
  obtain ⟨tb, pb, db⟩ := h2.ex
  exact ⟨_, pw_and pa pb, dt_and da db⟩
theorem jw_or (h : JT X cls W a ga) (h2 : JW X cls W (.BoolOp .Or (b :: es) pos) gb) : JW X cls W (.BoolOp .Or (a :: b :: es) pos) (tOr_ ga gb) := by
  obtain ⟨ta, pa, da⟩ := h.ex
  obtain ⟨tb, pb, db⟩ := h2.ex
  exact ⟨_, pw_or pa pb, dt_or da db⟩
theorem jt_w (h : JW X cls W a ga) : JT X cls W a ga := by
  obtain ⟨ta, pa, da⟩ := h.ex
  exact ⟨_, pa.pt, da⟩
theorem jt_not (h : JT X cls W a ga) : JT X cls W (.UnaryOp .Not a pos) (tNo ga) := by
  obtain ⟨ta, pa, da⟩ := h.ex
  exact ⟨_, pt_not pa, dt_not da⟩
theorem DE.goB {t : TE} (ha : DE K cls W t (eB ga)) {σ : St} {F H : Hp} {g : Env} {O : List Addr} {Q : VK} (s : Same F H) (st : Sts K cls F H σ g O)
    (hx : ∀ c, ga g = .xc c → ∀ F' H', Ext F H F' H' → W (excV cls c) none σ H') (hb : ga g ≠ .bad) (hk : ∀ k, ga g = .ok k → ∀ F' H', Ext F H F' H' → Q (.bl k) H') : t σ H Q := by
  refine ha σ F H g O Q s st ?_
  rw [eB_]
  cases e : ga g with
  | ok k =>
    intro v F' H' O' x fr tm
    have : v = .bl k := by
      rcases tm with t | ⟨t, _⟩
      · cases t with
        | sh r => cases r; rfl
      · cases t with
        | sh r => cases r; rfl
    subst this
    exact hk k e F' H' x
  | xc c => exact hx c e
  | bad => exact (hb e).elim
theorem PostE.bl {k : Bool} {g : Env} (p : PostE K cls W σ F H Q (.ok (.bl k))) (x : Ext F H F1 H1) : Q (.bl k) H1 := p _ F1 H1 [] x Fresh.nil (.inl (.sh (.bl k)))
theorem de_and {ta tb : TE} (ha : DE K cls W ta (eB ga)) (hb : DE K cls W tb (eB gb)) : DE K cls W (tAndV ta tb) (eB (tAn ga gb)) := by
  intro σ F H g O Q s st p
  rw [eB_, tAn_] at p
  refine ha.goB s st (fun c e => by rw [e] at p; exact p) (fun e => by rw [e] at p; exact p) fun k e F1 H1 x => ?_
  rw [e] at p
  simp only [Res.bind] at p
  refine ⟨k, rfl, ?_⟩
  cases k with
  | true =>
    rw [if_pos rfl] at p
    rw [if_pos rfl]
    exact hb σ F1 H1 g O Q x.fh (st.ext x) (PostE.mono x p)
  | false =>
    rw [if_neg (by decide)] at p
    rw [if_neg (by decide)]
    exact p _ F1 H1 [] x Fresh.nil (.inl (.sh (.bl false)))
theorem je_one {op} (h : JE X cls W a fa) : JE X cls W (.BoolOp op [a] pos) fa := by
  obtain ⟨ta, pa, da⟩ := h.ex
  exact ⟨_, pe_one pa, da⟩
theorem je_and (h : JE X cls W a (eB ga)) (h2 : JE X cls W (.BoolOp .And (b :: es) pos) (eB gb)) : JE X cls W (.BoolOp .And (a :: b :: es) pos) (eB (tAn ga gb)) := by
  obtain ⟨ta, pa, da⟩ := h.ex
  obtain ⟨tb, pb, db⟩ := h2.ex
  exact ⟨_, pe_and pa pb, de_and da db⟩
@[simp] def blv : D → Res Bool
  | .bl b => .ok b
  | _ => .bad
def tV (fa : Env → Res D) : Env → Res Bool := fun g => (fa g).bind blv
@[simp] theorem tV_ (fa : Env → Res D) (g : Env) : tV fa g = (fa g).bind blv := rfl
theorem je_tV (h : JE X cls W a fa) : JE X cls W a (eB (tV fa)) := by
  obtain ⟨ta, pa, da⟩ := h.ex
  refine ⟨ta, pa, ?_⟩
  intro σ F H g O Q s st p
  refine da σ F H g O Q s st ?_
  rw [eB_, tV_] at p
  cases e : fa g with
  | ok d =>
    rw [e] at p
    cases d <;> first | exact p | exact p.elim
  | xc c => rw [e] at p; exact p
  | bad => rw [e] at p; exact p
def eIf (ga : Env → Res Bool) (fa fb : Env → Res D) : Env → Res D := fun g => (ga g).bind fun k => if k = true then fa g else fb g
@[simp] theorem eIf_ (ga : Env → Res Bool) (fa fb : Env → Res D) (g : Env) : eIf ga fa fb g = (ga g).bind fun k => if k = true then fa g else fb g := rfl
theorem je_if (hc : JT X cls W c ga) (ha : JE X cls W a fa) (hb : JE X cls W b fb) : JE X cls W (.IfExp c a b pos) (eIf ga fa fb) := by
  obtain ⟨tc, pc, dc⟩ := hc.ex
  obtain ⟨ta, pa, da⟩ := ha.ex
  obtain ⟨tb, pb, db⟩ := hb.ex
  refine ⟨_, pe_ifExp pc pa pb, ?_⟩
  intro σ F H g O Q s st p
  rw [eIf_] at p
  refine dc.go s st (fun c e => by rw [e] at p; exact p) (fun e => by rw [e] at p; exact p) fun k e F1 H1 x => ?_
  rw [e] at p
  simp only [Res.bind] at p
  cases k with
  | true =>
    rw [if_pos rfl] at p
    rw [if_pos rfl]
    exact da σ F1 H1 g O Q x.fh (st.ext x) (p.mono x)
  | false =>
    rw [if_neg (by decide)] at p
    rw [if_neg (by decide)]
    exact db σ F1 H1 g O Q x.fh (st.ext x) (p.mono x)
def tCh (op op' : D → D → Option Bool) (fa fb fc : Env → Res D) : Env → Res Bool := fun g => (fa g).bind fun a => (fb g).bind fun b => (Res.of (op (opd a) (opd b))).bind fun k => if k = true then (fc g).bind fun c => .of (op' (opd b) (opd c)) else .ok false
@[simp] theorem tCh_ (op op' : D → D → Option Bool) (fa fb fc : Env → Res D) (g : Env) : tCh op op' fa fb fc g = (fa g).bind fun a => (fb g).bind fun b => (Res.of (op (opd a) (opd b))).bind fun k => if k = true then (fc g).bind fun c => .of (op' (opd b) (opd c)) else .ok false := rfl
theorem DE.go {t : TE} (ha : DE K cls W t fa) {σ : St} {F H : Hp} {g : Env} {O : List Addr} {Q : VK} (s : Same F H) (st : Sts K cls F H σ g O)
    (hx : ∀ c, fa g = .xc c → ∀ F' H', Ext F H F' H' → W (excV cls c) none σ H') (hb : fa g ≠ .bad) (hk : ∀ d, fa g = .ok d → ∀ v F' H', Ext F H F' H' → Bo K cls F' H' v (opd d) → Q v H') : t σ H Q := by
  refine ha.toB σ F H g O Q s st ?_
  cases e : fa g with
  | ok k => rw [bF_ok e]; exact hk k e
  | xc c => rw [bF_xc e]; exact hx c e
  | bad => exact (hb e).elim
theorem DE.goO {t : TE} (ha : DE K cls W t fa) {σ : St} {F H : Hp} {g : Env} {O : List Addr} {Q : VK} (s : Same F H) (st : Sts K cls F H σ g O)
    (hx : ∀ c, fa g = .xc c → ∀ F' H', Ext F H F' H' → W (excV cls c) none σ H') (hb : (fa g).bind kp ≠ .bad) (hk : ∀ d, (fa g).bind kp = .ok d → ∀ v F' H' O', Ext F H F' H' → Fresh H O' → Ow K cls F' H' v d O' → Q v H') : t σ H Q := by
  refine ha.toO σ F H g O Q s st ?_
  cases e : fa g with
  | ok k =>
    rw [oF_ok e]
    rw [e] at hb hk
    rcases kp_ok (d := k) with e2 | e2
    · rw [e2]; exact hk k e2
    · exact (hb e2).elim
  | xc c => rw [oF_xc e]; exact hx c e
  | bad => rw [e] at hb; exact (hb rfl).elim
theorem dt_chain {r r' : R2} {op op' : D → D → Option Bool} {ta tb tc : TE} (hr : C2Ok K cls r op) (hr' : C2Ok K cls r' op') (ha : DE K cls W ta fa) (hb : DE K cls W tb fb) (hc : DE K cls W tc fc) :
    DE K cls W (tChain r r' ta tb tc) (eB (tCh op op' fa fb fc)) := by
  intro σ F H g O Q s st p
  rw [eB_, tCh_] at p
  refine ha.go s st (fun c e => by rw [e] at p; exact p) (fun e => by rw [e] at p; exact p) fun da ea va F1 H1 x1 b1 => ?_
  rw [ea] at p
  simp only [Res.bind] at p
  refine hb.go x1.fh (st.ext x1) (fun c e F' H' x => by rw [e] at p; exact p F' H' (x1.trans x)) (fun e => by rw [e] at p; exact p) fun db eb vb F2 H2 x2 b2 => ?_
  rw [eb] at p
  simp only [] at p
  cases eo : op (opd da) (opd db) with
  | none => rw [eo] at p; exact p.elim
  | some k =>
    rw [eo] at p
    simp only [Res.of] at p
    refine hr F2 H2 va vb _ _ k _ x2.fh (b1.ext x2) b2 eo ⟨k, rfl, ?_⟩
    cases k with
    | true =>
      rw [if_pos rfl] at p
      rw [if_pos rfl]
      have x12 := x1.trans x2
      refine hc.go x2.fh ((st.ext x1).ext x2) (fun c e F' H' x => by rw [e] at p; exact p F' H' (x12.trans x)) (fun e => by rw [e] at p; exact p) fun dc ec vc F3 H3 x3 b3 => ?_
      rw [ec] at p
      simp only [] at p
      cases eo' : op' (opd db) (opd dc) with
      | none => rw [eo'] at p; exact p.elim
      | some k' =>
        rw [eo'] at p
        exact hr' F3 H3 vb vc _ _ k' _ x3.fh (b2.ext x3) b3 eo' (p _ F3 H3 [] (x12.trans x3) Fresh.nil (.inl (.sh (.bl k'))))
    | false =>
      rw [if_neg (by decide)] at p
      rw [if_neg (by decide)]
      exact p _ F2 H2 [] (x1.trans x2) Fresh.nil (.inl (.sh (.bl false)))
theorem jt_chain {o o' : CmpOp} {r r' : R2} {op op' : D → D → Option Bool} (ho : OpR X (compareOp o) r) (ho' : OpR X (compareOp o') r') (hr : C2Ok X.K cls r op) (hr' : C2Ok X.K cls r' op') (ha : JE X cls W a fa) (hb : JE X cls W b fb) (hc : JE X cls W c fc)
    (hm : lastMarks [o, o'] [b, c] = false := by with_unfolding_all rfl) : JT X cls W (.Compare a [o, o'] [b, c] pos) (tCh op op' fa fb fc) := by
  obtain ⟨ta, pa, da⟩ := ha.ex
  obtain ⟨tb, pb, db⟩ := hb.ex
  obtain ⟨tc, pc, dc⟩ := hc.ex
  exact ⟨_, pt_chain ho ho' pa pb pc hm, dt_of (dt_chain hr hr' da db dc)⟩
end
end DL

namespace DL
open PySem L2
def shd1 : D → Bool
  | .bo _ => false
  | .bd _ _ => false
  | .bb _ _ => false
  | _ => true
@[simp] theorem shd1_bo {b} : shd1 (.bo b) = false := rfl
@[simp] theorem shd1_bd {k b} : shd1 (.bd k b) = false := rfl
@[simp] theorem shd1_bb {k b} : shd1 (.bb k b) = false := rfl
@[simp] theorem shd1_un : shd1 .un = true := rfl
@[simp] theorem shd1_non : shd1 .non = true := rfl
@[simp] theorem shd1_bl {b} : shd1 (.bl b) = true := rfl
@[simp] theorem shd1_int {b} : shd1 (.int b) = true := rfl
@[simp] theorem shd1_str {b} : shd1 (.str b) = true := rfl
@[simp] theorem shd1_sc {b} : shd1 (.sc b) = true := rfl
@[simp] theorem shd1_ls {b} : shd1 (.ls b) = true := rfl
@[simp] theorem shd1_tp {b} : shd1 (.tp b) = true := rfl
@[simp] theorem shd1_ob {k b} : shd1 (.ob k b) = true := rfl
@[simp] theorem shd1_rf {b} : shd1 (.rf b) = true := rfl
def shd (l : List D) : Bool := l.all shd1
@[simp] theorem shd_nil : shd [] = true := rfl
@[simp] theorem shd_cons (d : D) (l : List D) : shd (d :: l) = (shd1 d && shd l) := rfl
@[simp] def lsv : D → Option (List D)
  | .ls xs => some xs
  | .bo xs => if shd xs = true then some xs else none
  | _ => none
@[simp] def sqL : D → Option (List D)
  | .ls xs => some xs
  | .sc xs => some xs
  | .bo xs => some xs
  | _ => none
@[simp] def sqK : D → Option (List D)
  | .ls xs => some xs
  | .sc xs => some xs
  | .bo xs => if shd xs = true then some xs else none
  | _ => none
@[simp] def intOf : D → Option Int
  | .int i => some i
  | _ => none
@[simp] def strOf : D → Option Str
  | .str i => some i
  | _ => none
@[simp] def blOf : D → Option Bool
  | .bl i => some i
  | _ => none
def intsOf : List D → Option (List Int)
  | [] => some []
  | d :: ds => match intOf d, intsOf ds with
    | some i, some is => some (i :: is)
    | _, _ => none
def strsOf : List D → Option (List Str)
  | [] => some []
  | d :: ds => match strOf d, strsOf ds with
    | some i, some is => some (i :: is)
    | _, _ => none
def blsOf : List D → Option (List Bool)
  | [] => some []
  | d :: ds => match blOf d, blsOf ds with
    | some i, some is => some (i :: is)
    | _, _ => none
theorem intsOf_eq : ∀ {ds : List D} {ns : List Int}, intsOf ds = some ns → ds = ns.map D.int
  | [], ns, h => by simp [intsOf] at h; subst h; rfl
  | d :: ds, ns, h => by
    unfold intsOf at h
    cases d <;> simp at h
    cases q : intsOf ds with
    | none => rw [q] at h; simp at h
    | some is => rw [q] at h; simp at h; subst h; rw [intsOf_eq q]; rfl
@[simp] theorem intsOf_map : ∀ ns : List Int, intsOf (ns.map D.int) = some ns
  | [] => rfl
  | n :: ns => by simp [intsOf, intsOf_map ns]
@[simp] theorem intsOf_nil : intsOf [] = some [] := rfl
@[simp] theorem intsOf_cons (i : Int) (ds : List D) : intsOf (.int i :: ds) = (intsOf ds).map (i :: ·) := by
  simp only [intsOf, intOf]; cases intsOf ds <;> rfl
@[simp] theorem strsOf_map : ∀ ns : List Str, strsOf (ns.map D.str) = some ns
  | [] => rfl
  | n :: ns => by simp [strsOf, strsOf_map ns]
@[simp] theorem strsOf_nil : strsOf [] = some [] := rfl
@[simp] theorem strsOf_cons (i : Str) (ds : List D) : strsOf (.str i :: ds) = (strsOf ds).map (i :: ·) := by
  simp only [strsOf, strOf]; cases strsOf ds <;> rfl
@[simp] theorem blsOf_map : ∀ ns : List Bool, blsOf (ns.map D.bl) = some ns
  | [] => rfl
  | n :: ns => by simp [blsOf, blsOf_map ns]
@[simp] theorem blsOf_nil : blsOf [] = some [] := rfl
@[simp] theorem blsOf_cons (i : Bool) (ds : List D) : blsOf (.bl i :: ds) = (blsOf ds).map (i :: ·) := by
  simp only [blsOf, blOf]; cases blsOf ds <;> rfl

section
variable {K : PySem.W.Frag} {cls : Cls} {W : WX} {X : Cx} {F H F' H' : Hp} {Q : VK} {σ : St}
theorem Rps.len {vs : List V} {ds : List D} (h : Rps K cls F vs ds) : vs.length = ds.length := by
  induction ds generalizing vs with
  | nil => cases h; rfl
  | cons d ds ih => cases h with | cons a b => simp [ih b]
theorem Bos.len {vs : List V} {ds : List D} (h : Bos K cls F H vs ds) : vs.length = ds.length := by
  induction ds generalizing vs with
  | nil => cases h; rfl
  | cons d ds ih => cases h with | cons a b => simp [ih b]
theorem Ows.len {vs : List V} {ds : List D} {O : List Addr} (h : Ows K cls F H vs ds O) : vs.length = ds.length := by
  induction ds generalizing vs O with
  | nil => cases h; rfl
  | cons d ds ih => cases h with | cons a b => simp [ih b]
theorem Rps.toBos {vs : List V} {ds : List D} (h : Rps K cls F vs ds) : Bos K cls F H vs ds := by
  induction ds generalizing vs with
  | nil => cases h; exact .nil
  | cons d ds ih => cases h with | cons a b => exact .cons (.sh a) (ih b)
theorem Rps.toOws {vs : List V} {ds : List D} (h : Rps K cls F vs ds) : Ows K cls F H vs ds [] := by
  induction ds generalizing vs with
  | nil => cases h; exact .nil
  | cons d ds ih => cases h with | cons a b => exact .cons (.sh a) (ih b) (fun _ q => (nomatch q)) rfl
theorem Bo.toRp {v : V} {d : D} (h : Bo K cls F H v d) (e : shd1 d = true) : Rp K cls F v d := by
  cases h with
  | sh r => exact r
  | bo => simp at e
  | bd => simp at e
  | bb => simp at e
theorem Bos.toRps {vs : List V} {ds : List D} (h : Bos K cls F H vs ds) (e : shd ds = true) : Rps K cls F vs ds := by
  induction ds generalizing vs with
  | nil => cases h; exact .nil
  | cons d ds ih =>
    cases h with
    | cons a b =>
      simp only [shd, List.all_cons, Bool.and_eq_true] at e
      exact .cons (a.toRp e.1) (ih b e.2)
theorem Bos.get : ∀ {vs : List V} {ds : List D} {i : Nat} {d : D}, Bos K cls F H vs ds → ds[i]? = some d → ∃ v, vs[i]? = some v ∧ Bo K cls F H v d
  | _, _, _, _, .nil, e => by simp at e
  | _, _, 0, _, .cons r _, e => by simp at e; subst e; exact ⟨_, rfl, r⟩
  | _, _, i + 1, _, .cons _ t, e => by
    obtain ⟨v, h1, h2⟩ := Bos.get (i := i) t (by simpa using e)
    exact ⟨v, by simpa using h1, h2⟩
theorem Rps.get : ∀ {vs : List V} {ds : List D} {i : Nat} {d : D}, Rps K cls F vs ds → ds[i]? = some d → ∃ v, vs[i]? = some v ∧ Rp K cls F v d
  | _, _, _, _, .nil, e => by simp at e
  | _, _, 0, _, .cons r _, e => by simp at e; subst e; exact ⟨_, rfl, r⟩
  | _, _, i + 1, _, .cons _ t, e => by
    obtain ⟨v, h1, h2⟩ := Rps.get (i := i) t (by simpa using e)
    exact ⟨v, by simpa using h1, h2⟩
theorem Rps.append : ∀ {vs ws : List V} {ds es : List D}, Rps K cls F vs ds → Rps K cls F ws es → Rps K cls F (vs ++ ws) (ds ++ es)
  | _, _, _, _, .nil, h => h
  | _, _, _, _, .cons a b, h => .cons a (b.append h)
theorem Rps.take : ∀ {vs : List V} {ds : List D} (n : Nat), Rps K cls F vs ds → Rps K cls F (vs.take n) (ds.take n)
  | _, _, 0, _ => by simp; exact .nil
  | _, _, n + 1, .nil => by simp; exact .nil
  | _, _, n + 1, .cons a b => .cons a (b.take n)
theorem Rps.drop : ∀ {vs : List V} {ds : List D} (n : Nat), Rps K cls F vs ds → Rps K cls F (vs.drop n) (ds.drop n)
  | _, _, 0, h => h
  | _, _, n + 1, .nil => by simp; exact .nil
  | _, _, n + 1, .cons a b => b.drop n
theorem Rps.reverse {vs : List V} {ds : List D} (h : Rps K cls F vs ds) : Rps K cls F vs.reverse ds.reverse := by
  induction ds generalizing vs with
  | nil => cases h; exact .nil
  | cons d ds ih =>
    cases h with
    | cons a b =>
      rw [List.reverse_cons, List.reverse_cons]
      exact (ih b).append (.cons a .nil)
theorem Rps.ints {vs : List V} : ∀ {ns : List Int}, Rps K cls F vs (ns.map D.int) → vs = ns.map V.int := by
  intro ns
  induction ns generalizing vs with
  | nil => intro h; cases h; rfl
  | cons n ns ih => intro h; cases h with | cons a b => cases a; rw [ih b]; rfl
theorem Bos.ints {vs : List V} : ∀ {ns : List Int}, Bos K cls F H vs (ns.map D.int) → vs = ns.map V.int := by
  intro ns
  induction ns generalizing vs with
  | nil => intro h; cases h; rfl
  | cons n ns ih => intro h; cases h with | cons a b => cases a with | sh a => cases a; rw [ih b]; rfl
theorem rps_ints : ∀ {ns : List Int}, Rps K cls F (ns.map V.int) (ns.map D.int)
  | [] => .nil
  | n :: ns => .cons (.int n) rps_ints
theorem Bo.lsv {v : V} {d : D} {xs : List D} (s : Same F H) (b : Bo K cls F H v d) (e : lsv d = some xs) : ∃ a vs, v = .ref a ∧ H a = some (.lst vs) ∧ Rps K cls F vs xs := by
  cases b with
  | sh r => cases r <;> simp at e <;> (subst e; exact ⟨_, _, rfl, s _ _ (by assumption), by assumption⟩)
  | bo h r =>
    simp at e
    obtain ⟨e1, e2⟩ := e
    subst e2
    exact ⟨_, _, rfl, h, r.toRps (by simpa using e1)⟩
  | bd => simp at e
  | bb => simp at e
theorem Bo.sqL {v : V} {d : D} {xs : List D} (s : Same F H) (b : Bo K cls F H v d) (e : sqL d = some xs) : ∃ a vs, v = .ref a ∧ SqL K H a vs ∧ Bos K cls F H vs xs := by
  cases b with
  | sh r =>
    cases r <;> simp at e
    · subst e; exact ⟨_, _, rfl, s.seq (by assumption), Rps.toBos (by assumption)⟩
    · subst e; exact ⟨_, _, rfl, SqL.of (s _ _ (by assumption)), Rps.toBos (by assumption)⟩
  | bo h r => simp at e; subst e; exact ⟨_, _, rfl, SqL.of h, r⟩
  | bd => simp at e
  | bb => simp at e
theorem Bo.sqK {v : V} {d : D} {xs : List D} (s : Same F H) (b : Bo K cls F H v d) (e : sqK d = some xs) : ∃ a vs, v = .ref a ∧ SqL K H a vs ∧ Rps K cls F vs xs := by
  cases b with
  | sh r =>
    cases r <;> simp at e
    · subst e; exact ⟨_, _, rfl, s.seq (by assumption), by assumption⟩
    · subst e; exact ⟨_, _, rfl, SqL.of (s _ _ (by assumption)), by assumption⟩
  | bo h r =>
    simp at e
    obtain ⟨e1, e2⟩ := e
    subst e2
    exact ⟨_, _, rfl, SqL.of h, r.toRps (by simpa using e1)⟩
  | bd => simp at e
  | bb => simp at e
@[simp] def tpv : D → Option (List D)
  | .tp xs => some xs
  | _ => none
theorem Bo.tpv {v : V} {d : D} {xs : List D} (s : Same F H) (b : Bo K cls F H v d) (e : tpv d = some xs) : ∃ a vs, v = .ref a ∧ SqT K H a vs ∧ SqT K F a vs ∧ Rps K cls F vs xs := by
  cases b with
  | sh r => cases r <;> simp at e <;> (subst e; exact ⟨_, _, rfl, sameT s (by assumption), by assumption, by assumption⟩)
  | bo => simp at e
  | bd => simp at e
  | bb => simp at e
theorem Bo.int {v : V} {i : Int} (b : Bo K cls F H v (.int i)) : v = .int i := by cases b with | sh r => cases r; rfl
theorem Bo.str {v : V} {i : Str} (b : Bo K cls F H v (.str i)) : v = .str i := by cases b with | sh r => cases r; rfl
theorem Bo.bl {v : V} {i : Bool} (b : Bo K cls F H v (.bl i)) : v = .bl i := by cases b with | sh r => cases r; rfl
theorem Bo.non {v : V} (b : Bo K cls F H v .non) : v = .non := by cases b with | sh r => cases r; rfl

theorem upd_same' {a : Addr} {o : HO} (hn : H a = none) : Same H (upd H a o) := fun b u e => by rw [upd_ne (ne_of_none e hn)]; exact e
theorem Ext.own {a : Addr} {o : HO} (s : Same F H) (hn : H a = none) : Ext F H F (upd H a o) := ⟨.refl F, upd_same' hn, s.trans (upd_same' hn), fun _ h _ => h⟩
theorem Ext.put {a : Addr} {o : HO} (s : Same F H) (hn : H a = none) : Ext F H (upd F a o) (upd H a o) := by
  have hf : F a = none := by
    cases q : F a with
    | none => rfl
    | some u => rw [s a u q] at hn; cases hn
  refine ⟨upd_same' hf, upd_same' hn, fun b u e => ?_, fun b h1 h2 => ?_⟩
  · by_cases hb : b = a
    · subst hb; rw [upd_same] at e ⊢; exact e
    · rw [upd_ne hb] at e ⊢; exact s b u e
  · have hb : b ≠ a := fun z => h2 (by rw [z]; exact hn)
    rw [upd_ne hb]; exact h1
theorem ow_new {a : Addr} {vs : List V} {ds : List D} {O : List Addr} (s : Same F H) (hn : H a = none) (r : Ows K cls F H vs ds O) : Ow K cls F (upd H a (.lst vs)) (.ref a) (.ol ds) (a :: O) := by
  have hf : F a = none := by
    cases q : F a with
    | none => rfl
    | some u => rw [s a u q] at hn; cases hn
  have no : a ∉ O := fun q => (r.dom a q).2 hn
  exact .ol hf upd_same no (r.frame (.refl F) fun b hb => ⟨upd_ne fun z => no (z ▸ hb), (r.dom b hb).1⟩)
theorem fresh_new {a : Addr} (hn : H a = none) : Fresh H [a] := fun b hb => by simp at hb; subst hb; exact hn

@[simp] def mulOk (i j : Int) : Prop := ((-(2 ^ 64) < i ∧ i < 2 ^ 64) ∨ (-(2 ^ 64) < j ∧ j < 2 ^ 64)) ∨ i.natAbs.log2 + j.natAbs.log2 < 100000000
def divOk (j : Int) : Prop := j ≠ 0 ∧ (j.natAbs < 1073741824 ∨ j.natAbs.log2 < 9000)
instance (i j : Int) : Decidable (mulOk i j) := by unfold mulOk; infer_instance
instance (j : Int) : Decidable (divOk j) := by unfold divOk; infer_instance
instance (i j : Int) : Decidable (CPow i j) := by unfold CPow; infer_instance
def lim : Nat := 1000000
theorem lim_ok {n : Nat} (h : n ≤ lim) : n ≤ sizeLine := Nat.le_trans h (Nat.le_of_lt lim_line)
theorem lim_lt {n : Nat} (h : n < lim) : n < sizeLine := Nat.lt_trans h lim_line

def opAddL (a b : D) : Option D := match lsv a, lsv b with
    | some xs, some ys => if xs.length + ys.length ≤ lim then some (.ol (xs ++ ys)) else none
    | _, _ => none
def opAdd : D → D → Option D
  | .int i, .int j => some (.int (i + j))
  | .str x, .str y => if x.length + y.length ≤ lim then some (.str (x ++ y)) else none
  | .tp xs, .tp ys => if xs.length + ys.length ≤ lim then some (.tp (xs ++ ys)) else none
  | a, b => opAddL a b
def opSub : D → D → Option D
  | .int i, .int j => some (.int (i - j))
  | _, _ => none
def opMul : D → D → Option D
  | .int i, .int j => if mulOk i j then some (.int (i * j)) else none
  | a, .int k => match lsv a with
    | some xs => if k < 2 ^ 63 ∧ -(2 ^ 63) ≤ k ∧ xs.length * k.toNat ≤ lim then some (.ol (List.replicate k.toNat xs).flatten) else none
    | none => none
  | _, _ => none
def opDiv : D → D → Option D
  | .int i, .int j => if divOk j then some (.int (if 0 < j then i / j else i.fdiv j)) else none
  | _, _ => none
def opMod : D → D → Option D
  | .int i, .int j => if j ≠ 0 then some (.int (if 0 < j then i % j else i.fmod j)) else none
  | _, _ => none
def opPow : D → D → Option D
  | .int i, .int j => if CPow i j then some (.int (i ^ j.toNat)) else none
  | _, _ => none
def opNeg : D → Option D
  | .int i => some (.int (-i))
  | _ => none
def rAdd4 (K : PySem.W.Frag) : R2 := fun x y H Q => ((rI0 fun i j => .int (i + j)) x y H Q ∨ (∃ i j, x = .str i ∧ y = .str j ∧ i.length + j.length ≤ sizeLine ∧ Q (.str (i ++ j)) H)) ∨ (rCat x y H Q ∨ rCatA K x y H Q)
theorem op_add4 : OpR X (binaryOp .Add) (rAdd4 X.K) := (op_add.or op_add_str).or (op_cat.or op_catA)
theorem pi1 {v : V} {d : D} (s : Same F H) (r : Rp K cls F v d) (q : ∀ v F' H' O', Ext F H F' H' → Fresh H O' → Tm K cls F' H' v d O' → Q v H') : Q v H := q v F H [] (.refl s) Fresh.nil (.inl (.sh r))
theorem ok_add : R2Ok K cls (rAdd4 K) opAdd := by
  intro F H x y a b d Q s b1 b2 e q
  unfold opAdd at e
  split at e
  · cases e
    obtain rfl := b1.int
    obtain rfl := b2.int
    exact .inl (.inl ⟨_, _, rfl, rfl, pi1 s (.int _) q⟩)
  · split at e
    · rename_i h
      cases e
      obtain rfl := b1.str
      obtain rfl := b2.str
      exact .inl (.inr ⟨_, _, rfl, rfl, lim_ok h, pi1 s (.str _) q⟩)
    · cases e
  · rename_i xs ys
    split at e
    · rename_i h
      cases e
      obtain ⟨a1, vs, rfl, h1, f1, r1⟩ := b1.tpv s (xs := xs) rfl
      obtain ⟨a2, ws, rfl, h2, f2, r2⟩ := b2.tpv s (xs := ys) rfl
      have l1 := r1.len
      have l2 := r2.len
      refine .inr (.inr ⟨_, _, vs, ws, rfl, rfl, h1, h2, lim_ok (by rw [l1, l2]; exact h), fun e => ?_, fun e1 e2 => ?_, fun e1 e2 p hp => ?_⟩)
      · subst e
        cases r1
        exact pi1 s (.tp f2 r2) q
      · subst e2
        cases r2
        rw [List.append_nil] at q
        exact pi1 s (.tp f1 r1) q
      · exact q _ _ _ [] (Ext.put s hp) Fresh.nil (.inl (.sh (.tp (SqT.of upd_same) ((r1.append r2).mono (Ext.put s hp).ff))))
    · cases e
  · unfold opAddL at e
    split at e
    · rename_i xs ys q1 q2
      split at e
      · rename_i h
        cases e
        obtain ⟨a1, vs, rfl, h1, r1⟩ := b1.lsv s q1
        obtain ⟨a2, ws, rfl, h2, r2⟩ := b2.lsv s q2
        refine .inr (.inl ⟨_, _, _, _, rfl, rfl, h1, h2, lim_ok (by rw [r1.len, r2.len]; exact h), fun p hp => ?_⟩)
        exact q _ _ _ [p] (Ext.own s hp) (fresh_new hp) (.inl (ow_new s hp (r1.append r2).toOws))
      · cases e
    · cases e
theorem ok_sub : R2Ok K cls (rI0 fun i j => .int (i - j)) opSub := by
  intro F H x y a b d Q s b1 b2 e q
  unfold opSub at e
  split at e
  · cases e
    obtain rfl := b1.int
    obtain rfl := b2.int
    exact ⟨_, _, rfl, rfl, pi1 s (.int _) q⟩
  · cases e
theorem mulW_ok {a b : Int} (h : a.natAbs.log2 + b.natAbs.log2 < 100000000) : IntMulOk a b := by
  unfold IntMulOk Builtin.Int.intTooBig
  have h1 : ∀ z : Int, Builtin.Int.intBits z ≤ z.natAbs.log2 + 1 := fun z => by unfold Builtin.Int.intBits; split <;> omega
  have h3 := h1 a
  have h4 := h1 b
  have h5 := bitsLine_eq
  simp only [Bool.and_eq_true, decide_eq_true_eq]
  omega
theorem op_mulX : OpR X (binaryOp .Mult) (rI mulOk fun i j => .int (i * j)) := opI fun _ _ _ _ _ _ _ hc q => PyProof.Rows.mul_int q (by
  rcases hc with hc | hc
  · exact CMul.ok hc
  · exact mulW_ok hc)
theorem op_mul4 : OpR X (binaryOp .Mult) (fun x y H Q => (rI mulOk fun i j => .int (i * j)) x y H Q ∨ rRep x y H Q) := op_mulX.or op_rep
theorem Rps.rep {vs : List V} {ds : List D} (h : Rps K cls F vs ds) : ∀ k : Nat, Rps K cls F (List.replicate k vs).flatten (List.replicate k ds).flatten
  | 0 => by simp; exact .nil
  | k + 1 => by rw [List.replicate_succ, List.replicate_succ, List.flatten_cons, List.flatten_cons]; exact h.append (h.rep k)
theorem ok_mul : R2Ok K cls (fun x y H Q => (rI mulOk fun i j => .int (i * j)) x y H Q ∨ rRep x y H Q) opMul := by
  intro F H x y a b d Q s b1 b2 e q
  unfold opMul at e
  split at e
  · split at e
    · rename_i h
      cases e
      obtain rfl := b1.int
      obtain rfl := b2.int
      exact .inl ⟨_, _, rfl, rfl, h, pi1 s (.int _) q⟩
    · cases e
  · split at e
    · rename_i xs q1
      split at e
      · rename_i h
        cases e
        obtain rfl := b2.int
        obtain ⟨a1, vs, rfl, h1, r1⟩ := b1.lsv s q1
        refine .inr ⟨_, _, _, rfl, rfl, h1, h.2.1, h.1, lim_ok (by rw [r1.len]; exact h.2.2), fun p hp => ?_⟩
        exact q _ _ _ [p] (Ext.own s hp) (fresh_new hp) (.inl (ow_new s hp (r1.rep _).toOws))
      · cases e
    · cases e
  · cases e
theorem op_divX : OpR X (binaryOp .FloorDiv) (rI (fun _ j => divOk j) fun i j => .int (if 0 < j then i / j else i.fdiv j)) := opI fun i j _ _ _ _ _ hc q => by
  have e : (if 0 < j then i / j else i.fdiv j) = i.fdiv j := by
    split
    · rw [Int.fdiv_eq_ediv_of_nonneg i (by omega)]
    · rfl
  rw [e] at q
  rcases hc with ⟨h0, h | h⟩
  · exact PyProof.Rows.floordiv_int h0 q (.inl (PyProof.noPylong_small h))
  · exact PyProof.Rows.floordiv_int h0 q (.inl (PyProof.noPylong_of_log2 h))
theorem ok_div : R2Ok K cls (rI (fun _ j => divOk j) fun i j => .int (if 0 < j then i / j else i.fdiv j)) opDiv := by
  intro F H x y a b d Q s b1 b2 e q
  unfold opDiv at e
  split at e
  · rename_i i j
    by_cases h : divOk j
    · rw [if_pos h] at e
      cases e
      obtain rfl := b1.int
      obtain rfl := b2.int
      exact ⟨_, _, rfl, rfl, h, pi1 s (.int _) q⟩
    · rw [if_neg h] at e; cases e
  · cases e
theorem op_modX : OpR X (binaryOp .Mod) (rI (fun _ j => j ≠ 0) fun i j => .int (if 0 < j then i % j else i.fmod j)) := opI fun i j _ _ _ _ _ hc q => by
  have e : (if 0 < j then i % j else i.fmod j) = i.fmod j := by
    split
    · rw [Int.fmod_eq_emod_of_nonneg i (by omega)]
    · rfl
  rw [e] at q
  exact PyProof.Rows.mod_int' hc q
theorem ok_mod : R2Ok K cls (rI (fun _ j => j ≠ 0) fun i j => .int (if 0 < j then i % j else i.fmod j)) opMod := by
  intro F H x y a b d Q s b1 b2 e q
  unfold opMod at e
  split at e
  · rename_i i j
    by_cases h : j ≠ 0
    · rw [if_pos h] at e
      cases e
      obtain rfl := b1.int
      obtain rfl := b2.int
      exact ⟨_, _, rfl, rfl, h, pi1 s (.int _) q⟩
    · rw [if_neg h] at e; cases e
  · cases e
theorem ok_pow : R2Ok K cls (rI CPow fun i j => .int (i ^ j.toNat)) opPow := by
  intro F H x y a b d Q s b1 b2 e q
  unfold opPow at e
  split at e
  · rename_i i j
    by_cases h : CPow i j
    · rw [if_pos h] at e
      cases e
      obtain rfl := b1.int
      obtain rfl := b2.int
      exact ⟨_, _, rfl, rfl, h, pi1 s (.int _) q⟩
    · rw [if_neg h] at e; cases e
  · cases e
theorem ok_neg : R1Ok K cls (rU fun i => .int (-i)) opNeg := by
  intro F H x a d Q s b1 e q
  unfold opNeg at e
  split at e
  · cases e
    obtain rfl := b1.int
    exact ⟨_, rfl, pi1 s (.int _) q⟩
  · cases e

def cLt : D → D → Option Bool
  | .int i, .int j => some (decide (i < j))
  | _, _ => none
def cLe : D → D → Option Bool
  | .int i, .int j => some (decide (i ≤ j))
  | _, _ => none
def cGt : D → D → Option Bool
  | .int i, .int j => some (decide (j < i))
  | _, _ => none
def cGe : D → D → Option Bool
  | .int i, .int j => some (decide (j ≤ i))
  | _, _ => none
theorem ok_lt : C2Ok K cls (rI0 fun i j => .bl (decide (i < j))) cLt := by
  intro F H x y a b d Q s b1 b2 e q
  unfold cLt at e
  split at e
  · cases e
    obtain rfl := b1.int
    obtain rfl := b2.int
    exact ⟨_, _, rfl, rfl, q⟩
  · cases e
theorem ok_le : C2Ok K cls (rI0 fun i j => .bl (decide (i ≤ j))) cLe := by
  intro F H x y a b d Q s b1 b2 e q
  unfold cLe at e
  split at e
  · cases e
    obtain rfl := b1.int
    obtain rfl := b2.int
    exact ⟨_, _, rfl, rfl, q⟩
  · cases e
theorem ok_gt : C2Ok K cls (rI0 fun i j => .bl (decide (j < i))) cGt := by
  intro F H x y a b d Q s b1 b2 e q
  unfold cGt at e
  split at e
  · cases e
    obtain rfl := b1.int
    obtain rfl := b2.int
    exact ⟨_, _, rfl, rfl, q⟩
  · cases e
theorem ok_ge : C2Ok K cls (rI0 fun i j => .bl (decide (j ≤ i))) cGe := by
  intro F H x y a b d Q s b1 b2 e q
  unfold cGe at e
  split at e
  · cases e
    obtain rfl := b1.int
    obtain rfl := b2.int
    exact ⟨_, _, rfl, rfl, q⟩
  · cases e
mutual
def toPy : D → Option PyData
  | .non => some .none
  | .bl b => some (.bool b)
  | .int i => some (.int i)
  | .str x => some (.str x)
  | .sc xs => (toPys xs).map .list
  | .ls xs => (toPys xs).map .list
  | .bo xs => (toPys xs).map .list
  | .tp xs => (toPys xs).map .tuple
  | _ => none
def toPys : List D → Option (List PyData)
  | [] => some []
  | d :: ds => match toPy d, toPys ds with
    | some p, some ps => some (p :: ps)
    | _, _ => none
end
mutual
theorem Rp.dp (s : Same F H) : ∀ {v : V} {d : D} {p : PyData}, Rp K cls F v d → toPy d = some p → Dp K H v p
  | _, _, _, .non, e => by simp [toPy] at e; subst e; exact .non
  | _, _, _, .bl b, e => by simp [toPy] at e; subst e; exact .bl b
  | _, _, _, .int b, e => by simp [toPy] at e; subst e; exact .int b
  | _, _, _, .str b, e => by simp [toPy] at e; subst e; exact .str b
  | _, _, _, .sc (ds := ds) h r, e => by
    simp [toPy] at e
    obtain ⟨ps, e1, e2⟩ := e
    subst e2
    exact .lst (s.seq h) (Rps.dp s r e1)
  | _, _, _, .ls (ds := ds) h r, e => by
    simp [toPy] at e
    obtain ⟨ps, e1, e2⟩ := e
    subst e2
    exact .lst (SqL.of (s _ _ h)) (Rps.dp s r e1)
  | _, _, _, .tp (ds := ds) h r, e => by
    simp [toPy] at e
    obtain ⟨ps, e1, e2⟩ := e
    subst e2
    exact .tup (sameT s h) (Rps.dp s r e1)
  | _, _, _, .ob .., e => by simp [toPy] at e
theorem Rps.dp (s : Same F H) : ∀ {v : List V} {d : List D} {p : List PyData}, Rps K cls F v d → toPys d = some p → DpAll K H v p
  | _, _, _, .nil, e => by simp [toPys] at e; subst e; exact .nil
  | _, _, _, .cons (d := d) (ds := ds) a b, e => by
    unfold toPys at e
    cases q1 : toPy d with
    | none => rw [q1] at e; cases e
    | some p =>
      cases q2 : toPys ds with
      | none => rw [q1, q2] at e; cases e
      | some ps =>
        rw [q1, q2] at e
        cases e
        exact .cons (Rp.dp s a q1) (Rps.dp s b q2)
end
mutual
theorem Bo.dp (s : Same F H) : ∀ {v : V} {d : D} {p : PyData}, Bo K cls F H v d → toPy d = some p → Dp K H v p
  | _, _, _, .sh r, e => r.dp s e
  | _, _, _, .bo (ds := ds) h r, e => by
    simp [toPy] at e
    obtain ⟨ps, e1, e2⟩ := e
    subst e2
    exact .lst (SqL.of h) (Bos.dp s r e1)
  | _, _, _, .bd .., e => by simp [toPy] at e
theorem Bos.dp (s : Same F H) : ∀ {v : List V} {d : List D} {p : List PyData}, Bos K cls F H v d → toPys d = some p → DpAll K H v p
  | _, _, _, .nil, e => by simp [toPys] at e; subst e; exact .nil
  | _, _, _, .cons (d := d) (ds := ds) a b, e => by
    unfold toPys at e
    cases q1 : toPy d with
    | none => rw [q1] at e; cases e
    | some p =>
      cases q2 : toPys ds with
      | none => rw [q1, q2] at e; cases e
      | some ps =>
        rw [q1, q2] at e
        cases e
        exact .cons (Bo.dp s a q1) (Bos.dp s b q2)
end
def pyEq (a b : D) : Option Bool := match toPy a, toPy b with
  | some p, some q => if SeqAt.shaped p = true ∧ SeqAt.shaped q = true then some (PyData.eqv p q) else none
  | _, _ => none
def cEq : D → D → Option Bool
  | .int i, .int j => some (decide (i = j))
  | .str i, .str j => some (decide (i = j))
  | .bl i, .bl j => some (decide (i = j))
  | .non, .non => some true
  | .non, .int _ => some false
  | .int _, .non => some false
  | .int _, .str _ => some false
  | .str _, .int _ => some false
  | .non, .str _ => some false
  | .str _, .non => some false
  | a, b => pyEq a b
def cNe (a b : D) : Option Bool := (cEq a b).map (!·)
theorem cEq_ok {x y : V} {a b : D} {k : Bool} (s : Same F H) (b1 : Bo K cls F H x a) (b2 : Bo K cls F H y b) (e : cEq a b = some k) :
    (scal x y = true ∧ decide (x = y) = k) ∨ ∃ d e, Dp K H x d ∧ Dp K H y e ∧ SeqAt.shaped d = true ∧ SeqAt.shaped e = true ∧ PyData.eqv d e = k := by
  have py : ∀ {a b : D}, Bo K cls F H x a → Bo K cls F H y b → pyEq a b = some k → ∃ d e, Dp K H x d ∧ Dp K H y e ∧ SeqAt.shaped d = true ∧ SeqAt.shaped e = true ∧ PyData.eqv d e = k := fun {a b} b1 b2 e => by
    unfold pyEq at e
    split at e
    · rename_i p q h1 h2
      split at e
      · rename_i h
        cases e
        exact ⟨p, q, b1.dp s h1, b2.dp s h2, h.1, h.2, rfl⟩
      · cases e
    · cases e
  unfold cEq at e
  split at e
  · cases e; obtain rfl := b1.int; obtain rfl := b2.int; exact .inl ⟨rfl, by simp⟩
  · cases e; obtain rfl := b1.str; obtain rfl := b2.str; exact .inl ⟨rfl, by simp⟩
  · cases e; obtain rfl := b1.bl; obtain rfl := b2.bl; exact .inl ⟨rfl, by simp⟩
  · cases e; obtain rfl := b1.non; obtain rfl := b2.non; exact .inl ⟨rfl, by simp⟩
  · cases e; obtain rfl := b1.non; obtain rfl := b2.int; exact .inl ⟨rfl, by simp⟩
  · cases e; obtain rfl := b1.int; obtain rfl := b2.non; exact .inl ⟨rfl, by simp⟩
  · cases e; obtain rfl := b1.int; obtain rfl := b2.str; exact .inl ⟨rfl, by simp⟩
  · cases e; obtain rfl := b1.str; obtain rfl := b2.int; exact .inl ⟨rfl, by simp⟩
  · cases e; obtain rfl := b1.non; obtain rfl := b2.str; exact .inl ⟨rfl, by simp⟩
  · cases e; obtain rfl := b1.str; obtain rfl := b2.non; exact .inl ⟨rfl, by simp⟩
  · exact .inr (py b1 b2 e)
theorem ok_eq : C2Ok K cls (fun x y H Q => rEq x y H Q ∨ rEqD K x y H Q) cEq := by
  intro F H x y a b d Q s b1 b2 e q
  rcases cEq_ok s b1 b2 e with ⟨h1, h2⟩ | ⟨p, r, h1, h2, h3, h4, h5⟩
  · exact .inl ⟨h1, by rw [h2]; exact q⟩
  · exact .inr ⟨p, r, h1, h2, h3, h4, by rw [h5]; exact q⟩
theorem ok_ne : C2Ok K cls (fun x y H Q => rNe x y H Q ∨ rNeD K x y H Q) cNe := by
  intro F H x y a b d Q s b1 b2 e q
  unfold cNe at e
  cases e0 : cEq a b with
  | none => rw [e0] at e; cases e
  | some k =>
    rw [e0] at e
    cases e
    rcases cEq_ok s b1 b2 e0 with ⟨h1, h2⟩ | ⟨p, r, h1, h2, h3, h4, h5⟩
    · exact .inl ⟨h1, by rw [h2]; exact q⟩
    · exact .inr ⟨p, r, h1, h2, h3, h4, by rw [h5]; exact q⟩
theorem op_eq4 (hu : X.A.units + 64 < cLine) : OpR X (compareOp .Eq) (fun x y H Q => rEq x y H Q ∨ rEqD X.K x y H Q) := op_eq.or (op_eqD hu)
theorem op_ne4 (hu : X.A.units + 64 < cLine) : OpR X (compareOp .NotEq) (fun x y H Q => rNe x y H Q ∨ rNeD X.K x y H Q) := op_ne.or (op_neD hu)
def cIsN : D → D → Option Bool
  | .un, _ => none
  | a, .non => some (match a with | .non => true | _ => false)
  | _, _ => none
def cNotN (a b : D) : Option Bool := (cIsN a b).map (!·)
end
end DL

namespace DL
open PySem L2
section
variable {K : PySem.W.Frag} {cls : Cls} {W : WX} {X : Cx} {F H F' H' : Hp} {Q : VK} {σ : St} {a b c e : Expr} {es : List Expr} {fa fb fc : Env → Res D} {ga gb : Env → Res Bool} {fs : Env → Res (List D)} {pos : Pos}

@[simp] def sqA : D → Option (List D)
  | .ls xs => some xs
  | .sc xs => some xs
  | .bo xs => some xs
  | .tp xs => some xs
  | _ => none
def cIn : D → D → Option Bool
  | .int i, s => match sqA s with
    | some xs => match intsOf xs with
      | some ns => some (decide (i ∈ ns))
      | none => none
    | none => none
  | .str i, s => match sqA s with
    | some xs => match strsOf xs with
      | some ns => some (decide (i ∈ ns))
      | none => none
    | none => none
  | _, _ => none
def cNIn (a b : D) : Option Bool := (cIn a b).map (!·)
theorem Bo.sqA {v : V} {d : D} {xs : List D} (s : Same F H) (b : Bo K cls F H v d) (e : sqA d = some xs) : ∃ a vs, v = .ref a ∧ (SqL K H a vs ∨ SqT K H a vs) ∧ Bos K cls F H vs xs := by
  cases d with
  | tp ys => obtain ⟨a, vs, e1, h1, h2, r⟩ := b.tpv s (xs := xs) (by simpa using e); exact ⟨a, vs, e1, .inr h1, r.toBos⟩
  | ls ys => obtain ⟨a, vs, e1, h1, r⟩ := b.sqL s (xs := xs) (by simpa using e); exact ⟨a, vs, e1, .inl h1, r⟩
  | sc ys => obtain ⟨a, vs, e1, h1, r⟩ := b.sqL s (xs := xs) (by simpa using e); exact ⟨a, vs, e1, .inl h1, r⟩
  | bo ys => obtain ⟨a, vs, e1, h1, r⟩ := b.sqL s (xs := xs) (by simpa using e); exact ⟨a, vs, e1, .inl h1, r⟩
  | _ => simp at e
def opIx : D → D → Option D
  | .str z, .int i => if z.length ≤ lim then (atI z.cps.toList i).map fun c => .str ⟨#[c]⟩ else none
  | a, .int i => match sqA a with
    | some xs => atI xs i
    | none => none
  | _, _ => none
theorem atI_some {α : Type} {xs : List α} {i : Int} {d : α} (h : atI xs i = some d) : ∃ j, ixN xs.length i = some j ∧ xs[j]? = some d := by
  unfold atI at h
  cases q : ixN xs.length i with
  | none => rw [q] at h; cases h
  | some j => rw [q] at h; exact ⟨j, rfl, h⟩
theorem Bos.at {vs : List V} {ds : List D} {i : Int} {d : D} (h : Bos K cls F H vs ds) (e : atI ds i = some d) : ∃ v, atI vs i = some v ∧ Bo K cls F H v d := by
  obtain ⟨j, h1, h2⟩ := atI_some e
  obtain ⟨v, h3, h4⟩ := h.get h2
  refine ⟨v, ?_, h4⟩
  unfold atI
  rw [h.len, h1]
  exact h3
theorem ok_ix : R2Ok K cls (rIx K) opIx := by
  intro F H x y a b d Q s b1 b2 e q
  unfold opIx at e
  split at e
  · rename_i z i
    by_cases h : z.length ≤ lim
    · rw [if_pos h] at e
      obtain rfl := b1.str
      obtain rfl := b2.int
      cases e0 : atI z.cps.toList i with
      | none => rw [e0] at e; cases e
      | some c =>
        rw [e0] at e
        cases e
        exact .inr (.inr ⟨z, i, c, rfl, rfl, lim_ok h, e0, pi1 s (.str _) q⟩)
    · rw [if_neg h] at e; cases e
  · split at e
    · rename_i xs h1
      obtain rfl := b2.int
      obtain ⟨p, vs, rfl, h3, r⟩ := b1.sqA s h1
      obtain ⟨v, h4, h5⟩ := r.at e
      have q' : Q v H := q v F H [] (.refl s) Fresh.nil (.inr ⟨h5, rfl⟩)
      rcases h3 with h3 | h3
      · exact .inl ⟨p, vs, _, v, rfl, rfl, h3, h4, q'⟩
      · exact .inr (.inl ⟨p, vs, _, v, rfl, rfl, h3, h4, q'⟩)
    · cases e
  · cases e
theorem je_ix (ha : JE X cls W a fa) (hb : JE X cls W b fb) (hs : PlainIx b := by exact fun _ _ => rfl) : JE X cls W (.Subscript a b pos) (eBin opIx fa fb) := by
  obtain ⟨ta, pa, da⟩ := ha.ex
  obtain ⟨tb, pb, db⟩ := hb.ex
  exact ⟨_, pe_ix ix_seq pa pb hs, de_bin ok_ix da db⟩

def sIx (n d : Nat) : Option Int → Nat := HT.sIx n d
def cut {α : Type} (xs : List α) (lo hi : Option Int) : List α := (xs.drop (HT.sIx xs.length 0 lo)).take (HT.sIx xs.length xs.length hi - HT.sIx xs.length 0 lo)
def opSl (a : D) (lo hi : Option Int) : Option D := match a with
  | .tp xs => some (.tp (cut xs lo hi))
  | a => match sqK a with
    | some xs => some (.ol (cut xs lo hi))
    | none => none
def ePart (o : Option (Env → Res D)) : Env → Res (Option Int) := fun g => match o with
  | none => .ok none
  | some f => (f g).bind fun d => (Res.of (intOf (opd d))).bind fun i => .ok (some i)
@[simp] theorem ePart_none (g : Env) : ePart none g = .ok none := rfl
@[simp] theorem ePart_some (f : Env → Res D) (g : Env) : ePart (some f) g = (f g).bind fun d => (Res.of (intOf (opd d))).bind fun i => .ok (some i) := rfl
structure JP (X : Cx) (cls : Cls) (W : WX) (e : Option Expr) (f : Env → Res (Option Int)) : Prop where
  ex : ∃ t, PO X e t ∧ ∀ σ F H g O (Q : Option Int → Hp → Prop), Same F H → Sts X.K cls F H σ g O → (match f g with
    | .ok o => ∀ F' H', Ext F H F' H' → Q o H'
    | .xc c => ∀ F' H', Ext F H F' H' → W (excV cls c) none σ H'
    | .bad => False) → t σ H Q
theorem jp_none : JP X cls W none (ePart none) := ⟨_, po_none, fun σ F H g O Q s st p => p F H (.refl s)⟩
theorem jp_some (ha : JE X cls W a fa) : JP X cls W (some a) (ePart (some fa)) := by
  obtain ⟨ta, pa, da⟩ := ha.ex
  refine ⟨_, po_some pa, fun σ F H g O Q s st p => ?_⟩
  rw [ePart_some] at p
  refine da.go s st (fun c e => by rw [e] at p; exact p) (fun e => by rw [e] at p; exact p) fun d e v F' H' x b => ?_
  rw [e] at p
  simp only [Res.bind] at p
  cases e2 : intOf (opd d) with
  | none => rw [e2] at p; exact p.elim
  | some i =>
    rw [e2] at p
    have e3 : opd d = .int i := by
      cases e4 : opd d <;> rw [e4] at e2 <;> simp at e2
      rw [e2]
    rw [e3] at b
    exact ⟨i, b.int, p F' H' x⟩
def eSl (fa : Env → Res D) (lo hi : Env → Res (Option Int)) : Env → Res D := fun g => (fa g).bind fun a => (lo g).bind fun l => (hi g).bind fun h => .of (opSl (opd a) l h)
@[simp] theorem eSl_ (fa : Env → Res D) (lo hi : Env → Res (Option Int)) (g : Env) : eSl fa lo hi g = (fa g).bind fun a => (lo g).bind fun l => (hi g).bind fun h => .of (opSl (opd a) l h) := rfl
theorem Rps.cut {vs : List V} {ds : List D} (h : Rps K cls F vs ds) (lo hi : Option Int) : Rps K cls F (cutV vs lo hi) (cut ds lo hi) := by
  unfold cutV DL.cut
  rw [h.len]
  exact (h.drop _).take _
theorem cut_whole {α : Type} {xs : List α} {lo hi : Option Int} (h : HT.sIx xs.length 0 lo = 0 ∧ HT.sIx xs.length xs.length hi = xs.length) : cut xs lo hi = xs := by
  unfold cut
  rw [h.1, h.2]
  simp
theorem je_sl {lo hi : Option Expr} {fl fh : Env → Res (Option Int)} {p2 : Pos} (ha : JE X cls W a fa) (hl : JP X cls W lo fl) (hh : JP X cls W hi fh) : JE X cls W (.Subscript a (.Slice lo hi none p2) pos) (eSl fa fl fh) := by
  obtain ⟨ta, pa, da⟩ := ha.ex
  obtain ⟨tl, pl, dl⟩ := hl.ex
  obtain ⟨th, ph, dh⟩ := hh.ex
  refine ⟨_, pe_slice (sl_list.or sl_tupA) pa pl ph, ?_⟩
  intro σ F H g O Q s st p
  rw [eSl_] at p
  refine da.go s st (fun c e => by rw [e] at p; exact p) (fun e => by rw [e] at p; exact p) fun d e v F1 H1 x1 b1 => ?_
  rw [e] at p
  simp only [Res.bind] at p
  refine dl σ F1 H1 g O _ x1.fh (st.ext x1) ?_
  cases el : fl g with
  | bad => rw [el] at p; exact p.elim
  | xc c => rw [el] at p; exact fun F' H' x => p F' H' (x1.trans x)
  | ok l =>
    rw [el] at p
    simp only [] at p ⊢
    intro F2 H2 x2
    refine dh σ F2 H2 g O _ x2.fh ((st.ext x1).ext x2) ?_
    cases eh : fh g with
    | bad => rw [eh] at p; exact p.elim
    | xc c => rw [eh] at p; exact fun F' H' x => p F' H' ((x1.trans x2).trans x)
    | ok h =>
      rw [eh] at p
      simp only [] at p ⊢
      intro F3 H3 x3
      have x23 := x2.trans x3
      have x13 := x1.trans x23
      have b3 := b1.ext x23
      cases eo : opSl (opd d) l h with
      | none => rw [eo] at p; exact p.elim
      | some r =>
        rw [eo] at p
        have q : ∀ v F' H' O', Ext F3 H3 F' H' → Fresh H3 O' → Tm X.K cls F' H' v r O' → Q v H' := fun v F' H' O' y fr tm => p v F' H' O' (x13.trans y) (fr.mono x13.hh) tm
        unfold opSl at eo
        split at eo
        · rename_i xs ed
          cases eo
          rw [ed] at b3
          obtain ⟨a1, vs, rfl, h1, f1, r1⟩ := b3.tpv x3.fh (xs := xs) rfl
          refine .inr ⟨a1, vs, rfl, h1, fun w => ?_, fun w p hp => ?_⟩
          · rw [r1.len] at w
            exact q _ F3 H3 [] (.refl x3.fh) Fresh.nil (.inl (.sh (by rw [cut_whole w]; exact .tp f1 r1)))
          · exact q _ _ _ [] (Ext.put x3.fh hp) Fresh.nil (.inl (.sh (.tp (SqT.of upd_same) ((r1.cut l h).mono (Ext.put x3.fh hp).ff))))
        · split at eo
          · rename_i xs ek
            cases eo
            obtain ⟨a1, vs, rfl, h1, r1⟩ := b3.sqK x3.fh ek
            refine .inl ⟨a1, vs, rfl, h1, fun p hp => ?_⟩
            exact q _ _ _ [p] (Ext.own x3.fh hp) (fresh_new hp) (.inl (ow_new x3.fh hp (r1.cut l h).toOws))
          · cases eo

def aNil : Env → Res (List D) := fun _ => .ok []
def aCons (fa : Env → Res D) (fs : Env → Res (List D)) : Env → Res (List D) := fun g => (fa g).bind fun a => (fs g).bind fun r => .ok (opd a :: r)
def aConsO (fa : Env → Res D) (fs : Env → Res (List D)) : Env → Res (List D) := fun g => (fa g).bind fun a => (kp a).bind fun a => (fs g).bind fun r => .ok (a :: r)
@[simp] theorem aNil_ (g : Env) : aNil g = .ok [] := rfl
@[simp] theorem aCons_ (fa : Env → Res D) (fs : Env → Res (List D)) (g : Env) : aCons fa fs g = (fa g).bind fun a => (fs g).bind fun r => .ok (opd a :: r) := rfl
@[simp] theorem aConsO_ (fa : Env → Res D) (fs : Env → Res (List D)) (g : Env) : aConsO fa fs g = (fa g).bind fun a => (kp a).bind fun a => (fs g).bind fun r => .ok (a :: r) := rfl
theorem ja_nil : JA X cls W [] aNil := ⟨_, pa_nil, fun σ F H g O Q s st p => p [] F H (.refl s) .nil⟩
theorem jao_nil : JAO X cls W [] aNil := ⟨_, pa_nil, fun σ F H g O Q s st p => p [] F H [] (.refl s) Fresh.nil .nil⟩
theorem DA.go {t : TA} (ha : DA K cls W t fs) {σ : St} {F H : Hp} {g : Env} {O : List Addr} {Q : List V → Hp → Prop} (s : Same F H) (st : Sts K cls F H σ g O)
    (hx : ∀ c, fs g = .xc c → ∀ F' H', Ext F H F' H' → W (excV cls c) none σ H') (hb : fs g ≠ .bad) (hk : ∀ d, fs g = .ok d → ∀ v F' H', Ext F H F' H' → Bos K cls F' H' v d → Q v H') : t σ H Q := by
  refine ha σ F H g O Q s st ?_
  cases e : fs g with
  | ok k => exact hk k e
  | xc c => exact hx c e
  | bad => exact (hb e).elim
theorem DAO.go {t : TA} (ha : DAO K cls W t fs) {σ : St} {F H : Hp} {g : Env} {O : List Addr} {Q : List V → Hp → Prop} (s : Same F H) (st : Sts K cls F H σ g O)
    (hx : ∀ c, fs g = .xc c → ∀ F' H', Ext F H F' H' → W (excV cls c) none σ H') (hb : fs g ≠ .bad) (hk : ∀ d, fs g = .ok d → ∀ v F' H' O', Ext F H F' H' → Fresh H O' → Ows K cls F' H' v d O' → Q v H') : t σ H Q := by
  refine ha σ F H g O Q s st ?_
  cases e : fs g with
  | ok k => exact hk k e
  | xc c => exact hx c e
  | bad => exact (hb e).elim
theorem ja_cons (ha : JE X cls W a fa) (hr : JA X cls W es fs) (hs : starEach (a :: es) X.env = (false, eval a X.env) :: starEach es X.env := by rfl) : JA X cls W (a :: es) (aCons fa fs) := by
  obtain ⟨ta, pa, da⟩ := ha.ex
  obtain ⟨tr, pr, dr⟩ := hr.ex
  refine ⟨_, pa_cons pa pr hs, ?_⟩
  intro σ F H g O Q s st p
  rw [aCons_] at p
  refine da.go s st (fun c e => by rw [e] at p; exact p) (fun e => by rw [e] at p; exact p) fun d e v F1 H1 x1 b1 => ?_
  rw [e] at p
  simp only [Res.bind] at p
  refine dr.go x1.fh (st.ext x1) (fun c e F' H' x => by rw [e] at p; exact p F' H' (x1.trans x)) (fun e => by rw [e] at p; exact p) fun ds es vs F2 H2 x2 b2 => ?_
  rw [es] at p
  exact p _ F2 H2 (x1.trans x2) (.cons (b1.ext x2) b2)
theorem jao_cons (ha : JE X cls W a fa) (hr : JAO X cls W es fs) (hs : starEach (a :: es) X.env = (false, eval a X.env) :: starEach es X.env := by rfl) : JAO X cls W (a :: es) (aConsO fa fs) := by
  obtain ⟨ta, pa, da⟩ := ha.ex
  obtain ⟨tr, pr, dr⟩ := hr.ex
  refine ⟨_, pa_cons pa pr hs, ?_⟩
  intro σ F H g O Q s st p
  rw [aConsO_] at p
  refine da.goO s st (fun c e => by rw [e] at p; exact p) (fun e => ?_) fun d e v F1 H1 O1 x1 fr1 b1 => ?_
  · cases q : fa g with
    | ok d => rw [q] at e p; simp only [Res.bind] at e p; rw [e] at p; exact p
    | xc c => rw [q] at e; cases e
    | bad => rw [q] at p; exact p
  have p : PostAO X.K cls W σ F H Q ((fs g).bind fun r => .ok (d :: r)) := by
    cases q : fa g with
    | ok d => rw [q] at e p; simp only [Res.bind] at e p; rw [e] at p; exact p
    | xc c => rw [q] at e; cases e
    | bad => rw [q] at e; cases e
  refine dr.go x1.fh (st.ext x1) (fun c e F' H' x => by rw [e] at p; exact p F' H' (x1.trans x)) (fun e => by rw [e] at p; exact p) fun ds es vs F2 H2 O2 x2 fr2 b2 => ?_
  rw [es] at p
  refine p _ F2 H2 (O1 ++ O2) (x1.trans x2) (fun a ha => ?_) (.cons (b1.ext x2) b2 (fun a h1 h2 => ?_) rfl)
  · rcases List.mem_append.mp ha with q | q
    · exact fr1 a q
    · exact x1.hh.free (fr2 a q)
  · exact (b1.dom a h1).2 (fr2 a h2)
def eLst (fs : Env → Res (List D)) : Env → Res D := fun g => (fs g).bind fun ds => if ds.length ≤ lim then .ok (.ol ds) else .bad
def eTup (fs : Env → Res (List D)) : Env → Res D := fun g => (fs g).bind fun ds => if ds.length ≤ lim ∧ nods ds = true then .ok (.tp (frzs ds)) else .bad
@[simp] theorem eLst_ (fs : Env → Res (List D)) (g : Env) : eLst fs g = (fs g).bind fun ds => if ds.length ≤ lim then .ok (.ol ds) else .bad := rfl
@[simp] theorem eTup_ (fs : Env → Res (List D)) (g : Env) : eTup fs g = (fs g).bind fun ds => if ds.length ≤ lim ∧ nods ds = true then .ok (.tp (frzs ds)) else .bad := rfl
theorem je_lst (h : JAO X cls W es fs) : JE X cls W (.List es pos) (eLst fs) := by
  obtain ⟨ta, pa, da⟩ := h.ex
  refine ⟨_, pe_lst pa, ?_⟩
  intro σ F H g O Q s st p
  rw [eLst_] at p
  refine da.go s st (fun c e => by rw [e] at p; exact p) (fun e => by rw [e] at p; exact p) fun ds e vs F1 H1 O1 x1 fr1 b1 => ?_
  rw [e] at p
  simp only [Res.bind] at p
  split at p
  · rename_i hl
    refine ⟨lim_ok (by rw [b1.len]; exact hl), fun q hq => ?_⟩
    exact p _ _ _ (q :: O1) (x1.trans (Ext.own x1.fh hq)) (fun a ha => by
      rcases List.mem_cons.mp ha with rfl | ha
      · exact x1.hh.free hq
      · exact fr1 a ha) (.inl (ow_new x1.fh hq b1))
  · exact p.elim
theorem je_tup {k : Nat} (h : JAO X cls W es fs) : JE X cls W (.Tuple es k pos) (eTup fs) := by
  obtain ⟨ta, pa, da⟩ := h.ex
  refine ⟨_, pe_tup pa, ?_⟩
  intro σ F H g O Q s st p
  rw [eTup_] at p
  refine da.go s st (fun c e => by rw [e] at p; exact p) (fun e => by rw [e] at p; exact p) fun ds e vs F1 H1 O1 x1 fr1 b1 => ?_
  rw [e] at p
  simp only [Res.bind] at p
  split at p
  · rename_i hl
    refine ⟨lim_ok (by rw [b1.len]; exact hl.1), fun q hq => ?_⟩
    have no : ∀ a ∈ O1, F1 a = none := fun a ha => (b1.dom a ha).1
    have x2 := addF_ext x1 fr1 no
    have r2 := b1.freeze (addF_same no) addF_at hl.2
    exact p _ _ _ [] (x2.trans (Ext.put x2.fh hq)) Fresh.nil (.inl (.sh (.tp (SqT.of upd_same) (r2.mono (Ext.put x2.fh hq).ff))))
  · exact p.elim

def CaOk (K : PySem.W.Frag) (cls : Cls) (r : List V → Hp → VK → Prop) (op : List D → Option D) : Prop :=
  ∀ F H vs ds d Q, Same F H → Bos K cls F H vs ds → op ds = some d → (∀ v F' H' O', Ext F H F' H' → Fresh H O' → Tm K cls F' H' v d O' → Q v H') → r vs H Q
def eCall (op : List D → Option D) (fs : Env → Res (List D)) : Env → Res D := fun g => (fs g).bind fun ds => .of (op ds)
@[simp] theorem eCall_ (op : List D → Option D) (fs : Env → Res (List D)) (g : Env) : eCall op fs g = (fs g).bind fun ds => .of (op ds) := rfl
theorem de_call {r : List V → Hp → VK → Prop} {op : List D → Option D} {t : TA} (hr : CaOk K cls r op) (ha : DA K cls W t fs) : DE K cls W (tCB r t) (eCall op fs) := by
  intro σ F H g O Q s st p
  rw [eCall_] at p
  refine ha.go s st (fun c e => by rw [e] at p; exact p) (fun e => by rw [e] at p; exact p) fun ds e vs F1 H1 x1 b1 => ?_
  rw [e] at p
  simp only [Res.bind] at p
  cases eo : op ds with
  | none => rw [eo] at p; exact p.elim
  | some d =>
    rw [eo] at p
    exact hr F1 H1 vs ds d Q x1.fh b1 eo fun v F' H' O' y fr tm => p v F' H' O' (x1.trans y) (fr.mono x1.hh) tm
theorem je_callB {x : Str} {id : String} {p : Pos} {r : List V → Hp → VK → Prop} {op : List D → Option D} (hc : CallR X (.builtin id) r) (hr : CaOk X.K cls r op) (hm : X.mg x = none) (hv : bootBuiltins x = some (.builtin id)) (ha : JA X cls W (e :: es) fs)
    (hg : Gl X x := by rfl) (hn : x ≠ "__name__" := by decide) (hdb : (x == ("__debug__" : Str)) = false := by decide)
    (he : starEach (e :: es) X.env = (false, eval e X.env) :: starEach es X.env := by rfl) (hpl : (backTo pos (starEach es X.env)).any (·.1) = false := by rfl) : JE X cls W (.Call (.Name x p) (e :: es) [] pos) (eCall op fs) := by
  obtain ⟨ta, pa, da⟩ := ha.ex
  exact ⟨_, pe_callB hc hg hm hv pa hn hdb he hpl, de_call hr da⟩
theorem je_callTy {x : Str} {T : String} {p : Pos} {r : List V → Hp → VK → Prop} {op : List D → Option D} (hc : CallR X (.type T) r) (hr : CaOk X.K cls r op) (hm : X.mg x = none) (hv : bootBuiltins x = some (.type T)) (ha : JA X cls W (e :: es) fs)
    (hg : Gl X x := by rfl) (hn : x ≠ "__name__" := by decide) (hdb : (x == ("__debug__" : Str)) = false := by decide)
    (he : starEach (e :: es) X.env = (false, eval e X.env) :: starEach es X.env := by rfl) (hpl : (backTo pos (starEach es X.env)).any (·.1) = false := by rfl) : JE X cls W (.Call (.Name x p) (e :: es) [] pos) (eCall op fs) := by
  obtain ⟨ta, pa, da⟩ := ha.ex
  exact ⟨_, pe_callTy hc hg hm hv pa hn hdb he hpl, de_call hr da⟩
def caLen : List D → Option D
  | [.str z] => if z.length ≤ lim then some (.int z.length) else none
  | [d] => match sqA d with
    | some xs => some (.int xs.length)
    | none => match d with
      | .bd ks _ => none
      | _ => none
  | _ => none
theorem Bos.one {vs : List V} {d : D} (h : Bos K cls F H vs [d]) : ∃ v, vs = [v] ∧ Bo K cls F H v d := by
  cases h with | cons a b => cases b; exact ⟨_, rfl, a⟩
theorem Bos.two {vs : List V} {d d' : D} (h : Bos K cls F H vs [d, d']) : ∃ v v', vs = [v, v'] ∧ Bo K cls F H v d ∧ Bo K cls F H v' d' := by
  cases h with | cons a b => cases b with | cons a' b' => cases b'; exact ⟨_, _, rfl, a, a'⟩
theorem ok_len : CaOk K cls (fun xs H Q => ∃ x n, xs = [x] ∧ LenV K x H n ∧ Q (.int n) H) caLen := by
  intro F H vs ds d Q s b e q
  unfold caLen at e
  split at e
  · rename_i z
    by_cases h : z.length ≤ lim
    · rw [if_pos h] at e
      cases e
      obtain ⟨v, rfl, b1⟩ := b.one
      obtain rfl := b1.str
      exact ⟨_, _, rfl, ⟨lim_ok h, rfl⟩, pi1 s (.int _) q⟩
    · rw [if_neg h] at e; cases e
  · split at e
    · rename_i xs h1
      cases e
      obtain ⟨v, rfl, b1⟩ := b.one
      obtain ⟨p, vs, rfl, h3, r⟩ := b1.sqA s h1
      have q' : Q (.int (xs.length : Int)) H := pi1 s (.int _) q
      rw [← r.len] at q'
      rcases h3 with h3 | h3
      · exact ⟨_, vs.length, rfl, .inl ⟨vs, h3, rfl⟩, q'⟩
      · exact ⟨_, vs.length, rfl, .inr ⟨vs, h3, rfl⟩, q'⟩
    · split at e <;> cases e
  · cases e
def caMax2 : List D → Option D
  | [.int i, .int j] => some (.int (if j > i then j else i))
  | _ => none
def caMin2 : List D → Option D
  | [.int i, .int j] => some (.int (if j < i then j else i))
  | _ => none
theorem ok_max2 : CaOk K cls (fun xs H Q => ∃ i j, xs = [.int i, .int j] ∧ Q (.int (if j > i then j else i)) H) caMax2 := by
  intro F H vs ds d Q s b e q
  unfold caMax2 at e
  split at e
  · cases e
    obtain ⟨v, v', rfl, b1, b2⟩ := b.two
    obtain rfl := b1.int
    obtain rfl := b2.int
    exact ⟨_, _, rfl, pi1 s (.int _) q⟩
  · cases e
theorem ok_min2 : CaOk K cls (fun xs H Q => ∃ i j, xs = [.int i, .int j] ∧ Q (.int (if j < i then j else i)) H) caMin2 := by
  intro F H vs ds d Q s b e q
  unfold caMin2 at e
  split at e
  · cases e
    obtain ⟨v, v', rfl, b1, b2⟩ := b.two
    obtain rfl := b1.int
    obtain rfl := b2.int
    exact ⟨_, _, rfl, pi1 s (.int _) q⟩
  · cases e
def caAbs : List D → Option D
  | [.int i] => some (.int (if i < 0 then -i else i))
  | _ => none
def caInt : List D → Option D
  | [.int i] => some (.int i)
  | [.bl k] => some (.int (if k = true then 1 else 0))
  | _ => none
theorem ok_int : CaOk K cls (fun xs H Q => (∃ i, xs = [.int i] ∧ Q (.int i) H) ∨ ∃ k, xs = [.bl k] ∧ Q (.int (if k then 1 else 0)) H) caInt := by
  intro F H vs ds d Q s b e q
  unfold caInt at e
  split at e
  · cases e
    obtain ⟨v, rfl, b1⟩ := b.one
    obtain rfl := b1.int
    exact .inl ⟨_, rfl, pi1 s (.int _) q⟩
  · cases e
    obtain ⟨v, rfl, b1⟩ := b.one
    obtain rfl := b1.bl
    exact .inr ⟨_, rfl, pi1 s (.int _) q⟩
  · cases e
@[simp] def sqKA : D → Option (List D)
  | .tp xs => some xs
  | d => sqK d
theorem Bo.sqKA {v : V} {d : D} {xs : List D} (s : Same F H) (b : Bo K cls F H v d) (e : sqKA d = some xs) : ∃ a vs, v = .ref a ∧ (SqL K H a vs ∨ SqT K H a vs) ∧ Rps K cls F vs xs := by
  cases d with
  | tp ys => obtain ⟨a, vs, e1, h1, h2, r⟩ := b.tpv s (xs := xs) (by simpa using e); exact ⟨a, vs, e1, .inr h1, r⟩
  | ls ys => obtain ⟨a, vs, e1, h1, r⟩ := b.sqK s (xs := xs) (by simpa using e); exact ⟨a, vs, e1, .inl h1, r⟩
  | sc ys => obtain ⟨a, vs, e1, h1, r⟩ := b.sqK s (xs := xs) (by simpa using e); exact ⟨a, vs, e1, .inl h1, r⟩
  | bo ys => obtain ⟨a, vs, e1, h1, r⟩ := b.sqK s (xs := xs) (by simpa using e); exact ⟨a, vs, e1, .inl h1, r⟩
  | _ => simp at e
def caList : List D → Option D
  | [d] => (sqKA d).map .ol
  | _ => none
theorem ok_list : CaOk K cls (fun xs H Q => ∃ p ys, xs = [.ref p] ∧ (SqL K H p ys ∨ SqT K H p ys) ∧ ∀ l, H l = none → Q (.ref l) (upd H l (.lst ys))) caList := by
  intro F H vs ds d Q s b e q
  unfold caList at e
  split at e
  · rename_i d0
    cases h1 : sqKA d0 with
    | none => rw [h1] at e; cases e
    | some xs =>
      rw [h1] at e
      cases e
      obtain ⟨v, rfl, b1⟩ := b.one
      obtain ⟨p, ws, rfl, h2, r⟩ := b1.sqKA s h1
      exact ⟨p, ws, rfl, h2, fun l hl => q _ _ _ [l] (Ext.own s hl) (fresh_new hl) (.inl (ow_new s hl r.toOws))⟩
  · cases e
def caTuple : List D → Option D
  | [d] => (sqKA d).map .tp
  | _ => none
theorem ok_tuple : CaOk K cls (fun xs H Q => ∃ p ys, xs = [.ref p] ∧ ((SqL K H p ys ∧ ∀ l, H l = none → Q (.ref l) (upd H l (.tup ys))) ∨ (SqT K H p ys ∧ Q (.ref p) H))) caTuple := by
  intro F H vs ds d Q s b e q
  unfold caTuple at e
  split at e
  · rename_i d0
    cases h1 : sqKA d0 with
    | none => rw [h1] at e; cases e
    | some xs =>
      rw [h1] at e
      cases e
      obtain ⟨v, rfl, b1⟩ := b.one
      have lst : ∀ {a : Addr} {ws : List V}, SqL K H a ws → Rps K cls F ws xs → ∀ l, H l = none → Q (.ref l) (upd H l (.tup ws)) := fun {a ws} h r l hl =>
        q _ _ _ [] (Ext.put s hl) Fresh.nil (.inl (.sh (.tp (SqT.of upd_same) (r.mono (Ext.put s hl).ff))))
      cases d0 with
      | tp ys =>
        obtain ⟨a, ws, rfl, h2, h3, r⟩ := b1.tpv s (xs := xs) (by simpa using h1)
        exact ⟨a, ws, rfl, .inr ⟨h2, pi1 s (.tp h3 r) q⟩⟩
      | ls ys => obtain ⟨a, ws, rfl, h2, r⟩ := b1.sqK s (xs := xs) (by simpa using h1); exact ⟨a, ws, rfl, .inl ⟨h2, lst h2 r⟩⟩
      | sc ys => obtain ⟨a, ws, rfl, h2, r⟩ := b1.sqK s (xs := xs) (by simpa using h1); exact ⟨a, ws, rfl, .inl ⟨h2, lst h2 r⟩⟩
      | bo ys => obtain ⟨a, ws, rfl, h2, r⟩ := b1.sqK s (xs := xs) (by simpa using h1); exact ⟨a, ws, rfl, .inl ⟨h2, lst h2 r⟩⟩
      | _ => simp at h1
  · cases e
def caSum : List D → Option D
  | [d] => match sqL d with
    | some xs => (intsOf xs).map fun ns => .int ns.sum
    | none => none
  | _ => none
theorem Bo.sqI {v : V} {d : D} {xs : List D} {ns : List Int} (s : Same F H) (b : Bo K cls F H v d) (e : DL.sqL d = some xs) (e2 : intsOf xs = some ns) : ∃ a, v = .ref a ∧ L2.SqL K H a (ns.map V.int) := by
  obtain ⟨a, vs, e1, h, r⟩ := Bo.sqL s b e
  rw [intsOf_eq e2] at r
  rw [r.ints] at h
  exact ⟨a, e1, h⟩
def gst : List Int → Int
  | [] => 0
  | [x] => x
  | x :: xs => if gst xs > x then gst xs else x
def lst_ : List Int → Int
  | [] => 0
  | [x] => x
  | x :: xs => if lst_ xs < x then lst_ xs else x
def caMax : List D → Option D
  | [d] => match sqL d with
    | some xs => match intsOf xs with
      | some ns => if ns.isEmpty = true then none else some (.int (gst ns))
      | none => none
    | none => none
  | _ => none
def caMin : List D → Option D
  | [d] => match sqL d with
    | some xs => match intsOf xs with
      | some ns => if ns.isEmpty = true then none else some (.int (lst_ ns))
      | none => none
    | none => none
  | _ => none
def ins (x : Int) : List Int → List Int
  | [] => [x]
  | y :: r => if x ≤ y then x :: y :: r else y :: ins x r
def srt : List Int → List Int
  | [] => []
  | x :: r => ins x (srt r)
theorem ins_perm (x : Int) : ∀ l : List Int, (ins x l).Perm (x :: l)
  | [] => List.Perm.refl _
  | y :: r => by
    unfold ins
    split
    · exact List.Perm.refl _
    · exact ((ins_perm x r).cons y).trans (List.Perm.swap x y r)
theorem srt_perm : ∀ l : List Int, (srt l).Perm l
  | [] => List.Perm.refl _
  | x :: r => (ins_perm x _).trans ((srt_perm r).cons x)
theorem ins_sorted (x : Int) : ∀ {l : List Int}, l.Pairwise (· ≤ ·) → (ins x l).Pairwise (· ≤ ·)
  | [], _ => by simp [ins]
  | y :: r, h => by
    unfold ins
    obtain ⟨h1, h2⟩ := List.pairwise_cons.mp h
    split
    · rename_i hxy
      refine List.pairwise_cons.mpr ⟨fun z hz => ?_, h⟩
      rcases List.mem_cons.mp hz with rfl | hz
      · exact hxy
      · exact Int.le_trans hxy (h1 z hz)
    · rename_i hxy
      refine List.pairwise_cons.mpr ⟨fun z hz => ?_, ins_sorted x h2⟩
      rcases List.mem_cons.mp ((ins_perm x r).mem_iff.mp hz) with rfl | hz
      · omega
      · exact h1 z hz
theorem srt_sorted : ∀ l : List Int, (srt l).Pairwise (· ≤ ·)
  | [] => List.Pairwise.nil
  | x :: r => ins_sorted x (srt_sorted r)
theorem srt_len (l : List Int) : (srt l).length = l.length := (srt_perm l).length_eq
def caSorted : List D → Option D
  | [d] => match sqL d with
    | some xs => (intsOf xs).map fun ns => .ol ((srt ns).map D.int)
    | none => none
  | _ => none
end
end DL

namespace DL
open PySem L2
theorem set_self {α : Type} : ∀ {l : List α} {i : Nat} {a : α}, l[i]? = some a → l.set i a = l
  | [], _, _, h => by simp at h
  | x :: l, 0, a, h => by simp at h; subst h; rfl
  | x :: l, i + 1, a, h => by rw [List.set_cons_succ, set_self (by simpa using h)]
structure Cn (X : Cx) (W : WX) (k : Nat) : Prop where
  tk : Takes X W
  hp : PassesOwn (model X.prog X.w) X.A X.env X.xe
  calm : X.calm = true
  nd : X.N.Nodup
  hr : Room k X.A
theorem Cn.mono {X : Cx} {W : WX} {j k : Nat} (c : Cn X W k) (h : j ≤ k) : Cn X W j := ⟨c.tk, c.hp, c.calm, c.nd, c.hr.mono h⟩
theorem Cn.eq {X : Cx} {W : WX} {k : Nat} (c : Cn X W k) : X.A.units + 64 < cLine := c.hr.units
abbrev W0 : WX := fun _ _ _ _ => False
theorem Cn.blk {X : Cx} {W : WX} {k : Nat} (c : Cn X W k) {s : Shared} {H : Hp} {scope : Scope} {cenv : PySem.Env} {fp : List Addr} : Cn (X.blk s H scope cenv fp) W0 k :=
  ⟨takes0, PassesOwn.never, c.calm, c.nd, c.hr⟩

structure ClsOk (K : PySem.W.Frag) (cls : Cls) (c : Nat) (C : Addr) (ns : List Str) : Prop where
  e : cls c = some (C, ns)
  nd : ns.Nodup
  cl : L2.Cls K C
  na : ∀ f ∈ ns, NoAttr K C f
theorem lookup_zip : ∀ {ns : List Str} {vs : List V} {i : Nat} {f : Str} {v : V}, ns.Nodup → ns[i]? = some f → vs[i]? = some v → (ns.zip vs).lookup f = some v
  | [], _, _, _, _, _, h, _ => by simp at h
  | n :: ns, [], _, _, _, _, _, h => by simp at h
  | n :: ns, w :: vs, 0, f, v, nd, h1, h2 => by
    simp at h1 h2
    subst h1 h2
    simp [List.lookup]
  | n :: ns, w :: vs, i + 1, f, v, nd, h1, h2 => by
    obtain ⟨a1, a2⟩ := List.nodup_cons.mp nd
    have h1' : ns[i]? = some f := by simpa using h1
    have : ¬ f = n := fun e => a1 (e ▸ List.mem_of_getElem? h1')
    rw [List.zip_cons_cons, List.lookup]
    have e : (f == n) = false := by simpa using this
    rw [e]
    exact lookup_zip a2 h1' (by simpa using h2)
def opFld (c i : Nat) : D → Option D
  | .ob c' ds => if c' = c then ds[i]? else none
  | .bb c' ds => if c' = c then ds[i]? else none
  | _ => none
section
variable {K : PySem.W.Frag} {cls : Cls} {W : WX} {X : Cx} {F H F' H' F1 H1 : Hp} {O O1 : List Addr} {Q : VK} {σ : St} {a b e : Expr} {es : List Expr} {fa fb fc : Env → Res D} {ga gb : Env → Res Bool} {fs : Env → Res (List D)} {pos : Pos}
theorem Bo.fld {c i : Nat} {C : Addr} {ns : List Str} {f : Str} {v : V} {d r : D} (s : Same F H) (T : ClsOk K cls c C ns) (hi : ns[i]? = some f) (b : Bo K cls F H v d) (e : opFld c i d = some r) :
    ∃ a dx fs w, v = .ref a ∧ H a = some (.ins C dx fs) ∧ fs.lookup f = some w ∧ Bo K cls F H w r := by
  cases d with
  | ob c' ds =>
    have e2 : (if c' = c then ds[i]? else none) = some r := e
    split at e2
    · rename_i hc
      subst hc
      cases b with
      | sh rr =>
        cases rr with
        | ob he hF hl hr =>
          have := he.symm.trans T.e
          cases this
          obtain ⟨w, h1, h2⟩ := hr.get e2
          exact ⟨_, _, _, w, rfl, s _ _ hF, lookup_zip T.nd hi h1, .sh h2⟩
    · cases e2
  | bb c' ds =>
    have e2 : (if c' = c then ds[i]? else none) = some r := e
    split at e2
    · rename_i hc
      subst hc
      cases b with
      | sh rr => cases rr
      | bb he hF hl hr =>
        have := he.symm.trans T.e
        cases this
        obtain ⟨w, h1, h2⟩ := hr.get e2
        exact ⟨_, _, _, w, rfl, hF, lookup_zip T.nd hi h1, h2⟩
    · cases e2
  | _ => cases e
theorem je_fld {c i : Nat} {C : Addr} {ns : List Str} {f : Str} (T : ClsOk X.K cls c C ns) (hi : ns[i]? = some f) (ha : JE X cls W a fa) (hb : attributeBase a f X.env (eval a X.env) = eval a X.env := by rfl) : JE X cls W (.Attribute a f pos) (eUn (opFld c i) fa) := by
  obtain ⟨ta, pa, da⟩ := ha.ex
  refine ⟨_, pe_fld pa hb, ?_⟩
  intro σ F H g O Q s st p
  rw [eUn_] at p
  refine da.go s st (fun c e => by rw [e] at p; exact p) (fun e => by rw [e] at p; exact p) fun d e v F1 H1 x1 b1 => ?_
  rw [e] at p
  simp only [Res.bind] at p
  cases eo : opFld c i (opd d) with
  | none => rw [eo] at p; exact p.elim
  | some r =>
    rw [eo] at p
    obtain ⟨a, dx, fs, w, rfl, h1, h2, h3⟩ := b1.fld x1.fh T hi eo
    exact ⟨_, _, _, _, w, rfl, h1, T.cl, T.na f (List.mem_of_getElem? hi), h2, p w F1 H1 [] x1 Fresh.nil (.inr ⟨h3, rfl⟩)⟩

def spD (K : PySem.W.Frag) (cls : Cls) (n : Nat) (g : List D → Res D) : Sp := fun vs H Q E => ∃ F ds, Same F H ∧ Rps K cls F vs ds ∧ ds.length = n ∧
  match g ds with
  | .ok d => ∀ v F' H' O', Ext F H F' H' → Fresh H O' → Ow K cls F' H' v d O' → Q v H'
  | .xc c => ∀ F' H', Ext F H F' H' → E (excV cls c) none H'
  | .bad => False
mutual
/-- nothing but scalars, in new lists -/
@[simp] def flat : D → Bool
  | .non => true
  | .bl _ => true
  | .int _ => true
  | .str _ => true
  | .ol xs => flats xs
  | _ => false
@[simp] def flats : List D → Bool
  | [] => true
  | d :: ds => flat d && flats ds
end
mutual
@[simp] def plok : D → Bool
  | .bd _ _ => false
  | .bo xs => ploks xs
  | .bb _ xs => ploks xs
  | _ => true
@[simp] def ploks : List D → Bool
  | [] => true
  | d :: ds => plok d && ploks ds
end
mutual
theorem Bo.pln (s : Same F H) : ∀ {v : V} {d : D}, Bo K cls F H v d → plok d = true → Rp K cls H v (pln d)
  | _, _, .sh r, _ => by
    have r' := r.mono s
    cases r <;> exact r'
  | _, _, .bo h r, e => by
    simp only [DL.pln]
    exact .ls h (Bos.plns s r (by simpa using e))
  | _, _, .bb hc h l r, e => by
    simp only [DL.pln]
    exact .ob hc h l (Bos.plns s r (by simpa using e))
  | _, _, .bd .., e => by simp at e
theorem Bos.plns (s : Same F H) : ∀ {v : List V} {d : List D}, Bos K cls F H v d → ploks d = true → Rps K cls H v (plns d)
  | _, _, .nil, _ => .nil
  | _, _, .cons a b, e => by
    simp only [ploks, Bool.and_eq_true] at e
    simp only [DL.plns]
    exact .cons (Bo.pln s a e.1) (Bos.plns s b e.2)
end
mutual
theorem Ow.flat : ∀ {v : V} {d : D} {O : List Addr}, Ow K cls F' H' v d O → flat d = true → (∀ a ∈ O, F a = none) → Ow K cls F H' v d O
  | _, _, _, .sh r, e, _ => by
    cases r with
    | non => exact .sh .non
    | bl b => exact .sh (.bl b)
    | int b => exact .sh (.int b)
    | str b => exact .sh (.str b)
    | _ => simp at e
  | _, _, _, .ol h1 h2 h3 r, e, k => .ol (k _ (by simp)) h2 h3 (Ows.flats r (by simpa using e) fun a ha => k a (by simp [ha]))
  | _, _, _, .od .., e, _ => by simp at e
  | _, _, _, .oo .., e, _ => by simp at e
theorem Ows.flats : ∀ {v : List V} {d : List D} {O : List Addr}, Ows K cls F' H' v d O → flats d = true → (∀ a ∈ O, F a = none) → Ows K cls F H' v d O
  | _, _, _, .nil, _, _ => .nil
  | _, _, _, .cons a b dj q, e, k => by
    simp only [DL.flats, Bool.and_eq_true] at e
    exact .cons (Ow.flat a e.1 fun x hx => k x (by simp [q, hx])) (Ows.flats b e.2 fun x hx => k x (by simp [q, hx])) dj q
end
def calD (g : List D → Res D) (ds : List D) : Res D :=
  if shd ds = true then g ds
  else if ploks ds = true then (g (plns ds)).bind fun d => if flat d = true then .ok d else .bad
  else .bad
def eOwn (g : List D → Res D) (fs : Env → Res (List D)) : Env → Res D := fun e => (fs e).bind fun ds => calD g ds
@[simp] theorem eOwn_ (g : List D → Res D) (fs : Env → Res (List D)) (e : Env) : eOwn g fs e = (fs e).bind fun ds => calD g ds := rfl
theorem plns_len : ∀ ds : List D, (plns ds).length = ds.length
  | [] => rfl
  | d :: ds => by simp [plns, plns_len ds]
theorem spD_call {n : Nat} {g : List D → Res D} {vs : List V} {ds : List D} {E : XK} (s : Same F H) (b : Bos K cls F H vs ds) (hn : ds.length = n)
    (p : match calD g ds with
      | .ok d => ∀ v F' H' O', Ext F H F' H' → Fresh H O' → Ow K cls F' H' v d O' → Q v H'
      | .xc c => ∀ F' H', Ext F H F' H' → E (excV cls c) none H'
      | .bad => False) : spD K cls n g vs H Q E := by
  unfold calD at p
  by_cases h1 : shd ds = true
  · rw [if_pos h1] at p
    exact ⟨F, ds, s, b.toRps h1, hn, p⟩
  · rw [if_neg h1] at p
    by_cases h2 : ploks ds = true
    · rw [if_pos h2] at p
      refine ⟨H, plns ds, .refl H, b.plns s h2, by rw [plns_len]; exact hn, ?_⟩
      have up : ∀ {F' H'}, Ext H H F' H' → Ext F H F H' := fun x => ⟨.refl F, x.hh, s.trans x.hh, fun _ h _ => h⟩
      cases e : g (plns ds) with
      | ok d =>
        rw [e] at p
        simp only [Res.bind] at p ⊢
        by_cases h3 : flat d = true
        · rw [if_pos h3] at p
          intro v F' H' O' x fr ow
          refine p v F H' O' (up x) fr (ow.flat h3 fun a ha => ?_)
          cases q : F a with
          | none => rfl
          | some o => have := fr a ha; rw [s a o q] at this; cases this
        · rw [if_neg h3] at p; exact p.elim
      | xc c =>
        rw [e] at p
        exact fun F' H' x => p F H' (up x)
      | bad => rw [e] at p; exact p.elim
    · rw [if_neg h2] at p; exact p.elim
theorem je_own {x : Str} {f : Addr} {fd : FuncData} {ps : List Str} {k n : Nat} {g : List D → Res D} {p : Pos} (c : Cn X W k) (G : FnOk X.prog X.w X.K X.mg X.base (L2.CX X.prog X.w) k f fd ps (spD X.K cls n g))
    (hm : X.mg x = some (.ref f)) (hk : PySem.W.keepIn X.K (.ref f) = true) (hb : Binds X.K fd ps []) (ha : JA X cls W (e :: es) fs) (hn : ∀ g ds, fs g = .ok ds → ds.length = n) (hg : Gl X x := by rfl)
    (hdb : (x == ("__debug__" : Str)) = false := by decide) (he : starEach (e :: es) X.env = (false, eval e X.env) :: starEach es X.env := by rfl) (hpl : (backTo pos (starEach es X.env)).any (·.1) = false := by rfl) :
    JE X cls W (.Call (.Name x p) (e :: es) [] pos) (eOwn g fs) := by
  obtain ⟨ta, pa, da⟩ := ha.ex
  refine ⟨_, pe_callS G c.hr hg hm hk hb (fun σ => passAt c.tk σ) pa hdb he hpl, ?_⟩
  intro σ F H env O Q s st p
  rw [eOwn_] at p
  refine da.go s st (fun c e => by rw [e] at p; exact p) (fun e => by rw [e] at p; exact p) fun ds e vs F1 H1 x1 b1 => ?_
  rw [e] at p
  simp only [Res.bind] at p
  refine spD_call x1.fh b1 (hn env ds e) ?_
  cases eo : calD g ds with
  | ok d => rw [eo] at p; exact fun v F' H' O' y fr ow => p v F' H' O' (x1.trans y) (fr.mono x1.hh) (.inl ow)
  | xc c => rw [eo] at p; exact fun F' H' y => p F' H' (x1.trans y)
  | bad => rw [eo] at p; exact p
theorem an_len {g : Env} {ds : List D} {n : Nat} (h : ∀ g ds, fs g = .ok ds → ds.length = n) (e : aCons fa fs g = .ok ds) : ds.length = n + 1 := by
  rw [aCons_] at e
  cases q1 : fa g with
  | ok d =>
    rw [q1] at e
    simp only [Res.bind] at e
    cases q2 : fs g with
    | ok r => rw [q2] at e; cases e; simp [h g r q2]
    | xc c => rw [q2] at e; cases e
    | bad => rw [q2] at e; cases e
  | xc c => rw [q1] at e; cases e
  | bad => rw [q1] at e; cases e
theorem al0 : ∀ g ds, aNil g = .ok ds → ds.length = 0 := fun g ds e => by cases e; rfl
theorem alS {n : Nat} (h : ∀ g ds, fs g = .ok ds → ds.length = n) : ∀ g ds, aCons fa fs g = .ok ds → ds.length = n + 1 := fun g ds e => an_len h e

def PostS (K : PySem.W.Frag) (cls : Cls) (W : WX) (D : Ends) (F H : Hp) (O : List Addr) : Out → Prop
  | .nx g => ∀ σ' F' H' O', SExt F H O F' H' O' → Sts K cls F' H' σ' g O' → D.nx σ' H'
  | .rt d => ∀ v F' H' O', SExt F H O F' H' O' → Ow K cls F' H' v d O' → D.rt v H'
  | .bk g => ∀ σ' F' H' O', SExt F H O F' H' O' → Sts K cls F' H' σ' g O' → D.bk σ' H'
  | .ct g => ∀ σ' F' H' O', SExt F H O F' H' O' → Sts K cls F' H' σ' g O' → D.ct σ' H'
  | .xc c g => ∀ σ' F' H' O', SExt F H O F' H' O' → Sts K cls F' H' σ' g O' → W (excV cls c) none σ' H'
  | .bad => False
def DS (K : PySem.W.Frag) (cls : Cls) (W : WX) (t : TS) (f : Env → Out) : Prop :=
  ∀ D σ F H g O, Same F H → Sts K cls F H σ g O → PostS K cls W D F H O (f g) → t D σ H
structure JS (X : Cx) (cls : Cls) (W : WX) (st : Stmt) (f : Env → Out) : Prop where
  ex : ∃ t, PS X st t ∧ DS X.K cls W t f
structure JSs (X : Cx) (cls : Cls) (W : WX) (st : List Stmt) (f : Env → Out) : Prop where
  ex : ∃ t, PSs X st t ∧ DS X.K cls W t f
theorem PostS.mono {D : Ends} {r : Out} (x : SExt F H O F1 H1 O1) (p : PostS K cls W D F H O r) : PostS K cls W D F1 H1 O1 r := by
  cases r with
  | nx g => exact fun σ' F' H' O' y => p σ' F' H' O' (x.trans y)
  | rt d => exact fun v F' H' O' y => p v F' H' O' (x.trans y)
  | bk g => exact fun σ' F' H' O' y => p σ' F' H' O' (x.trans y)
  | ct g => exact fun σ' F' H' O' y => p σ' F' H' O' (x.trans y)
  | xc c g => exact fun σ' F' H' O' y => p σ' F' H' O' (x.trans y)
  | bad => exact p
def Res.st {α : Type} (r : Res α) (g : Env) (f : α → Out) : Out := match r with
  | .ok a => f a
  | .xc c => .xc c g
  | .bad => .bad
@[simp] theorem Res.st_ok {α : Type} (a : α) (g : Env) (f : α → Out) : (Res.ok a).st g f = f a := rfl
@[simp] theorem Res.st_xc {α : Type} (c : Nat) (g : Env) (f : α → Out) : (Res.xc c : Res α).st g f = .xc c g := rfl
@[simp] theorem Res.st_bad {α : Type} (g : Env) (f : α → Out) : (Res.bad : Res α).st g f = .bad := rfl
theorem xc_st {D : Ends} {c : Nat} {g : Env} (st : Sts K cls F H σ g O) (p : PostS K cls W D F H O (.xc c g)) : ∀ F' H', Ext F H F' H' → W (excV cls c) none σ H' :=
  fun F' H' x => p σ F' H' O (x.sext fun a h => .inl h) (st.ext x)
def sSeq (f u : Env → Out) : Env → Out := fun g => match f g with
  | .nx g' => u g'
  | o => o
@[simp] theorem sSeq_ (f u : Env → Out) (g : Env) : sSeq f u g = match f g with
  | .nx g' => u g'
  | o => o := rfl
def sNil : Env → Out := fun g => .nx g
@[simp] theorem sNil_ (g : Env) : sNil g = .nx g := rfl
theorem ds_seq {t u : TS} {f1 f2 : Env → Out} (h1 : DS K cls W t f1) (h2 : DS K cls W u f2) : DS K cls W (tSeq t u) (sSeq f1 f2) := by
  intro D σ F H g O s st p
  rw [sSeq_] at p
  refine h1 _ σ F H g O s st ?_
  cases e : f1 g with
  | nx g' => rw [e] at p; exact fun σ' F' H' O' x st' => h2 D σ' F' H' g' O' x.fh st' (PostS.mono x p)
  | rt d => rw [e] at p; exact p
  | bk g' => rw [e] at p; exact p
  | ct g' => rw [e] at p; exact p
  | xc c g' => rw [e] at p; exact p
  | bad => rw [e] at p; exact p
theorem jss_nil : JSs X cls W [] sNil := ⟨_, pss_nil, fun D σ F H g O s st p => p σ F H O (.refl s) st⟩
theorem jss_cons {st : Stmt} {sts : List Stmt} {f1 f2 : Env → Out} (h1 : JS X cls W st f1) (h2 : JSs X cls W sts f2) : JSs X cls W (st :: sts) (sSeq f1 f2) := by
  obtain ⟨t, p, d⟩ := h1.ex
  obtain ⟨u, q, d'⟩ := h2.ex
  exact ⟨_, pss_cons p q, ds_seq d d'⟩
theorem jss_one {st : Stmt} {f1 : Env → Out} (h1 : JS X cls W st f1) : JSs X cls W [st] f1 := by
  obtain ⟨t, p, d⟩ := h1.ex
  exact ⟨_, pss_one p, d⟩
def sNever : Env → Out := fun _ => .bad
@[simp] theorem sNever_ (g : Env) : sNever g = .bad := rfl
theorem jss_never {st : List Stmt} : JSs X cls W st sNever := ⟨_, pss_never, fun _ _ _ _ _ _ _ _ p => p⟩
def sBreak : Env → Out := fun g => .bk g
@[simp] theorem sBreak_ (g : Env) : sBreak g = .bk g := rfl
def sCont : Env → Out := fun g => .ct g
@[simp] theorem sCont_ (g : Env) : sCont g = .ct g := rfl
def sIf (c : Env → Res Bool) (f1 f2 : Env → Out) : Env → Out := fun g => (c g).st g fun k => if k = true then f1 g else f2 g
@[simp] theorem sIf_ (c : Env → Res Bool) (f1 f2 : Env → Out) (g : Env) : sIf c f1 f2 g = (c g).st g fun k => if k = true then f1 g else f2 g := rfl
theorem js_if {c : Expr} {s1 s2 : List Stmt} {f1 f2 : Env → Out} (hc : JT X cls W c ga) (h1 : JSs X cls W s1 f1) (h2 : JSs X cls W s2 f2) : JS X cls W (.If c s1 s2 pos) (sIf ga f1 f2) := by
  obtain ⟨tc, pc, dc⟩ := hc.ex
  obtain ⟨t1, p1, d1⟩ := h1.ex
  obtain ⟨t2, p2, d2⟩ := h2.ex
  refine ⟨_, ps_if pc p1 p2, ?_⟩
  intro D σ F H g O s st p
  rw [sIf_] at p
  refine dc.go s st (fun c e => by rw [e] at p; exact xc_st st p) (fun e => by rw [e] at p; exact p) fun k e F1 H1 x => ?_
  rw [e, Res.st_ok] at p
  have x' : SExt F H O F1 H1 O := x.sext fun a h => .inl h
  cases k with
  | true =>
    rw [if_pos rfl] at p
    rw [if_pos rfl]
    exact d1 D σ F1 H1 g O x.fh (st.ext x) (p.mono x')
  | false =>
    rw [if_neg (by decide)] at p
    rw [if_neg (by decide)]
    exact d2 D σ F1 H1 g O x.fh (st.ext x) (p.mono x')
theorem DE.goS {t : TE} (ha : DE K cls W t fa) {σ : St} {F H : Hp} {g : Env} {O : List Addr} {Q : VK} {Dn : Ends} {f : D → Out} (s : Same F H) (st : Sts K cls F H σ g O)
    (p : PostS K cls W Dn F H O (((fa g).bind kp).st g f)) (hk : ∀ d, (fa g).bind kp = .ok d → PostS K cls W Dn F H O (f d) → ∀ v F' H' O', Ext F H F' H' → Fresh H O' → Ow K cls F' H' v d O' → Q v H') : t σ H Q := by
  refine ha.goO s st (fun c e => ?_) (fun e => by rw [e] at p; exact p) fun d e => ?_
  · have e' : (fa g).bind kp = .xc c := by rw [e]; rfl
    rw [e'] at p
    exact xc_st st p
  · rw [e] at p
    exact hk d e p
def sAsg (i : Nat) (fa : Env → Res D) : Env → Out := fun g => ((fa g).bind kp).st g fun d => .nx (g.set i d)
@[simp] theorem sAsg_ (i : Nat) (fa : Env → Res D) (g : Env) : sAsg i fa g = ((fa g).bind kp).st g fun d => .nx (g.set i d) := rfl
def sAsgF (i : Nat) (fa : Env → Res D) : Env → Out := fun g => ((fa g).bind kp).st g fun d => if nod d = true then .nx (g.set i (frz d)) else .bad
@[simp] theorem sAsgF_ (i : Nat) (fa : Env → Res D) (g : Env) : sAsgF i fa g = ((fa g).bind kp).st g fun d => if nod d = true then .nx (g.set i (frz d)) else .bad := rfl
theorem Sts.put {i : Nat} {v : V} {d : D} {g : Env} {Od : List Addr} (st : Sts K cls F H σ g O) (x : Ext F H F' H') (fr : Fresh H Od) (w : Ow K cls F' H' v d Od) :
    ∃ O'', Sts K cls F' H' (σ.set i (some v)) (g.set i d) O'' ∧ SExt F H O F' H' O'' := by
  have ne : ∀ a ∈ O, H a ≠ none := fun a ha => (st.dom a ha).2
  by_cases hi : i < g.length
  · obtain ⟨O1, h1, h2, h3, h4⟩ := st.at i hi
    obtain ⟨O'', q1, q2⟩ := h3 F' H' v d Od (fun b hb _ => x.get (st.dom b hb).1 (ne b hb)) x.ff w (fun a h1 h2 => absurd (fr a h1) (ne a h2))
    exact ⟨O'', q1, x.sext fun a ha => (q2 a ha).imp id (fr a)⟩
  · have hl := st.len
    rw [List.set_eq_of_length_le (by omega), List.set_eq_of_length_le (by omega)]
    exact ⟨O, st.ext x, x.sext fun a h => .inl h⟩
theorem Sts.putS {i : Nat} {v : V} {d : D} {g : Env} (s : Same F H) (st : Sts K cls F H σ g O) (w : Rp K cls F v d) :
    ∃ O'', Sts K cls F H (σ.set i (some v)) (g.set i d) O'' ∧ SExt F H O F H O'' := st.put (.refl s) Fresh.nil (.sh w)
theorem ds_asg {t : TE} {i : Nat} (ha : DE K cls W t fa) : DS K cls W (tAsg t (gName i)) (sAsg i fa) := by
  intro D σ F H g O s st p
  refine ha.goS s st p fun d e p v F1 H1 O1 x fr w => ?_
  obtain ⟨O'', q1, q2⟩ := st.put (i := i) x fr w
  exact p _ F1 H1 O'' q2 q1
theorem ds_asgF {t : TE} {i : Nat} (ha : DE K cls W t fa) : DS K cls W (tAsg t (gName i)) (sAsgF i fa) := by
  intro D σ F H g O s st p
  refine ha.goS s st p fun d e p v F1 H1 O1 x fr w => ?_
  split at p
  · rename_i n
    have no : ∀ a ∈ O1, F1 a = none := fun a ha => (w.dom a ha).1
    have x2 := addF_ext x fr no
    obtain ⟨O'', q1, q2⟩ := st.put (i := i) x2 Fresh.nil (.sh (w.freeze (addF_same no) addF_at n))
    exact p _ _ H1 O'' q2 q1
  · exact p.elim
theorem js_set {i : Nat} {x : Str} {pos' : Pos} {k : Nat} (c : Cn X W k) (hi : X.N[i]? = some x) (hx : Loc X.env.scope x) (ha : JE X cls W a fa) (hs : swapsWith a (some (.Name x pos')) pos.line X.env = pure false := by rfl)
    (hf : X.fn x = true ∨ X.env.scope.names.lookup x = some .local := by first | exact .inl rfl | exact .inr rfl) : JS X cls W (.Assign [.Name x pos'] a pos) (sAsg i fa) := by
  obtain ⟨t, p, d⟩ := ha.ex
  exact ⟨_, ps_set c.nd hi hx p hs hf, ds_asg d⟩
theorem js_setF {i : Nat} {x : Str} {pos' : Pos} {k : Nat} (c : Cn X W k) (hi : X.N[i]? = some x) (hx : Loc X.env.scope x) (ha : JE X cls W a fa) (hs : swapsWith a (some (.Name x pos')) pos.line X.env = pure false := by rfl)
    (hf : X.fn x = true ∨ X.env.scope.names.lookup x = some .local := by first | exact .inl rfl | exact .inr rfl) : JS X cls W (.Assign [.Name x pos'] a pos) (sAsgF i fa) := by
  obtain ⟨t, p, d⟩ := ha.ex
  exact ⟨_, ps_set c.nd hi hx p hs hf, ds_asgF d⟩
def sRet (fa : Env → Res D) : Env → Out := fun g => ((fa g).bind kp).st g .rt
@[simp] theorem sRet_ (fa : Env → Res D) (g : Env) : sRet fa g = ((fa g).bind kp).st g .rt := rfl
theorem js_ret (ha : JE X cls W a fa) : JS X cls W (.Return (some a) pos) (sRet fa) := by
  obtain ⟨t, p, d⟩ := ha.ex
  refine ⟨_, ps_ret p, ?_⟩
  intro D σ F H g O s st p
  exact d.goS s st p fun d e p v F1 H1 O1 x fr w => p v F1 H1 O1 (x.sext fun a h => .inr (fr a h)) w
def sRetV (i : Nat) : Env → Out := fun g => match g[i]? with
  | some .un => .bad
  | some d => .rt d
  | none => .bad
@[simp] theorem sRetV_ (i : Nat) (g : Env) : sRetV i g = match g[i]? with
  | some .un => .bad
  | some d => .rt d
  | none => .bad := rfl
theorem js_retV (i : Nat) {x : Str} {pos' : Pos} (hN : X.N[i]? = some x := by rfl) (hv : Vis X.env.scope x := by first | exact Or.inl rfl | exact Or.inr (Or.inl rfl) | exact Or.inr (Or.inr rfl)) (hd : (x == ("__debug__" : Str)) = false := by decide)
    (hcd : (x == ("__classdict__" : Str)) = false := by decide) : JS X cls W (.Return (some (.Name x pos')) pos) (sRetV i) := by
  refine ⟨_, ps_ret (pe_var hN hv hd hcd), ?_⟩
  intro D σ F H g O s st p
  rw [sRetV_] at p
  cases e : g[i]? with
  | none => rw [e] at p; exact p.elim
  | some d =>
    have hi : i < g.length := (List.getElem?_eq_some_iff.mp e).1
    obtain ⟨O1, h1, h2, _⟩ := st.at i hi
    rcases h2 with ⟨h2, _⟩ | ⟨v, d', h2, h3, ow⟩
    · rw [e] at h2; cases h2; rw [e] at p; exact p.elim
    · rw [e] at h3; cases h3
      rw [e] at p
      have q : PostS X.K cls W D F H O (.rt d) := by cases d <;> first | exact p | exact p.elim
      exact ⟨v, h2, q v F H O1 ⟨.refl F, s, fun _ _ h _ => h, fun _ h _ _ => h, fun a ha => .inl (h1 a ha)⟩ ow⟩
def sRetN : Env → Out := fun _ => .rt .non
@[simp] theorem sRetN_ (g : Env) : sRetN g = .rt .non := rfl
def sExp (fa : Env → Res D) : Env → Out := fun g => (fa g).st g fun _ => .nx g
@[simp] theorem sExp_ (fa : Env → Res D) (g : Env) : sExp fa g = (fa g).st g fun _ => .nx g := rfl
theorem js_exp (ha : JE X cls W a fa) (hs : swapsWith a none pos.line X.env = pure false := by rfl) : JS X cls W (.Expr a pos) (sExp fa) := by
  obtain ⟨t, p, d⟩ := ha.ex
  refine ⟨_, ps_expr p hs, ?_⟩
  intro D σ F H g O s st p
  rw [sExp_] at p
  exact d.go s st (fun c e => by rw [e] at p; exact xc_st st p) (fun e => by rw [e] at p; exact p) fun d e v F1 H1 x b => by
    rw [e] at p
    exact p σ F1 H1 O (x.sext fun a h => .inl h) (st.ext x)
def frzAt (g : Env) (i : Nat) : Env := match g[i]? with
  | some d => if nod d = true then g.set i (frz d) else g
  | none => g
def sFrz (i : Nat) (f : Env → Out) : Env → Out := fun g => f (frzAt g i)
@[simp] theorem sFrz_ (i : Nat) (f : Env → Out) (g : Env) : sFrz i f g = f (frzAt g i) := rfl
theorem Sts.frzAt (s : Same F H) {g : Env} (i : Nat) (st : Sts K cls F H σ g O) : ∃ F' O', SExt F H O F' H O' ∧ Sts K cls F' H σ (frzAt g i) O' := by
  unfold DL.frzAt
  cases e : g[i]? with
  | none => exact ⟨F, O, .refl s, st⟩
  | some d =>
    simp only []
    by_cases n : nod d = true
    · rw [if_pos n]
      have hi : i < g.length := (List.getElem?_eq_some_iff.mp e).1
      obtain ⟨O1, h1, h2, h3, h4⟩ := st.at i hi
      rcases h2 with ⟨h2, _⟩ | ⟨v, d', h2, h3', ow⟩
      · rw [e] at h2; cases h2
        rw [show frz .un = .un from rfl, set_self e]
        exact ⟨F, O, .refl s, st⟩
      · rw [e] at h3'; cases h3'
        have no : ∀ a ∈ O1, F a = none := fun a ha => (ow.dom a ha).1
        obtain ⟨O'', q1, q2⟩ := h3 (addF F H O1) H v (frz d) [] (fun b hb hn => ⟨rfl, by rw [addF_no hn]; exact (st.dom b hb).1⟩) (addF_same no) (.sh (ow.freeze (addF_same no) addF_at n)) (fun _ h => nomatch h)
        rw [set_self h2] at q1
        refine ⟨_, O'', ⟨addF_same no, fun a o e => ?_, fun _ _ h _ => h, fun a ha hb hc => ?_, fun a ha => .inl ((q2 a ha).resolve_right (fun h => nomatch h))⟩, q1⟩
        · unfold addF at e
          split at e
          · exact e
          · exact s a o e
        · rw [addF_no fun q => hc (h1 a q)]; exact ha
    · rw [if_neg n]; exact ⟨F, O, .refl s, st⟩
theorem ds_frz {t : TS} {f : Env → Out} {i : Nat} (h : DS K cls W t f) : DS K cls W t (sFrz i f) := by
  intro D σ F H g O s st p
  obtain ⟨F', O', x, st'⟩ := st.frzAt s i
  exact h D σ F' H (frzAt g i) O' x.fh st' (p.mono x)
theorem js_frz {st : Stmt} {f : Env → Out} (i : Nat) (h : JS X cls W st f) : JS X cls W st (sFrz i f) := by
  obtain ⟨t, p, d⟩ := h.ex
  exact ⟨t, p, ds_frz d⟩
end
end DL

namespace DL
open PySem L2
theorem wipe_set {σ : St} {i : Nat} {o : Option V} : ∀ {vs : List Nat}, wipe (σ.set i o) vs = if i ∈ vs then wipe σ vs else (wipe σ vs).set i o
  | [] => by simp [wipe]
  | v :: vs => by
    unfold wipe
    rw [wipe_set (vs := vs)]
    by_cases h : i = v
    · subst h
      simp only [List.mem_cons, true_or, if_true]
      split
      · rfl
      · rw [List.set_set]
    · by_cases h2 : i ∈ vs
      · simp [h2]
      · have : ¬ i ∈ v :: vs := by simp [h, h2]
        rw [if_neg this, if_neg h2, List.set_comm _ _ h]
theorem wipe_in {σ : St} {i : Nat} {o : Option V} {vs : List Nat} (h : i ∈ vs) : wipe (σ.set i o) vs = wipe σ vs := by rw [wipe_set, if_pos h]
theorem wipe_wipe {σ : St} : ∀ {us vs : List Nat}, (∀ i ∈ us, i ∈ vs) → wipe (wipe σ us) vs = wipe σ vs
  | [], _, _ => rfl
  | u :: us, vs, h => by
    show wipe ((wipe σ us).set u none) vs = _
    rw [wipe_in (h u (by simp))]
    exact wipe_wipe fun i hi => h i (by simp [hi])
def wipeG (g : Env) : List Nat → Env
  | [] => g
  | v :: vs => (wipeG g vs).set v .un
@[simp] theorem wipeG_nil (g : Env) : wipeG g [] = g := rfl
@[simp] theorem wipeG_cons (g : Env) (v : Nat) (vs : List Nat) : wipeG g (v :: vs) = (wipeG g vs).set v .un := rfl
section
variable {K : PySem.W.Frag} {cls : Cls} {W : WX} {X : Cx} {F H F' H' F1 H1 : Hp} {O O1 : List Addr} {Q : VK} {σ : St} {a b e tg iter : Expr} {es : List Expr} {fa fb fc : Env → Res D} {ga gb : Env → Res Bool} {fs : Env → Res (List D)} {pos : Pos}
theorem Sts.wipe (s : Same F H) {g : Env} (st : Sts K cls F H σ g O) : ∀ vs : List Nat, ∃ O', Sts K cls F H (wipe σ vs) (wipeG g vs) O' ∧ ∀ a ∈ O', a ∈ O
  | [] => ⟨O, st, fun _ h => h⟩
  | v :: vs => by
    obtain ⟨O', st', h'⟩ := st.wipe s vs
    by_cases hi : v < (wipeG g vs).length
    · obtain ⟨O1, h1, h2, h3, h4⟩ := st'.at v hi
      obtain ⟨O'', q1, q2, _⟩ := h4 F H none (fun b hb _ => ⟨rfl, (st'.dom b hb).1⟩) (.refl F)
      exact ⟨O'', q1, fun a ha => h' a (q2 a ha)⟩
    · have hl := st'.len
      refine ⟨O', ?_, h'⟩
      show Sts K cls F H ((L2.wipe σ vs).set v none) ((wipeG g vs).set v .un) O'
      rw [List.set_eq_of_length_le (by omega), List.set_eq_of_length_le (by omega)]
      exact st'

def DG (K : PySem.W.Frag) (cls : Cls) (t : TG) (f : D → Env → Option Env) (ss : List Nat) : Prop :=
  ∀ v d σ F H g O g' Q, Same F H → Sts K cls F H σ g O → Rp K cls F v d → f d g = some g' →
    (∀ σ' O', SExt F H O F H O' → Sts K cls F H σ' g' O' → (∀ vs : List Nat, (∀ i ∈ ss, i ∈ vs) → wipe σ' vs = wipe σ vs) → Q σ' H) → t v σ H Q
def DGs (K : PySem.W.Frag) (cls : Cls) (t : TGs) (f : List D → Env → Option Env) (ss : List Nat) : Prop :=
  ∀ v d σ F H g O g' Q, Same F H → Sts K cls F H σ g O → Rps K cls F v d → f d g = some g' →
    (∀ σ' O', SExt F H O F H O' → Sts K cls F H σ' g' O' → (∀ vs : List Nat, (∀ i ∈ ss, i ∈ vs) → wipe σ' vs = wipe σ vs) → Q σ' H) → t v σ H Q
structure JG (X : Cx) (cls : Cls) (e : Expr) (f : D → Env → Option Env) (ss : List Nat) : Prop where
  ex : ∃ t, PG X e t ∧ DG X.K cls t f ss
structure JGs (X : Cx) (cls : Cls) (e : List Expr) (f : List D → Env → Option Env) (ss : List Nat) : Prop where
  ex : ∃ t, PGs X e t ∧ DGs X.K cls t f ss
def gtN (i : Nat) : D → Env → Option Env := fun d g => some (g.set i d)
@[simp] theorem gtN_ (i : Nat) (d : D) (g : Env) : gtN i d g = some (g.set i d) := rfl
def gtNil : List D → Env → Option Env := fun ds g => match ds with | [] => some g | _ => none
@[simp] theorem gtNil_nil (g : Env) : gtNil [] g = some g := rfl
def gtCons (f : D → Env → Option Env) (fs : List D → Env → Option Env) : List D → Env → Option Env := fun ds g => match ds with
  | d :: r => match f d g with
    | some g1 => fs r g1
    | none => none
  | [] => none
@[simp] theorem gtCons_cons (f : D → Env → Option Env) (fs : List D → Env → Option Env) (d : D) (r : List D) (g : Env) : gtCons f fs (d :: r) g = match f d g with
    | some g1 => fs r g1
    | none => none := rfl
def gtT (n : Nat) (fs : List D → Env → Option Env) : D → Env → Option Env := fun d g => match d with
  | .tp ds => if ds.length = n then fs ds g else none
  | .ls ds => if ds.length = n then fs ds g else none
  | _ => none
@[simp] theorem gtT_tp (n : Nat) (fs : List D → Env → Option Env) (ds : List D) (g : Env) : gtT n fs (.tp ds) g = if ds.length = n then fs ds g else none := rfl
@[simp] theorem gtT_ls (n : Nat) (fs : List D → Env → Option Env) (ds : List D) (g : Env) : gtT n fs (.ls ds) g = if ds.length = n then fs ds g else none := rfl
theorem jg_name {i : Nat} {x : Str} (hN : X.N.Nodup) (hi : X.N[i]? = some x) (hx : Loc X.env.scope x) (hf : X.fn x = true ∨ X.env.scope.names.lookup x = some .local := by first | exact .inl rfl | exact .inr rfl) : JG X cls (.Name x pos) (gtN i) [i] := by
  refine ⟨_, pg_name hN hi hx hf, ?_⟩
  intro v d σ F H g O g' Q s st r e k
  cases e
  obtain ⟨O', q1, q2⟩ := st.putS (i := i) s r
  exact k _ O' q2 q1 fun vs h => wipe_in (h i (by simp))
theorem jgs_nil : JGs X cls [] gtNil [] := by
  refine ⟨_, pgs_nil, ?_⟩
  intro v d σ F H g O g' Q s st r e k
  cases r with
  | nil => cases e; exact ⟨rfl, k σ O (.refl s) st fun _ _ => rfl⟩
  | cons => cases e
theorem jgs_cons {f : D → Env → Option Env} {fs : List D → Env → Option Env} {ss us : List Nat} (h1 : JG X cls e f ss) (h2 : JGs X cls es fs us) (hs : (assignEach (e :: es) X.env).map (·.2) = assign e X.env :: (assignEach es X.env).map (·.2) := by rfl) :
    JGs X cls (e :: es) (gtCons f fs) (ss ++ us) := by
  obtain ⟨t, p, d⟩ := h1.ex
  obtain ⟨u, q, d'⟩ := h2.ex
  refine ⟨_, pgs_cons p q hs, ?_⟩
  intro v ds σ F H g O g' Q s st r e k
  cases r with
  | nil => cases e
  | cons r1 r2 =>
    rename_i v1 d1 vs1 ds1
    rw [gtCons_cons] at e
    cases e1 : f d1 g with
    | none => rw [e1] at e; cases e
    | some g1 =>
      rw [e1] at e
      refine ⟨v1, vs1, rfl, d v1 d1 σ F H g O g1 _ s st r1 e1 fun σ1 O1 x1 st1 w1 => ?_⟩
      refine d' vs1 ds1 σ1 F H g1 O1 g' _ s st1 r2 e fun σ2 O2 x2 st2 w2 => ?_
      exact k σ2 O2 (x1.trans x2) st2 fun vs h => (w2 vs fun i hi => h i (List.mem_append_right _ hi)).trans (w1 vs fun i hi => h i (List.mem_append_left _ hi))
theorem pg_or {t u : TG} (h : PG X tg t) (h' : PG X tg u) : PG X tg (fun v σ H Q => t v σ H Q ∨ u v σ H Q) :=
  ⟨fun pins s σ H v uu Q I r q => q.elim (h.run pins s σ H v uu Q I r) (h'.run pins s σ H v uu Q I r)⟩
theorem jg_tup {kk n : Nat} {fs : List D → Env → Option Env} {ss : List Nat} (hc : X.calm = true) (h : JGs X cls es fs ss)
    (hn : (assignEach es X.env).length = n := by rfl) (hst : (assignEach es X.env).findIdx? (·.1) = none := by rfl) : JG X cls (.Tuple es kk pos) (gtT n fs) ss := by
  obtain ⟨t, p, d⟩ := h.ex
  refine ⟨_, pg_or (pg_tup hc p hn hst) (pg_lst hc p hn hst), ?_⟩
  intro v dd σ F H g O g' Q s st r e k
  cases r with
  | tp hT hr =>
    rw [gtT_tp] at e
    split at e
    · rename_i hl
      exact .inl ⟨_, _, rfl, sameT s hT, by rw [hr.len]; exact hl, d _ _ σ F H g O g' Q s st hr e k⟩
    · cases e
  | ls hT hr =>
    rw [gtT_ls] at e
    split at e
    · rename_i hl
      exact .inr ⟨_, _, rfl, SqL.of (s _ _ hT), by rw [hr.len]; exact hl, d _ _ σ F H g O g' Q s st hr e k⟩
    · cases e
  | _ => cases e
def sAsgT (tg : D → Env → Option Env) (fa : Env → Res D) : Env → Out := fun g => ((fa g).bind kp).st g fun d => if nod d = true then match tg (frz d) g with
  | some g' => .nx g'
  | none => .bad else .bad
@[simp] theorem sAsgT_ (tg : D → Env → Option Env) (fa : Env → Res D) (g : Env) : sAsgT tg fa g = ((fa g).bind kp).st g fun d => if nod d = true then match tg (frz d) g with
  | some g' => .nx g'
  | none => .bad else .bad := rfl
theorem js_asgT {ft : D → Env → Option Env} {ss : List Nat} (ha : JE X cls W a fa) (hg : JG X cls tg ft ss) (hs : swapsWithSole [tg] a pos.line X.env = pure false := by rfl) (hw : swappedStores [tg] a X.env = pure none := by rfl)
    (h1 : (assignEach [tg] X.env).map (·.2) = [assign tg X.env] := by rfl) : JS X cls W (.Assign [tg] a pos) (sAsgT ft fa) := by
  obtain ⟨t, p, d⟩ := ha.ex
  obtain ⟨u, q, d'⟩ := hg.ex
  refine ⟨_, ps_asg p q hs hw h1, ?_⟩
  intro D σ F H g O s st p
  rw [sAsgT_] at p
  refine d.goS s st p fun dd e p v F1 H1 O1 x fr w => ?_
  split at p
  · rename_i n
    have no : ∀ a ∈ O1, F1 a = none := fun a ha => (w.dom a ha).1
    have x2 := addF_ext x fr no
    have r := w.freeze (addF_same no) addF_at n
    cases eo : ft (frz dd) g with
    | none => rw [eo] at p; exact p.elim
    | some g' =>
      rw [eo] at p
      refine d' v (frz dd) σ _ H1 g O g' _ x2.fh (st.ext x2) r eo fun σ' O' y st' _ => ?_
      exact p σ' _ H1 O' ((x2.sext fun a h => .inl h).trans y) st'
  · exact p.elim
def sPar (i j : Nat) (fs : Env → Res (List D)) : Env → Out := fun g => (fs g).st g fun ds => if nods ds = true then match frzs ds with
  | [d, d'] => .nx ((g.set i d).set j d')
  | _ => .bad else .bad
@[simp] theorem sPar_ (i j : Nat) (fs : Env → Res (List D)) (g : Env) : sPar i j fs g = (fs g).st g fun ds => if nods ds = true then match frzs ds with
  | [d, d'] => .nx ((g.set i d).set j d')
  | _ => .bad else .bad := rfl
end
end DL

namespace DL
open PySem L2
section
variable {K : PySem.W.Frag} {cls : Cls} {W : WX} {X : Cx} {F H F' H' F1 H1 : Hp} {O O1 : List Addr} {Q : VK} {σ : St} {a b e tg iter : Expr} {es : List Expr} {fa fb fc : Env → Res D} {ga gb : Env → Res Bool} {fs : Env → Res (List D)} {pos : Pos}
structure Feeds (K : PySem.W.Frag) (cls : Cls) (F : Hp) (J : It) (ds : List D) : Prop where
  go : ∀ i d, ds[i]? = some d → ∀ F' H', Same F F' → Same F' H' → J.go i H' ∧ ∀ x H'', J.yld i H' x H'' → ∃ F'', Ext F' H' F'' H'' ∧ Rp K cls F'' x d
  stop : ∀ F' H', Same F F' → Same F' H' → J.stop ds.length H'
def PostI (K : PySem.W.Frag) (cls : Cls) (W : WX) (σ : St) (F H : Hp) (R : It → Hp → Prop) : Res (List D) → Prop
  | .ok ds => ∀ J F' H', Ext F H F' H' → Feeds K cls F' J ds → R J H'
  | .xc c => ∀ F' H', Ext F H F' H' → W (excV cls c) none σ H'
  | .bad => False
def DI (K : PySem.W.Frag) (cls : Cls) (W : WX) (wi : TI) (f : Env → Res (List D)) : Prop :=
  ∀ σ F H g O (R : It → Hp → Prop), Same F H → Sts K cls F H σ g O → PostI K cls W σ F H R (f g) → wi σ H R
structure JI (X : Cx) (cls : Cls) (W : WX) (tg e : Expr) (f : Env → Res (List D)) : Prop where
  ex : ∃ wi, PI X tg e wi ∧ DI X.K cls W wi f
theorem pi_or {w1 w2 : TI} (h1 : PI X tg iter w1) (h2 : PI X tg iter w2) : PI X tg iter (fun σ H R => w1 σ H R ∨ w2 σ H R) :=
  ⟨fun pins s σ H R I q => q.elim (h1.run pins s σ H R I) (h2.run pins s σ H R I)⟩
theorem feeds_list {a : Addr} {vs : List V} {ds : List D} (h : SqL K F a vs) (r : Rps K cls F vs ds) : Feeds K cls F (Itl K a) ds where
  go := fun i d e F' H' s1 s2 => by
    obtain ⟨v, h1, h2⟩ := r.get e
    have h' : SqL K H' a vs := (s1.trans s2).seq h
    refine ⟨⟨vs, v, h', h1⟩, fun x H'' y => ?_⟩
    obtain ⟨e1, y⟩ := y
    subst e1
    have := y vs h'
    rw [h1] at this
    cases this
    exact ⟨F', .refl s2, h2.mono s1⟩
  stop := fun F' H' s1 s2 => ⟨vs, (s1.trans s2).seq h, by rw [r.len]; exact Nat.le_refl _⟩
theorem feeds_tup {a : Addr} {vs : List V} {ds : List D} (h : SqT K F a vs) (r : Rps K cls F vs ds) : Feeds K cls F (Itt K a) ds where
  go := fun i d e F' H' s1 s2 => by
    obtain ⟨v, h1, h2⟩ := r.get e
    have h' : SqT K H' a vs := sameT (s1.trans s2) h
    refine ⟨⟨vs, v, h', h1⟩, fun x H'' y => ?_⟩
    obtain ⟨e1, y⟩ := y
    subst e1
    have := y vs h'
    rw [h1] at this
    cases this
    exact ⟨F', .refl s2, h2.mono s1⟩
  stop := fun F' H' s1 s2 => ⟨vs, sameT (s1.trans s2) h, by rw [r.len]; exact Nat.le_refl _⟩
@[simp] def lsS : D → Option (List D)
  | .ls xs => some xs
  | .sc xs => some xs
  | _ => none
theorem Bo.lsS {v : V} {d : D} {xs : List D} (b : Bo K cls F H v d) (e : lsS d = some xs) : ∃ a vs, v = .ref a ∧ SqL K F a vs ∧ Rps K cls F vs xs := by
  cases b with
  | sh r =>
    cases r <;> simp at e
    · subst e; exact ⟨_, _, rfl, by assumption, by assumption⟩
    · subst e; exact ⟨_, _, rfl, SqL.of (by assumption), by assumption⟩
  | bo => simp at e
  | bd => simp at e
  | bb => simp at e
@[simp] def sqS : D → Option (List D)
  | .ls xs => some xs
  | .sc xs => some xs
  | .tp xs => some xs
  | _ => none
def iSeq (fa : Env → Res D) : Env → Res (List D) := fun g => (fa g).bind fun a => .of (sqS (opd a))
@[simp] theorem iSeq_ (fa : Env → Res D) (g : Env) : iSeq fa g = (fa g).bind fun a => .of (sqS (opd a)) := rfl
theorem ji_seq (ha : JE X cls W iter fa) : JI X cls W tg iter (iSeq fa) := by
  obtain ⟨t, p, d⟩ := ha.ex
  refine ⟨_, pi_or (pi_list p) (pi_tup p), ?_⟩
  intro σ F H g O R s st p
  rw [iSeq_] at p
  cases ea : fa g with
  | xc c =>
    rw [ea] at p
    exact .inl (d.go s st (fun c e => by rw [ea] at e; cases e; exact p) (fun e => by rw [ea] at e; cases e) fun d e => by rw [ea] at e; cases e)
  | bad => rw [ea] at p; exact p.elim
  | ok dd =>
    rw [ea] at p
    simp only [Res.bind] at p
    have side : (∃ xs, lsS (opd dd) = some xs ∧ sqS (opd dd) = some xs) ∨ (∃ xs, tpv (opd dd) = some xs ∧ sqS (opd dd) = some xs) ∨ sqS (opd dd) = none := by
      cases opd dd <;> simp
    rcases side with ⟨xs, e1, e2⟩ | ⟨xs, e1, e2⟩ | e2
    · rw [e2] at p
      refine .inl (d.go s st (fun c e => by rw [ea] at e; cases e) (fun e => by rw [ea] at e; cases e) fun d e v F1 H1 x b => ?_)
      rw [ea] at e; cases e
      obtain ⟨a, vs, rfl, h, r⟩ := b.lsS e1
      exact ⟨a, rfl, ⟨vs, x.fh.seq h⟩, p _ F1 H1 x (feeds_list h r)⟩
    · rw [e2] at p
      refine .inr (d.go s st (fun c e => by rw [ea] at e; cases e) (fun e => by rw [ea] at e; cases e) fun d e v F1 H1 x b => ?_)
      rw [ea] at e; cases e
      obtain ⟨a, vs, rfl, h, h', r⟩ := b.tpv x.fh e1
      exact ⟨a, rfl, ⟨vs, h⟩, p _ F1 H1 x (feeds_tup h' r)⟩
    · rw [e2] at p; exact p.elim
def rng (lo : Int) (n : Nat) : List D := (List.range n).map fun i : Nat => D.int (lo + (i : Int))
theorem rng_len (lo : Int) (n : Nat) : (rng lo n).length = n := by unfold rng; simp
theorem rng_get {lo : Int} {n i : Nat} {d : D} (h : (rng lo n)[i]? = some d) : i < n ∧ d = .int (lo + (i : Int)) := by
  unfold rng at h
  rw [List.getElem?_map] at h
  by_cases hi : i < n
  · rw [List.getElem?_range hi] at h
    cases h
    exact ⟨hi, rfl⟩
  · rw [List.getElem?_eq_none (by simpa using hi)] at h; cases h
theorem feeds_rng (lo : Int) (n : Nat) : Feeds K cls F (Itr lo n) (rng lo n) where
  go := fun i d e F' H' s1 s2 => by
    obtain ⟨h1, rfl⟩ := rng_get e
    refine ⟨h1, fun x H'' y => ?_⟩
    obtain ⟨e1, e2⟩ := y
    subst e1 e2
    exact ⟨F', .refl s2, .int _⟩
  stop := fun F' H' s1 s2 => by rw [rng_len]; exact Nat.le_refl _
def rgOk (i : Int) : Prop := i.natAbs ≤ 1000000000
theorem rgOk.lo {i : Int} (h : rgOk i) : -(2 ^ 62) ≤ i := by unfold rgOk at h; omega
theorem rgOk.hi {i : Int} (h : rgOk i) : i < 2 ^ 62 := by unfold rgOk at h; omega
instance (i : Int) : Decidable (rgOk i) := by unfold rgOk; infer_instance
theorem rgOk_of {i : Int} (h : -1000000000 ≤ i) (h' : i ≤ 1000000000) : rgOk i := by unfold rgOk; omega
def iRg1 (fs : Env → Res (List D)) : Env → Res (List D) := fun g => (fs g).bind fun ds => match ds with
  | [.int j] => if rgOk j then .ok (rng 0 j.toNat) else .bad
  | _ => .bad
def iRg2 (fs : Env → Res (List D)) : Env → Res (List D) := fun g => (fs g).bind fun ds => match ds with
  | [.int i, .int j] => if rgOk i ∧ rgOk j then .ok (rng i (j - i).toNat) else .bad
  | _ => .bad
@[simp] theorem iRg1_ (fs : Env → Res (List D)) (g : Env) : iRg1 fs g = (fs g).bind fun ds => match ds with
  | [.int j] => if rgOk j then .ok (rng 0 j.toNat) else .bad
  | _ => .bad := rfl
@[simp] theorem iRg2_ (fs : Env → Res (List D)) (g : Env) : iRg2 fs g = (fs g).bind fun ds => match ds with
  | [.int i, .int j] => if rgOk i ∧ rgOk j then .ok (rng i (j - i).toNat) else .bad
  | _ => .bad := rfl
theorem ji_rg1 {p : Pos} (hm : X.mg "range" = none) (ha : JA X cls W [a] fs) (hg : Gl X "range" := by rfl) (hs : starEach [a] X.env = [(false, eval a X.env)] := by rfl) : JI X cls W tg (.Call (.Name "range" p) [a] [] pos) (iRg1 fs) := by
  obtain ⟨t, p, d⟩ := ha.ex
  refine ⟨_, pi_range1 hg hm p hs, ?_⟩
  intro σ F H g O R s st p
  rw [iRg1_] at p
  refine d.go s st (fun c e => by rw [e] at p; exact p) (fun e => by rw [e] at p; exact p) fun ds e vs F1 H1 x b => ?_
  rw [e] at p
  simp only [Res.bind] at p
  split at p
  · rename_i j
    split at p
    · rename_i hj
      obtain ⟨v, rfl, b1⟩ := b.one
      obtain rfl := b1.int
      exact ⟨j, rfl, hj.lo, hj.hi, p _ F1 H1 x (feeds_rng 0 j.toNat)⟩
    · exact p.elim
  · exact p.elim
def enm (i : Nat) : List D → List D
  | [] => []
  | d :: ds => .tp [.int (i : Int), d] :: enm (i + 1) ds
theorem enm_len : ∀ (ds : List D) (i : Nat), (enm i ds).length = ds.length
  | [], _ => rfl
  | d :: ds, i => by simp [enm, enm_len ds]
theorem enm_get : ∀ {ds : List D} {j i : Nat} {d : D}, (enm j ds)[i]? = some d → ∃ e, ds[i]? = some e ∧ d = .tp [.int ((j + i : Nat) : Int), e]
  | [], _, _, _, h => by simp [enm] at h
  | d :: ds, j, 0, _, h => by simp [enm] at h; exact ⟨d, rfl, by simp [← h]⟩
  | d :: ds, j, i + 1, d2, h => by
    have h' : (enm (j + 1) ds)[i]? = some d2 := by simpa [enm] using h
    obtain ⟨e, h1, h2⟩ := enm_get h'
    exact ⟨e, by simpa using h1, by rw [h2, show j + 1 + i = j + (i + 1) by omega]⟩
theorem feeds_enum {a : Addr} {vs : List V} {ds : List D} (h : SqL K F a vs) (r : Rps K cls F vs ds) : Feeds K cls F (Ite K a) (enm 0 ds) where
  go := fun i d e F' H' s1 s2 => by
    obtain ⟨d', e1, rfl⟩ := enm_get e
    obtain ⟨v, h1, h2⟩ := r.get e1
    have h' : SqL K H' a vs := (s1.trans s2).seq h
    refine ⟨⟨vs, v, h', h1⟩, fun x H'' y => ?_⟩
    obtain ⟨T, w, e1, e2, e3, y⟩ := y
    subst e1 e3
    have := y vs h'
    rw [h1] at this
    cases this
    have px := Ext.put (o := .tup [.int ((0 + i : Nat) : Int), v]) s2 e2
    rw [Nat.zero_add] at px ⊢
    exact ⟨_, px, .tp (SqT.of upd_same) (.cons (.int _) (.cons (h2.mono (s1.trans px.ff)) .nil))⟩
  stop := fun F' H' s1 s2 => ⟨vs, (s1.trans s2).seq h, by rw [enm_len, r.len]; exact Nat.le_refl _⟩
def iEnm (fs : Env → Res (List D)) : Env → Res (List D) := fun g => (fs g).bind fun ds => match ds with
  | [d] => (Res.of (lsS d)).bind fun xs => .ok (enm 0 xs)
  | _ => .bad
@[simp] theorem iEnm_ (fs : Env → Res (List D)) (g : Env) : iEnm fs g = (fs g).bind fun ds => match ds with
  | [d] => (Res.of (lsS d)).bind fun xs => .ok (enm 0 xs)
  | _ => .bad := rfl
theorem ji_enm {p tpos : Pos} {elts : List Expr} {kk : Nat} (hm : X.mg "enumerate" = none) (ha : JA X cls W [a] fs) (hg : Gl X "enumerate" := by rfl) (hs : starEach [a] X.env = [(false, eval a X.env)] := by rfl) :
    JI X cls W (.Tuple elts kk tpos) (.Call (.Name "enumerate" p) [a] [] pos) (iEnm fs) := by
  obtain ⟨t, p, d⟩ := ha.ex
  refine ⟨_, pi_enum hg hm p hs, ?_⟩
  intro σ F H g O R s st p
  rw [iEnm_] at p
  refine d.go s st (fun c e => by rw [e] at p; exact p) (fun e => by rw [e] at p; exact p) fun ds e vs F1 H1 x b => ?_
  rw [e] at p
  simp only [Res.bind] at p
  split at p
  · rename_i d1
    cases e1 : lsS d1 with
    | none => rw [e1] at p; exact p.elim
    | some xs =>
      rw [e1] at p
      simp only [Res.of] at p
      obtain ⟨v, rfl, b1⟩ := b.one
      obtain ⟨a, vs, rfl, h, r⟩ := b1.lsS e1
      exact ⟨a, vs, rfl, x.fh.seq h, p _ F1 H1 x (feeds_enum h r)⟩
  · exact p.elim
def zipD : List D → List D → List D
  | a :: xs, b :: ys => .tp [a, b] :: zipD xs ys
  | _, _ => []
def iZp (fs : Env → Res (List D)) : Env → Res (List D) := fun g => (fs g).bind fun ds => match ds with
  | [d, e] => (Res.of (lsS d)).bind fun xs => (Res.of (lsS e)).bind fun ys => .ok (zipD xs ys)
  | _ => .bad
@[simp] theorem iZp_ (fs : Env → Res (List D)) (g : Env) : iZp fs g = (fs g).bind fun ds => match ds with
  | [d, e] => (Res.of (lsS d)).bind fun xs => (Res.of (lsS e)).bind fun ys => .ok (zipD xs ys)
  | _ => .bad := rfl
def forL (tg : D → Env → Option Env) (b : Env → Out) : List D → Env → Out
  | [], g => .nx g
  | d :: ds, g => match tg d g with
    | none => .bad
    | some g1 => match b g1 with
      | .nx g' => forL tg b ds g'
      | .ct g' => forL tg b ds g'
      | .bk g' => .nx g'
      | o => o
@[simp] theorem forL_nil (tg : D → Env → Option Env) (b : Env → Out) (g : Env) : forL tg b [] g = .nx g := rfl
theorem forL_cons (tg : D → Env → Option Env) (b : Env → Out) (d : D) (ds : List D) (g : Env) : forL tg b (d :: ds) g = match tg d g with
    | none => .bad
    | some g1 => match b g1 with
      | .nx g' => forL tg b ds g'
      | .ct g' => forL tg b ds g'
      | .bk g' => .nx g'
      | o => o := rfl
def sFor (fi : Env → Res (List D)) (tg : D → Env → Option Env) (b : Env → Out) : Env → Out := fun g => (fi g).st g fun ds => forL tg b ds g
@[simp] theorem sFor_ (fi : Env → Res (List D)) (tg : D → Env → Option Env) (b : Env → Out) (g : Env) : sFor fi tg b g = (fi g).st g fun ds => forL tg b ds g := rfl
theorem ds_for {wi : TI} {t : TG} {tb : TS} {ft : D → Env → Option Env} {fbo : Env → Out} {ss : List Nat} (hi : DI K cls W wi fs) (hg : DG K cls t ft ss) (hb : DS K cls W tb fbo) : DS K cls W (tFor wi t tb) (sFor fs ft fbo) := by
  intro D σ F H g O s st p
  rw [sFor_] at p
  refine hi σ F H g O _ s st ?_
  cases e : fs g with
  | bad => rw [e] at p; exact p
  | xc c => rw [e] at p; exact xc_st st p
  | ok ds =>
    rw [e, Res.st_ok] at p
    intro J F1 H1 x1 fd
    have x1' : SExt F H O F1 H1 O := x1.sext fun a h => .inl h
    refine ⟨fun i m σ2 H2 => m = ds.length - i ∧ i ≤ ds.length ∧ ∃ F2 g2 O2, SExt F1 H1 O F2 H2 O2 ∧ Sts K cls F2 H2 σ2 g2 O2 ∧ PostS K cls W D F1 H1 O (forL ft fbo (ds.drop i) g2),
      ⟨ds.length, rfl, Nat.zero_le _, F1, g, O, .refl x1.fh, st.ext x1, by rw [List.drop_zero]; exact p.mono x1'⟩, ?_⟩
    rintro i m σ2 H2 ⟨rfl, hi, F2, g2, O2, x2, st2, p2⟩
    by_cases hlt : i < ds.length
    · have ed : ds.drop i = ds[i] :: ds.drop (i + 1) := List.drop_eq_getElem_cons hlt
      rw [ed, forL_cons] at p2
      obtain ⟨g0, y0⟩ := fd.go i ds[i] (by simp [hlt]) F2 H2 x2.ff x2.fh
      have nxt : ∀ {g' : Env} {F3 H3 O3 : _} {σ3 : St}, SExt F1 H1 O F3 H3 O3 → Sts K cls F3 H3 σ3 g' O3 → PostS K cls W D F1 H1 O (forL ft fbo (ds.drop (i + 1)) g') →
          ∃ m', m' < ds.length - i ∧ m' = ds.length - (i + 1) ∧ i + 1 ≤ ds.length ∧ ∃ F2 g2 O2, SExt F1 H1 O F2 H3 O2 ∧ Sts K cls F2 H3 σ3 g2 O2 ∧ PostS K cls W D F1 H1 O (forL ft fbo (ds.drop (i + 1)) g2) :=
        fun {g' F3 H3 O3 σ3} x st' q => ⟨ds.length - (i + 1), by omega, rfl, hlt, F3, g', O3, x, st', q⟩
      refine .inr ⟨g0, fun σ3 H3 => ∃ F3 g' O3, SExt F1 H1 O F3 H3 O3 ∧ Sts K cls F3 H3 σ3 g' O3 ∧ PostS K cls W D F1 H1 O (forL ft fbo (ds.drop (i + 1)) g'), fun σ3 H3 ⟨F3, g', O3, x, st', q⟩ => nxt x st' q, fun v H3 yv => ?_⟩
      obtain ⟨F3, x3, rv⟩ := y0 v H3 yv
      cases et : ft ds[i] g2 with
      | none => rw [et] at p2; exact p2.elim
      | some g3 =>
        rw [et] at p2
        simp only [] at p2
        refine hg v ds[i] σ2 F3 H3 g2 O2 g3 _ x3.fh (st2.ext x3) rv et fun σ4 O4 x4 st4 _ => ?_
        have x34 : SExt F1 H1 O F3 H3 O4 := x2.trans ((x3.sext fun a h => .inl h).trans x4)
        refine hb _ σ4 F3 H3 g3 O4 x3.fh st4 ?_
        cases eb : fbo g3 with
        | nx g' => rw [eb] at p2; exact fun σ5 F5 H5 O5 x5 st5 => ⟨F5, g', O5, x34.trans x5, st5, p2⟩
        | ct g' => rw [eb] at p2; exact fun σ5 F5 H5 O5 x5 st5 => ⟨F5, g', O5, x34.trans x5, st5, p2⟩
        | bk g' => rw [eb] at p2; exact fun σ5 F5 H5 O5 x5 st5 => p2 σ5 F5 H5 O5 (x34.trans x5) st5
        | rt d => rw [eb] at p2; exact fun v F5 H5 O5 x5 w => p2 v F5 H5 O5 (x34.trans x5) w
        | xc c g' => rw [eb] at p2; exact fun σ5 F5 H5 O5 x5 st5 => p2 σ5 F5 H5 O5 (x34.trans x5) st5
        | bad => rw [eb] at p2; exact p2
    · have ei : i = ds.length := by omega
      subst ei
      rw [List.drop_length] at p2
      exact .inl ⟨fd.stop F2 H2 x2.ff x2.fh, p2 σ2 F2 H2 O2 x2 st2⟩
theorem js_for {body : List Stmt} {ft : D → Env → Option Env} {fbo : Env → Out} {ss : List Nat} {k : Nat} (c : Cn X W k) (hi : JI X cls W tg iter fs) (hg : JG X cls tg ft ss) (hb : JSs X cls W body fbo)
    (hs : ∀ x, foldedSetIterable iter X.env x = pure x := by intro _; rfl) : JS X cls W (.For tg iter body [] pos) (sFor fs ft fbo) := by
  obtain ⟨wi, p, d⟩ := hi.ex
  obtain ⟨t, q, d'⟩ := hg.ex
  obtain ⟨tb, r, d''⟩ := hb.ex
  exact ⟨_, ps_for c.hp c.calm p q r hs, ds_for d d' d''⟩

def whileN (c : Env → Res Bool) (b : Env → Out) : Nat → Env → Out
  | 0, _ => .bad
  | n + 1, g => (c g).st g fun k => if k = true then match b g with
      | .nx g' => whileN c b n g'
      | .ct g' => whileN c b n g'
      | .bk g' => .nx g'
      | o => o
    else .nx g
theorem whileN_succ (c : Env → Res Bool) (b : Env → Out) (n : Nat) (g : Env) : whileN c b (n + 1) g = (c g).st g fun k => if k = true then match b g with
      | .nx g' => whileN c b n g'
      | .ct g' => whileN c b n g'
      | .bk g' => .nx g'
      | o => o
    else .nx g := rfl
def fuel : Nat := 1000000000
def sWhile (c : Env → Res Bool) (b : Env → Out) : Env → Out := fun g => whileN c b fuel g
@[simp] theorem sWhile_ (c : Env → Res Bool) (b : Env → Out) (g : Env) : sWhile c b g = whileN c b fuel g := rfl
theorem ds_while {tc : TT} {tb : TS} {fbo : Env → Out} (hc : DT K cls W tc ga) (hb : DS K cls W tb fbo) : DS K cls W (tWhile tc tb) (sWhile ga fbo) := by
  intro D σ F H g O s st p
  rw [sWhile_] at p
  refine ⟨fun m σ2 H2 => ∃ F2 g2 O2, SExt F H O F2 H2 O2 ∧ Sts K cls F2 H2 σ2 g2 O2 ∧ PostS K cls W D F H O (whileN ga fbo m g2), ⟨fuel, F, g, O, .refl s, st, p⟩, ?_⟩
  rintro m σ2 H2 ⟨F2, g2, O2, x2, st2, p2⟩
  cases m with
  | zero => exact p2.elim
  | succ m =>
    rw [whileN_succ] at p2
    refine hc.go x2.fh st2 (fun c e F' H' y => by rw [e] at p2; exact p2 σ2 F' H' O2 (x2.trans (y.sext fun a h => .inl h)) (st2.ext y)) (fun e => by rw [e] at p2; exact p2) fun k e F3 H3 y => ?_
    rw [e, Res.st_ok] at p2
    have x3 : SExt F H O F3 H3 O2 := x2.trans (y.sext fun a h => .inl h)
    cases k with
    | true =>
      rw [if_pos rfl] at p2
      rw [if_pos rfl]
      refine ⟨fun σ3 H3 => ∃ F3 g' O3, SExt F H O F3 H3 O3 ∧ Sts K cls F3 H3 σ3 g' O3 ∧ PostS K cls W D F H O (whileN ga fbo m g'), fun σ3 H3 ⟨F3, g', O3, x, st', q⟩ => ⟨m, Nat.lt_succ_self m, F3, g', O3, x, st', q⟩, ?_⟩
      refine hb _ σ2 F3 H3 g2 O2 y.fh (st2.ext y) ?_
      cases eb : fbo g2 with
      | nx g' => rw [eb] at p2; exact fun σ5 F5 H5 O5 x5 st5 => ⟨F5, g', O5, x3.trans x5, st5, p2⟩
      | ct g' => rw [eb] at p2; exact fun σ5 F5 H5 O5 x5 st5 => ⟨F5, g', O5, x3.trans x5, st5, p2⟩
      | bk g' => rw [eb] at p2; exact fun σ5 F5 H5 O5 x5 st5 => p2 σ5 F5 H5 O5 (x3.trans x5) st5
      | rt d => rw [eb] at p2; exact fun v F5 H5 O5 x5 w => p2 v F5 H5 O5 (x3.trans x5) w
      | xc c g' => rw [eb] at p2; exact fun σ5 F5 H5 O5 x5 st5 => p2 σ5 F5 H5 O5 (x3.trans x5) st5
      | bad => rw [eb] at p2; exact p2
    | false =>
      rw [if_neg (by decide)] at p2
      rw [if_neg (by decide)]
      exact p2 σ2 F3 H3 O2 x3 (st2.ext y)
theorem js_while {c : Expr} {body : List Stmt} {fbo : Env → Out} {k : Nat} (n : Cn X W k) (hc : JT X cls W c ga) (hb : JSs X cls W body fbo) : JS X cls W (.While c body [] pos) (sWhile ga fbo) := by
  obtain ⟨tc, p, d⟩ := hc.ex
  obtain ⟨tb, q, d'⟩ := hb.ex
  exact ⟨_, ps_while n.hp p q, ds_while d d'⟩

def lcL (tg : D → Env → Option Env) (tt : Env → Res Bool) (te : Env → Res D) (g : Env) : List D → Res (List D)
  | [] => .ok []
  | d :: ds => match tg d g with
    | none => .bad
    | some g1 => (tt g1).bind fun b => if b = true then ((te g1).bind kp).bind fun y => (lcL tg tt te g ds).bind fun r => .ok (y :: r) else lcL tg tt te g ds
@[simp] theorem lcL_nil (tg : D → Env → Option Env) (tt : Env → Res Bool) (te : Env → Res D) (g : Env) : lcL tg tt te g [] = .ok [] := rfl
theorem lcL_cons (tg : D → Env → Option Env) (tt : Env → Res Bool) (te : Env → Res D) (g : Env) (d : D) (ds : List D) : lcL tg tt te g (d :: ds) = match tg d g with
    | none => .bad
    | some g1 => (tt g1).bind fun b => if b = true then ((te g1).bind kp).bind fun y => (lcL tg tt te g ds).bind fun r => .ok (y :: r) else lcL tg tt te g ds := rfl
def eLc (fi : Env → Res (List D)) (own : List Nat) (tg : D → Env → Option Env) (tt : Env → Res Bool) (te : Env → Res D) : Env → Res D := fun g => (fi g).bind fun ds => if ds.length ≤ lim then
  match lcL tg tt te (wipeG g own) ds with
  | .ok r => .ok (.ol r)
  | _ => .bad
  else .bad
@[simp] theorem eLc_ (fi : Env → Res (List D)) (own : List Nat) (tg : D → Env → Option Env) (tt : Env → Res Bool) (te : Env → Res D) (g : Env) : eLc fi own tg tt te g = (fi g).bind fun ds => if ds.length ≤ lim then
  match lcL tg tt te (wipeG g own) ds with
  | .ok r => .ok (.ol r)
  | _ => .bad
  else .bad := rfl
def tYesG : Env → Res Bool := fun _ => .ok true
@[simp] theorem tYesG_ (g : Env) : tYesG g = .ok true := rfl
theorem Ows.snoc {vs : List V} {ds : List D} {O1 O2 : List Addr} {v : V} {d : D} (h : Ows K cls F H vs ds O1) (w : Ow K cls F H v d O2) (dj : ∀ a ∈ O1, a ∉ O2) : Ows K cls F H (vs ++ [v]) (ds ++ [d]) (O1 ++ O2) := by
  induction ds generalizing vs O1 with
  | nil => cases h; exact .cons w .nil (fun _ _ q => nomatch q) (by simp)
  | cons d' ds ih =>
    cases h with
    | cons a b dj' e =>
      subst e
      refine .cons a (ih b fun x hx => dj x (List.mem_append_right _ hx)) (fun x h1 h2 => ?_) (by simp)
      rcases List.mem_append.mp h2 with q | q
      · exact dj' x h1 q
      · exact dj x (List.mem_append_left _ h1) q
theorem de_lc {wi : TI} {t : TG} {tt : TT} {te : TE} {ft : D → Env → Option Env} {gt : Env → Res Bool} {fe : Env → Res D} {ss own : List Nat} (hi : DI K cls W wi fs) (hg : DG K cls t ft ss) (ht : DT K cls W0 tt gt) (he : DE K cls W0 te fe) (hss : ∀ i ∈ ss, i ∈ own) :
    DE K cls W (tLc wi t tt te own) (eLc fs own ft gt fe) := by
  intro σ F H g O Q s st p
  rw [eLc_] at p
  refine hi σ F H g O _ s st ?_
  cases e : fs g with
  | bad => rw [e] at p; exact p
  | xc c => rw [e] at p; exact p
  | ok ds =>
    rw [e] at p
    simp only [Res.bind] at p
    intro J F1 H1 x1 fd A hA
    by_cases hlen : ds.length ≤ lim
    · rw [if_pos hlen] at p
      -- the env within the block
      obtain ⟨Ow1, stw, hw⟩ := (st.ext x1).wipe x1.fh own
      have fA : F1 A = none := by
        cases q : F1 A with
        | none => rfl
        | some u => rw [x1.fh A u q] at hA; cases hA
      have sA : Same H1 (upd H1 A (.lst [])) := upd_same' hA
      let Inv := fun (i : Nat) (H2 : Hp) => ∃ F2 acc es' O2, Ext F1 H1 F2 H2 ∧ H2 A = some (.lst acc) ∧ F2 A = none ∧ A ∉ O2 ∧ Fresh H1 O2 ∧ Ows K cls F2 H2 acc es' O2 ∧ es'.length ≤ i ∧
        ∃ r, lcL ft gt fe (wipeG g own) (ds.drop i) = .ok r ∧ lcL ft gt fe (wipeG g own) ds = .ok (es' ++ r)
      cases er : lcL ft gt fe (wipeG g own) ds with
      | bad => rw [er] at p; exact p.elim
      | xc c => rw [er] at p; exact p.elim
      | ok r0 =>
        rw [er] at p
        simp only [] at p
        refine ⟨fun i m H2 => m = ds.length - i ∧ i ≤ ds.length ∧ Inv i H2, ⟨ds.length, rfl, Nat.zero_le _, F1, [], [], [], Ext.own x1.fh hA, upd_same, fA, by simp, Fresh.nil, .nil, Nat.zero_le _, r0, by rw [List.drop_zero]; exact er, by simpa using er⟩, ?_⟩
        rintro i m H2 ⟨rfl, hi, F2, acc, es', O2, x2, h2, f2, n2, fr2, w2, hl2, r, e1, e2⟩
        by_cases hlt : i < ds.length
        · have ed : ds.drop i = ds[i] :: ds.drop (i + 1) := List.drop_eq_getElem_cons hlt
          rw [ed, lcL_cons] at e1
          obtain ⟨g0, y0⟩ := fd.go i ds[i] (by simp [hlt]) F2 H2 x2.ff x2.fh
          refine .inr ⟨g0, fun H3 => Inv (i + 1) H3, fun H3 q => ⟨ds.length - (i + 1), by omega, rfl, hlt, q⟩, fun v H3 yv => ?_⟩
          obtain ⟨F3, x3, rv⟩ := y0 v H3 yv
          cases et : ft ds[i] (wipeG g own) with
          | none => rw [et] at e1; cases e1
          | some g3 =>
            rw [et] at e1
            simp only [] at e1
            have stw3 := (stw.ext x2).ext x3
            refine hg v ds[i] _ F3 H3 (wipeG g own) Ow1 g3 _ x3.fh stw3 rv et fun σ4 O4 x4 st4 w4 => ⟨?_, ?_⟩
            · exact (w4 own hss).trans (wipe_wipe fun _ h => h)
            · have h3 : H3 A = some (.lst acc) := x3.hh _ _ h2
              have f3 : F3 A = none := x3.ow A f2 (by rw [h2]; exact fun e => nomatch e)
              refine ht σ4 F3 H3 g3 O4 _ x3.fh st4 ?_
              cases eb : gt g3 with
              | bad => rw [eb] at e1; cases e1
              | xc c => rw [eb] at e1; cases e1
              | ok b =>
                rw [eb, Res.bind_ok] at e1
                intro F5 H5 x5
                have h5 : H5 A = some (.lst acc) := x5.hh _ _ h3
                have f5 : F5 A = none := x5.ow A f3 (by rw [h3]; exact fun e => nomatch e)
                have x25 := x2.trans (x3.trans x5)
                cases b with
                | false =>
                  rw [if_neg (by decide)] at e1
                  rw [if_neg (by decide)]
                  exact ⟨F5, acc, es', O2, x25, h5, f5, n2, fr2, (w2.ext x3).ext x5, Nat.le_succ_of_le hl2, r, e1, e2⟩
                | true =>
                  rw [if_pos rfl] at e1
                  rw [if_pos rfl]
                  refine he.goO x5.fh (st4.ext x5) (fun c e => by rw [e] at e1; cases e1) (fun e => by rw [e] at e1; cases e1) fun d e v F6 H6 O6 x6 fr6 w6 => ?_
                  rw [e, Res.bind_ok] at e1
                  cases er2 : lcL ft gt fe (wipeG g own) (ds.drop (i + 1)) with
                  | bad => rw [er2] at e1; cases e1
                  | xc c => rw [er2] at e1; cases e1
                  | ok r2 =>
                    rw [er2] at e1
                    cases e1
                    have h6 : H6 A = some (.lst acc) := x6.hh _ _ h5
                    have f6 : F6 A = none := x6.ow A f5 (by rw [h5]; exact fun e => nomatch e)
                    have x26 := x25.trans x6
                    have n6 : A ∉ O6 := fun q => by have := fr6 A q; rw [h5] at this; cases this
                    refine ⟨acc, h6, ?_, F6, acc ++ [v], es' ++ [d], O2 ++ O6, ?_, upd_same, f6, ?_, ?_, ?_, by simp; omega, r2, er2, by rw [e2]; simp⟩
                    · rw [w2.len]; exact lim_lt (by omega)
                    · exact ⟨x26.ff, fun b o q => by rw [upd_ne (ne_of_none q hA)]; exact x26.hh b o q, fun b o q => by
                        rw [upd_ne (fun z => by rw [z, f6] at q; cases q)]; exact x26.fh b o q, x26.ow⟩
                    · intro q
                      rcases List.mem_append.mp q with q | q
                      · exact n2 q
                      · exact n6 q
                    · intro a ha
                      rcases List.mem_append.mp ha with q | q
                      · exact fr2 a q
                      · exact (x25.hh).free (fr6 a q)
                    · have w2' := ((w2.ext x3).ext x5).ext x6
                      have dj : ∀ a ∈ O2, a ∉ O6 := fun a h1 h2 => ((((w2.ext x3).ext x5).dom a h1).2) (fr6 a h2)
                      refine (w2'.snoc w6 dj).frame (.refl F6) fun a ha => ⟨upd_ne fun z => ?_, ((w2'.snoc w6 dj).dom a ha).1⟩
                      rcases List.mem_append.mp ha with q | q
                      · exact n2 (z ▸ q)
                      · exact n6 (z ▸ q)
        · have ei : i = ds.length := by omega
          subst ei
          rw [List.drop_length] at e1
          cases e1
          rw [List.append_nil, er] at e2
          cases e2
          refine .inl ⟨fd.stop F2 H2 x2.ff x2.fh, p _ F2 H2 (A :: O2) (x1.trans x2) (fun a ha => ?_) (.inl (.ol f2 h2 n2 w2))⟩
          rcases List.mem_cons.mp ha with rfl | ha
          · exact x1.hh.free hA
          · exact x1.hh.free (fr2 a ha)
    · rw [if_neg hlen] at p; exact p.elim
structure JTs (X : Cx) (cls : Cls) (W : WX) (e : List Expr) (f : Env → Res Bool) : Prop where
  ex : ∃ t, PTs X e t ∧ DT X.K cls W t f
theorem jts_nil : JTs X cls W [] tYesG := ⟨_, pts_nil, fun σ F H g O Q s st p => p F H (.refl s)⟩
theorem jts_one (h : JT X cls W a ga) : JTs X cls W [a] ga := by
  obtain ⟨t, p, d⟩ := h.ex
  exact ⟨_, pts_one p, d⟩
end
end DL

namespace DL
open PySem L2
section
variable {K : PySem.W.Frag} {cls : Cls} {W : WX} {X : Cx} {F H F' H' F1 H1 : Hp} {O O1 : List Addr} {Q : VK} {σ : St} {a b e tg iter elt : Expr} {es : List Expr} {fa fb fc : Env → Res D} {ga gb : Env → Res Bool} {fs : Env → Res (List D)} {pos : Pos}
def cE (K : PySem.W.Frag) (cls : Cls) (W : WX) (f : Env → Res D) : TE := fun σ H Q => ∃ F g O, Same F H ∧ Sts K cls F H σ g O ∧ PostE K cls W σ F H Q (f g)
def cT (K : PySem.W.Frag) (cls : Cls) (W : WX) (f : Env → Res Bool) : TT := fun σ H Q => ∃ F g O, Same F H ∧ Sts K cls F H σ g O ∧ PostT cls W σ F H Q (f g)
def cG (K : PySem.W.Frag) (cls : Cls) (f : D → Env → Option Env) (ss : List Nat) : TG := fun v σ H Q => ∃ d F g O g', Same F H ∧ Sts K cls F H σ g O ∧ Rp K cls F v d ∧ f d g = some g' ∧
  (∀ σ' O', SExt F H O F H O' → Sts K cls F H σ' g' O' → (∀ vs : List Nat, (∀ i ∈ ss, i ∈ vs) → wipe σ' vs = wipe σ vs) → Q σ' H)
def cS (K : PySem.W.Frag) (cls : Cls) (f : Env → Out) (W : WX) : TS := fun D σ H => ∃ F g O, Same F H ∧ Sts K cls F H σ g O ∧ PostS K cls W D F H O (f g)
theorem de_cE {f : Env → Res D} : DE K cls W (cE K cls W f) f := fun σ F H g O Q s st p => ⟨F, g, O, s, st, p⟩
theorem dt_cT {f : Env → Res Bool} : DT K cls W (cT K cls W f) f := fun σ F H g O Q s st p => ⟨F, g, O, s, st, p⟩
theorem dg_cG {f : D → Env → Option Env} {ss : List Nat} : DG K cls (cG K cls f ss) f ss := fun v d σ F H g O g' Q s st r e k => ⟨d, F, g, O, g', s, st, r, e, k⟩
theorem JE.canon {f : Env → Res D} (h : JE X cls W e f) : PE X e (cE X.K cls W f) := by
  obtain ⟨t, p, d⟩ := h.ex
  exact ⟨fun pins s σ H Q I ⟨F, g, O, sm, st, q⟩ => p.run pins s σ H Q I (d σ F H g O Q sm st q)⟩
theorem JTs.canon {f : Env → Res Bool} (h : JTs X cls W es f) : PTs X es (cT X.K cls W f) := by
  obtain ⟨t, p, d⟩ := h.ex
  exact ⟨fun pins s σ H Q I ⟨F, g, O, sm, st, q⟩ => p.run pins s σ H Q I (d σ F H g O Q sm st q)⟩
theorem JG.canon {f : D → Env → Option Env} {ss : List Nat} (h : JG X cls e f ss) : PG X e (cG X.K cls f ss) := by
  obtain ⟨t, p, d⟩ := h.ex
  exact ⟨fun pins s σ H v u Q I r ⟨dd, F, g, O, g', sm, st, rr, ee, q⟩ => p.run pins s σ H v u Q I r (d v dd σ F H g O g' Q sm st rr ee q)⟩
theorem JSs.canon {st : List Stmt} {f : Env → Out} (h : JSs X cls W st f) : PSs X st (cS X.K cls f W) := by
  obtain ⟨t, p, d⟩ := h.ex
  exact ⟨fun pins s σ H D I ⟨F, g, O, sm, st, q⟩ => p.run pins s σ H D I (d D σ F H g O sm st q)⟩

theorem je_lc {ifs : List Expr} {scope : Scope} {ft : D → Env → Option Env} {gt : Env → Res Bool} {fe : Env → Res D} {ss : List Nat} {k : Nat} (own : List (Str × Nat)) (c : Cn X W k) (hi : JI X cls W tg iter fs) (ok : BlkOk X.N X.env.scope scope own)
    (hg : ∀ (s : Shared) (H : Hp) (C : Addr) (cl : List (Str × Addr)) (fp : List Addr), JG (X.blk s H scope (compEnvC scope cl C X.env) fp) cls tg ft ss)
    (ht : ∀ (s : Shared) (H : Hp) (C : Addr) (cl : List (Str × Addr)) (fp : List Addr), Cn (X.blk s H scope (compEnvC scope cl C X.env) fp) W0 k → JTs (X.blk s H scope (compEnvC scope cl C X.env) fp) cls W0 ifs gt)
    (he : ∀ (s : Shared) (H : Hp) (C : Addr) (cl : List (Str × Addr)) (fp : List Addr), Cn (X.blk s H scope (compEnvC scope cl C X.env) fp) W0 k → JE (X.blk s H scope (compEnvC scope cl C X.env) fp) cls W0 elt fe)
    (hss : ∀ i ∈ ss, i ∈ own.map (·.2)) (hs : ∀ x, foldedSetIterable iter X.env x = pure x := by intro _; rfl) :
    JE X cls W (.ListComp elt [⟨tg, iter, ifs, 0⟩] scope pos) (eLc fs (own.map (·.2)) ft gt fe) := by
  obtain ⟨wi, p, d⟩ := hi.ex
  exact ⟨_, pe_lc (own := own) c.calm c.nd p ok (fun s H C cl fp => (hg s H C cl fp).canon) (fun s H C cl fp => (ht s H C cl fp c.blk).canon) (fun s H C cl fp => (he s H C cl fp c.blk).canon) hs, de_lc d dg_cG dt_cT de_cE hss⟩
theorem js_setLc {i : Nat} {y : Str} {py spos : Pos} {ifs : List Expr} {scope : Scope} {ft : D → Env → Option Env} {gt : Env → Res Bool} {fe : Env → Res D} {ss : List Nat} {k : Nat} (own : List (Str × Nat)) (c : Cn X W k) (hy : X.N[i]? = some y) (hyl : X.env.scope.names.lookup y = some .local)
    (hsw : swapsWith (.ListComp elt [⟨tg, iter, ifs, 0⟩] scope pos) (some (.Name y py)) spos.line X.env = pure true) (hi : JI X cls W tg iter fs) (ok : BlkOk X.N X.env.scope scope own)
    (hg : ∀ (s : Shared) (H : Hp) (C : Addr) (cl : List (Str × Addr)) (fp : List Addr), JG (X.blk s H scope (compEnvC scope cl C X.env) fp) cls tg ft ss)
    (ht : ∀ (s : Shared) (H : Hp) (C : Addr) (cl : List (Str × Addr)) (fp : List Addr), Cn (X.blk s H scope (compEnvC scope cl C X.env) fp) W0 k → JTs (X.blk s H scope (compEnvC scope cl C X.env) fp) cls W0 ifs gt)
    (he : ∀ (s : Shared) (H : Hp) (C : Addr) (cl : List (Str × Addr)) (fp : List Addr), Cn (X.blk s H scope (compEnvC scope cl C X.env) fp) W0 k → JE (X.blk s H scope (compEnvC scope cl C X.env) fp) cls W0 elt fe)
    (hss : ∀ i ∈ ss, i ∈ own.map (·.2)) (hs : ∀ x, foldedSetIterable iter X.env x = pure x := by intro _; rfl) :
    JS X cls W (.Assign [.Name y py] (.ListComp elt [⟨tg, iter, ifs, 0⟩] scope pos) spos) (sAsg i (eLc fs (own.map (·.2)) ft gt fe)) := by
  obtain ⟨wi, p, d⟩ := hi.ex
  exact ⟨_, ps_setLc (own := own) c.calm c.nd hy hyl hsw p ok (fun s H C cl fp => (hg s H C cl fp).canon) (fun s H C cl fp => (ht s H C cl fp c.blk).canon) (fun s H C cl fp => (he s H C cl fp c.blk).canon) hs, ds_asg (de_lc d dg_cG dt_cT de_cE hss)⟩
theorem js_setLcF {i : Nat} {y : Str} {py spos : Pos} {ifs : List Expr} {scope : Scope} {ft : D → Env → Option Env} {gt : Env → Res Bool} {fe : Env → Res D} {ss : List Nat} {k : Nat} (own : List (Str × Nat)) (c : Cn X W k) (hy : X.N[i]? = some y) (hyl : X.env.scope.names.lookup y = some .local)
    (hsw : swapsWith (.ListComp elt [⟨tg, iter, ifs, 0⟩] scope pos) (some (.Name y py)) spos.line X.env = pure true) (hi : JI X cls W tg iter fs) (ok : BlkOk X.N X.env.scope scope own)
    (hg : ∀ (s : Shared) (H : Hp) (C : Addr) (cl : List (Str × Addr)) (fp : List Addr), JG (X.blk s H scope (compEnvC scope cl C X.env) fp) cls tg ft ss)
    (ht : ∀ (s : Shared) (H : Hp) (C : Addr) (cl : List (Str × Addr)) (fp : List Addr), Cn (X.blk s H scope (compEnvC scope cl C X.env) fp) W0 k → JTs (X.blk s H scope (compEnvC scope cl C X.env) fp) cls W0 ifs gt)
    (he : ∀ (s : Shared) (H : Hp) (C : Addr) (cl : List (Str × Addr)) (fp : List Addr), Cn (X.blk s H scope (compEnvC scope cl C X.env) fp) W0 k → JE (X.blk s H scope (compEnvC scope cl C X.env) fp) cls W0 elt fe)
    (hss : ∀ i ∈ ss, i ∈ own.map (·.2)) (hs : ∀ x, foldedSetIterable iter X.env x = pure x := by intro _; rfl) :
    JS X cls W (.Assign [.Name y py] (.ListComp elt [⟨tg, iter, ifs, 0⟩] scope pos) spos) (sAsgF i (eLc fs (own.map (·.2)) ft gt fe)) := by
  obtain ⟨wi, p, d⟩ := hi.ex
  exact ⟨_, ps_setLc (own := own) c.calm c.nd hy hyl hsw p ok (fun s H C cl fp => (hg s H C cl fp).canon) (fun s H C cl fp => (ht s H C cl fp c.blk).canon) (fun s H C cl fp => (he s H C cl fp c.blk).canon) hs, ds_asgF (de_lc d dg_cG dt_cT de_cE hss)⟩

theorem Sts.lst {g : Env} {i : Nat} {xs : List D} (st : Sts K cls F H σ g O) (e : g[i]? = some (.ol xs)) : ∃ p vs O1, σ[i]? = some (some (.ref p)) ∧ H p = some (.lst vs) ∧ F p = none ∧ p ∉ O1 ∧ Ows K cls F H vs xs O1 ∧ p ∈ O ∧ (∀ a ∈ O1, a ∈ O) ∧
    ∀ (F' H' : Hp) (ws : List V) (ys : List D) (O2 : List Addr), Ext F H F' H' → Ows K cls F' H' ws ys O2 → p ∉ O2 → (∀ a ∈ O2, a ∈ O1 ∨ H a = none) →
      ∃ O'', Sts K cls F' (upd H' p (.lst ws)) σ (g.set i (.ol ys)) O'' ∧ SExt F H O F' (upd H' p (.lst ws)) O'' := by
  obtain ⟨P, h1, h2, h3, _⟩ := st.at i (List.getElem?_eq_some_iff.mp e).1
  rcases h2 with ⟨h2, _⟩ | ⟨v, d, h2, h2', ow⟩
  · rw [e] at h2; cases h2
  · rw [e] at h2'; cases h2'
    cases ow with
    | sh r => cases r
    | @ol p vs _ O1 f1 f2 f3 f4 =>
      refine ⟨p, vs, O1, h2, f2, f1, f3, f4, h1 _ (by simp), fun a ha => h1 a (by simp [ha]), fun F' H' ws ys O2 x w n k => ?_⟩
      have hp : F' p = none := x.ow p f1 (by rw [f2]; exact fun e => nomatch e)
      have up : ∀ b, b ≠ p → upd H' p (.lst ws) b = H' b := fun b hb => upd_ne hb
      obtain ⟨O'', q1, q2⟩ := h3 F' (upd H' p (.lst ws)) (.ref p) (.ol ys) (p :: O2) (fun b hb hn => by
          obtain ⟨e1, e2⟩ := x.get (st.dom b hb).1 (st.dom b hb).2
          exact ⟨(up b fun z => hn (by simp [z])).trans e1, e2⟩) x.ff
        (.ol hp upd_same n (w.frame (.refl F') fun a ha => ⟨up a fun z => n (z ▸ ha), (w.dom a ha).1⟩)) (fun a ha hO => by
          rcases List.mem_cons.mp ha with rfl | ha
          · simp
          · rcases k a ha with z | z
            · simp [z]
            · exact absurd z (st.dom a hO).2)
      rw [set_self h2] at q1
      refine ⟨O'', q1, x.ff, fun b o q => ?_, fun b o q hn => ?_, fun b h1 h2 _ => x.ow b h1 h2, fun b hb => ?_⟩
      · rw [up b fun z => by rw [z, hp] at q; cases q]; exact x.fh b o q
      · rw [up b fun z => hn (z ▸ h1 p (by simp))]; exact x.hh b o q
      · rcases q2 b hb with z | z
        · exact .inl z
        · rcases List.mem_cons.mp z with rfl | z
          · exact .inl (h1 _ (by simp))
          · exact (k b z).imp (fun z => h1 b (by simp [z])) id
def sApp (i : Nat) (fa : Env → Res D) : Env → Out := fun g => match g[i]? with
  | some (.ol xs) => ((fa g).bind kp).st g fun d => if xs.length < lim then .nx (g.set i (.ol (xs ++ [d]))) else .bad
  | _ => .bad
@[simp] theorem sApp_ (i : Nat) (fa : Env → Res D) (g : Env) : sApp i fa g = match g[i]? with
  | some (.ol xs) => ((fa g).bind kp).st g fun d => if xs.length < lim then .nx (g.set i (.ol (xs ++ [d]))) else .bad
  | _ => .bad := rfl
theorem js_app {i : Nat} {x : Str} {npos apos cpos : Pos} (hN : X.N[i]? = some x) (hv : Vis X.env.scope x) (ha : JE X cls W a fa) (hd : (x == ("__debug__" : Str)) = false := by decide) (hcd : (x == ("__classdict__" : Str)) = false := by decide)
    (hbase : attributeBase (.Name x npos) "append" X.env (eval (.Name x npos) X.env) = eval (.Name x npos) X.env := by rfl)
    (hfew : ((backTo cpos (starEach (a :: []) X.env)).all (fun x => !x.1) && (backToKw cpos (keywordEach [] X.env)).all (fun x => x.1.isSome)
      && decide ((a :: []).length + ([] : List Keyword).length + (if ([] : List Keyword).isEmpty then 0 else 1) < 30)) = true := by rfl)
    (hline : (apos.endLine == cpos.line) = true := by rfl) (hs : starEach (a :: []) X.env = (false, eval a X.env) :: starEach [] X.env := by rfl) (hplain : (backTo cpos (starEach [] X.env)).any (·.1) = false := by rfl)
    (hsw : swapsWith (.Call (.Attribute (.Name x npos) "append" apos) [a] [] cpos) none pos.line X.env = pure false := by rfl) :
    JS X cls W (.Expr (.Call (.Attribute (.Name x npos) "append" apos) [a] [] cpos) pos) (sApp i fa) := by
  obtain ⟨t, p, d⟩ := ha.ex
  refine ⟨_, ps_expr (pe_bm PySem.F.plainAttrs_list PySem.F.slot_list_append PySem.F.type_list_append mt_append (pe_var hN hv hd hcd) (pa_cons p pa_nil hs) hbase hfew hline hs hplain) hsw, ?_⟩
  intro D σ F H g O s st p
  rw [sApp_] at p
  split at p
  · rename_i xs eg
    obtain ⟨q, vs, O1, h1, h2, h2', h3, h4, h5, h6, h7⟩ := st.lst eg
    refine ⟨.ref q, h1, .inl ⟨rfl, vs, SqL.of h2⟩, ?_⟩
    refine d.goS s st p fun dd e p v F1 H1 O2 x fr w => ?_
    split at p
    · rename_i hl
      refine ⟨q, vs, v, rfl, rfl, x.hh _ _ h2, by rw [h4.len]; exact lim_lt hl, ?_⟩
      obtain ⟨O'', z1, z2⟩ := h7 F1 H1 (vs ++ [v]) (xs ++ [dd]) (O1 ++ O2) x ((h4.ext x).snoc w fun a q1 q2 => (h4.dom a q1).2 (fr a q2)) (fun z => by
          rcases List.mem_append.mp z with z | z
          · exact h3 z
          · have := fr q z; rw [h2] at this; cases this) (fun a z => (List.mem_append.mp z).imp id (fr a))
      exact p σ F1 _ O'' z2 z1
    · exact p.elim
  · exact p.elim
theorem Ows.set : ∀ {vs : List V} {ds : List D} {O1 O2 : List Addr} {v : V} {d : D} (j : Nat), Ows K cls F H vs ds O1 → Ow K cls F H v d O2 → (∀ a ∈ O1, a ∉ O2) → ∃ O3, Ows K cls F H (vs.set j v) (ds.set j d) O3 ∧ ∀ a ∈ O3, a ∈ O1 ∨ a ∈ O2
  | _, _, _, O2, _, _, _, .nil, _, _ => ⟨[], .nil, fun _ h => nomatch h⟩
  | _, _, _, O2, _, _, 0, .cons (O1 := P1) (O2 := P2) a b dj e, w, n => by
    subst e
    refine ⟨O2 ++ P2, .cons w b (fun x h1 h2 => n x (List.mem_append_right _ h2) h1) rfl, fun x hx => ?_⟩
    rcases List.mem_append.mp hx with z | z
    · exact .inr z
    · exact .inl (List.mem_append_right _ z)
  | _, _, _, O2, _, _, j + 1, .cons (O1 := P1) (O2 := P2) a b dj e, w, n => by
    subst e
    obtain ⟨O3, h1, h2⟩ := b.set j w fun x hx => n x (List.mem_append_right _ hx)
    refine ⟨P1 ++ O3, .cons a h1 (fun x q1 q2 => ?_) rfl, fun x hx => ?_⟩
    · rcases h2 x q2 with z | z
      · exact dj x q1 z
      · exact n x (List.mem_append_left _ q1) z
    · rcases List.mem_append.mp hx with z | z
      · exact .inl (List.mem_append_left _ z)
      · exact (h2 x z).imp (fun z => List.mem_append_right _ z) id
def sSet (i : Nat) (fk fa : Env → Res D) : Env → Out := fun g => ((fa g).bind kp).st g fun d => match g[i]? with
  | some (.ol xs) => (fk g).st g fun k => match opd k with
    | .int k => match ixN xs.length k with
      | some j => .nx (g.set i (.ol (xs.set j d)))
      | none => .bad
    | _ => .bad
  | _ => .bad
@[simp] theorem sSet_ (i : Nat) (fk fa : Env → Res D) (g : Env) : sSet i fk fa g = ((fa g).bind kp).st g fun d => match g[i]? with
  | some (.ol xs) => (fk g).st g fun k => match opd k with
    | .int k => match ixN xs.length k with
      | some j => .nx (g.set i (.ol (xs.set j d)))
      | none => .bad
    | _ => .bad
  | _ => .bad := rfl
theorem js_setIx {i : Nat} {x : Str} {npos spos : Pos} {fk : Env → Res D} (hN : X.N[i]? = some x) (hv : Vis X.env.scope x) (ha : JE X cls W a fa) (hk : JE X cls W b fk) (hd : (x == ("__debug__" : Str)) = false := by decide) (hcd : (x == ("__classdict__" : Str)) = false := by decide)
    (hs : swapsWithSole [.Subscript (.Name x npos) b spos] a pos.line X.env = pure false := by rfl) (hw : swappedStores [.Subscript (.Name x npos) b spos] a X.env = pure none := by rfl)
    (h1 : (assignEach [.Subscript (.Name x npos) b spos] X.env).map (·.2) = [assign (.Subscript (.Name x npos) b spos) X.env] := by rfl)
    (hass : ∀ v, assign (.Subscript (.Name x npos) b spos) X.env v = (do
      let ov ← holding [v] (eval (.Name x npos) X.env)
      let iv ← holding [v, ov] (eval b X.env)
      standAt spos
      holding [v, ov, iv] (setItem ov iv v)
      release [v, ov, iv] []) := by intro _; rfl) : JS X cls W (.Assign [.Subscript (.Name x npos) b spos] a pos) (sSet i fk fa) := by
  obtain ⟨t, p, d⟩ := ha.ex
  obtain ⟨t2, p2, d2⟩ := hk.ex
  refine ⟨_, ps_asg p (pg_sub (pe_var hN hv hd hcd) p2 set_list hass) hs hw h1, ?_⟩
  intro D σ F H g O s st p
  rw [sSet_] at p
  refine d.goS s st p fun dd e p v F1 H1 O2 x fr w => ?_
  split at p
  · rename_i xs eg
    obtain ⟨q, vs, O1, h1, h2, h2', h3, h4, h5, h6, h7⟩ := st.lst eg
    refine ⟨.ref q, h1, ?_⟩
    refine d2.go x.fh (st.ext x) (fun c e F' H' y => by rw [e] at p; exact p σ F' H' O ((x.trans y).sext fun a h => .inl h) (st.ext (x.trans y))) (fun e => by rw [e] at p; exact p) fun kd e kv F3 H3 x3 b3 => ?_
    rw [e, Res.st_ok] at p
    split at p
    · rename_i k ek
      split at p
      · rename_i j ej
        rw [ek] at b3
        obtain rfl := b3.int
        have x13 := x.trans x3
        refine ⟨q, vs, k, j, rfl, rfl, x13.hh _ _ h2, by rw [h4.len]; exact ej, ?_⟩
        obtain ⟨O3, w3, n3⟩ := (h4.ext x13).set j (w.ext x3) fun a q1 q2 => (h4.dom a q1).2 (fr a q2)
        obtain ⟨O'', z1, z2⟩ := h7 F3 H3 (vs.set j v) (xs.set j dd) O3 x13 w3 (fun z => by
          rcases n3 _ z with z | z
          · exact h3 z
          · have := fr q z; rw [h2] at this; cases this) (fun a z => (n3 a z).imp id (fr a))
        exact p σ F3 _ O'' z2 z1
      · exact p.elim
    · exact p.elim
  · exact p.elim
def sAug (op : Int → Int → Int) (i : Nat) (fa : Env → Res D) : Env → Out := fun g => match g[i]? with
  | some (.int a) => (fa g).st g fun d => match opd d with
    | .int b => .nx (g.set i (.int (op a b)))
    | _ => .bad
  | _ => .bad
@[simp] theorem sAug_ (op : Int → Int → Int) (i : Nat) (fa : Env → Res D) (g : Env) : sAug op i fa g = match g[i]? with
  | some (.int a) => (fa g).st g fun d => match opd d with
    | .int b => .nx (g.set i (.int (op a b)))
    | _ => .bad
  | _ => .bad := rfl
end
end DL

namespace DL
open PySem L2
section
variable {K : PySem.W.Frag} {cls : Cls} {W : WX} {X : Cx} {F H F' H' F1 H1 : Hp} {O O1 : List Addr} {Q : VK} {σ : St} {a b e tg iter elt : Expr} {es : List Expr} {fa fb fc : Env → Res D} {ga gb : Env → Res Bool} {fs : Env → Res (List D)} {pos : Pos}
structure ExOk (K : PySem.W.Frag) (mg : Str → Option Value) (cls : Cls) (c : Nat) (x : Str) (C : Addr) : Prop where
  e : cls c = some (C, [])
  g : mg x = some (.ref C)
  x : PySem.W.excIn K C [.type "ValueError", .type "Exception", .type "BaseException", .type "object"] "ValueError.__new__" = true
  k : PySem.W.keepIn K (.ref C) = true
  b : PySem.W.subIn K (.ref C) (.type "BaseException") = some true
  t : PySem.W.typeIn K (.ref C) = some (.type "type")
theorem ExOk.v {mg : Str → Option Value} {c : Nat} {x : Str} {C : Addr} (h : ExOk K mg cls c x C) : excV cls c = .ref C := by unfold excV; rw [h.e]
def sRaise (c : Nat) : Env → Out := fun g => .xc c g
@[simp] theorem sRaise_ (c : Nat) (g : Env) : sRaise c g = .xc c g := rfl
theorem js_raise {c k : Nat} {x m : Str} {C : Addr} {j : Nat} {p p2 pos2 : Pos} (n : Cn X W k) (h : ExOk X.K X.mg cls c x C) (hg : Gl X x := by rfl) (hdb : (x == ("__debug__" : Str)) = false := by decide) :
    JS X cls W (.Raise (some (.Call (.Name x p) [.Constant (.str m) j p2] [] pos)) none pos2) (sRaise c) := by
  refine ⟨_, ps_raise n.calm n.tk (pmk_own PySem.F.excBase_ValueError h.x h.g h.k (raises_own h.b h.t) hg hdb), ?_⟩
  intro D σ F H g O s st p
  have q := p σ F H O (.refl s) st
  rw [h.v] at q
  exact q

def runF (f : Env → Out) (n : Nat) (ds : List D) : Res D := match f (ds ++ List.replicate (n - ds.length) .un) with
  | .rt d => .ok d
  | .nx _ => .ok .non
  | .xc c _ => .xc c
  | _ => .bad
theorem sts_start {vs : List V} {ds : List D} (h : Rps K cls F vs ds) (n : Nat) : Sts K cls F H (vs.map some ++ List.replicate n none) (ds ++ List.replicate n .un) [] := by
  induction ds generalizing vs with
  | nil =>
    cases h
    simp only [List.map_nil, List.nil_append]
    induction n with
    | zero => exact .nil
    | succ n ih => rw [List.replicate_succ, List.replicate_succ]; exact .un ih
  | cons d ds ih =>
    cases h with
    | cons a b => exact .cons (.sh a) (ih b) (fun _ q => nomatch q) rfl
theorem fnD_ok {P : Program} {w : World} {mg : Str → Option Value} {base : Heap} {x qual : Str} {st : Stmt} {f : Addr} {fd : FuncData} {N ps : List Str} {k n : Nat} {g : List D → Res D} {fb : Env → Out}
    (Fn : Fun K x qual st f fd) (S : FnScope N ps (defScope st)) (hn : ps.length = n)
    (hbody : ∀ (cdv : Value) (A : Around) (outer : List PySem.Env) (s : Shared) (H : Hp) (E : XK), Cn (cxOf (L2.CX P w) P w K mg base N qual (defScope st) f cdv A outer s H E) (fun c d _ H => E c d H) k →
      JSs (cxOf (L2.CX P w) P w K mg base N qual (defScope st) f cdv A outer s H E) cls (fun c d _ H => E c d H) (defBody st) fb)
    (heq : ∀ ds, ds.length = n → g ds = .bad ∨ runF fb N.length ds = g ds) : FnOk P w K mg base (L2.CX P w) (k + 1) f fd ps (spD K cls n g) := by
  refine Fn.okX S (fun vs H Q E h => ?_) (fun cdv A outer s H vs Q E hr h => ?_)
  · obtain ⟨F, ds, _, r, h1, _⟩ := h
    rw [r.len, h1, hn]
  · obtain ⟨F, ds, sm, r, hl, h⟩ := h
    obtain ⟨t, p, d⟩ := (hbody cdv A outer s H E ⟨takes_of rfl rfl rfl rfl, passes_of rfl, rfl, S.nd, hr⟩).ex
    refine ⟨t, p, d _ _ F H (ds ++ List.replicate (N.length - ds.length) .un) [] sm ?_ ?_⟩
    · unfold L2.start
      rw [r.len]
      exact sts_start r _
    · rcases heq ds hl with e | e
      · rw [e] at h; exact h.elim
      · rw [← e] at h
        unfold runF at h
        cases q : fb (ds ++ List.replicate (N.length - ds.length) .un) with
        | nx g' => rw [q] at h; exact fun σ' F' H' O' x st' => h .non F' H' [] x.ext Fresh.nil (.sh .non)
        | rt d => rw [q] at h; exact fun v F' H' O' x w => h v F' H' O' x.ext (fun a ha => (x.oo a ha).resolve_left (by simp)) w
        | xc c g' => rw [q] at h; exact fun σ' F' H' O' x st' => h F' H' x.ext
        | bk g' => rw [q] at h; exact h.elim
        | ct g' => rw [q] at h; exact h.elim
        | bad => rw [q] at h; exact h.elim

def spI (K : PySem.W.Frag) (cls : Cls) (c n : Nat) (g : List D → Res (List D)) : Sp := fun vs H Q E => ∃ F x C dx ns vs' ds, vs = .ref x :: vs' ∧ cls c = some (C, ns) ∧ Same F H ∧ F x = none ∧ H x = some (.ins C dx []) ∧ Rps K cls F vs' ds ∧ ds.length = n ∧
  match g ds with
  | .ok fs => ∀ F' H' O', SExt F H [x] F' H' O' → Ow K cls F' H' (.ref x) (.oo none c fs) O' → Q .non H'
  | .xc e => ∀ F' H' O', SExt F H [x] F' H' O' → E (excV cls e) none H'
  | .bad => False
def outI (c : Nat) (x : Addr) : Out → Res (List D)
  | .nx g => match (g : List D)[0]? with
    | some (D.oo (some y) c' fs) => if c' = c ∧ y = x then .ok fs else .bad
    | _ => .bad
  | .xc e _ => .xc e
  | _ => .bad
def runI (f : Env → Out) (c n : Nat) (x : Addr) (ds : List D) : Res (List D) := outI c x (f (.oo (some x) c [] :: ds ++ List.replicate (n - (ds.length + 1)) .un))
theorem fnI_ok {P : Program} {w : World} {mg : Str → Option Value} {base : Heap} {x qual : Str} {st : Stmt} {f : Addr} {fd : FuncData} {N ps : List Str} {k n c : Nat} {g : List D → Res (List D)} {fb : Env → Out}
    (Fn : Fun K x qual st f fd) (S : FnScope N ps (defScope st)) (hn : ps.length = n + 1)
    (hbody : ∀ (cdv : Value) (A : Around) (outer : List PySem.Env) (s : Shared) (H : Hp) (E : XK), Cn (cxOf (L2.CX P w) P w K mg base N qual (defScope st) f cdv A outer s H E) (fun c d _ H => E c d H) k →
      JSs (cxOf (L2.CX P w) P w K mg base N qual (defScope st) f cdv A outer s H E) cls (fun c d _ H => E c d H) (defBody st) fb)
    (heq : ∀ ds x, ds.length = n → g ds = .bad ∨ runI fb c N.length x ds = g ds) : FnOk P w K mg base (L2.CX P w) (k + 1) f fd ps (spI K cls c n g) := by
  refine Fn.okX S (fun vs H Q E h => ?_) (fun cdv A outer s H vs Q E hr h => ?_)
  · obtain ⟨F, x, C, dx, ns, vs', ds, rfl, _, _, _, _, r, h1, _⟩ := h
    rw [List.length_cons, r.len, h1, hn]
  · obtain ⟨F, x, C, dx, ns, vs', ds, rfl, hc, sm, fx, hx, r, hl, h⟩ := h
    obtain ⟨t, p, d⟩ := (hbody cdv A outer s H E ⟨takes_of rfl rfl rfl rfl, passes_of rfl, rfl, S.nd, hr⟩).ex
    have s0 : Sts K cls F H (L2.start N (V.ref x :: vs')) (.oo (some x) c [] :: ds ++ List.replicate (N.length - (ds.length + 1)) .un) [x] := by
      unfold L2.start
      rw [List.length_cons, r.len, List.map_cons, List.cons_append, List.cons_append]
      exact .cons (O1 := [x]) (O2 := []) (.oo (fun y e => by cases e; rfl) hc fx (by simpa using hx) (Nat.zero_le _) (by simp) .nil) (sts_start r _) (fun a _ h => nomatch h) rfl
    refine ⟨t, p, d _ _ F H _ [x] sm s0 ?_⟩
    rcases heq ds x hl with e | e
    · rw [e] at h; exact h.elim
    · rw [← e] at h
      unfold runI at h
      cases q : fb (.oo (some x) c [] :: ds ++ List.replicate (N.length - (ds.length + 1)) .un) with
      | nx g' =>
        rw [q] at h
        intro σ' F' H' O' y st'
        unfold outI at h
        simp only [] at h
        split at h
        · rename_i fs eo
          split at eo
          · rename_i y' c' fs' eg
            split at eo
            · rename_i hcc
              cases eo
              obtain ⟨rfl, rfl⟩ := hcc
              obtain ⟨P, h1, h2, _⟩ := st'.at 0 (List.getElem?_eq_some_iff.mp eg).1
              rcases h2 with ⟨h2, _⟩ | ⟨v, d2, h2, h2', ow⟩
              · rw [eg] at h2; cases h2
              · rw [eg] at h2'; cases h2'
                cases ow with
                | sh r => cases r
                | oo ho hc h1' h2o hl h3 r =>
                  have := ho _ rfl
                  subst this
                  exact h F' H' _ ⟨y.ff, y.fh, y.fr, y.ow, fun a ha => y.oo a (h1 a ha)⟩ (.oo (fun _ e => nomatch e) hc h1' h2o hl h3 r)
            · cases eo
          · cases eo
        · rename_i e' eo
          split at eo
          · split at eo <;> cases eo
          · cases eo
        · exact h.elim
      | xc e g' => rw [q] at h; exact fun σ' F' H' O' y st' => h F' H' O' y
      | rt d => rw [q] at h; exact h.elim
      | bk g' => rw [q] at h; exact h.elim
      | ct g' => rw [q] at h; exact h.elim
      | bad => rw [q] at h; exact h.elim

theorem putF_new : ∀ {ns : List Str} {vs : List V} {f : Str} {y : V}, ns.Nodup → vs.length ≤ ns.length → ns[vs.length]? = some f → putF f y (ns.zip vs) = ns.zip (vs ++ [y])
  | [], vs, f, y, _, hl, h => by simp at h
  | n :: ns, [], f, y, _, _, h => by
    simp at h
    subst h
    simp [putF]
  | n :: ns, v :: vs, f, y, nd, hl, h => by
    obtain ⟨a1, a2⟩ := List.nodup_cons.mp nd
    have h' : ns[vs.length]? = some f := by simpa using h
    have ne : ¬ n = f := fun e => a1 (e ▸ List.mem_of_getElem? h')
    rw [List.zip_cons_cons, List.cons_append, List.zip_cons_cons]
    show (if n = f then (n, y) :: ns.zip vs else (n, v) :: putF f y (ns.zip vs)) = _
    rw [if_neg ne, putF_new a2 (by simpa using hl) h']
def sFld (i c j : Nat) (fa : Env → Res D) : Env → Out := fun g => ((fa g).bind kp).st g fun d => match (g : List D)[i]? with
  | some (D.oo o c' ds) => if c' = c ∧ ds.length = j then .nx (g.set i (.oo o c (ds ++ [d]))) else .bad
  | _ => .bad
@[simp] theorem sFld_ (i c j : Nat) (fa : Env → Res D) (g : Env) : sFld i c j fa g = ((fa g).bind kp).st g fun d => match (g : List D)[i]? with
  | some (D.oo o c' ds) => if c' = c ∧ ds.length = j then .nx (g.set i (.oo o c (ds ++ [d]))) else .bad
  | _ => .bad := rfl
theorem js_fld {i c j : Nat} {C : Addr} {ns : List Str} {f x : Str} {npos pos' : Pos} (T : ClsOk X.K cls c C ns) (hj : ns[j]? = some f) (hj9 : j < 1000) (hN : X.N[i]? = some x) (hv : Vis X.env.scope x) (ha : JE X cls W a fa)
    (hd : (x == ("__debug__" : Str)) = false := by decide) (hcd : (x == ("__classdict__" : Str)) = false := by decide)
    (hs : swapsWith a (some (.Attribute (.Name x npos) f pos')) pos.line X.env = pure false := by rfl) : JS X cls W (.Assign [.Attribute (.Name x npos) f pos'] a pos) (sFld i c j fa) := by
  obtain ⟨t, p, d⟩ := ha.ex
  refine ⟨_, ps_fld (pe_var hN hv hd hcd) p hs, ?_⟩
  intro D σ F H g O s st p
  rw [sFld_] at p
  refine d.goS s st p fun dd e p v F1 H1 O2 xx fr w => ?_
  split at p
  · rename_i o c' ds eg
    split at p
    · rename_i hc
      obtain ⟨hc1, hc2⟩ := hc
      subst hc1
      obtain ⟨P, h1, h2, h3, _⟩ := st.at i (List.getElem?_eq_some_iff.mp eg).1
      rcases h2 with ⟨h2, _⟩ | ⟨v0, d0, h2, h2', ow⟩
      · rw [eg] at h2; cases h2
      · rw [eg] at h2'; cases h2'
        cases ow with
        | sh r => cases r
        | @oo _ q C' dx _ ns' vs _ O1 ho hcl f1 f2 hl f3 f4 =>
          have := hcl.symm.trans T.e
          cases this
          have hlen : vs.length = ds.length := f4.len
          have hf : F1 q = none := xx.ow q f1 (by rw [f2]; exact fun e => nomatch e)
          have hq : H1 q = some (.ins C dx (ns.zip vs)) := xx.hh _ _ f2
          refine ⟨.ref q, h2, q, C, dx, ns.zip vs, rfl, hq, T.cl, T.na f (List.mem_of_getElem? hj), ?_, ?_⟩
          · rw [List.length_zip]; omega
          · rw [putF_new T.nd hl (by rw [hlen, hc2]; exact hj)]
            have dj : ∀ a ∈ O1, a ∉ O2 := fun a q1 q2 => (f4.dom a q1).2 (fr a q2)
            have nq : q ∉ O1 ++ O2 := fun z => by
              rcases List.mem_append.mp z with z | z
              · exact f3 z
              · have := fr q z; rw [f2] at this; cases this
            have wv := (f4.ext xx).snoc w dj
            have hle : (vs ++ [v]).length ≤ ns.length := by
              have := (List.getElem?_eq_some_iff.mp hj).1
              rw [List.length_append, List.length_singleton]; omega
            have up : ∀ b, b ≠ q → upd H1 q (.ins C dx (ns.zip (vs ++ [v]))) b = H1 b := fun b hb => upd_ne hb
            obtain ⟨O'', q1, q2⟩ := h3 F1 (upd H1 q (.ins C dx (ns.zip (vs ++ [v])))) (.ref q) (.oo o c' (ds ++ [dd])) (q :: (O1 ++ O2)) (fun b hb hn => by
                obtain ⟨e1, e2⟩ := xx.get (st.dom b hb).1 (st.dom b hb).2
                exact ⟨(up b fun z => hn (by simp [z])).trans e1, e2⟩) xx.ff
              (.oo ho hcl hf upd_same hle nq (wv.frame (.refl F1) fun a ha => ⟨up a fun z => nq (z ▸ ha), (wv.dom a ha).1⟩)) (fun a ha hO => by
                rcases List.mem_cons.mp ha with rfl | ha
                · simp
                · rcases List.mem_append.mp ha with z | z
                  · simp [z]
                  · exact absurd (fr a z) (st.dom a hO).2)
            rw [set_self h2] at q1
            refine p σ F1 _ O'' ⟨xx.ff, fun b o e => ?_, fun b o e hn => ?_, fun b h1 h2 _ => xx.ow b h1 h2, fun b hb => ?_⟩ q1
            · rw [up b fun z => by rw [z, hf] at e; cases e]; exact xx.fh b o e
            · rw [up b fun z => hn (z ▸ h1 q (by simp))]; exact xx.hh b o e
            · rcases q2 b hb with z | z
              · exact .inl z
              · rcases List.mem_cons.mp z with rfl | z
                · exact .inl (h1 _ (by simp))
                · rcases List.mem_append.mp z with z | z
                  · exact .inl (h1 b (by simp [z]))
                  · exact .inr (fr b z)
    · exact p.elim
  · exact p.elim

theorem run_makeS {k : Nat} {f C : Addr} {fd : FuncData} {ps : List Str} {sp : Sp} {E : XK} {pins : List (Addr × Obj)} {s : Shared} {us : List Value} {vs : List V} {CXx : CXT} (M : Mk X.K C f) (G : FnOk X.prog X.w X.K X.mg X.base CXx k f fd ps sp) (hr : Room (k + 1) X.A) (hb : Binds X.K fd ps [])
    (hx : PassesAt CXx X σ E) (hx2 : ∀ H' s' e s'', Inv X pins σ H s → Inv X pins σ H' s' → CXx X.stack H' s' E e s'' → X.xe e s'') (I : Inv X pins σ H s) (r : Vals vs us)
    (h : ∀ x dx, H x = none → H dx = none → dx ≠ x → sp (.ref x :: vs) (upd (upd H dx (.own x)) x (.ins C dx [])) (fun v H2 => v = .non ∧ Q (.ref x) H2) E) :
    wpAny (model X.prog X.w) X.A (call (.ref C) us) (EP X pins σ Q) X.xe s := by
  have hq := h (s.heap.objs.size + 1) s.heap.objs.size (I.hok.fresh (Nat.le_succ _)) (I.hok.fresh (Nat.le_refl _)) (Nat.ne_of_lt (Nat.lt_succ_self _))
  have I2 := Inv.made (C := C) I
  have r2 : Vals (V.ref (s.heap.objs.size + 1) :: vs) (Value.ref (s.heap.objs.size + 1) :: us) := .cons rfl r
  have hl : (Value.ref (s.heap.objs.size + 1) :: us ++ []).length = ps.length := by
    have e := r2.length
    rw [G.len _ _ _ _ hq] at e
    rw [List.append_nil]
    exact e.symm
  refine wpAny_call (make_map (f := f) I.kIn M.makes M.init (beq_iff_eq.mp M.fn) (codeAny_mono (G.run _ X.stack _ _ ⟨Value.ref (s.heap.objs.size + 1) :: us, []⟩ (Value.ref (s.heap.objs.size + 1) :: us) _ _ E (hr.make C us [])
    (I2.env0.make C us []) (by have := hb _ (Value.ref (s.heap.objs.size + 1) :: us) I2.kIn hl; rw [List.append_nil] at this; exact this) r2 hq) fun r s' hq' => ?_))
  cases r with
  | error e => exact hx2 _ _ e s' I I2 hq'
  | ok fl =>
    cases fl with
    | ret u =>
      obtain ⟨v, H', I3, rv, ev, q3⟩ := I2.after hq'
      subst ev
      exact ⟨rv, ⟨V.ref (s.heap.objs.size + 1), H', I3, rfl, q3⟩⟩
    | next => exact False.elim hq'
    | brk => exact False.elim hq'
    | cont => exact False.elim hq'
def tMakeS (C : Addr) (sp : Sp) (E : St → XK) (t : TA) : TE := fun σ H Q => t σ H fun vs H1 => ∀ x dx, H1 x = none → H1 dx = none → dx ≠ x →
  sp (.ref x :: vs) (upd (upd H1 dx (.own x)) x (.ins C dx [])) (fun v H2 => v = .non ∧ Q (.ref x) H2) (E σ)
theorem pe_makeS {k : Nat} {f C : Addr} {fd : FuncData} {ps : List Str} {sp : Sp} {x : Str} {p : Pos} {t : TA} (M : Mk X.K C f) (G : FnOk X.prog X.w X.K X.mg X.base (L2.CX X.prog X.w) k f fd ps sp) (hr : Room (k + 1) X.A) (hg : Gl X x) (hm : X.mg x = some (.ref C)) (hb : Binds X.K fd ps [])
    (tk : Takes X W) (ha : PA X (e :: es) t) (hdb : (x == ("__debug__" : Str)) = false := by decide) (he : starEach (e :: es) X.env = (false, eval e X.env) :: starEach es X.env := by rfl) (hpl : (backTo pos (starEach es X.env)).any (·.1) = false := by rfl) :
    PE X (.Call (.Name x p) (e :: es) [] pos) (tMakeS C sp (fun σ => WE W σ) t) := by
  refine ⟨fun pins s σ H Q I h => ?_⟩
  refine wpAny_Call_Name_kw (ld_glob I hg hm ?_ hdb)
  refine PySem.W.callWith_K (h₀ := X.base) I.ok.mod.kin M.kp (thn (ha.run pos pins s σ H _ I h) fun us s1 ⟨vs, H1, I1, r, q⟩ => ⟨I1.kIn, ?_⟩) he hpl
  exact run_makeS M G hr hb (passAt tk σ) (fun H' s' e s'' _ I2 c => passAt tk σ pins H' s' e s'' I2 c) I1 r q
def eMkF (c : Nat) (g : List D → Res (List D)) (fs : Env → Res (List D)) : Env → Res D := fun e => (fs e).bind fun ds => if shd ds = true then (g ds).bind fun fl => if nods fl = true then .ok (.ob c (frzs fl)) else .bad else .bad
@[simp] theorem eMkF_ (c : Nat) (g : List D → Res (List D)) (fs : Env → Res (List D)) (e : Env) : eMkF c g fs e = (fs e).bind fun ds => if shd ds = true then (g ds).bind fun fl => if nods fl = true then .ok (.ob c (frzs fl)) else .bad else .bad := rfl
theorem je_make {k c n : Nat} {f C : Addr} {fd : FuncData} {ps ns : List Str} {g : List D → Res (List D)} {x : Str} {p : Pos} (cn : Cn X W (k + 1)) (hcl : cls c = some (C, ns)) (M : Mk X.K C f) (G : FnOk X.prog X.w X.K X.mg X.base (L2.CX X.prog X.w) k f fd ps (spI X.K cls c n g))
    (hm : X.mg x = some (.ref C)) (hb : Binds X.K fd ps []) (ha : JA X cls W (e :: es) fs) (hn : ∀ g ds, fs g = .ok ds → ds.length = n) (hg : Gl X x := by rfl)
    (hdb : (x == ("__debug__" : Str)) = false := by decide) (he : starEach (e :: es) X.env = (false, eval e X.env) :: starEach es X.env := by rfl) (hpl : (backTo pos (starEach es X.env)).any (·.1) = false := by rfl) :
    JE X cls W (.Call (.Name x p) (e :: es) [] pos) (eMkF c g fs) := by
  obtain ⟨ta, pa, da⟩ := ha.ex
  refine ⟨_, pe_makeS M G cn.hr hg hm hb cn.tk pa hdb he hpl, ?_⟩
  intro σ F H env O Q s st p
  rw [eMkF_] at p
  refine da.go s st (fun c e => by rw [e] at p; exact p) (fun e => by rw [e] at p; exact p) fun ds e vs F1 H1 x1 b1 => ?_
  rw [e, Res.bind_ok] at p
  split at p
  · rename_i hsh
    intro x dx hx hdx hne
    have r1 := b1.toRps hsh
    have nF : ∀ {a : Addr}, H1 a = none → F1 a = none := fun {a} h => by
      cases q : F1 a with
      | none => rfl
      | some u => rw [x1.fh a u q] at h; cases h
    have sF : Same F1 (upd (upd H1 dx (.own x)) x (.ins C dx [])) := fun b o q => by
      rw [upd_ne (fun z => by rw [z, nF hx] at q; cases q), upd_ne (fun z => by rw [z, nF hdx] at q; cases q)]
      exact x1.fh b o q
    have sH : Same H1 (upd (upd H1 dx (.own x)) x (.ins C dx [])) := fun b o q => by
      rw [upd_ne (ne_of_none q hx), upd_ne (ne_of_none q hdx)]
      exact q
    refine ⟨F1, x, C, dx, ns, vs, ds, rfl, hcl, sF, nF hx, upd_same, r1, hn env ds e, ?_⟩
    have ext : ∀ {F' H' O'}, SExt F1 (upd (upd H1 dx (.own x)) x (.ins C dx [])) [x] F' H' O' → Ext F H F' H' := fun {F' H' O'} y =>
      ⟨x1.ff.trans y.ff, fun b o q => by
        have q1 := x1.hh b o q
        exact y.fr b o (sH b o q1) (by simp; exact ne_of_none q1 hx), y.fh, fun b h1 h2 => by
        have h3 := x1.ow b h1 h2
        have h4 : H1 b ≠ none := x1.some h2
        have h5 : b ≠ x := fun z => h4 (z ▸ hx)
        refine y.ow b h3 ?_ (by simp; exact h5)
        cases q : H1 b with
        | none => exact (h4 q).elim
        | some o => rw [sH b o q]; exact fun e => nomatch e⟩
    cases eg : g ds with
    | bad => rw [eg] at p; exact p.elim
    | xc e => rw [eg] at p; exact fun F' H' O' y => p F' H' (ext y)
    | ok fl =>
      rw [eg, Res.bind_ok] at p
      intro F' H' O' y w
      refine ⟨rfl, ?_⟩
      split at p
      · rename_i n
        have fr : Fresh H O' := fun a ha => by
          rcases y.oo a ha with z | z
          · simp at z; subst z; exact x1.hh.free hx
          · exact x1.hh.free (sH.free z)
        have no : ∀ a ∈ O', F' a = none := fun a ha => (w.dom a ha).1
        have z := w.freeze (addF_same no) addF_at (show nod (.oo none c fl) = true from n)
        exact p _ _ H' [] (addF_ext (ext y) fr no) Fresh.nil (.inl (.sh z))
      · exact p.elim
  · exact p.elim

def unO (i : Nat) : Out → Out
  | .nx g => .nx (g.set i .un)
  | .bk g => .bk (g.set i .un)
  | .ct g => .ct (g.set i .un)
  | .rt d => .rt d
  | .xc _ _ => .bad
  | .bad => .bad
def sTry (fb : Env → Out) (fh : Nat → Env → Out) : Env → Out := fun g => match fb g with
  | .xc c g' => fh c g'
  | o => o
@[simp] theorem sTry_ (fb : Env → Out) (fh : Nat → Env → Out) (g : Env) : sTry fb fh g = match fb g with
  | .xc c g' => fh c g'
  | o => o := rfl
theorem Sts.unset (s : Same F H) {g : Env} (st : Sts K cls F H σ g O) (i : Nat) : ∃ O', Sts K cls F H (σ.set i none) (g.set i .un) O' ∧ ∀ a ∈ O', a ∈ O := st.wipe s [i]
theorem js_try {i k : Nat} {n x : Str} {C : Addr} {body suite : List Stmt} {b0 : Stmt} {np pos' : Pos} {fbo : Env → Out} {fs : Nat → Addr → Env → Out} {fh : Nat → Env → Out} (cn : Cn X W k) (hs : X.stack = X.env :: X.outer) (hf : X.env.frame = some X.env.locals) (hi : X.N[i]? = some n) (hln : X.env.kindOf n = some .local)
    (hx : X.mg x = some (.ref C)) (hcatch : ∀ c g, fh c g ≠ .bad → PySem.W.exmOne X.K (excV cls c) (.ref C) = some true)
    (hb : ∀ (W : WX) (pn : List (Addr × Obj)) (xe : Value → Shared → Prop), Cn (X.tr pn xe) W k → JSs (X.tr pn xe) cls W body fbo)
    (hsu : ∀ (c : Nat) (a : Addr) (oe : Obj) (pn : List (Addr × Obj)), Zc (excV cls c) none oe → (∃ vs, oe.data = .fields vs) → JSs (X.suite a ((a, oe) :: pn)) cls W0 (b0 :: suite) (fs c a))
    (heq : ∀ c a g, fh c g = .bad ∨ unO i (fs c a (g.set i (.rf a))) = fh c g) (hg : Gl X x := by rfl) (hdb : (x == ("__debug__" : Str)) = false := by decide) :
    JS X cls W (.Try body [.ExceptHandler (some (.Name x np)) (some n) (b0 :: suite) pos'] [] [] pos) (sTry fbo fh) := by
  refine ⟨_, ps_try_as (i := i) (tb := fun W => cS X.K cls fbo W) (ts := fun a c d D σ H => ∃ ci, c = excV cls ci ∧ d = none ∧ cS X.K cls (fs ci a) W0 D σ H) (Wout := W) hs hf cn.nd hi hln ⟨hg, hdb, .inl hx⟩ cn.tk
    (fun W' pn xe tk hp => (hb W' pn xe ⟨tk, hp, cn.calm, cn.nd, cn.hr⟩).canon) (fun a oe c d pn hz hd => ?_), ?_⟩
  · refine ⟨fun pins s σ H D I q => ?_⟩
    obtain ⟨ci, rfl, rfl, q⟩ := q
    exact (hsu ci a oe pn hz hd).canon.run pins s σ H D I q
  · intro D σ F H g O s st p
    rw [sTry_] at p
    refine ⟨F, g, O, s, st, ?_⟩
    cases eb : fbo g with
    | nx g' => rw [eb] at p; exact p
    | rt d => rw [eb] at p; exact p
    | bk g' => rw [eb] at p; exact p
    | ct g' => rw [eb] at p; exact p
    | bad => rw [eb] at p; exact p
    | xc c g' =>
      rw [eb] at p
      have p : PostS X.K cls W D F H O (fh c g') := p
      have nb : fh c g' ≠ .bad := fun z => by rw [z] at p; exact p
      intro σ' F' H' O' y st'
      refine ⟨true, hcatch c g' nb, fun _ a ha => ⟨c, rfl, rfl, ?_⟩, fun q => nomatch q⟩
      have e : unO i (fs c a (g'.set i (.rf a))) = fh c g' := (heq c a g').resolve_left nb
      obtain ⟨O2, z1, z2⟩ := st'.putS (i := i) y.fh (.rf a)
      refine ⟨F', g'.set i (.rf a), O2, y.fh, z1, ?_⟩
      rw [← e] at p
      have y2 := y.trans z2
      cases es : fs c a (g'.set i (.rf a)) with
      | nx g2 =>
        rw [es] at p
        intro σ3 F3 H3 O3 y3 st3
        obtain ⟨O4, w1, w2⟩ := st3.unset y3.fh i
        exact p _ F3 H3 O4 ((y2.trans y3).trans ⟨.refl F3, y3.fh, fun _ _ h _ => h, fun _ h _ _ => h, fun a ha => .inl (w2 a ha)⟩) w1
      | bk g2 =>
        rw [es] at p
        intro σ3 F3 H3 O3 y3 st3
        obtain ⟨O4, w1, w2⟩ := st3.unset y3.fh i
        exact p _ F3 H3 O4 ((y2.trans y3).trans ⟨.refl F3, y3.fh, fun _ _ h _ => h, fun _ h _ _ => h, fun a ha => .inl (w2 a ha)⟩) w1
      | ct g2 =>
        rw [es] at p
        intro σ3 F3 H3 O3 y3 st3
        obtain ⟨O4, w1, w2⟩ := st3.unset y3.fh i
        exact p _ F3 H3 O4 ((y2.trans y3).trans ⟨.refl F3, y3.fh, fun _ _ h _ => h, fun _ h _ _ => h, fun a ha => .inl (w2 a ha)⟩) w1
      | rt d => rw [es] at p; exact fun v F3 H3 O3 y3 w => p v F3 H3 O3 (y2.trans y3) w
      | xc c2 g2 => rw [es] at p; exact p.elim
      | bad => rw [es] at p; exact p.elim
def eIs (i : Nat) (a : Addr) (b : Bool) : Env → Res D := fun g => match (g : List D)[i]? with
  | some (D.rf a') => if a' = a then .ok (.bl b) else .bad
  | _ => .bad
@[simp] theorem eIs_ (i : Nat) (a : Addr) (b : Bool) (g : Env) : eIs i a b g = match (g : List D)[i]? with
  | some (D.rf a') => if a' = a then .ok (.bl b) else .bad
  | _ => .bad := rfl
theorem je_is {ad D1 : Addr} {oe : Obj} {pn : List (Addr × Obj)} {i : Nat} {n : Str} {bb : Bool} {p p1 : Pos} {ec : Expr} {cv : V} {cu : Value} (C : ExcC X.K D1) (hz : Zc (.ref D1) none oe) (hf : ∃ vs, oe.data = .fields vs) (hm : X.mg "isinstance" = none)
    (hN : X.N[i]? = some n) (hv : Vis X.env.scope n) (hd : (n == ("__debug__" : Str)) = false := by decide) (hcd : (n == ("__classdict__" : Str)) = false := by decide)
    (hc : PE (X.suite ad ((ad, oe) :: pn)) ec (tC cv)) (hcv : ∀ u, RelV cv u → u = cu) (hk : PySem.W.kitOne X.K (.ref D1) cu = some bb) (hg : Gl X "isinstance" := by rfl)
    (he : starEach [.Name n p1, ec] X.env = (false, eval (.Name n p1) X.env) :: starEach [ec] X.env := by rfl) (he2 : starEach [ec] X.env = (false, eval ec X.env) :: starEach [] X.env := by rfl) (hpl : (backTo pos (starEach [ec] X.env)).any (·.1) = false := by rfl) :
    JE (X.suite ad ((ad, oe) :: pn)) cls W0 (.Call (.Name "isinstance" p) [.Name n p1, ec] [] pos) (eIs i ad bb) := by
  refine ⟨_, pe_callB (call_isE C hz hf) hg hm (by decide +kernel) (pa_cons (pe_var hN hv hd hcd) (pa_cons hc pa_nil he2) he) (by decide) (by decide) he hpl, ?_⟩
  intro σ F H g O Q s st p
  rw [eIs_] at p
  split at p
  · rename_i a' eg
    split at p
    · rename_i ea
      subst ea
      obtain ⟨P, _, h2, _⟩ := st.at i (List.getElem?_eq_some_iff.mp eg).1
      rcases h2 with ⟨h2, _⟩ | ⟨v, d, h2, h2', ow⟩
      · rw [eg] at h2; cases h2
      · rw [eg] at h2'; cases h2'
        cases ow with
        | sh r =>
          cases r
          exact ⟨_, h2, cv, cu, bb, rfl, hcv, hk, p _ F H [] (.refl s) Fresh.nil (.inl (.sh (.bl bb)))⟩
    · exact p.elim
  · exact p.elim
end
end DL

namespace DL
open PySem L2
section
variable {K : PySem.W.Frag} {cls : Cls} {W : WX} {X : Cx} {F H F' H' F1 H1 : Hp} {O O1 : List Addr} {Q : VK} {σ : St} {a b e tg iter elt : Expr} {es : List Expr} {fa fb fc : Env → Res D} {ga gb : Env → Res Bool} {fs : Env → Res (List D)} {pos : Pos}
theorem js_setN {i : Nat} {x : Str} {pos' : Pos} (nd : X.N.Nodup) (hi : X.N[i]? = some x) (hx : Loc X.env.scope x) (ha : JE X cls W a fa) (hs : swapsWith a (some (.Name x pos')) pos.line X.env = pure false := by rfl)
    (hf : X.fn x = true ∨ X.env.scope.names.lookup x = some .local := by first | exact .inl rfl | exact .inr rfl) : JS X cls W (.Assign [.Name x pos'] a pos) (sAsg i fa) := by
  obtain ⟨t, p, d⟩ := ha.ex
  exact ⟨_, ps_set nd hi hx p hs hf, ds_asg d⟩
end
theorem law_sp {K : PySem.W.Frag} {cls : Cls} {g : List D → Res D} {H : Hp} {a : Addr} {ns : List Int} (h : g [.sc (ns.map D.int)] = .ok (.bl true)) (hS : SqL K H a (ns.map V.int)) :
    spD K cls 1 g [.ref a] H (fun v _ => v = .bl true) fun _ _ _ => False := by
  refine ⟨H, [.sc (ns.map D.int)], .refl H, .cons (.sc hS rps_ints) .nil, rfl, ?_⟩
  rw [h]
  intro v F' H' O' _ _ w
  cases w with
  | sh r => cases r; rfl
theorem law_cx {P : Program} {w : World} {H : Hp} {s : Shared} {e : Value} {s' : Shared} (h : L2.CX P w [] H s (fun _ _ _ => False) e s') : False := by
  obtain ⟨_, _, _, _, _, _, _, _, _, _, _, _, z⟩ := h
  exact z
end DL

namespace DL
open PySem L2
@[simp] theorem brw_un : brw .un = .un := rfl
@[simp] theorem brw_non : brw .non = .non := rfl
@[simp] theorem brw_bl {b} : brw (.bl b) = .bl b := rfl
@[simp] theorem brw_int {b} : brw (.int b) = .int b := rfl
@[simp] theorem brw_str {b} : brw (.str b) = .str b := rfl
@[simp] theorem brw_sc {b} : brw (.sc b) = .sc b := rfl
@[simp] theorem brw_ls {b} : brw (.ls b) = .ls b := rfl
@[simp] theorem brw_tp {b} : brw (.tp b) = .tp b := rfl
@[simp] theorem brw_ob {c b} : brw (.ob c b) = .ob c b := rfl
@[simp] theorem brw_ol {b} : brw (.ol b) = .bo (brws b) := rfl
@[simp] theorem brw_od {k b} : brw (.od k b) = .bd k (brws b) := rfl
@[simp] theorem brw_oo {o c b} : brw (.oo o c b) = .bb c (brws b) := rfl
@[simp] theorem brw_rf {b} : brw (.rf b) = .rf b := rfl
@[simp] theorem brws_nil : brws [] = [] := rfl
@[simp] theorem brws_cons {d ds} : brws (d :: ds) = brw d :: brws ds := rfl
@[simp] theorem frz_un : frz .un = .un := rfl
@[simp] theorem frz_non : frz .non = .non := rfl
@[simp] theorem frz_bl {b} : frz (.bl b) = .bl b := rfl
@[simp] theorem frz_int {b} : frz (.int b) = .int b := rfl
@[simp] theorem frz_str {b} : frz (.str b) = .str b := rfl
@[simp] theorem frz_sc {b} : frz (.sc b) = .sc b := rfl
@[simp] theorem frz_ls {b} : frz (.ls b) = .ls b := rfl
@[simp] theorem frz_tp {b} : frz (.tp b) = .tp b := rfl
@[simp] theorem frz_ob {c b} : frz (.ob c b) = .ob c b := rfl
@[simp] theorem frz_ol {b} : frz (.ol b) = .ls (frzs b) := rfl
@[simp] theorem frz_oo {o c b} : frz (.oo o c b) = .ob c (frzs b) := rfl
@[simp] theorem frz_od {k b} : frz (.od k b) = .od k b := rfl
@[simp] theorem frzs_nil : frzs [] = [] := rfl
@[simp] theorem frzs_cons {d ds} : frzs (d :: ds) = frz d :: frzs ds := rfl
@[simp] theorem pln_bo {b} : pln (.bo b) = .ls (plns b) := rfl
@[simp] theorem pln_int {b} : pln (.int b) = .int b := rfl
@[simp] theorem pln_ls {b} : pln (.ls b) = .ls b := rfl
@[simp] theorem pln_sc {b} : pln (.sc b) = .sc b := rfl
@[simp] theorem pln_tp {b} : pln (.tp b) = .tp b := rfl
@[simp] theorem pln_bl {b} : pln (.bl b) = .bl b := rfl
@[simp] theorem pln_str {b} : pln (.str b) = .str b := rfl
@[simp] theorem pln_non : pln .non = .non := rfl
@[simp] theorem pln_ob {c b} : pln (.ob c b) = .ob c b := rfl
@[simp] theorem plns_nil : plns [] = [] := rfl
@[simp] theorem plns_cons {d ds} : plns (d :: ds) = pln d :: plns ds := rfl
def dull : D → Prop := fun d => brw d = d ∧ frz d = d ∧ pln d = d ∧ nod d = true ∧ shd1 d = true ∧ plok d = true
theorem dulls {α : Type} {f : α → D} (h : ∀ a, dull (f a)) : ∀ l : List α, brws (l.map f) = l.map f ∧ frzs (l.map f) = l.map f ∧ plns (l.map f) = l.map f ∧ nods (l.map f) = true ∧ shd (l.map f) = true ∧ ploks (l.map f) = true
  | [] => ⟨rfl, rfl, rfl, rfl, rfl, rfl⟩
  | a :: l => by
    obtain ⟨h1, h2, h3, h4, h5, h6⟩ := dulls h l
    obtain ⟨k1, k2, k3, k4, k5, k6⟩ := h a
    refine ⟨?_, ?_, ?_, ?_, ?_, ?_⟩
    · simp [h1, k1]
    · simp [h2, k2]
    · simp [h3, k3]
    · simp [h4, k4]
    · simp [h5, k5]
    · simp [h6, k6]
theorem dull_int (i : Int) : dull (.int i) := ⟨rfl, rfl, rfl, rfl, rfl, rfl⟩
theorem dull_bl (i : Bool) : dull (.bl i) := ⟨rfl, rfl, rfl, rfl, rfl, rfl⟩
@[simp] def dP (p : Int × Int) : D := .tp [.int p.1, .int p.2]
theorem dull_P (p : Int × Int) : dull (dP p) := ⟨rfl, rfl, rfl, rfl, rfl, rfl⟩
def dT (l : List Int) : D := .tp (l.map D.int)
def dL (l : List Int) : D := .ls (l.map D.int)
theorem dull_T (l : List Int) : dull (dT l) := ⟨rfl, rfl, rfl, rfl, rfl, rfl⟩
theorem dull_L (l : List Int) : dull (dL l) := ⟨rfl, rfl, rfl, rfl, rfl, rfl⟩
section
variable (l : List Int)
@[simp] theorem brws_I : brws (l.map D.int) = l.map D.int := (dulls dull_int l).1
@[simp] theorem frzs_I : frzs (l.map D.int) = l.map D.int := (dulls dull_int l).2.1
@[simp] theorem plns_I : plns (l.map D.int) = l.map D.int := (dulls dull_int l).2.2.1
@[simp] theorem nods_I : nods (l.map D.int) = true := (dulls dull_int l).2.2.2.1
@[simp] theorem shd_I : shd (l.map D.int) = true := (dulls dull_int l).2.2.2.2.1
@[simp] theorem ploks_I : ploks (l.map D.int) = true := (dulls dull_int l).2.2.2.2.2
@[simp] theorem flats_I : flats (l.map D.int) = true := by
  induction l with
  | nil => rfl
  | cons a l ih => simp [ih]
end
section
variable (l : List (Int × Int))
@[simp] theorem brws_P : brws (l.map dP) = l.map dP := (dulls dull_P l).1
@[simp] theorem frzs_P : frzs (l.map dP) = l.map dP := (dulls dull_P l).2.1
@[simp] theorem plns_P : plns (l.map dP) = l.map dP := (dulls dull_P l).2.2.1
@[simp] theorem nods_P : nods (l.map dP) = true := (dulls dull_P l).2.2.2.1
@[simp] theorem shd_P : shd (l.map dP) = true := (dulls dull_P l).2.2.2.2.1
@[simp] theorem ploks_P : ploks (l.map dP) = true := (dulls dull_P l).2.2.2.2.2
end
@[simp] theorem atI_map {α β : Type} (f : α → β) (l : List α) (i : Int) : atI (l.map f) i = (atI l i).map f := by
  unfold atI
  rw [List.length_map]
  cases ixN l.length i with
  | none => rfl
  | some j => simp
theorem atI_of {α : Type} {l : List α} {i : Int} (h0 : 0 ≤ i) (h1 : i < l.length) : ∃ a, atI l i = some a ∧ l[i.toNat]? = some a := by
  have h : i.toNat < l.length := by omega
  refine ⟨l[i.toNat], ?_, by simp [h]⟩
  unfold atI ixN
  rw [if_pos h0, if_pos h1]
  simp [h]
theorem atI_natG {α : Type} {l : List α} {j : Nat} {i : Int} (e : i = (j : Int)) (h : j < l.length) : atI l i = l[j]? := by
  subst e
  unfold atI ixN
  rw [if_pos (by omega), if_pos (by omega)]
  simp
theorem ixN_nat {n : Nat} {i : Int} (h0 : 0 ≤ i) (h1 : i < n) : ixN n i = some i.toNat := by
  unfold ixN
  rw [if_pos h0, if_pos h1]
end DL

namespace DL
open PySem L2
def e60 : Int := 10 ^ 60
@[simp] theorem e60_pos : 0 < e60 := by decide
section
variable {a b i j : Int} {x y : Str} {xs ys : List D} {k l : Bool} {d e : D} {ks : List Key} {c n : Nat}
@[simp] theorem caLen_sc : caLen [.sc xs] = some (.int xs.length) := rfl
@[simp] theorem caLen_ls : caLen [.ls xs] = some (.int xs.length) := rfl
@[simp] theorem caLen_bo : caLen [.bo xs] = some (.int xs.length) := rfl
@[simp] theorem caLen_tp : caLen [.tp xs] = some (.int xs.length) := rfl
@[simp] theorem opIx_sc : opIx (.sc xs) (.int i) = atI xs i := rfl
@[simp] theorem opIx_ls : opIx (.ls xs) (.int i) = atI xs i := rfl
@[simp] theorem opIx_bo : opIx (.bo xs) (.int i) = atI xs i := rfl
@[simp] theorem opIx_tp : opIx (.tp xs) (.int i) = atI xs i := rfl
@[simp] theorem atI_two0 {α : Type} {p q : α} : atI [p, q] 0 = some p := rfl
@[simp] theorem atI_two1 {α : Type} {p q : α} : atI [p, q] 1 = some q := rfl
theorem opPow_eq : opPow (.int i) (.int j) = if CPow i j then some (.int (i ^ j.toNat)) else none := rfl
theorem opMod_eq : opMod (.int i) (.int j) = if j ≠ 0 then some (.int (if 0 < j then i % j else i.fmod j)) else none := rfl
theorem opDiv_eq : opDiv (.int i) (.int j) = if divOk j then some (.int (if 0 < j then i / j else i.fdiv j)) else none := rfl
theorem opMul_eq : opMul (.int i) (.int j) = if mulOk i j then some (.int (i * j)) else none := rfl
theorem opMul_ls : opMul (.ls xs) (.int i) = if i < 2 ^ 63 ∧ -(2 ^ 63) ≤ i ∧ xs.length * i.toNat ≤ lim then some (.ol (List.replicate i.toNat xs).flatten) else none := rfl
theorem caMax2_eq : caMax2 [.int a, .int b] = some (.int (if b > a then b else a)) := rfl
theorem caMin2_eq : caMin2 [.int a, .int b] = some (.int (if b < a then b else a)) := rfl
theorem caAbs_eq : caAbs [.int a] = some (.int (if a < 0 then -a else a)) := rfl
@[simp] theorem opPow_c : opPow (.int 10) (.int 60) = some (.int e60) := by
  rw [opPow_eq, if_pos (by unfold CPow; decide)]
  rfl
@[simp] theorem opMod_pos (h : 0 < b) : opMod (.int a) (.int b) = some (.int (a % b)) := by
  rw [opMod_eq, if_pos (by omega), if_pos h]
theorem divOk_small (h0 : b ≠ 0) (h : b.natAbs < 1073741824) : divOk b := ⟨h0, .inl h⟩
@[simp] theorem opDiv_pos (h : 0 < b) (h' : b < 1073741824) : opDiv (.int a) (.int b) = some (.int (a / b)) := by
  rw [opDiv_eq, if_pos (divOk_small (by omega) (by omega)), if_pos h]
@[simp] theorem opMul_l (h : -18446744073709551616 < a) (h' : a < 18446744073709551616) : opMul (.int a) (.int b) = some (.int (a * b)) := by
  rw [opMul_eq, if_pos (.inl (.inl ⟨by omega, by omega⟩))]
@[simp] theorem opMul_r (h : -18446744073709551616 < b) (h' : b < 18446744073709551616) : opMul (.int a) (.int b) = some (.int (a * b)) := by
  rw [opMul_eq, if_pos (.inl (.inr ⟨by omega, by omega⟩))]
@[simp] theorem opAdd_int : opAdd (.int a) (.int b) = some (.int (a + b)) := rfl
@[simp] theorem opSub_int : opSub (.int a) (.int b) = some (.int (a - b)) := rfl
@[simp] theorem opNeg_int : opNeg (.int a) = some (.int (-a)) := rfl
@[simp] theorem opAdd_tp (h : xs.length + ys.length ≤ lim) : opAdd (.tp xs) (.tp ys) = some (.tp (xs ++ ys)) := if_pos h
@[simp] theorem opAdd_ll (h : xs.length + ys.length ≤ lim) : opAdd (.ls xs) (.ls ys) = some (.ol (xs ++ ys)) := if_pos h
theorem opAdd_lst {d e : D} (h1 : lsv d = some xs) (h2 : lsv e = some ys) (h : xs.length + ys.length ≤ lim) : opAdd d e = some (.ol (xs ++ ys)) := by
  have e1 : opAdd d e = opAddL d e := by cases d <;> first | rfl | cases h1
  rw [e1]
  unfold opAddL
  rw [h1, h2]
  exact if_pos h
@[simp] theorem opAdd_lb (h2 : shd ys = true) (h : xs.length + ys.length ≤ lim) : opAdd (.ls xs) (.bo ys) = some (.ol (xs ++ ys)) := opAdd_lst rfl (by simp [h2]) h
@[simp] theorem opAdd_bl (h2 : shd xs = true) (h : xs.length + ys.length ≤ lim) : opAdd (.bo xs) (.ls ys) = some (.ol (xs ++ ys)) := opAdd_lst (by simp [h2]) rfl h
@[simp] theorem opAdd_bb (h1 : shd xs = true) (h2 : shd ys = true) (h : xs.length + ys.length ≤ lim) : opAdd (.bo xs) (.bo ys) = some (.ol (xs ++ ys)) := opAdd_lst (by simp [h1]) (by simp [h2]) h
@[simp] theorem opAdd_str (h : x.length + y.length ≤ lim) : opAdd (.str x) (.str y) = some (.str (x ++ y)) := if_pos h
@[simp] theorem opMul_rep (h : 0 ≤ a) (h' : a ≤ 100000) (h2 : xs.length ≤ 10) : opMul (.ls xs) (.int a) = some (.ol (List.replicate a.toNat xs).flatten) := by
  have : xs.length * a.toNat ≤ lim := by
    unfold lim
    have h1 : a.toNat ≤ 100000 := by omega
    exact Nat.le_trans (Nat.mul_le_mul h2 h1) (by decide)
  rw [opMul_ls, if_pos ⟨by omega, by omega, this⟩]
@[simp] theorem cLt_int : cLt (.int a) (.int b) = some (decide (a < b)) := rfl
@[simp] theorem cLe_int : cLe (.int a) (.int b) = some (decide (a ≤ b)) := rfl
@[simp] theorem cGt_int : cGt (.int a) (.int b) = some (decide (b < a)) := rfl
@[simp] theorem cGe_int : cGe (.int a) (.int b) = some (decide (b ≤ a)) := rfl
@[simp] theorem cEq_int : cEq (.int a) (.int b) = some (decide (a = b)) := rfl
@[simp] theorem cEq_str : cEq (.str x) (.str y) = some (decide (x = y)) := rfl
@[simp] theorem cEq_bl : cEq (.bl k) (.bl l) = some (decide (k = l)) := rfl
@[simp] theorem cNe_int : cNe (.int a) (.int b) = some (!decide (a = b)) := rfl
@[simp] theorem cNe_str : cNe (.str x) (.str y) = some (!decide (x = y)) := rfl
@[simp] theorem cNe_bl : cNe (.bl k) (.bl l) = some (!decide (k = l)) := rfl
@[simp] theorem cIsN_non : cIsN .non .non = some true := rfl
@[simp] theorem cIsN_int : cIsN (.int a) .non = some false := rfl
@[simp] theorem cIsN_tp : cIsN (.tp xs) .non = some false := rfl
@[simp] theorem cIsN_ls : cIsN (.ls xs) .non = some false := rfl
@[simp] theorem cIsN_bo : cIsN (.bo xs) .non = some false := rfl
@[simp] theorem cIsN_ob : cIsN (.ob c xs) .non = some false := rfl
@[simp] theorem cIsN_str : cIsN (.str x) .non = some false := rfl
@[simp] theorem cNotN_non : cNotN .non .non = some false := rfl
@[simp] theorem cNotN_int : cNotN (.int a) .non = some true := rfl
@[simp] theorem cNotN_tp : cNotN (.tp xs) .non = some true := rfl
@[simp] theorem cNotN_ls : cNotN (.ls xs) .non = some true := rfl
@[simp] theorem cNotN_ob : cNotN (.ob c xs) .non = some true := rfl
@[simp] theorem caMax2_int : caMax2 [.int a, .int b] = some (.int (max a b)) := by
  rw [caMax2_eq, show (if b > a then b else a) = max a b by split <;> omega]
@[simp] theorem caMin2_int : caMin2 [.int a, .int b] = some (.int (min a b)) := by
  rw [caMin2_eq, show (if b < a then b else a) = min a b by split <;> omega]
@[simp] theorem caAbs_int : caAbs [.int a] = some (.int (a.natAbs : Int)) := by
  rw [caAbs_eq, show (if a < 0 then -a else a) = (a.natAbs : Int) by split <;> omega]
@[simp] theorem caInt_int : caInt [.int a] = some (.int a) := rfl
@[simp] theorem caInt_bl : caInt [.bl k] = some (.int (if k = true then 1 else 0)) := rfl
@[simp] theorem caList_ls : caList [.ls xs] = some (.ol xs) := rfl
@[simp] theorem caList_sc : caList [.sc xs] = some (.ol xs) := rfl
@[simp] theorem caList_tp : caList [.tp xs] = some (.ol xs) := rfl
@[simp] theorem caList_bo (h : shd xs = true) : caList [.bo xs] = some (.ol xs) := by simp [caList, h]
@[simp] theorem caTuple_ls : caTuple [.ls xs] = some (.tp xs) := rfl
@[simp] theorem caTuple_sc : caTuple [.sc xs] = some (.tp xs) := rfl
@[simp] theorem caTuple_tp : caTuple [.tp xs] = some (.tp xs) := rfl
@[simp] theorem caTuple_bo (h : shd xs = true) : caTuple [.bo xs] = some (.tp xs) := by simp [caTuple, h]
variable {ns : List Int}
@[simp] theorem caSum_ls : caSum [.ls (ns.map D.int)] = some (.int ns.sum) := by simp [caSum]
@[simp] theorem caSum_bo : caSum [.bo (ns.map D.int)] = some (.int ns.sum) := by simp [caSum]
@[simp] theorem caSum_sc : caSum [.sc (ns.map D.int)] = some (.int ns.sum) := by simp [caSum]
@[simp] theorem caSorted_ls : caSorted [.ls (ns.map D.int)] = some (.ol ((srt ns).map D.int)) := by simp [caSorted]
@[simp] theorem caSorted_bo : caSorted [.bo (ns.map D.int)] = some (.ol ((srt ns).map D.int)) := by simp [caSorted]
@[simp] theorem opSl_tp {lo hi : Option Int} : opSl (.tp xs) lo hi = some (.tp (cut xs lo hi)) := rfl
@[simp] theorem opSl_ls {lo hi : Option Int} : opSl (.ls xs) lo hi = some (.ol (cut xs lo hi)) := rfl
@[simp] theorem opSl_sc {lo hi : Option Int} : opSl (.sc xs) lo hi = some (.ol (cut xs lo hi)) := rfl
@[simp] theorem opSl_bo {lo hi : Option Int} (h : shd xs = true) : opSl (.bo xs) lo hi = some (.ol (cut xs lo hi)) := by simp [opSl, h]
@[simp] theorem cut_map {α β : Type} (f : α → β) (l : List α) (lo hi : Option Int) : cut (l.map f) lo hi = (cut l lo hi).map f := by
  unfold cut
  simp
@[simp] theorem tru_bl : tru (.bl k) = some k := rfl
@[simp] theorem tru_int : tru (.int a) = some (a != 0) := rfl
@[simp] theorem tru_non : tru .non = some false := rfl
@[simp] theorem tru_ls : tru (.ls xs) = some (!xs.isEmpty) := rfl
@[simp] theorem tru_bo : tru (.bo xs) = some (!xs.isEmpty) := rfl
@[simp] theorem tru_tp : tru (.tp xs) = some (!xs.isEmpty) := rfl
@[simp] theorem cIn_ls : cIn (.int a) (.ls (ns.map D.int)) = some (decide (a ∈ ns)) := by simp [cIn]
@[simp] theorem cIn_tp : cIn (.int a) (.tp (ns.map D.int)) = some (decide (a ∈ ns)) := by simp [cIn]
@[simp] theorem cIn_bo : cIn (.int a) (.bo (ns.map D.int)) = some (decide (a ∈ ns)) := by simp [cIn]
@[simp] theorem cNIn_ls : cNIn (.int a) (.ls (ns.map D.int)) = some (!decide (a ∈ ns)) := by simp [cNIn]
@[simp] theorem cNIn_tp : cNIn (.int a) (.tp (ns.map D.int)) = some (!decide (a ∈ ns)) := by simp [cNIn]
@[simp] theorem cNIn_bo : cNIn (.int a) (.bo (ns.map D.int)) = some (!decide (a ∈ ns)) := by simp [cNIn]
@[simp] theorem opFld_ob : opFld c n (.ob c xs) = xs[n]? := if_pos rfl
@[simp] theorem opFld_bb : opFld c n (.bb c xs) = xs[n]? := if_pos rfl
@[simp] theorem calD_shd {g : List D → Res D} (h : shd xs = true) : calD g xs = g xs := if_pos h
end
end DL

namespace DL
open PySem L2
theorem lcL_map {α : Type} {tg : D → Env → Option Env} {te : Env → Res D} {g : Env} {f h : α → D} : ∀ (l : List α), (∀ a ∈ l, ∃ g1, tg (f a) g = some g1 ∧ (te g1).bind kp = .ok (h a)) → lcL tg tYesG te g (l.map f) = .ok (l.map h)
  | [], _ => rfl
  | a :: l, k => by
    obtain ⟨g1, e1, e2⟩ := k a (by simp)
    rw [List.map_cons, lcL_cons, e1]
    simp only [tYesG_, Res.bind_ok, if_true]
    rw [e2, lcL_map l fun b hb => k b (by simp [hb])]
    rfl
theorem lcL_mapN {α : Type} {s : Nat} {te : Env → Res D} {g : Env} {f h : α → D} (l : List α) (k : ∀ a ∈ l, (te (g.set s (f a))).bind kp = .ok (h a)) : lcL (gtN s) tYesG te g (l.map f) = .ok (l.map h) :=
  lcL_map l fun a ha => ⟨_, rfl, k a ha⟩
theorem lcL_filter {α : Type} {tg : D → Env → Option Env} {tt : Env → Res Bool} {te : Env → Res D} {g : Env} {f h : α → D} {p : α → Bool} : ∀ (l : List α), (∀ a ∈ l, ∃ g1, tg (f a) g = some g1 ∧ tt g1 = .ok (p a) ∧ (p a = true → (te g1).bind kp = .ok (h a))) → lcL tg tt te g (l.map f) = .ok ((l.filter p).map h)
  | [], _ => rfl
  | a :: l, k => by
    obtain ⟨g1, e1, e2, e3⟩ := k a (by simp)
    have ih := lcL_filter (h := h) l fun b hb => k b (by simp [hb])
    rw [List.map_cons, lcL_cons, e1]
    simp only [e2, Res.bind_ok]
    cases hp : p a with
    | true => rw [if_pos rfl, e3 hp, ih, List.filter_cons_of_pos hp]; rfl
    | false => rw [if_neg (by decide), ih, List.filter_cons_of_neg (by simp [hp])]
theorem lcL_filterN {α : Type} {s : Nat} {tt : Env → Res Bool} {te : Env → Res D} {g : Env} {f h : α → D} {p : α → Bool} (l : List α) (k : ∀ a ∈ l, tt (g.set s (f a)) = .ok (p a) ∧ (p a = true → (te (g.set s (f a))).bind kp = .ok (h a))) : lcL (gtN s) tt te g (l.map f) = .ok ((l.filter p).map h) :=
  lcL_filter l fun a ha => ⟨_, rfl, (k a ha).1, (k a ha).2⟩
theorem map_int {α : Type} (h : α → Int) (l : List α) : l.map (fun a => D.int (h a)) = (l.map h).map D.int := by simp
theorem cut_from {α : Type} (l : List α) (i : Int) (h : 0 ≤ i) : cut l (some i) none = l.drop i.toNat := by
  unfold cut
  obtain ⟨n, rfl⟩ := Int.eq_ofNat_of_zero_le h
  rw [HT.sIx_nat, HT.sIx_none]
  simp only [Int.toNat_natCast]
  by_cases hn : n ≤ l.length
  · rw [Nat.min_eq_left hn, List.take_of_length_le (by simp)]
  · rw [Nat.min_eq_right (by omega), List.drop_length, List.drop_eq_nil_of_le (by omega)]; simp
theorem rng_map (lo : Int) (n : Nat) : rng lo n = ((List.range n).map fun i : Nat => lo + (i : Int)).map D.int := by unfold rng; simp
theorem lim_eq : lim = 1000000 := rfl
@[simp] theorem lim_0 : 0 ≤ lim := by decide
@[simp] theorem lim_1 : 1 ≤ lim := by decide
@[simp] theorem lim_2 : 2 ≤ lim := by decide
@[simp] theorem lim_3 : 3 ≤ lim := by decide
@[simp] theorem lim_4 : 4 ≤ lim := by decide
@[simp] theorem lim_5 : 5 ≤ lim := by decide
@[simp] theorem lim_6 : 6 ≤ lim := by decide
@[simp] theorem lim_7 : 7 ≤ lim := by decide
@[simp] theorem lim_8 : 8 ≤ lim := by decide
@[simp] theorem lim_9 : 9 ≤ lim := by decide
@[simp] theorem lim_10 : 10 ≤ lim := by decide
@[simp] theorem lim_11 : 11 ≤ lim := by decide
@[simp] theorem lim_12 : 12 ≤ lim := by decide
@[simp] theorem lim_13 : 13 ≤ lim := by decide
@[simp] theorem lim_14 : 14 ≤ lim := by decide
@[simp] theorem lim_15 : 15 ≤ lim := by decide
@[simp] theorem lim_16 : 16 ≤ lim := by decide
@[simp] theorem lim_17 : 17 ≤ lim := by decide
@[simp] theorem lim_18 : 18 ≤ lim := by decide
@[simp] theorem lim_19 : 19 ≤ lim := by decide
@[simp] theorem lim_20 : 20 ≤ lim := by decide
end DL

namespace DL
open PySem L2
noncomputable def mirI (f : Env → Out) (c n : Nat) : List D → Res (List D) := fun ds => by
  classical exact if h : ∃ r, ∀ x, runI f c n x ds = r then h.choose else .bad
theorem mirI_eq {f : Env → Out} {c n : Nat} {ds : List D} {r : Res (List D)} (h : ∀ x, runI f c n x ds = r) : mirI f c n ds = r := by
  unfold mirI
  rw [dif_pos ⟨r, h⟩]
  have := (Exists.choose_spec (⟨r, h⟩ : ∃ r, ∀ x, runI f c n x ds = r)) 0
  rw [← this, h 0]
theorem mirI_ok {f : Env → Out} {c n k : Nat} : ∀ ds x, ds.length = k → mirI f c n ds = .bad ∨ runI f c n x ds = mirI f c n ds := by
  intro ds x _
  by_cases h : ∃ r, ∀ x, runI f c n x ds = r
  · right
    obtain ⟨r, h⟩ := h
    rw [mirI_eq h, h x]
  · left
    unfold mirI
    rw [dif_neg h]
end DL

namespace DL
open PySem L2
def Enc {α : Type} [DecidableEq α] (f : α → D) (n : Nat) : Prop := ∃ p : α → PyData, (∀ a, toPy (f a) = some (p a) ∧ (p a).canLay0 = true ∧ (p a).depth ≤ n) ∧ ∀ a b, PyData.eqv (p a) (p b) = decide (a = b)
section
variable {α : Type} [DecidableEq α] {f : α → D} {n : Nat}
theorem toPys_map {f : α → D} {p : α → PyData} (h : ∀ a, toPy (f a) = some (p a)) : ∀ l : List α, toPys (l.map f) = some (l.map p)
  | [] => by simp [toPys]
  | a :: l => by simp [toPys, h a, toPys_map h l]
theorem eqvAll_map {p : α → PyData} (h : ∀ a b, PyData.eqv (p a) (p b) = decide (a = b)) : ∀ l m : List α, PyData.eqvAll (l.map p) (m.map p) = decide (l = m)
  | [], [] => by simp [PyData.eqvAll]
  | [], _ :: _ => by simp [PyData.eqvAll]
  | _ :: _, [] => by simp [PyData.eqvAll]
  | a :: l, b :: m => by
    simp only [List.map_cons, PyData.eqvAll, h a b, eqvAll_map h l m]
    by_cases e : a = b <;> by_cases e' : l = m <;> simp [e, e']
theorem lay_map {p : α → PyData} (h : ∀ a, (p a).canLay0 = true) : ∀ l : List α, PyData.canLayAll0 (l.map p) = true
  | [] => by simp [PyData.canLayAll0]
  | a :: l => by simp [PyData.canLayAll0, h a, lay_map h l]
theorem dep_map {p : α → PyData} (h : ∀ a, (p a).depth ≤ n) : ∀ l : List α, PyData.depthAll (l.map p) ≤ n
  | [] => by simp [PyData.depthAll]
  | a :: l => by
    simp only [List.map_cons, PyData.depthAll]
    exact Nat.max_le.mpr ⟨h a, dep_map h l⟩
theorem enc_int : Enc D.int 0 := ⟨.int, fun a => ⟨by simp [toPy], by simp [PyData.canLay0], by simp [PyData.depth]⟩, fun a b => by simp only [PyData.eqv]; by_cases e : a = b <;> simp [e]⟩
theorem enc_bl : Enc D.bl 0 := ⟨.bool, fun a => ⟨by simp [toPy], by simp [PyData.canLay0], by simp [PyData.depth]⟩, fun a b => by simp only [PyData.eqv]; by_cases e : a = b <;> simp [e]⟩
theorem Enc.ls (h : Enc f n) : Enc (fun l : List α => D.ls (l.map f)) (n + 1) := by
  obtain ⟨p, h1, h2⟩ := h
  refine ⟨fun l => .list (l.map p), fun l => ⟨by simp [toPy, toPys_map fun a => (h1 a).1], ?_, ?_⟩, fun l m => ?_⟩
  · simp [PyData.canLay0, lay_map fun a => (h1 a).2.1]
  · have := dep_map (fun a => (h1 a).2.2) l
    simp only [PyData.depth]; omega
  · simp only [PyData.eqv]; exact eqvAll_map h2 l m
theorem Enc.tp (h : Enc f n) : Enc (fun l : List α => D.tp (l.map f)) (n + 1) := by
  obtain ⟨p, h1, h2⟩ := h
  refine ⟨fun l => .tuple (l.map p), fun l => ⟨by simp [toPy, toPys_map fun a => (h1 a).1], ?_, ?_⟩, fun l m => ?_⟩
  · simp [PyData.canLay0, lay_map fun a => (h1 a).2.1]
  · have := dep_map (fun a => (h1 a).2.2) l
    simp only [PyData.depth]; omega
  · simp only [PyData.eqv]; exact eqvAll_map h2 l m
theorem Enc.pair {β : Type} [DecidableEq β] {g : β → D} (h : Enc f n) (h' : Enc g n) : Enc (fun x : α × β => D.tp [f x.1, g x.2]) (n + 1) := by
  obtain ⟨p, h1, h2⟩ := h
  obtain ⟨q, h3, h4⟩ := h'
  refine ⟨fun x => .tuple [p x.1, q x.2], fun x => ⟨by simp [toPy, toPys, h1 x.1, h3 x.2], ?_, ?_⟩, fun x y => ?_⟩
  · simp [PyData.canLay0, PyData.canLayAll0, h1 x.1, h3 x.2]
  · have a := (h1 x.1).2.2
    have b := (h3 x.2).2.2
    simp only [PyData.depth, PyData.depthAll]; omega
  · simp only [PyData.eqv, PyData.eqvAll, h2, h4]
    obtain ⟨x1, x2⟩ := x
    obtain ⟨y1, y2⟩ := y
    by_cases e : x1 = y1 <;> by_cases e' : x2 = y2 <;> simp [e, e']
theorem Enc.eq (h : Enc f n) (hn : n ≤ 64) (a b : α) : pyEq (f a) (f b) = some (decide (a = b)) := by
  obtain ⟨p, h1, h2⟩ := h
  have s : ∀ a, SeqAt.shaped (p a) = true := fun a => by
    have := (h1 a).2.2
    simp only [SeqAt.shaped, (h1 a).2.1, Bool.true_and, decide_eq_true_eq]; omega
  simp [pyEq, (h1 a).1, (h1 b).1, s, h2]
end
theorem toPy_bo {xs : List D} : toPy (.bo xs) = toPy (.ls xs) := by simp [toPy]
theorem pyEq_bl {xs ys : List D} : pyEq (.bo xs) (.ls ys) = pyEq (.ls xs) (.ls ys) := by simp [pyEq, toPy_bo]
theorem pyEq_lb {xs ys : List D} : pyEq (.ls xs) (.bo ys) = pyEq (.ls xs) (.ls ys) := by simp [pyEq, toPy_bo]
theorem pyEq_bb {xs ys : List D} : pyEq (.bo xs) (.bo ys) = pyEq (.ls xs) (.ls ys) := by simp [pyEq, toPy_bo]
@[simp] theorem cEq_ll {xs ys : List D} : cEq (.ls xs) (.ls ys) = pyEq (.ls xs) (.ls ys) := rfl
@[simp] theorem cEq_lbo {xs ys : List D} : cEq (.ls xs) (.bo ys) = pyEq (.ls xs) (.ls ys) := pyEq_lb
@[simp] theorem cEq_bol {xs ys : List D} : cEq (.bo xs) (.ls ys) = pyEq (.ls xs) (.ls ys) := pyEq_bl
@[simp] theorem cEq_bobo {xs ys : List D} : cEq (.bo xs) (.bo ys) = pyEq (.ls xs) (.ls ys) := pyEq_bb
@[simp] theorem cEq_tt {xs ys : List D} : cEq (.tp xs) (.tp ys) = pyEq (.tp xs) (.tp ys) := rfl
@[simp] theorem cNe_eq {a b : D} : cNe a b = (cEq a b).map (!·) := rfl
@[simp] theorem pyEq_lsI {xs ys : List Int} : pyEq (.ls (xs.map D.int)) (.ls (ys.map D.int)) = some (decide (xs = ys)) := enc_int.ls.eq (by omega) xs ys
@[simp] theorem pyEq_tpI {xs ys : List Int} : pyEq (.tp (xs.map D.int)) (.tp (ys.map D.int)) = some (decide (xs = ys)) := enc_int.tp.eq (by omega) xs ys
theorem enc_P : Enc dP 1 := enc_int.pair enc_int
@[simp] theorem pyEq_lsP {xs ys : List (Int × Int)} : pyEq (.ls (xs.map dP)) (.ls (ys.map dP)) = some (decide (xs = ys)) := enc_P.ls.eq (by omega) xs ys
@[simp] theorem pyEq_tpP {xs ys : List (Int × Int)} : pyEq (.tp (xs.map dP)) (.tp (ys.map dP)) = some (decide (xs = ys)) := enc_P.tp.eq (by omega) xs ys
@[simp] theorem pyEq_lsB {xs ys : List Bool} : pyEq (.ls (xs.map D.bl)) (.ls (ys.map D.bl)) = some (decide (xs = ys)) := enc_bl.ls.eq (by omega) xs ys
@[simp] theorem pyEq_tpB {xs ys : List Bool} : pyEq (.tp (xs.map D.bl)) (.tp (ys.map D.bl)) = some (decide (xs = ys)) := enc_bl.tp.eq (by omega) xs ys
@[simp] theorem pyEq_bbb {a b c d e f : Bool} : pyEq (.ls [.bl a, .bl b, .bl c]) (.ls [.bl d, .bl e, .bl f]) = some (decide ([a, b, c] = [d, e, f])) := pyEq_lsB (xs := [a, b, c]) (ys := [d, e, f])
@[simp] theorem pyEq_bb2 {a b d e : Bool} : pyEq (.ls [.bl a, .bl b]) (.ls [.bl d, .bl e]) = some (decide ([a, b] = [d, e])) := pyEq_lsB (xs := [a, b]) (ys := [d, e])
@[simp] theorem pyEq_nn : pyEq (.ls []) (.ls []) = some true := pyEq_lsI (xs := []) (ys := [])
@[simp] theorem pyEq_bn {a b c : Bool} : pyEq (.ls [.bl a, .bl b, .bl c]) (.ls []) = some false := by rw [show (.ls [.bl a, .bl b, .bl c] : D) = .ls ([a, b, c].map D.bl) from rfl, show (.ls [] : D) = .ls (([] : List Bool).map D.bl) from rfl, pyEq_lsB]; rfl
@[simp] theorem pyEq_nb {a b c : Bool} : pyEq (.ls []) (.ls [.bl a, .bl b, .bl c]) = some false := by rw [show (.ls [.bl a, .bl b, .bl c] : D) = .ls ([a, b, c].map D.bl) from rfl, show (.ls [] : D) = .ls (([] : List Bool).map D.bl) from rfl, pyEq_lsB]; rfl
end DL

namespace DL
open PySem L2
section
variable {xs ys : List D}
@[simp] theorem nods_append : nods (xs ++ ys) = (nods xs && nods ys) := by induction xs <;> simp [*, Bool.and_assoc]
@[simp] theorem frzs_append : frzs (xs ++ ys) = frzs xs ++ frzs ys := by induction xs <;> simp [*]
@[simp] theorem brws_append : brws (xs ++ ys) = brws xs ++ brws ys := by induction xs <;> simp [*]
@[simp] theorem plns_append : plns (xs ++ ys) = plns xs ++ plns ys := by induction xs <;> simp [*]
@[simp] theorem shd_append : shd (xs ++ ys) = (shd xs && shd ys) := by induction xs <;> simp [*, Bool.and_assoc]
@[simp] theorem ploks_append : ploks (xs ++ ys) = (ploks xs && ploks ys) := by induction xs <;> simp [*, Bool.and_assoc]
@[simp] theorem flats_append : flats (xs ++ ys) = (flats xs && flats ys) := by induction xs <;> simp [*, Bool.and_assoc]
end
theorem rng_succ (lo : Int) (n : Nat) : rng lo (n + 1) = .int lo :: rng (lo + 1) n := by
  unfold rng
  rw [List.range_succ_eq_map, List.map_cons, List.map_map]
  congr 1
  · simp
  · refine List.map_congr_left fun a _ => ?_
    simp; omega
theorem rng_zero (lo : Int) : rng lo 0 = [] := rfl
end DL

namespace DL
open PySem PySem.Spec PyProof.Rows L2
section
variable {P : Program} {w : World} {A : Around} {E : Value → Shared → Prop} {s : Shared}
set_option maxHeartbeats 3200000 in
theorem call_set_listR {l : Addr} {items : Array Value} (ns : List Int) {Q : Value → Shared → Prop} (hh : A.handled = none) (hl : s.heap.IsList l items) (hit : IntsAre items.toList ns) (hb : ns.length + 1 < scanBound)
    (h : ∀ (h' : Heap) (tk c : Nat), SetR w h' s.heap.objs.size (fun j => decide (j ∈ ns)) c → c ≤ ns.length → (∀ b o, s.heap.get? b = some o → h'.get? b = some o) → Q (.ref s.heap.objs.size) { s with heap := h', toks := tk }) :
    wpAny (model P w) A (call (.type "set") [.ref l]) Q E s := by
  have hisz : items.size = ns.length := by
    have q := IntsAre.length hit
    rwa [Array.length_toList] at q
  obtain ⟨c, tl, hmro⟩ := F.called_set.mro
  have hmade := F.called_set.made
  have hsub := F.called_set.sub
  refine wpAny_call (codeAny_of_tree (wpAny_pure ⟨Code.quiet_builtin _ (by decide +kernel), codeAny_builtin F.entry_type_call ?_⟩))
  rw [Around.under_plain (weight_type_call_type "set" [.ref l] []) rfl]
  have h1 := F.called_set.notType
  have h2 := F.called_set.canCreate
  have hct := F.typeCall_set_1 (.ref l)
  repeat (any_goals (first | assumption | wp_step))
  generalize hO : ({ cls := .type "set", dict := none, data := .set #[] 0 (.fresh 0 0 (!w.params.followText "set-order")) } : Obj) = O
  refine codeAny_mono (code_set_led1 (.ref l) (E := E) (Q₁ := fun obj s₁ => obj = .ref s.heap.objs.size ∧ s₁ = { s with heap := s.heap.push O }) ⟨rfl, by rw [hO]⟩) fun r s₁ hr => ?_
  cases r with
  | error e => exact hr
  | ok fl =>
    cases fl with
    | ret obj =>
      obtain ⟨rfl, rfl⟩ := hr
      have hS : (s.heap.push O).get? s.heap.objs.size = some O := Heap.get?_push_size _ (by rw [← hO]; rfl)
      have hT : Shared.TypeIs { s with heap := s.heap.push O } (.ref s.heap.objs.size) "set" := ⟨_, hS, by rw [← hO]⟩
      have hli := F.called_set.init.lookup
      have hbi := F.called_set.init.bind (.ref s.heap.objs.size)
      repeat (any_goals (first | assumption | wp_step))
      refine codeAny_mono (codeAny_call_builtin (R := wants (fun r s₂ => r = .none ∧ ∃ h' tk c, s₂ = { s with heap := h', toks := tk } ∧ SetR w h' s.heap.objs.size (fun j => decide (j ∈ ns)) c ∧ c ≤ ns.length ∧
          (∀ b o, s.heap.get? b = some o → h'.get? b = some o)) E) F.called_set.init.plain F.entry_set_init (check_set_init_1 hT ?_)) fun r₂ s₂ hr₂ => ?_
      · have hlS : l < s.heap.objs.size := by
          obtain ⟨o, ho, _⟩ := hl
          exact Heap.lt_size ho
        have hl1 : (s.heap.push O).IsList l items := hl.push _
        obtain ⟨ol, hol', hcl, nl, hdl⟩ := hl1
        obtain ⟨ocls, odict, odata, oslots⟩ := ol
        simp only at hcl hdl
        subst hcl; subst hdl
        have hl2 : (s.heap.push O).IsList l items := ⟨_, hol', rfl, nl, rfl⟩
        have hsls := F.sub_list_set
        have hslf := F.sub_list_frozenset
        have hne : (Value.type "list" == Value.type "dict") = false := by decide
        have hneI : l ≠ (s.heap.push O).objs.size := by rw [Heap.size_push]; exact Nat.ne_of_lt (Nat.lt_succ_of_lt hlS)
        have hSf : s.heap.objs.size ∉ [(s.heap.push O).objs.size, l] := by
          rw [Heap.size_push]; simp only [List.mem_cons, List.not_mem_nil, or_false, not_or]
          exact ⟨Nat.ne_of_lt (Nat.lt_succ_self _), Nat.ne_of_gt hlS⟩
        subst hO
        unfold Builtin.«set.__init__» noKeywords Builtin.Frozenset.updateFrom
        generalize hPI : pyIter = PI
        wp_walk
        subst hPI
        refine wpAny_pyIter_list hl2 ?_
        refine wpAny_bind (wpAny_runValue ?_)
        have hval : ∀ (i : Nat) (v : Value), items[i]? = some v → ∃ k t, ns[i]? = some k ∧ v = .int k t := fun i v hv => by
          have hi : i < ns.length := by rw [← hisz]; exact (Array.getElem?_eq_some_iff.mp hv).1
          obtain ⟨t, e⟩ := PyProof.Rows.IntsAre.int_at hit i v (by rw [Array.getElem?_toList]; exact hv)
          exact ⟨ns[i], t, List.getElem?_eq_getElem hi, by rw [e, List.getD_eq_getElem?_getD, List.getElem?_eq_getElem hi] <;> rfl⟩
        refine set_update_ints ((Walks.list (by simp [hh]) _ l hneI items).toS) s.heap.objs.size hSf ns hisz hb hval (items.size - 0) 0 _ (by omega) (Nat.zero_le _)
          ⟨⟨_, Heap.get?_push_size _ rfl, rfl, rfl⟩, (hl2.push _)⟩ ⟨0, Nat.le_refl 0, setR_new_at (Heap.get?_push_of_some _ hS)⟩ fun s' c' hm hc' hS' => ?_
        obtain ⟨h', g2, d', tk', os'⟩ := s'
        have eg : g2 = s.gens := hm.gens
        have ed : d' = s.drawn := hm.drawn
        have eo : os' = s.os := hm.os
        subst eg; subst ed; subst eo
        refine wpAny_pure ?_
        rw [hisz] at hc'
        refine wpAny_pure ⟨rfl, h', tk', c', rfl, hS', hc', fun b o e => ?_⟩
        have hb0 : b < s.heap.objs.size := Heap.lt_size e
        refine hm.heap b o ?_ (Heap.get?_push_of_some _ (Heap.get?_push_of_some _ e))
        simp only [List.mem_cons, List.not_mem_nil, or_false, not_or, Heap.size_push]
        exact ⟨Nat.ne_of_lt hb0, Nat.ne_of_lt (Nat.lt_succ_of_lt hb0)⟩
      · cases r₂ with
        | error e => exact hr₂
        | ok fl₂ =>
          cases fl₂ with
          | ret r =>
            obtain ⟨rfl, h', tk, c', rfl, hS', hc', hk'⟩ := hr₂
            repeat (any_goals (first | assumption | wp_step))
            exact h _ _ _ hS' hc' hk'
          | _ => exact hr₂.elim
    | _ => exact hr.elim
end
end DL

namespace DL
open PySem PySem.Spec PyProof.Rows L2
section
variable {X : Cx} {cls : Cls} {W : WX} {K : PySem.W.Frag} {F H F' H' : Hp}
theorem rgV_ints (a b : Int) : rgV a b = ((List.range (b - a).toNat).map fun i : Nat => a + (i : Int)).map V.int := by unfold rgV; simp
def eLR1 (fa : Env → Res D) : Env → Res D := fun g => (fa g).bind fun d => match opd d with
  | .int n => if rgOk n ∧ n ≤ 1000000 then .ok (.ol (rng 0 n.toNat)) else .bad
  | _ => .bad
theorem je_lr1 {a : Expr} {p p2 pos q : Pos} {fa : Env → Res D} (c : Cn X W k) (hm : X.mg "list" = none) (hm2 : X.mg "range" = none) (ha : JE X cls W a fa)
    (hg : Gl X "list" := by rfl) (hg2 : Gl X "range" := by rfl) (na : starEach [a] X.env = (false, eval a X.env) :: starEach [] X.env := by rfl)
    (na2 : starEach [.Call (.Name "range" p2) [a] [] q] X.env = (false, eval (.Call (.Name "range" p2) [a] [] q) X.env) :: starEach [] X.env := by rfl) :
    JE X cls W (.Call (.Name "list" p) [.Call (.Name "range" p2) [a] [] q] [] pos) (eLR1 fa) := by
  obtain ⟨ta, pa, da⟩ := ha.ex
  refine ⟨_, pe_listRg c.calm hg hm (prg_1 hg2 hm2 pa na) na2, ?_⟩
  intro σ F H g O Q s st p
  unfold eLR1 at p
  refine da.go s st (fun c e => by rw [e] at p; exact p) (fun e => by rw [e] at p; exact p) fun d e v F1 H1 x1 b1 => ?_
  rw [e] at p
  simp only [Res.bind] at p
  cases eo : opd d with
  | int n =>
    rw [eo] at p b1
    simp only at p
    split at p
    · rename_i hn
      obtain rfl := b1.int
      refine ⟨n, rfl, ⟨by omega, by omega, hn.1.lo, hn.1.hi, by omega⟩, fun q hq => ?_⟩
      · refine p (.ref q) _ _ [q] (x1.trans (Ext.own x1.fh hq)) ((fresh_new hq).mono x1.hh) (.inl ?_)
        rw [rgV_ints, rng_map]
        rw [show (n - 0).toNat = n.toNat by omega]
        exact ow_new x1.fh hq rps_ints.toOws
    · exact p.elim
  | _ => rw [eo] at p; exact p.elim
end
end DL

namespace DL
open PySem PySem.Spec PyProof.Rows L2
section
variable {X : Cx} {cls : Cls} {W : WX} {K : PySem.W.Frag} {F H F' H' : Hp}
def eLR2 (fa fb : Env → Res D) : Env → Res D := fun g => (fa g).bind fun d => (fb g).bind fun e => match opd d, opd e with
  | .int i, .int j => if (rgOk i ∧ rgOk j) ∧ (j - i).toNat ≤ 1000000 then .ok (.ol (rng i (j - i).toNat)) else .bad
  | _, _ => .bad
def tyD : D → Option String
  | .non => some "NoneType"
  | .bl _ => some "bool"
  | .int _ => some "int"
  | .str _ => some "str"
  | .ls _ => some "list"
  | .bo _ => some "list"
  | .tp _ => some "tuple"
  | _ => none
def isTy (U T : String) : Option Bool := if U = T then some true else match U, T with
  | "int", "bool" => some false
  | "tuple", "bool" => some false
  | "list", "bool" => some false
  | "str", "bool" => some false
  | "NoneType", "bool" => some false
  | "bool", "int" => some true
  | "tuple", "int" => some false
  | "list", "int" => some false
  | "str", "int" => some false
  | "NoneType", "int" => some false
  | "tuple", "list" => some false
  | "int", "list" => some false
  | "list", "tuple" => some false
  | "int", "tuple" => some false
  | "NoneType", "tuple" => some false
  | "NoneType", "list" => some false
  | _, _ => none
def eIsT (T : String) (fa : Env → Res D) : Env → Res D := fun g => (fa g).bind fun d => match tyD (opd d) with
  | some U => match isTy U T with
    | some b => .ok (.bl b)
    | none => .bad
  | none => .bad
end
end DL

namespace DL
open PySem PySem.Spec PyProof.Rows L2
def insU (x : Int) : List Int → List Int
  | [] => [x]
  | y :: l => if x < y then x :: y :: l else if x = y then y :: l else y :: insU x l
def sset : List Int → List Int
  | [] => []
  | x :: l => insU x (sset l)
theorem insU_mem (x k : Int) : ∀ l : List Int, k ∈ insU x l ↔ k = x ∨ k ∈ l
  | [] => by simp [insU]
  | y :: l => by
    unfold insU
    split
    · simp
    · split
      · rename_i h; subst h; simp
      · simp only [List.mem_cons, insU_mem x k l]
        constructor
        · rintro (h | h | h) <;> simp [h]
        · rintro (h | h | h) <;> simp [h]
theorem insU_rise (x : Int) : ∀ l : List Int, l.Pairwise (· < ·) → (insU x l).Pairwise (· < ·)
  | [], _ => by simp [insU]
  | y :: l, h => by
    obtain ⟨h1, h2⟩ := List.pairwise_cons.mp h
    unfold insU
    split
    · rename_i hx
      exact List.pairwise_cons.mpr ⟨fun k hk => by rcases List.mem_cons.mp hk with rfl | hk; exact hx; exact Int.lt_trans hx (h1 k hk), h⟩
    · split
      · exact h
      · rename_i n1 n2
        refine List.pairwise_cons.mpr ⟨fun k hk => ?_, insU_rise x l h2⟩
        rcases (insU_mem x k l).mp hk with rfl | hk
        · omega
        · exact h1 k hk
theorem sset_mem (k : Int) : ∀ l : List Int, k ∈ sset l ↔ k ∈ l
  | [] => Iff.rfl
  | x :: l => by simp only [sset, insU_mem, sset_mem k l, List.mem_cons]
theorem sset_rise : ∀ l : List Int, (sset l).Pairwise (· < ·)
  | [] => .nil
  | x :: l => insU_rise x _ (sset_rise l)
theorem rise_uniq : ∀ {l m : List Int}, l.Pairwise (· < ·) → m.Pairwise (· < ·) → (∀ k, k ∈ l ↔ k ∈ m) → l = m
  | [], [], _, _, _ => rfl
  | [], y :: m, _, _, h => absurd ((h y).mpr (List.mem_cons_self ..)) (by simp)
  | x :: l, [], _, _, h => absurd ((h x).mp (List.mem_cons_self ..)) (by simp)
  | x :: l, y :: m, a, b, h => by
    obtain ⟨a1, a2⟩ := List.pairwise_cons.mp a
    obtain ⟨b1, b2⟩ := List.pairwise_cons.mp b
    have e : x = y := by
      rcases List.mem_cons.mp ((h x).mp (List.mem_cons_self ..)) with e | e
      · exact e
      · rcases List.mem_cons.mp ((h y).mpr (List.mem_cons_self ..)) with e' | e'
        · exact e'.symm
        · have := a1 y e'; have := b1 x e; omega
    subst e
    congr 1
    refine rise_uniq a2 b2 fun k => ⟨fun hk => ?_, fun hk => ?_⟩
    · rcases List.mem_cons.mp ((h k).mp (List.mem_cons_of_mem _ hk)) with e | e
      · have := a1 k hk; omega
      · exact e
    · rcases List.mem_cons.mp ((h k).mpr (List.mem_cons_of_mem _ hk)) with e | e
      · have := b1 k hk; omega
      · exact e
theorem rise_nodup {l : List Int} (h : l.Pairwise (· < ·)) : l.Nodup := h.imp fun h e => by omega
section
variable {X : Cx} {cls : Cls} {W : WX} {K : PySem.W.Frag} {F H F' H' : Hp}
theorem setR_len {w : World} {h : Heap} {a : Addr} {ns : List Int} {c : Nat} (R : SetR w h a (fun j => decide (j ∈ ns)) c) : c = (sset ns).length := by
  obtain ⟨o, es, ep, t, ho, hex, hd, g, nd, hm, hb, hf, hn, hr, hl⟩ := R
  have p : (es.toList.map keyOf).Perm (sset ns) := (List.perm_ext_iff_of_nodup nd (rise_nodup (sset_rise ns))).mpr fun k => by
    rw [sset_mem]
    have := hm k
    simpa using this.symm
  rw [← p.length_eq, List.length_map, Array.length_toList]
  exact hn.symm
def tLenS (K : PySem.W.Frag) (ta : TE) : TE := fun σ H Q => ta σ H fun x H1 => ∃ (l : Addr) (ns : List Int), x = V.ref l ∧ SqL K H1 l (ns.map V.int) ∧ ns.length ≤ 4000 ∧ Q (.int (sset ns).length) H1
theorem pe_lenS {a : Expr} {ta : TE} {p p2 q pos : Pos} (hc : X.calm = true) (hg : Gl X "len") (hm : X.mg "len" = none) (hg2 : Gl X "set") (hm2 : X.mg "set" = none) (ha : PE X a ta)
    (na : starEach [a] X.env = (false, eval a X.env) :: starEach [] X.env := by rfl) : PE X (.Call (.Name "len" p) [.Call (.Name "set" p2) [a] [] q] [] pos) (tLenS X.K ta) := by
  refine ⟨fun pins s σ H Q I h => ?_⟩
  refine Call_ (ld_blt I hg hm PySem.boot_len ?_)
  refine PyProof.Rows.callWith_builtin1 (PyProof.Rows.args_cons ?_ rfl) rfl rfl
  refine Call_ (ld_blt I hg2 hm2 PyProof.Rows.boot_set ?_)
  refine PyProof.Rows.callWith_type1 (PyProof.Rows.args_cons (thn (ha.run pins s σ H _ I h) fun v s1 ⟨x, H1, I1, r1, q1⟩ => PyProof.Rows.args_nil ?_) na) na rfl
  obtain ⟨l, ns, rfl, hq, h1, q1⟩ := q1
  cases r1
  obtain ⟨its, r, pl, _⟩ := I1.list hq
  refine call_set_listR ns (I1.ok.hd hc) pl.isList (by simpa using r.ints) (by unfold scanBound; omega) fun h' tk c hS hc' hk => ?_
  have e := setR_len hS
  obtain ⟨o, es, ep, t, ho, hex, hd, g, nd, hm, hb, hf, hn, hr, hl⟩ := hS
  refine PyProof.Rows.args_nil ?_
  have I2 : Inv X pins σ H1 { s1 with heap := h', toks := tk } := I1.kept hk
  exact call_len_set ho hex hd hf (by rw [hn] <;> omega) ⟨.int (sset ns).length, H1, I2.tok _, ⟨_, by rw [hn, e]⟩, q1⟩
def lsI (d : D) : Option (List Int) := match sqL (opd d) with
  | some xs => intsOf xs
  | none => none
theorem lsI_ok {v : V} {d : D} {ns : List Int} (s : Same F H) (b : Bo K cls F H v (opd d)) (e : lsI d = some ns) : ∃ a, v = .ref a ∧ SqL K H a (ns.map V.int) := by
  unfold lsI at e
  cases h1 : sqL (opd d) with
  | none => rw [h1] at e; cases e
  | some xs => rw [h1] at e; exact b.sqI s h1 e
@[simp] theorem lsI_ls (ns : List Int) : lsI (.ls (ns.map D.int)) = some ns := by simp [lsI]
@[simp] theorem lsI_bo (ns : List Int) : lsI (.bo (ns.map D.int)) = some ns := by simp [lsI]
@[simp] theorem lsI_ol (ns : List Int) : lsI (.ol (ns.map D.int)) = some ns := by simp [lsI]
def eLenSet (fa : Env → Res D) : Env → Res D := fun g => (fa g).bind fun d => match lsI d with
  | some ns => if ns.length ≤ 4000 then .ok (.int (sset ns).length) else .bad
  | none => .bad
def eSortedSet (fa : Env → Res D) : Env → Res D := fun g => (fa g).bind fun d => match lsI d with
  | some ns => if ns.length < 64 then .ok (.ol ((sset ns).map D.int)) else .bad
  | none => .bad
theorem je_lenset {a : Expr} {p p2 q pos : Pos} {fa : Env → Res D} (c : Cn X W k) (hm : X.mg "len" = none) (hm2 : X.mg "set" = none) (ha : JE X cls W a fa) (hg : Gl X "len" := by rfl) (hg2 : Gl X "set" := by rfl)
    (na : starEach [a] X.env = (false, eval a X.env) :: starEach [] X.env := by rfl) : JE X cls W (.Call (.Name "len" p) [.Call (.Name "set" p2) [a] [] q] [] pos) (eLenSet fa) := by
  obtain ⟨ta, pa, da⟩ := ha.ex
  refine ⟨_, pe_lenS c.calm hg hm hg2 hm2 pa na, ?_⟩
  intro σ F H g O Q s st p
  unfold eLenSet at p
  refine da.go s st (fun c e => by rw [e] at p; exact p) (fun e => by rw [e] at p; exact p) fun d e v F1 H1 x1 b1 => ?_
  rw [e] at p
  simp only [Res.bind] at p
  cases eo : lsI d with
  | none => rw [eo] at p; exact p.elim
  | some ns =>
    rw [eo] at p
    simp only at p
    split at p
    · rename_i hz
      obtain ⟨l, rfl, h⟩ := lsI_ok x1.fh b1 eo
      exact ⟨l, ns, rfl, h, hz, p _ F1 H1 [] x1 Fresh.nil (.inl (.sh (.int _)))⟩
    · exact p.elim
end
end DL
namespace DL
@[simp] theorem eLR1_ (fa : Env → Res D) (g : Env) : eLR1 fa g = (fa g).bind fun d => match opd d with
  | .int n => if rgOk n ∧ n ≤ 1000000 then .ok (.ol (rng 0 n.toNat)) else .bad
  | _ => .bad := rfl
@[simp] theorem eLR2_ (fa fb : Env → Res D) (g : Env) : eLR2 fa fb g = (fa g).bind fun d => (fb g).bind fun e => match opd d, opd e with
  | .int i, .int j => if (rgOk i ∧ rgOk j) ∧ (j - i).toNat ≤ 1000000 then .ok (.ol (rng i (j - i).toNat)) else .bad
  | _, _ => .bad := rfl
@[simp] theorem eIsT_ (T : String) (fa : Env → Res D) (g : Env) : eIsT T fa g = (fa g).bind fun d => match tyD (opd d) with
  | some U => match isTy U T with
    | some b => .ok (.bl b)
    | none => .bad
  | none => .bad := rfl
@[simp] theorem isTy_same (T : String) : isTy T T = some true := if_pos rfl
@[simp] theorem isTy_int_bool : isTy "int" "bool" = some false := by decide +kernel
@[simp] theorem isTy_tuple_bool : isTy "tuple" "bool" = some false := by decide +kernel
@[simp] theorem isTy_list_bool : isTy "list" "bool" = some false := by decide +kernel
@[simp] theorem isTy_str_bool : isTy "str" "bool" = some false := by decide +kernel
@[simp] theorem isTy_NoneType_bool : isTy "NoneType" "bool" = some false := by decide +kernel
@[simp] theorem isTy_bool_int : isTy "bool" "int" = some true := by decide +kernel
@[simp] theorem isTy_tuple_int : isTy "tuple" "int" = some false := by decide +kernel
@[simp] theorem isTy_list_int : isTy "list" "int" = some false := by decide +kernel
@[simp] theorem isTy_str_int : isTy "str" "int" = some false := by decide +kernel
@[simp] theorem isTy_NoneType_int : isTy "NoneType" "int" = some false := by decide +kernel
@[simp] theorem isTy_tuple_list : isTy "tuple" "list" = some false := by decide +kernel
@[simp] theorem isTy_int_list : isTy "int" "list" = some false := by decide +kernel
@[simp] theorem isTy_list_tuple : isTy "list" "tuple" = some false := by decide +kernel
@[simp] theorem isTy_int_tuple : isTy "int" "tuple" = some false := by decide +kernel
@[simp] theorem isTy_NoneType_tuple : isTy "NoneType" "tuple" = some false := by decide +kernel
@[simp] theorem isTy_NoneType_list : isTy "NoneType" "list" = some false := by decide +kernel
@[simp] theorem eLenSet_ (fa : Env → Res D) (g : Env) : eLenSet fa g = (fa g).bind fun d => match lsI d with
  | some ns => if ns.length ≤ 4000 then .ok (.int (sset ns).length) else .bad
  | none => .bad := rfl
@[simp] theorem eSortedSet_ (fa : Env → Res D) (g : Env) : eSortedSet fa g = (fa g).bind fun d => match lsI d with
  | some ns => if ns.length < 64 then .ok (.ol ((sset ns).map D.int)) else .bad
  | none => .bad := rfl
@[simp] theorem tyD_non : tyD .non = some "NoneType" := rfl
@[simp] theorem tyD_bl {b} : tyD (.bl b) = some "bool" := rfl
@[simp] theorem tyD_int {b} : tyD (.int b) = some "int" := rfl
@[simp] theorem tyD_str {b} : tyD (.str b) = some "str" := rfl
@[simp] theorem tyD_ls {b} : tyD (.ls b) = some "list" := rfl
@[simp] theorem tyD_bo {b} : tyD (.bo b) = some "list" := rfl
@[simp] theorem tyD_tp {b} : tyD (.tp b) = some "tuple" := rfl
def iota (n : Nat) : List Int := (List.range n).map fun i : Nat => (i : Int)
theorem rng_iota (n : Nat) : rng 0 n = (iota n).map D.int := by rw [rng_map]; unfold iota; simp
@[simp] theorem iota_len (n : Nat) : (iota n).length = n := by simp [iota]
end DL

namespace DL
open PySem PySem.Spec PyProof.Rows L2
section
variable {P : Program} {w : World} {A : Around} {E : Value → Shared → Prop} {s : Shared}
end
end DL
namespace SrtO
open PySem PyProof.Rows Srt
section
variable {prog : Program} {w : World} {A : Around} {E : Value → Shared → Prop} {s : Shared}
end
end SrtO
namespace DL
open PySem PySem.Spec PyProof.Rows L2
section
variable {X : Cx} {cls : Cls} {K : PySem.W.Frag}
def caSorted2 : List D → Option D
  | [.tp xs] => (intsOf xs).map fun ns => .ol ((srt ns).map D.int)
  | ds => caSorted ds
@[simp] theorem caSorted2_tp (ns : List Int) : caSorted2 [.tp (ns.map D.int)] = some (.ol ((srt ns).map D.int)) := by simp [caSorted2]
@[simp] theorem caSorted2_ls (ns : List Int) : caSorted2 [.ls (ns.map D.int)] = some (.ol ((srt ns).map D.int)) := by simp [caSorted2]
@[simp] theorem caSorted2_bo (ns : List Int) : caSorted2 [.bo (ns.map D.int)] = some (.ol ((srt ns).map D.int)) := by simp [caSorted2]
end
end DL

set_option maxHeartbeats 1000000
namespace RT
open PySem PySem.Spec PyProof.Rows
section
variable {prog : Program} {w : World} {A : Around} {E : Value → Shared → Prop} {s : Shared}
end
end RT

namespace DL
open PySem PySem.Spec PyProof.Rows L2
section
variable {X : Cx} {cls : Cls} {W : WX} {K : PySem.W.Frag}
def eLRev (fa : Env → Res D) : Env → Res D := fun g => (fa g).bind fun d => match lsv (opd d) with
  | some xs => .ok (.ol xs.reverse)
  | none => .bad
@[simp] theorem eLRev_ (fa : Env → Res D) (g : Env) : eLRev fa g = (fa g).bind fun d => match lsv (opd d) with
  | some xs => .ok (.ol xs.reverse)
  | none => .bad := rfl
end
end DL

namespace DL
open PySem L2
section
variable {K : PySem.W.Frag} {cls : Cls} {W : WX} {X : Cx} {F H F' H' F1 H1 : Hp} {O O1 : List Addr} {Q : VK} {σ : St} {a b e : Expr} {es : List Expr} {fa fb fc : Env → Res D} {pos : Pos}
def own1 : D → Bool
  | .ol _ => true
  | .od _ _ => true
  | .oo _ _ _ => true
  | _ => false
@[simp] theorem own1_int {i} : own1 (.int i) = false := rfl
@[simp] theorem own1_tp {i} : own1 (.tp i) = false := rfl
@[simp] theorem own1_ls {i} : own1 (.ls i) = false := rfl
@[simp] theorem own1_bl {i} : own1 (.bl i) = false := rfl
@[simp] theorem own1_str {i} : own1 (.str i) = false := rfl
theorem Ow.unown {v : V} {d : D} (h : Ow K cls F H v d O) (e : own1 d = false) : Rp K cls F v d ∧ O = [] := by
  cases h with
  | sh r => exact ⟨r, rfl⟩
  | ol => cases e
  | od => cases e
  | oo => cases e
theorem Ows.erase : ∀ {vs : List V} {ds : List D} {O : List Addr} {k : Nat} {d : D}, Ows K cls F H vs ds O → ds[k]? = some d → own1 d = false → ∃ v, vs[k]? = some v ∧ Rp K cls F v d ∧ Ows K cls F H (vs.eraseIdx k) (ds.eraseIdx k) O
  | _, _, _, _, _, .nil, e, _ => by simp at e
  | _, _, _, 0, d, .cons (v := v) h r dj eo, e, n => by
    simp at e
    subst e
    obtain ⟨h1, h2⟩ := h.unown n
    subst h2
    subst eo
    exact ⟨v, rfl, h1, by simpa using r⟩
  | _, _, _, k + 1, d, .cons h r dj eo, e, n => by
    obtain ⟨v, h1, h2, h3⟩ := Ows.erase (k := k) r (by simpa using e) n
    exact ⟨v, by simpa using h1, h2, by simpa using Ows.cons h h3 dj eo⟩
def sPop (j i : Nat) (fa : Env → Res D) : Env → Out := fun g => match g[i]? with
  | some (.ol xs) => ((fa g).bind kp).st g fun d => match d with
    | .int z => match ixN xs.length z with
      | some k => match xs[k]? with
        | some y => if own1 y = false ∧ xs.length ≤ lim then .nx ((g.set i (.ol (xs.eraseIdx k))).set j y) else .bad
        | none => .bad
      | none => .bad
    | _ => .bad
  | _ => .bad
@[simp] theorem sPop_ (j i : Nat) (fa : Env → Res D) (g : Env) : sPop j i fa g = match g[i]? with
  | some (.ol xs) => ((fa g).bind kp).st g fun d => match d with
    | .int z => match ixN xs.length z with
      | some k => match xs[k]? with
        | some y => if own1 y = false ∧ xs.length ≤ lim then .nx ((g.set i (.ol (xs.eraseIdx k))).set j y) else .bad
        | none => .bad
      | none => .bad
    | _ => .bad
  | _ => .bad := rfl
theorem Ow.int {v : V} {i : Int} (b : Ow K cls F H v (.int i) O) : v = .int i ∧ O = [] := by cases b with | sh r => cases r; exact ⟨rfl, rfl⟩
def sAppPop (m i : Nat) (fa : Env → Res D) : Env → Out := fun g => match g[m]?, g[i]? with
  | some (.ol ws), some (.ol xs) => ((fa g).bind kp).st g fun d => match d with
    | .int z => match ixN xs.length z with
      | some k => match xs[k]? with
        | some y => if own1 y = false ∧ xs.length ≤ lim ∧ ws.length < lim ∧ m ≠ i then .nx ((g.set i (.ol (xs.eraseIdx k))).set m (.ol (ws ++ [y]))) else .bad
        | none => .bad
      | none => .bad
    | _ => .bad
  | _, _ => .bad
@[simp] theorem sAppPop_ (m i : Nat) (fa : Env → Res D) (g : Env) : sAppPop m i fa g = match g[m]?, g[i]? with
  | some (.ol ws), some (.ol xs) => ((fa g).bind kp).st g fun d => match d with
    | .int z => match ixN xs.length z with
      | some k => match xs[k]? with
        | some y => if own1 y = false ∧ xs.length ≤ lim ∧ ws.length < lim ∧ m ≠ i then .nx ((g.set i (.ol (xs.eraseIdx k))).set m (.ol (ws ++ [y]))) else .bad
        | none => .bad
      | none => .bad
    | _ => .bad
  | _, _ => .bad := rfl
theorem js_appPop {m i k : Nat} {y x : Str} {ynpos yapos ycpos npos apos cpos : Pos} (c : Cn X W k) (hM : X.N[m]? = some y) (hvM : Vis X.env.scope y) (hN : X.N[i]? = some x) (hv : Vis X.env.scope x) (ha : JE X cls W a fa)
    (hd : (x == ("__debug__" : Str)) = false := by decide) (hcd : (x == ("__classdict__" : Str)) = false := by decide) (hdM : (y == ("__debug__" : Str)) = false := by decide) (hcdM : (y == ("__classdict__" : Str)) = false := by decide)
    (hbase : attributeBase (.Name x npos) "pop" X.env (eval (.Name x npos) X.env) = eval (.Name x npos) X.env := by rfl)
    (hfew : ((backTo cpos (starEach (a :: []) X.env)).all (fun x => !x.1) && (backToKw cpos (keywordEach [] X.env)).all (fun x => x.1.isSome)
      && decide ((a :: []).length + ([] : List Keyword).length + (if ([] : List Keyword).isEmpty then 0 else 1) < 30)) = true := by rfl)
    (hline : (apos.endLine == cpos.line) = true := by rfl) (hs : starEach (a :: []) X.env = (false, eval a X.env) :: starEach [] X.env := by rfl) (hplain : (backTo cpos (starEach [] X.env)).any (·.1) = false := by rfl)
    (hbaseM : attributeBase (.Name y ynpos) "append" X.env (eval (.Name y ynpos) X.env) = eval (.Name y ynpos) X.env := by rfl)
    (hfewM : ((backTo ycpos (starEach (.Call (.Attribute (.Name x npos) "pop" apos) [a] [] cpos :: []) X.env)).all (fun x => !x.1) && (backToKw ycpos (keywordEach [] X.env)).all (fun x => x.1.isSome)
      && decide ((.Call (.Attribute (.Name x npos) "pop" apos) [a] [] cpos :: ([] : List Expr)).length + ([] : List Keyword).length + (if ([] : List Keyword).isEmpty then 0 else 1) < 30)) = true := by rfl)
    (hlineM : (yapos.endLine == ycpos.line) = true := by rfl) (hsM : starEach (.Call (.Attribute (.Name x npos) "pop" apos) [a] [] cpos :: []) X.env = (false, eval (.Call (.Attribute (.Name x npos) "pop" apos) [a] [] cpos) X.env) :: starEach [] X.env := by rfl) (hplainM : (backTo ycpos (starEach [] X.env)).any (·.1) = false := by rfl)
    (hsw : swapsWith (.Call (.Attribute (.Name y ynpos) "append" yapos) [.Call (.Attribute (.Name x npos) "pop" apos) [a] [] cpos] [] ycpos) none pos.line X.env = pure false := by rfl) :
    JS X cls W (.Expr (.Call (.Attribute (.Name y ynpos) "append" yapos) [.Call (.Attribute (.Name x npos) "pop" apos) [a] [] cpos] [] ycpos) pos) (sAppPop m i fa) := by
  obtain ⟨t, p, d⟩ := ha.ex
  refine ⟨_, ps_expr (pe_bm PySem.F.plainAttrs_list PySem.F.slot_list_append PySem.F.type_list_append mt_append (pe_var hM hvM hdM hcdM) (pa_cons (pe_bm PySem.F.plainAttrs_list PySem.F.slot_list_pop PySem.F.type_list_pop mt_popAt (pe_var hN hv hd hcd) (pa_cons p pa_nil hs) hbase hfew hline hs hplain) pa_nil hsM) hbaseM hfewM hlineM hsM hplainM) hsw, ?_⟩
  intro D σ F H g O s st p
  rw [sAppPop_] at p
  split at p
  · rename_i ws xs egm eg
    obtain ⟨qm, vm, Om, m1, m2, m2', m3, m4, m5, m6, m7⟩ := st.lst egm
    refine ⟨.ref qm, m1, .inl ⟨rfl, vm, SqL.of m2⟩, ?_⟩
    obtain ⟨q, vs, O1, h1, h2, h2', h3, h4, h5, h6, h7⟩ := st.lst eg
    refine ⟨.ref q, h1, .inl ⟨rfl, vs, SqL.of h2⟩, ?_⟩
    refine d.goS s st p fun dd e p v F1 H1 O2 x fr w => ?_
    split at p
    · rename_i z
      obtain ⟨rfl, rfl⟩ := w.int
      split at p
      · rename_i kk ek
        split at p
        · rename_i yd ey
          split at p
          · rename_i hn
            obtain ⟨hn, hl, hl2, hmi⟩ := hn
            obtain ⟨e1, e2, e3, e4⟩ := ixN_seq ek
            obtain ⟨u, u1, u2, u3⟩ := (h4.ext x).erase ey hn
            have hlim : xs.length ≤ 1000000 := hl
            refine ⟨q, vs, z, kk, u, rfl, rfl, x.hh _ _ h2, by omega, by omega, by rw [h4.len]; exact e1, u1, ?_⟩
            obtain ⟨O'', z1, z2⟩ := h7 F1 H1 (vs.eraseIdx kk) (xs.eraseIdx kk) O1 x u3 h3 (fun a z => .inl z)
            have egm2 : (g.set i (.ol (xs.eraseIdx kk)))[m]? = some (.ol ws) := by rw [List.getElem?_set_ne (Ne.symm hmi)]; exact egm
            obtain ⟨qm', vm', Om', n1, n2, n2', n3, n4, n5, n6, n7⟩ := z1.lst egm2
            rw [m1] at n1
            cases n1
            obtain ⟨O3, w1, w2⟩ := n7 F1 (upd H1 q (.lst (vs.eraseIdx kk))) (vm' ++ [u]) (ws ++ [yd]) Om' (.refl z2.fh) (by
              have := n4.snoc (v := u) (d := yd) (O2 := []) (.sh u2) (fun a _ h => nomatch h)
              rw [List.append_nil] at this
              exact this) n3 (fun a z => .inl z)
            refine ⟨qm, vm', u, rfl, rfl, n2, by rw [n4.len]; exact lim_lt hl2, ?_⟩
            exact p _ F1 _ O3 (z2.trans w2) w1
          · exact p.elim
        · exact p.elim
      · exact p.elim
    · exact p.elim
  · exact p.elim
def eIndex (fa fb : Env → Res D) : Env → Res D := fun g => (fa g).bind fun d => match lsI d with
  | some ns => (fb g).bind fun e => match opd e with
    | .int x => if x ∈ ns then .ok (.int (ns.idxOf x : Nat)) else .bad
    | _ => .bad
  | none => .bad
@[simp] theorem eIndex_ (fa fb : Env → Res D) (g : Env) : eIndex fa fb g = (fa g).bind fun d => match lsI d with
  | some ns => (fb g).bind fun e => match opd e with
    | .int x => if x ∈ ns then .ok (.int (ns.idxOf x : Nat)) else .bad
    | _ => .bad
  | none => .bad := rfl
theorem Ows.inner : ∀ {vs : List V} {ds : List D} {O : List Addr} {k : Nat} {ys : List D}, Ows K cls F H vs ds O → ds[k]? = some (.ol ys) → ∃ p us O1, vs[k]? = some (.ref p) ∧ H p = some (.lst us) ∧ F p = none ∧ p ∉ O1 ∧ Ows K cls F H us ys O1 ∧ p ∈ O ∧ (∀ a ∈ O1, a ∈ O) ∧
    ∀ (F' H' : Hp) (ws : List V) (zs : List D) (O2 : List Addr), Ext F H F' H' → Ows K cls F' H' ws zs O2 → p ∉ O2 → (∀ a ∈ O2, a ∈ O1 ∨ H a = none) → ∃ O3, Ows K cls F' (upd H' p (.lst ws)) vs (ds.set k (.ol zs)) O3 ∧ ∀ a ∈ O3, a ∈ O ∨ H a = none
  | _, _, _, _, _, .nil, e => by simp at e
  | _, _, _, 0, ys, .cons (O1 := P1) (O2 := P2) h r dj eo, e => by
    simp at e
    subst e
    subst eo
    cases h with
    | sh r => cases r
    | @ol p us _ O1 f1 f2 f3 f4 =>
      refine ⟨p, us, O1, rfl, f2, f1, f3, f4, by simp, fun a ha => by simp [ha], fun F' H' ws zs O2 x w n k => ?_⟩
      have hp : F' p = none := x.ow p f1 (by rw [f2]; exact fun e => nomatch e)
      have up : ∀ b, b ≠ p → upd H' p (.lst ws) b = H' b := fun b hb => upd_ne hb
      refine ⟨(p :: O2) ++ P2, ?_, fun a ha => ?_⟩
      · refine Ows.cons (O1 := p :: O2) (O2 := P2) (.ol hp upd_same n (w.frame (.refl F') fun a ha => ⟨up a fun z => n (z ▸ ha), (w.dom a ha).1⟩)) ?_ (fun a h1 h2 => ?_) rfl
        · exact (r.ext x).frame (.refl F') fun a ha => ⟨up a fun z => dj a (by simp [z]) ha, ((r.ext x).dom a ha).1⟩
        · rcases List.mem_cons.mp h1 with z | z
          · exact dj a (by simp [z]) h2
          · rcases k a z with z | z
            · exact dj a (by simp [z]) h2
            · exact (r.dom a h2).2 z
      · rcases List.mem_append.mp ha with z | z
        · rcases List.mem_cons.mp z with z | z
          · exact .inl (by simp [z])
          · exact (k a z).imp (fun z => by simp [z]) id
        · exact .inl (by simp [z])
  | _, _, _, kk + 1, ys, .cons (O1 := P1) (O2 := P2) h r dj eo, e => by
    subst eo
    obtain ⟨p, us, O1, g1, g2, g3, g4, g5, g6, g7, g8⟩ := Ows.inner (k := kk) r (by simpa using e)
    refine ⟨p, us, O1, by simpa using g1, g2, g3, g4, g5, List.mem_append_right _ g6, fun a ha => List.mem_append_right _ (g7 a ha), fun F' H' ws zs O2 x w n k => ?_⟩
    obtain ⟨O3, w1, w2⟩ := g8 F' H' ws zs O2 x w n k
    have up : ∀ b, b ≠ p → upd H' p (.lst ws) b = H' b := fun b hb => upd_ne hb
    refine ⟨P1 ++ O3, ?_, fun a ha => ?_⟩
    · refine Ows.cons (O1 := P1) (O2 := O3) ((h.ext x).frame (.refl F') fun a ha => ⟨up a fun z => dj a ha (z ▸ g6), ((h.ext x).dom a ha).1⟩) (by simpa using w1) (fun a h1 h2 => ?_) rfl
      rcases w2 a h2 with z | z
      · exact dj a h1 z
      · exact (h.dom a h1).2 z
    · rcases List.mem_append.mp ha with z | z
      · exact .inl (List.mem_append_left _ z)
      · exact (w2 a z).imp (fun z => List.mem_append_right _ z) id
def sAppIx (i z : Nat) (fa : Env → Res D) : Env → Out := fun g => match g[i]? with
  | some (.ol xs) => match xs[z]? with
    | some (.ol ys) => ((fa g).bind kp).st g fun d => if ys.length < lim then .nx (g.set i (.ol (xs.set z (.ol (ys ++ [d]))))) else .bad
    | _ => .bad
  | _ => .bad
@[simp] theorem sAppIx_ (i z : Nat) (fa : Env → Res D) (g : Env) : sAppIx i z fa g = match g[i]? with
  | some (.ol xs) => match xs[z]? with
    | some (.ol ys) => ((fa g).bind kp).st g fun d => if ys.length < lim then .nx (g.set i (.ol (xs.set z (.ol (ys ++ [d]))))) else .bad
    | _ => .bad
  | _ => .bad := rfl
end
end DL

namespace TL
open PySem PySem.W PySem.Calls PyProof.Rows
def Rise (l : List (List Int)) : Prop := l.Pairwise fun a b => HT.lexLt b a = false
def insL (x : List Int) : List (List Int) → List (List Int)
  | [] => [x]
  | y :: l => if HT.lexLt y x = true then y :: insL x l else x :: y :: l
def srtL : List (List Int) → List (List Int)
  | [] => []
  | x :: l => insL x (srtL l)
theorem insL_perm (x : List Int) : ∀ l, (insL x l).Perm (x :: l)
  | [] => .refl _
  | y :: l => by
    unfold insL
    split
    · exact ((insL_perm x l).cons y).trans (.swap ..)
    · exact .refl _
theorem srtL_perm : ∀ l, (srtL l).Perm l
  | [] => .refl _
  | x :: l => (insL_perm x (srtL l)).trans ((srtL_perm l).cons x)
theorem insL_rise (x : List Int) : ∀ l, Rise l → Rise (insL x l)
  | [], _ => List.pairwise_singleton _ _
  | y :: l, h => by
    obtain ⟨h1, h2⟩ := List.pairwise_cons.mp h
    unfold insL
    split
    · rename_i c
      refine List.pairwise_cons.mpr ⟨fun z hz => ?_, insL_rise x l h2⟩
      rcases List.mem_cons.mp ((insL_perm x l).mem_iff.mp hz) with rfl | hz
      · exact NtL.lex_asym _ _ c
      · exact h1 z hz
    · rename_i c
      have c : HT.lexLt y x = false := by simpa using c
      refine List.pairwise_cons.mpr ⟨fun z hz => ?_, h⟩
      rcases List.mem_cons.mp hz with rfl | hz
      · exact c
      · exact NtL.lex_tr _ _ _ c (h1 z hz)
theorem srtL_rise : ∀ l, Rise (srtL l)
  | [] => .nil
  | x :: l => insL_rise x _ (srtL_rise l)
def kOf (h : Heap) : Value → List Int
  | .ref a => match h.get? a with
    | some o => match o.data with
      | .seq xs _ => xs.toList.map SrtO.iv
      | _ => []
    | none => []
  | _ => []
def IsTI (h : Heap) (v : Value) (ns : List Int) : Prop := ∃ a o xs n, v = .ref a ∧ h.get? a = some o ∧ o.cls = .type "tuple" ∧ o.data = .seq xs n ∧ IntsAre xs.toList ns
theorem IsTI.k {h : Heap} {v : Value} {ns : List Int} (x : IsTI h v ns) : kOf h v = ns := by
  obtain ⟨a, o, xs, n, rfl, ho, hc, hd, hi⟩ := x
  simp only [kOf, ho, hd]
  exact SrtO.iv_ints hi
section
variable {prog : Program} {w : World} {A : Around} {E : Value → Shared → Prop} {s : Shared}
end
end TL
namespace DL
open PySem PySem.Spec PyProof.Rows L2 TL
section
variable {X : Cx} {cls : Cls} {K : PySem.W.Frag}
def tupOf : D → Option (List Int)
  | .tp xs => intsOf xs
  | _ => none
def tupsOf : List D → Option (List (List Int))
  | [] => some []
  | d :: ds => match tupOf d, tupsOf ds with
    | some l, some L => some (l :: L)
    | _, _ => none
@[simp] theorem tupsOf_map : ∀ L : List (List Int), tupsOf (L.map dT) = some L
  | [] => rfl
  | l :: L => by simp [tupsOf, dT, tupOf, tupsOf_map L]
def caSorted3 (ds : List D) : Option D := match ds with
  | [d] => match sqK d with
    | some (.tp x :: xs) => match tupsOf (.tp x :: xs) with
      | some L => if L.length < 2 ∨ L.all (fun l => !l.isEmpty) = true then some (.ol ((srtL L).map dT)) else none
      | none => none
    | _ => caSorted2 ds
  | ds => caSorted2 ds
theorem Rps.zip {F : Hp} : ∀ {vs : List V} {L : List (List Int)}, Rps K cls F vs (L.map dT) → ∀ y l, (y, l) ∈ vs.zip L → Rp K cls F y (dT l)
  | _, [], .nil, _, _, h => by simp at h
  | _, l0 :: L, .cons a r, y, l, h => by
    rw [List.zip_cons_cons] at h
    rcases List.mem_cons.mp h with e | h
    · cases e; exact a
    · exact Rps.zip r y l h
@[simp] theorem caSorted3_tp (ns : List Int) : caSorted3 [.tp (ns.map D.int)] = some (.ol ((srt ns).map D.int)) := by
  unfold caSorted3
  split
  · rename_i h; cases h; simp
  · simp
@[simp] theorem caSorted3_ls (ns : List Int) : caSorted3 [.ls (ns.map D.int)] = some (.ol ((srt ns).map D.int)) := by
  cases ns with
  | nil => simp [caSorted3]; rfl
  | cons a l => simp [caSorted3]; exact caSorted2_ls (a :: l)
@[simp] theorem caSorted3_bo (ns : List Int) : caSorted3 [.bo (ns.map D.int)] = some (.ol ((srt ns).map D.int)) := by
  cases ns with
  | nil => simp [caSorted3]; rfl
  | cons a l => simp [caSorted3]; exact caSorted2_bo (a :: l)
end
end DL

namespace DL
open PySem PySem.Spec PyProof.Rows L2 TL
section
variable {K : PySem.W.Frag} {cls : Cls} {W : WX} {X : Cx} {F H F' H' F1 H1 : Hp} {O O1 : List Addr} {Q : VK} {a b e : Expr} {es : List Expr} {fa fb fc : Env → Res D} {pos : Pos}
def cIn2 : D → D → Option Bool
  | .tp xs, l => match toPy (.tp xs), toPy l with
    | some d, some (.list ds) => if SeqAt.shaped d = true ∧ SeqAt.shaped (.list ds) = true then some (ds.any fun z => PyData.eqv z d) else none
    | _, _ => none
  | x, l => cIn x l
def cNIn2 (a b : D) : Option Bool := (cIn2 a b).map (!·)
theorem eqv_tups {l : List Int} {L : List (List Int)} : (L.map fun l => PyData.tuple (l.map .int)).any (fun z => PyData.eqv z (.tuple (l.map .int))) = decide (l ∈ L) := by
  induction L with
  | nil => simp
  | cons a L ih =>
    rw [List.map_cons, List.any_cons, ih]
    have : PyData.eqv (.tuple (a.map .int)) (.tuple (l.map .int)) = decide (a = l) := by
      simp only [PyData.eqv]
      exact eqvAll_map (p := PyData.int) (fun a b => by simp only [PyData.eqv]; by_cases e : a = b <;> simp [e]) a l
    rw [this, ← Bool.decide_or]
    by_cases h : a = l
    · subst h; simp
    · have h' : ¬ l = a := fun z => h z.symm
      simp [h, h']
theorem toPy_T (l : List Int) : toPy (.tp (l.map D.int)) = some (.tuple (l.map .int)) := by
  have : toPys (l.map D.int) = some (l.map PyData.int) := toPys_map (fun a => by simp [toPy]) l
  simp [toPy, this]
theorem toPy_TL (L : List (List Int)) : toPy (.ls (L.map dT)) = some (.list (L.map fun l => PyData.tuple (l.map .int))) := by
  have : toPys (L.map dT) = some (L.map fun l => PyData.tuple (l.map .int)) := toPys_map (f := dT) (fun a => toPy_T a) L
  simp [toPy, this]
theorem shaped_T (l : List Int) : SeqAt.shaped (.tuple (l.map .int)) = true := by
  have a := lay_map (p := PyData.int) (fun a => by simp [PyData.canLay0]) l
  have b : PyData.depthAll (l.map PyData.int) ≤ 0 := dep_map (p := PyData.int) (fun a => by simp [PyData.depth]) l
  have c : PyData.depth (.tuple (l.map .int)) ≤ 1 := by simp only [PyData.depth]; omega
  have d : PyData.canLay0 (.tuple (l.map .int)) = true := by simp [PyData.canLay0, a]
  simp only [SeqAt.shaped, d, Bool.true_and, decide_eq_true_eq]
  omega
theorem shaped_TL (L : List (List Int)) : SeqAt.shaped (.list (L.map fun l => PyData.tuple (l.map .int))) = true := by
  have a := lay_map (p := fun l : List Int => PyData.tuple (l.map .int)) (fun l => by
    have := lay_map (p := PyData.int) (fun a => by simp [PyData.canLay0]) l
    simp [PyData.canLay0, this]) L
  have b : PyData.depthAll (L.map fun l : List Int => PyData.tuple (l.map .int)) ≤ 1 := dep_map (p := fun l : List Int => PyData.tuple (l.map .int)) (fun l => by
    have b : PyData.depthAll (l.map PyData.int) ≤ 0 := dep_map (p := PyData.int) (fun a => by simp [PyData.depth]) l
    simp only [PyData.depth]; omega) L
  have c : PyData.depth (.list (L.map fun l : List Int => PyData.tuple (l.map .int))) ≤ 2 := by simp only [PyData.depth]; omega
  have d : PyData.canLay0 (.list (L.map fun l : List Int => PyData.tuple (l.map .int))) = true := by simp [PyData.canLay0, a]
  simp only [SeqAt.shaped, d, Bool.true_and, decide_eq_true_eq]
  omega
theorem cIn2_TL (l : List Int) (L : List (List Int)) : cIn2 (.tp (l.map D.int)) (.ls (L.map dT)) = some (decide (l ∈ L)) := by
  simp only [cIn2, toPy_T, toPy_TL]
  rw [if_pos ⟨shaped_T l, shaped_TL L⟩, eqv_tups]
@[simp] theorem cNIn2_TL (l : List Int) (L : List (List Int)) : cNIn2 (.tp (l.map D.int)) (.ls (L.map dT)) = some (!decide (l ∈ L)) := by
  unfold cNIn2; rw [cIn2_TL]; rfl
end
end DL

set_option maxHeartbeats 1000000
namespace RT
open PySem PySem.Spec PyProof.Rows
section
variable {prog : Program} {w : World} {A : Around} {E : Value → Shared → Prop} {s : Shared}
end
end RT
namespace DL
open PySem PySem.Spec PyProof.Rows L2
section
variable {X : Cx} {cls : Cls} {W : WX} {K : PySem.W.Frag}
def lsT (d : D) : Option (List D) := match d with
  | .tp xs => some xs
  | d => lsv d
@[simp] theorem lsT_tp {xs} : lsT (.tp xs) = some xs := rfl
@[simp] theorem lsT_ls {xs} : lsT (.ls xs) = some xs := rfl
@[simp] theorem lsT_bo {xs} (h : shd xs = true) : lsT (.bo xs) = some xs := by simp [lsT, h]
def eLRev2 (fa : Env → Res D) : Env → Res D := fun g => (fa g).bind fun d => match lsT (opd d) with
  | some xs => .ok (.ol xs.reverse)
  | none => .bad
@[simp] theorem eLRev2_ (fa : Env → Res D) (g : Env) : eLRev2 fa g = (fa g).bind fun d => match lsT (opd d) with
  | some xs => .ok (.ol xs.reverse)
  | none => .bad := rfl
end
end DL

set_option maxHeartbeats 1000000
namespace RT
open PySem PySem.Spec PyProof.Rows
section
variable {prog : Program} {w : World} {A : Around} {E : Value → Shared → Prop} {s : Shared}
end
end RT
namespace DL
open PySem PySem.Spec PyProof.Rows L2
section
variable {X : Cx} {cls : Cls} {W : WX} {K : PySem.W.Frag}
theorem Bo.lsT {v : V} {d : D} {F H : Hp} {xs : List D} (s : Same F H) (b1 : Bo K cls F H v d) (eo : lsT d = some xs) : ∃ a vs, v = .ref a ∧ (SqL K H a vs ∨ SqT K H a vs) ∧ Rps K cls F vs xs := by
  cases d with
  | tp ys =>
    cases eo
    obtain ⟨a, vs, e1, h1, h2, r⟩ := b1.tpv s (xs := xs) rfl
    exact ⟨a, vs, e1, .inr h1, r⟩
  | ls ys =>
    obtain ⟨a', vs, rfl, h1, r⟩ := b1.sqK s (xs := xs) (by simpa [DL.lsT] using eo)
    exact ⟨a', vs, rfl, .inl h1, r⟩
  | bo ys =>
    obtain ⟨a', vs, rfl, h1, r⟩ := b1.sqK s (xs := xs) (by simp [DL.lsT] at eo ⊢; first | exact eo | (obtain ⟨e1, e2⟩ := eo; exact ⟨e1, e2⟩))
    exact ⟨a', vs, rfl, .inl h1, r⟩
  | _ => simp [DL.lsT] at eo
def eTRev2 (fa : Env → Res D) : Env → Res D := fun g => (fa g).bind fun d => match lsT (opd d) with
  | some xs => .ok (.tp xs.reverse)
  | none => .bad
@[simp] theorem eTRev2_ (fa : Env → Res D) (g : Env) : eTRev2 fa g = (fa g).bind fun d => match lsT (opd d) with
  | some xs => .ok (.tp xs.reverse)
  | none => .bad := rfl
end
end DL

namespace DL
open PySem PySem.Spec PyProof.Rows L2
section
variable {X : Cx} {cls : Cls} {W : WX} {K : PySem.W.Frag} {F H F' H' : Hp} {O : List Addr}
def eTR1 (fa : Env → Res D) : Env → Res D := fun g => (fa g).bind fun d => match opd d with
  | .int n => if rgOk n ∧ n ≤ 1000000 then .ok (.tp (rng 0 n.toNat)) else .bad
  | _ => .bad
@[simp] theorem eTR1_ (fa : Env → Res D) (g : Env) : eTR1 fa g = (fa g).bind fun d => match opd d with
  | .int n => if rgOk n ∧ n ≤ 1000000 then .ok (.tp (rng 0 n.toNat)) else .bad
  | _ => .bad := rfl
theorem je_tr1 {a : Expr} {p p2 pos q : Pos} {fa : Env → Res D} (c : Cn X W k) (hm : X.mg "tuple" = none) (hm2 : X.mg "range" = none) (ha : JE X cls W a fa)
    (hg : Gl X "tuple" := by rfl) (hg2 : Gl X "range" := by rfl) (na : starEach [a] X.env = (false, eval a X.env) :: starEach [] X.env := by rfl)
    (na2 : starEach [.Call (.Name "range" p2) [a] [] q] X.env = (false, eval (.Call (.Name "range" p2) [a] [] q) X.env) :: starEach [] X.env := by rfl) :
    JE X cls W (.Call (.Name "tuple" p) [.Call (.Name "range" p2) [a] [] q] [] pos) (eTR1 fa) := by
  obtain ⟨ta, pa, da⟩ := ha.ex
  refine ⟨_, pe_tupRg c.calm hg hm (prg_1 hg2 hm2 pa na) na2, ?_⟩
  intro σ F H g O Q s st p
  unfold eTR1 at p
  refine da.go s st (fun c e => by rw [e] at p; exact p) (fun e => by rw [e] at p; exact p) fun d e v F1 H1 x1 b1 => ?_
  rw [e] at p
  simp only [Res.bind] at p
  cases eo : opd d with
  | int n =>
    rw [eo] at p b1
    simp only at p
    split at p
    · rename_i hn
      obtain rfl := b1.int
      refine ⟨n, rfl, ⟨by omega, by omega, hn.1.lo, hn.1.hi, by omega⟩, fun q hq => ?_⟩
      · refine p (.ref q) _ _ [] (x1.trans (Ext.put x1.fh hq)) Fresh.nil (.inl (.sh (.tp (SqT.of upd_same) ?_)))
        rw [rgV_ints, rng_map]
        rw [show (n - 0).toNat = n.toNat by omega]
        exact rps_ints
    · exact p.elim
  | _ => rw [eo] at p; exact p.elim
def opShr : D → D → Option D
  | .int i, .int j => if 0 ≤ j then some (.int (i / 2 ^ j.toNat)) else none
  | _, _ => none
def opAnd : D → D → Option D
  | .int i, .int j => if j = 1 then some (.int (i % 2)) else none
  | _, _ => none
@[simp] theorem opShr_int {i j : Int} (h : 0 ≤ j) : opShr (.int i) (.int j) = some (.int (i / 2 ^ j.toNat)) := if_pos h
@[simp] theorem opAnd_int {i : Int} : opAnd (.int i) (.int 1) = some (.int (i % 2)) := rfl
end
section
variable {K : PySem.W.Frag} {cls : Cls} {W : WX} {X : Cx} {F H F' H' F1 H1 : Hp} {O O1 : List Addr} {Q : VK} {a b e : Expr} {es : List Expr} {fa fb fc : Env → Res D} {pos : Pos}
def sExt (i : Nat) (fa : Env → Res D) : Env → Out := fun g => match g[i]? with
  | some (.ol xs) => (fa g).st g fun d => match lsv (opd d) with
    | some ys => if xs.length + ys.length ≤ lim then .nx (g.set i (.ol (xs ++ ys))) else .bad
    | none => .bad
  | _ => .bad
@[simp] theorem sExt_ (i : Nat) (fa : Env → Res D) (g : Env) : sExt i fa g = match g[i]? with
  | some (.ol xs) => (fa g).st g fun d => match lsv (opd d) with
    | some ys => if xs.length + ys.length ≤ lim then .nx (g.set i (.ol (xs ++ ys))) else .bad
    | none => .bad
  | _ => .bad := rfl
end
end DL

namespace DL
open PySem PySem.Spec PyProof.Rows L2 TL PySem.W
section
variable {K : PySem.W.Frag} {cls : Cls} {X : Cx} {F H F' H' F1 H1 : Hp} {O O1 : List Addr} {Q : VK}
mutual
/-- texts, numbers, truth values, and tuples of these -/
def flt : D → Bool
  | .int _ => true
  | .bl _ => true
  | .str _ => true
  | .tp xs => flts xs
  | _ => false
def flts : List D → Bool
  | [] => true
  | d :: ds => flt d && flts ds
end
def mfold : D → PyData → List D → List PyData → D
  | d, p, e :: ds, q :: ps => if dataLt q p = true then mfold e q ds ps else mfold d p ds ps
  | d, _, _, _ => d
def caMin3 (ds : List D) : Option D := match ds with
  | [d] => match sqK d with
    | some (.tp x :: xs) => match toPys (.tp x :: xs) with
      | some (p :: ps) => if flts (.tp x :: xs) = true ∧ ((p :: ps).all fun a => (p :: ps).all fun b => alike a b) = true ∧ PyData.depthAll (p :: ps) ≤ 60 then some (mfold (.tp x) p xs ps) else none
      | _ => none
    | _ => caMin ds
  | ds => caMin ds
def dNT (x : Int × List Int) : D := .tp [.int x.1, .tp (x.2.map D.int)]
end
end DL

namespace DL
open PySem PySem.Spec PyProof.Rows L2 PySem.W
section
variable {K : PySem.W.Frag} {cls : Cls} {W : WX} {X : Cx} {F H F' H' F1 H1 : Hp} {O O1 : List Addr} {Q : VK} {a b e : Expr} {es : List Expr} {fa fb fc : Env → Res D} {fs : Env → Res (List D)} {pos : Pos}
def argB : D → Option (List Int)
  | .bo xs => intsOf xs
  | _ => none
def calD2 (g : List D → Res D) (ds : List D) : Res D :=
  if (ds.all fun d => shd1 d || (argB d).isSome) = true then match g (plns ds) with
    | .ok (.ls xs) => match intsOf xs with
      | some ns => if (ds.all fun d => !decide (argB d = some ns)) = true then .ok (.ls xs) else .bad
      | none => .bad
    | .xc c => .xc c
    | _ => .bad
  else .bad
def eOwn2 (g : List D → Res D) (fs : Env → Res (List D)) : Env → Res D := fun e => (fs e).bind fun ds => calD2 g ds
@[simp] theorem eOwn2_ (g : List D → Res D) (fs : Env → Res (List D)) (e : Env) : eOwn2 g fs e = (fs e).bind fun ds => calD2 g ds := rfl
end
end DL

namespace DL
open PySem PySem.Spec PyProof.Rows L2 TL PySem.W
section
variable {K : PySem.W.Frag} {cls : Cls} {X : Cx} {F H F' H' F1 H1 : Hp} {O O1 : List Addr} {Q : VK}
def caMax3 (ds : List D) : Option D := match ds with
  | [.tp xs] => match intsOf xs with
    | some (n :: ns) => some (.int (ns.foldl max n))
    | _ => none
  | ds => caMax ds
@[simp] theorem caMax3_tp (n : Int) (ns : List Int) : caMax3 [.tp (.int n :: ns.map D.int)] = some (.int (ns.foldl max n)) := by
  have : intsOf (D.int n :: ns.map D.int) = some (n :: ns) := intsOf_map (n :: ns)
  simp [caMax3, this]
end
end DL

namespace PySem
open Sem (wp)
open AutoSeq1 (wpAny_loadPart')
theorem own_enumT (l : Addr) (items : Array Value) (n : Nat) (dct : Option Addr) (sl : Array (Option Value)) :
    Meets (Builtin.«enumerate.__new__» ⟨[.type "enumerate", .ref l], []⟩) (fun _ R s => s.heap.get? l = some { cls := .type "tuple", dict := dct, data := .seq items n, slots := sl } ∧
      R (.ok (.ret (.ref (s.heap.push { cls := .type "tuple_iterator", data := .fields #[.ref l, .int 0 0] }).objs.size)))
        { s with heap := (s.heap.push { cls := .type "tuple_iterator", data := .fields #[.ref l, .int 0 0] }).push { cls := .type "enumerate", data := .fields #[.none, .bool false, .ref s.heap.objs.size, rawInt 0, .none, .none] } }) :=
  .of_wp fun prog w A R s h => by
    obtain ⟨hp, g, d, tk, os⟩ := s; obtain ⟨hl, h⟩ := h
    have hsub := sub_enumerate
    have hL : Heap.IsTuple (Shared.heap ⟨hp, g, d, tk, os⟩) l items := ⟨_, hl, rfl, n, rfl⟩
    wp_walk using wpAny_loadPart' hl
    refine wpAny_stack_any fun st => wpAny_pure ?_
    split
    · rename_i c _ _ _ _ _
      cases (c == Value.type "enumerate")
      · wp_walk using wpAny_loadPart' hl, wpAny_pyIter_tuple hL
        exact ⟨_, rfl, h⟩
      · wp_walk using wpAny_loadPart' hl, wpAny_pyIter_tuple hL
        exact ⟨_, rfl, h⟩
    · wp_walk using wpAny_loadPart' hl, wpAny_pyIter_tuple hL
      exact ⟨_, rfl, h⟩
section
variable {prog : Program} {w : World} {A : Around} {E : Value → Shared → Prop} {s : Shared}
theorem own_call_enumT {l : Addr} {items : Array Value} {Q : Value → Shared → Prop} (hL : s.heap.IsTuple l items)
    (h : ∀ h', IsEnum h' (s.heap.objs.size + 1) s.heap.objs.size 0 .none → h'.IsTupleIter s.heap.objs.size l 0 → h'.objs.size = s.heap.objs.size + 2 →
      (∀ b o, s.heap.get? b = some o → h'.get? b = some o) → Q (.ref (s.heap.objs.size + 1)) { s with heap := h' }) :
    wpAny (model prog w) A (call (.type "enumerate") [.ref l]) Q E s := by
  obtain ⟨⟨c, dct, dt, sl⟩, hl, hc, n, hd⟩ := hL
  replace hc : c = .type "tuple" := hc
  replace hd : dt = .seq items n := hd
  subst hc hd
  refine callType_new F.called_enumerate (by decide) (F.typeCall_enumerate_1 _) (F.newCall_enumerate_1 _) (fun obj => F.args_object_init_2 obj _) F.entry_enumerate_new
    (own_enumT l items n dct sl) ⟨hl, ?_⟩
  have hz : (s.heap.push { cls := .type "tuple_iterator", data := .fields #[.ref l, .int 0 0] }).objs.size = s.heap.objs.size + 1 := Heap.size_push ..
  show _ ∧ _
  rw [hz]
  have he : IsEnum ((s.heap.push { cls := .type "tuple_iterator", data := .fields #[.ref l, .int 0 0] }).push
      { cls := .type "enumerate", data := .fields #[.none, .bool false, .ref s.heap.objs.size, rawInt 0, .none, .none] }) (s.heap.objs.size + 1) s.heap.objs.size 0 .none := by
    have := Heap.get?_push_size (s.heap.push { cls := .type "tuple_iterator", data := .fields #[.ref l, .int 0 0] })
      (o := { cls := .type "enumerate", data := .fields #[.none, .bool false, .ref s.heap.objs.size, rawInt 0, .none, .none] }) rfl
    rw [hz] at this; exact this
  refine ⟨⟨_, he, rfl⟩, h _ he ⟨_, Heap.get?_push_of_some _ (Heap.get?_push_size _ rfl), rfl, rfl⟩ (by rw [Heap.size_push, hz]) fun b o x => Heap.get?_push_of_some _ (Heap.get?_push_of_some _ x)⟩
theorem own_enum_endT {e it l : Addr} {i : Nat} {items : Array Value} {old : Value} {Q : Option Value → Shared → Prop} (hh : A.handled = none)
    (he : IsEnum s.heap e it i old) (hit : s.heap.IsTupleIter it l i) (hl : s.heap.IsTuple l items) (hx : items[i]? = none)
    (hQ : ∀ h', Heap.ExtBut it s.heap h' → Q none { s with heap := h' }) : wpAny (model prog w) A (pyNext (.ref e)) Q E s := by
  have hT : s.TypeIs (.ref e) "enumerate" := ⟨_, he, rfl⟩
  unfold pyNext
  refine wpAny_bind (wpAny_attempt (wpAny_callSpecial?_slot (name := Str.ofString "__next__") hT F.slot_enumerate_next
    (wpAny_call_entry F.slot_enumerate_next hT F.entry_enumerate_next ?_ (F.args_enumerate_next_1 _))))
  show wpAny _ _ (field (.ref e) 2 >>= _) _ _ _
  refine wpAny_bind (wpAny_field he rfl (x := .ref it) rfl ?_)
  refine wpAny_bind (wpAny_nextOf_tuple_end hh hit hl hx fun h' x he' hx' => ?_)
  obtain ⟨o, ho, hc⟩ := hx'
  refine wpAny_bind (wpAny_isInstance (T := "StopIteration") (b := true) ⟨o, ho, hc⟩ isSubtype_stop ?_)
  exact wpAny_pure (hQ _ he')
end
end PySem
namespace DL
open PySem PySem.Spec PyProof.Rows L2 TL PySem.W
def ItU (K : PySem.W.Frag) (a : Addr) : It :=
  ⟨fun i H => ∃ (xs : List V) (x : V), SqT K H a xs ∧ xs[i]? = some x, fun i H v H' => ∃ T x, v = .ref T ∧ H T = none ∧ H' = upd H T (.tup [.int (i : Nat), x]) ∧ ∀ xs, SqT K H a xs → xs[i]? = some x, fun i H => ∃ xs : List V, SqT K H a xs ∧ xs.length ≤ i⟩
theorem turn_enumU {P : Program} {w : World} {K : PySem.W.Frag} {elts : List Expr} {kk : Nat} {tpos : Pos} (a e it : Addr) :
    Turn P w K (.Tuple elts kk tpos) (ItU K a) [e, it] e (fun i h => (∃ old, IsEnum h e it ((i : Nat) : Int) old) ∧ h.IsTupleIter it a i ∧ e ≠ it) where
  mem := by simp
  obj := fun i h st b hb => by
    obtain ⟨⟨old, he⟩, ⟨o, ho, hc, hd⟩, _⟩ := st
    have e' : b = e ∨ b = it := by simpa using hb
    rcases e' with z | z
    · rw [z]; exact ⟨_, he, fun v q => nomatch q⟩
    · rw [z]; exact ⟨o, ho, fun v q => by rw [hd] at q; cases q⟩
  keep := fun i h h' st k => let ⟨⟨old, he⟩, hi, hne⟩ := st; ⟨⟨old, k e (by simp) _ he⟩, hi.at fun o q => k it (by simp) o q, hne⟩
  item := by
    intro X hP hw hK hc i pins s σ H E I hf st hg
    subst hP hw hK
    obtain ⟨⟨old, he⟩, hit, hne⟩ := st
    obtain ⟨xs, x, hq, hx⟩ := hg
    obtain ⟨its, rv, p, hz⟩ := I.tuple hq
    have p' : s.heap.IsTuple a its.toArray := p
    obtain ⟨u, hu, ru⟩ := rv.get hx
    have hel : e < s.heap.objs.size := Heap.lt_size he
    have hil : it < s.heap.objs.size := by obtain ⟨_, q, _⟩ := hit; exact Heap.lt_size q
    have hai : a ≠ it := fun z => by
      subst z
      obtain ⟨o1, q1, c1, _⟩ := hit
      obtain ⟨o2, q2, c2, _⟩ := p'
      rw [q1] at q2; cases q2
      rw [c1] at c2
      exact absurd (Value.type.inj c2) (by decide)
    have hea : e ≠ a := fun z => by
      subst z
      obtain ⟨o2, q2, c2, _⟩ := p'
      have q1 := he
      unfold IsEnum at q1
      rw [q1] at q2; cases q2
      exact absurd (Value.type.inj c2) (by decide)
    have hlen := rv.length
    have hil2 : i < its.toArray.size := by
      have := (List.getElem?_eq_some_iff.mp hu).1
      simpa using this
    refine wpAny_pyNext_enum_itemD (Draws.tuple (A := X.A.in1) (I.ok.hd hc) it a hai its.toArray) he ⟨hit, p'⟩ hil2 hne (by simp [hne, hea]) fun y h' tk hy ho hst' hT hsz hk => ?_
    obtain rfl : y = u := by
      have e1 : its[i]? = some y := by simpa using hy
      rw [hu] at e1; cases e1; rfl
    refine ⟨_, rfl, wpAny_letOwnedTupleGo_enum (s := { s with heap := h', toks := tk + 1 }) ho fun h'' he' sb => ?_⟩
    have hT2 : h''.get? s.heap.objs.size = some { cls := .type "tuple", data := .seq #[.int i tk, y] } := (sb.2 _ (Nat.ne_of_gt hel)).trans hT
    have new : ObjOk X.prog X.w (upd H s.heap.objs.size (.tup [.int (i : Nat), x])) h'' s.heap.objs.size (.tup [.int (i : Nat), x]) :=
      ⟨by show 2 ≤ sizeLine; decide, [.int i tk, y], .cons ⟨_, rfl⟩ (.cons ru .nil), ⟨_, hT2, rfl, _, rfl⟩⟩
    have I1 : Inv X pins σ (upd H s.heap.objs.size (.tup [.int (i : Nat), x])) { s with heap := h'', toks := tk + 1 } :=
      I.turnedNew (ch := [e, it]) (fun b ob hb q => (sb.2 b (fun z => hb (by simp [z]))).trans (hk b ob (fun z => hb (by simp [z])) (fun z => hb (by simp [z])) q)) hf (Nat.le_refl _) new
    refine ⟨.ref s.heap.objs.size, _, I1, rfl, ⟨_, x, rfl, I.hok.fresh (Nat.le_refl _), rfl, fun ys hy => by rw [I.tuple_inj hy hq]; exact hx⟩, ⟨⟨y, ?_⟩, hst'.1.at fun o q => (sb.2 it (Ne.symm hne)).trans q, hne⟩, fun b hb => ?_⟩
    · have e1 : ((i + 1 : Nat) : Int) = (i : Int) + 1 := by omega
      rw [e1]; exact he'
    · have hb' : b < s.heap.objs.size := by
        have e' : b = e ∨ b = it := by simpa using hb
        rcases e' with z | z
        · rw [z]; exact hel
        · rw [z]; exact hil
      rw [upd_ne (Nat.ne_of_lt hb')]
      exact (hf b hb).1
  done := by
    intro X hP hw hK hc i pins s σ H E I hf st hg
    subst hP hw hK
    obtain ⟨⟨old, he⟩, hit, hne⟩ := st
    obtain ⟨xs, hq, hx⟩ := hg
    obtain ⟨its, rv, p, hz⟩ := I.tuple hq
    have p' : s.heap.IsTuple a its.toArray := p
    obtain ⟨f0, f1, f2, f3, f4, f5⟩ := hf it (by simp)
    have hl := rv.length
    exact own_enum_endT (I.ok.hd hc) he hit p' (by simp; omega) fun h' eb => ⟨rfl, I.turned (t' := s.toks) (fun b o hb q => eb b o hb q) f0 f1 f3 f4 f5⟩
  self := fun A i s Q E st h => let ⟨⟨_, he⟩, _⟩ := st; wpAny_pyIter_enum he h
def iEnumU (K : PySem.W.Frag) (ta : TA) : TI := fun σ H R => ta σ H fun vs H1 => ∃ a xs, vs = [.ref a] ∧ SqT K H1 a xs ∧ R (ItU K a) H1
theorem pi_enumU {X : Cx} {e : Expr} {ta : TA} {p pos tpos : Pos} {elts : List Expr} {kk : Nat} (hg : Gl X "enumerate") (hm : X.mg "enumerate" = none) (ha : PA X [e] ta) (hs : starEach [e] X.env = [(false, eval e X.env)] := by rfl) :
    PI X (.Tuple elts kk tpos) (.Call (.Name "enumerate" p) [e] [] pos) (iEnumU X.K ta) := by
  refine ⟨fun pins s σ H R I h => ?_⟩
  refine Call_ (ld_blt I hg hm boot_enumerate (PyProof.Rows.callWith_type1 (thn (ha.run pos pins s σ H _ I h) fun us s1 ⟨vs, H1, I1, r1, q1⟩ => ?_) hs rfl))
  obtain ⟨a, xs, ex, hq, q⟩ := q1
  subst ex
  cases r1 with
  | cons r rr =>
    cases rr
    cases r
    obtain ⟨its, rv, p', hz⟩ := I1.tuple hq
    have p2 : s1.heap.IsTuple a its.toArray := p'
    refine own_call_enumT p2 fun h' he hit hsz hk => wpAny_pyIter_enum he ?_
    have I2 : Inv X pins σ H1 { s1 with heap := h' } := I1.kept (t' := s1.toks) hk
    refine ⟨s1.heap.objs.size + 1, [s1.heap.objs.size + 1, s1.heap.objs.size], _, _, H1, rfl, I2, turn_enumU a (s1.heap.objs.size + 1) s1.heap.objs.size, ⟨⟨.none, he⟩, hit, Nat.succ_ne_self _⟩, fun b hb => ?_, q⟩
    have e' : b = s1.heap.objs.size + 1 ∨ b = s1.heap.objs.size := by simpa using hb
    have hle : s1.heap.objs.size ≤ b := by
      rcases e' with z | z
      · rw [z]; exact Nat.le_add_right _ _
      · rw [z]; exact Nat.le_refl _
    exact I1.fpOk hle (I1.hok.fresh hle)
section
variable {K : PySem.W.Frag} {cls : Cls} {W : WX} {X : Cx} {F H F' H' F1 H1 : Hp} {O O1 : List Addr} {a : Expr} {fs : Env → Res (List D)} {pos : Pos}
theorem feeds_enumU {a : Addr} {vs : List V} {ds : List D} (h : SqT K F a vs) (r : Rps K cls F vs ds) : Feeds K cls F (ItU K a) (enm 0 ds) where
  go := fun i d e F' H' s1 s2 => by
    obtain ⟨d', e1, rfl⟩ := enm_get e
    obtain ⟨v, h1, h2⟩ := r.get e1
    have h' : SqT K H' a vs := sameT (s1.trans s2) h
    refine ⟨⟨vs, v, h', h1⟩, fun x H'' y => ?_⟩
    obtain ⟨T, w, e1, e2, e3, y⟩ := y
    subst e1 e3
    have := y vs h'
    rw [h1] at this
    cases this
    have px := Ext.put (o := .tup [.int ((0 + i : Nat) : Int), v]) s2 e2
    rw [Nat.zero_add] at px ⊢
    exact ⟨_, px, .tp (SqT.of upd_same) (.cons (.int _) (.cons (h2.mono (s1.trans px.ff)) .nil))⟩
  stop := fun F' H' s1 s2 => ⟨vs, sameT (s1.trans s2) h, by rw [enm_len, r.len]; exact Nat.le_refl _⟩
def iEnm3 (fs : Env → Res (List D)) : Env → Res (List D) := fun g => (fs g).bind fun ds => match ds with
  | [d] => (Res.of (sqS d)).bind fun xs => .ok (enm 0 xs)
  | _ => .bad
@[simp] theorem iEnm3_ (fs : Env → Res (List D)) (g : Env) : iEnm3 fs g = (fs g).bind fun ds => match ds with
  | [d] => (Res.of (sqS d)).bind fun xs => .ok (enm 0 xs)
  | _ => .bad := rfl
theorem ji_enm3 {p tpos : Pos} {elts : List Expr} {kk : Nat} (hm : X.mg "enumerate" = none) (ha : JA X cls W [a] fs) (hg : Gl X "enumerate" := by rfl) (hs : starEach [a] X.env = [(false, eval a X.env)] := by rfl) :
    JI X cls W (.Tuple elts kk tpos) (.Call (.Name "enumerate" p) [a] [] pos) (iEnm3 fs) := by
  obtain ⟨t, p, d⟩ := ha.ex
  refine ⟨_, pi_or (pi_enum hg hm p hs) (pi_enumU hg hm p hs), ?_⟩
  intro σ F H g O R s st p
  rw [iEnm3_] at p
  cases ea : fs g with
  | xc c =>
    rw [ea] at p
    exact .inl (d.go s st (fun c e => by rw [ea] at e; cases e; exact p) (fun e => by rw [ea] at e; cases e) fun d e => by rw [ea] at e; cases e)
  | bad => rw [ea] at p; exact p.elim
  | ok dd =>
    rw [ea] at p
    simp only [Res.bind] at p
    split at p
    · rename_i d1
      have side : (∃ xs, lsS d1 = some xs ∧ sqS d1 = some xs) ∨ (∃ xs, tpv d1 = some xs ∧ sqS d1 = some xs) ∨ sqS d1 = none := by
        cases d1 <;> simp
      rcases side with ⟨xs, e1, e2⟩ | ⟨xs, e1, e2⟩ | e2
      · rw [e2] at p
        refine .inl (d.go s st (fun c e => by rw [ea] at e; cases e) (fun e => by rw [ea] at e; cases e) fun ds e vs F1 H1 x b => ?_)
        rw [ea] at e; cases e
        obtain ⟨v, rfl, b1⟩ := b.one
        obtain ⟨a, vs, rfl, h, r⟩ := b1.lsS e1
        exact ⟨a, vs, rfl, x.fh.seq h, p _ F1 H1 x (feeds_enum h r)⟩
      · rw [e2] at p
        refine .inr (d.go s st (fun c e => by rw [ea] at e; cases e) (fun e => by rw [ea] at e; cases e) fun ds e vs F1 H1 x b => ?_)
        rw [ea] at e; cases e
        obtain ⟨v, rfl, b1⟩ := b.one
        obtain ⟨a, vs, rfl, h, h', r⟩ := b1.tpv x.fh e1
        exact ⟨a, vs, rfl, h, p _ F1 H1 x (feeds_enumU h' r)⟩
      · rw [e2] at p; exact p.elim
    · exact p.elim
end
end DL

namespace DL
open PySem PySem.Spec PyProof.Rows L2 TL PySem.W
section
variable {K : PySem.W.Frag} {cls : Cls} {W : WX} {X : Cx} {pos : Pos}
def sClr (i : Nat) : Env → Out := fun g => match g[i]? with
  | some (.ol _) => .nx (g.set i (.ol []))
  | _ => .bad
@[simp] theorem sClr_ (i : Nat) (g : Env) : sClr i g = match g[i]? with
  | some (.ol _) => .nx (g.set i (.ol []))
  | _ => .bad := rfl
end
end DL

namespace DL
open PySem PySem.Spec PyProof.Rows L2 TL PySem.W
section
variable {K : PySem.W.Frag} {cls : Cls} {X : Cx} {F H F' H' F1 H1 : Hp} {O O1 : List Addr} {Q : VK}
def leP {α : Type} (a b : α × PyData) : Bool := !dataLt b.2 a.2
def isT1 : PyData → Bool
  | .tuple (_ :: _) => true
  | _ => false
def isO1 : PyData → Bool
  | .none => false
  | .tuple _ => false
  | _ => true
def sortD (xs : List D) : Option D := match toPys xs with
  | some ps => if (ps.all fun a => ps.all fun b => alike a b) = true ∧ (ps.all isT1 || ps.all isO1) = true ∧ (ps.all fun p => decide (p.depth ≤ 60)) = true then some (.ol (((xs.zip ps).mergeSort leP).map (·.1))) else none
  | none => none
def caSorted4 (ds : List D) : Option D := match ds with
  | [d] => match sqK d with
    | some (.ls y :: xs) => sortD (.ls y :: xs)
    | some (.tp (.int i :: .tp y :: r) :: xs) => sortD (.tp (.int i :: .tp y :: r) :: xs)
    | _ => caSorted3 ds
  | ds => caSorted3 ds
@[simp] theorem caSorted4_tp (ns : List Int) : caSorted4 [.tp (ns.map D.int)] = some (.ol ((srt ns).map D.int)) := by
  simp [caSorted4]
@[simp] theorem caSorted4_ls (ns : List Int) : caSorted4 [.ls (ns.map D.int)] = some (.ol ((srt ns).map D.int)) := by
  cases ns with
  | nil => simp [caSorted4]; rfl
  | cons a l => simp [caSorted4]; exact caSorted3_ls (a :: l)
@[simp] theorem caSorted4_bo (ns : List Int) : caSorted4 [.bo (ns.map D.int)] = some (.ol ((srt ns).map D.int)) := by
  cases ns with
  | nil => simp [caSorted4]; rfl
  | cons a l => simp [caSorted4]; exact caSorted3_bo (a :: l)
end
end DL

namespace DL
open PySem PySem.Spec PyProof.Rows L2 TL PySem.W
section
variable {K : PySem.W.Frag} {cls : Cls} {W : WX} {X : Cx} {F H F' H' F1 H1 : Hp} {O O1 : List Addr} {Q : VK} {a b e : Expr} {es : List Expr} {fa fb fc : Env → Res D} {fs : Env → Res (List D)} {pos : Pos}
def sIns (i : Nat) (fs : Env → Res (List D)) : Env → Out := fun g => match g[i]? with
  | some (.ol xs) => (fs g).st g fun ds => match ds with
    | [.int j, .int n] => match intsOf xs with
      | some ns => if 0 ≤ j ∧ j ≤ 1000000000 ∧ xs.length < lim then .nx (g.set i (.ol ((ns.take j.toNat ++ [n] ++ ns.drop j.toNat).map D.int))) else .bad
      | none => .bad
    | _ => .bad
  | _ => .bad
@[simp] theorem sIns_ (i : Nat) (fs : Env → Res (List D)) (g : Env) : sIns i fs g = match g[i]? with
  | some (.ol xs) => (fs g).st g fun ds => match ds with
    | [.int j, .int n] => match intsOf xs with
      | some ns => if 0 ≤ j ∧ j ≤ 1000000000 ∧ xs.length < lim then .nx (g.set i (.ol ((ns.take j.toNat ++ [n] ++ ns.drop j.toNat).map D.int))) else .bad
      | none => .bad
    | _ => .bad
  | _ => .bad := rfl
def sDel (i : Nat) (fa : Env → Res D) : Env → Out := fun g => match g[i]? with
  | some (.ol xs) => (fa g).st g fun d => match opd d with
    | .int z => match ixN xs.length z with
      | some k => match xs[k]? with
        | some y => if own1 y = false ∧ xs.length ≤ lim then .nx (g.set i (.ol (xs.eraseIdx k))) else .bad
        | none => .bad
      | none => .bad
    | _ => .bad
  | _ => .bad
@[simp] theorem sDel_ (i : Nat) (fa : Env → Res D) (g : Env) : sDel i fa g = match g[i]? with
  | some (.ol xs) => (fa g).st g fun d => match opd d with
    | .int z => match ixN xs.length z with
      | some k => match xs[k]? with
        | some y => if own1 y = false ∧ xs.length ≤ lim then .nx (g.set i (.ol (xs.eraseIdx k))) else .bad
        | none => .bad
      | none => .bad
    | _ => .bad
  | _ => .bad := rfl
end
end DL

set_option maxHeartbeats 1000000
namespace DL
def iotaR (n : Nat) : List Int := (List.range n).map fun i : Nat => (n : Int) - 1 - (i : Int)
end DL
namespace RR
open PySem PySem.Spec PyProof.Rows
section
variable {prog : Program} {w : World} {A : Around} {E : Value → Shared → Prop} {s : Shared}
end
end RR
namespace DL
open PySem PySem.Spec PyProof.Rows L2
section
variable {X : Cx} {cls : Cls} {W : WX} {K : PySem.W.Frag}
variable {e : Expr} {te : L2.St → Hp → (Int → Int → Hp → Prop) → Prop}
def eLRR1 (fa : Env → Res D) : Env → Res D := fun g => (fa g).bind fun d => match opd d with
  | .int n => if rgOk n ∧ n ≤ 1000000 then .ok (.ol ((iotaR n.toNat).map D.int)) else .bad
  | _ => .bad
@[simp] theorem eLRR1_ (fa : Env → Res D) (g : Env) : eLRR1 fa g = (fa g).bind fun d => match opd d with
  | .int n => if rgOk n ∧ n ≤ 1000000 then .ok (.ol ((iotaR n.toNat).map D.int)) else .bad
  | _ => .bad := rfl
end
end DL

namespace DL
open PySem PySem.Spec PyProof.Rows L2
section
variable {P : Program} {w : World} {A : Around} {E : Value → Shared → Prop} {s : Shared}
end
end DL

namespace DL
open PySem PySem.Spec PyProof.Rows L2
section
variable {X : Cx} {cls : Cls} {W : WX} {K : PySem.W.Frag} {F H F' H' : Hp}
def tpI (d : D) : Option (List Int) := match opd d with
  | .tp xs => intsOf xs
  | _ => none
@[simp] theorem tpI_tp (ns : List Int) : tpI (.tp (ns.map D.int)) = some ns := by simp [tpI]
def eLenSetT (fa : Env → Res D) : Env → Res D := fun g => (fa g).bind fun d => match tpI d with
  | some ns => if ns.length ≤ 4000 then .ok (.int (sset ns).length) else .bad
  | none => .bad
@[simp] theorem eLenSetT_ (fa : Env → Res D) (g : Env) : eLenSetT fa g = (fa g).bind fun d => match tpI d with
  | some ns => if ns.length ≤ 4000 then .ok (.int (sset ns).length) else .bad
  | none => .bad := rfl
end
end DL

namespace DL
open PySem PySem.Spec PyProof.Rows L2
section
variable {κ β : Type} [DecidableEq κ]
def valG (kvs : List (κ × β)) (k : κ) : Option β := (kvs.find? fun kv => decide (kv.1 = k)).map (·.2)
def putG (kvs : List (κ × β)) (k : κ) (v : β) : List (κ × β) :=
  if (kvs.any fun kv => decide (kv.1 = k)) = true then kvs.map (fun kv => if kv.1 = k then (kv.1, v) else kv) else kvs ++ [(k, v)]
end
inductive PR (R : V → D → Prop) : List (Key × V) → List (Key × D) → Prop
  | nil : PR R [] []
  | cons {k : Key} {v : V} {d : D} {l : List (Key × V)} {m : List (Key × D)} : R v d → PR R l m → PR R ((k, v) :: l) ((k, d) :: m)
section
variable {R : V → D → Prop}
theorem PR.any {l : List (Key × V)} {m : List (Key × D)} (h : PR R l m) (k : Key) : (l.any fun kv => decide (kv.1 = k)) = m.any fun kv => decide (kv.1 = k) := by
  induction h with
  | nil => rfl
  | cons r _ ih => simp only [List.any_cons, ih]
theorem PR.val {l : List (Key × V)} {m : List (Key × D)} (h : PR R l m) {k : Key} {d : D} (e : valG m k = some d) : ∃ v, valV l k = some v ∧ R v d := by
  induction h with
  | nil => cases e
  | @cons j v d' l m r t ih =>
    unfold valG at e
    by_cases q : j = k
    · rw [List.find?_cons_of_pos (by simp [q])] at e
      cases e
      exact ⟨v, by unfold valV; rw [List.find?_cons_of_pos (by simp [q])]; rfl, r⟩
    · rw [List.find?_cons_of_neg (by simp [q])] at e
      obtain ⟨v', h1, h2⟩ := ih e
      exact ⟨v', by unfold valV; rw [List.find?_cons_of_neg (by simp [q])]; exact h1, h2⟩
theorem PR.rep {l : List (Key × V)} {m : List (Key × D)} (h : PR R l m) (k : Key) {v : V} {d : D} (r : R v d) : PR R (l.map fun kv => if kv.1 = k then (kv.1, v) else kv) (m.map fun kv => if kv.1 = k then (kv.1, d) else kv) := by
  induction h with
  | nil => exact .nil
  | @cons j v' d' l m r' t ih =>
    simp only [List.map_cons]
    by_cases q : j = k
    · rw [if_pos q, if_pos q]; exact .cons r ih
    · rw [if_neg q, if_neg q]; exact .cons r' ih
theorem PR.snoc {l : List (Key × V)} {m : List (Key × D)} (h : PR R l m) (k : Key) {v : V} {d : D} (r : R v d) : PR R (l ++ [(k, v)]) (m ++ [(k, d)]) := by
  induction h with
  | nil => exact .cons r .nil
  | cons r' t ih => exact .cons r' ih
theorem PR.put {l : List (Key × V)} {m : List (Key × D)} (h : PR R l m) (k : Key) {v : V} {d : D} (r : R v d) : PR R (putK l k v) (putG m k d) := by
  unfold putK putG
  rw [h.any k]
  split
  · exact h.rep k r
  · exact h.snoc k r
theorem PR.zipE {l : List (Key × V)} {m : List (Key × D)} (h : PR R l m) : l = (m.map (·.1)).zip (l.map (·.2)) ∧ (m.map (·.1)).length = (l.map (·.2)).length ∧ l.length = m.length := by
  induction h with
  | nil => exact ⟨rfl, rfl, rfl⟩
  | cons r t ih =>
    obtain ⟨h1, h2, h3⟩ := ih
    refine ⟨?_, by simp [h3], by simp [h3]⟩
    simp only [List.map_cons, List.zip_cons_cons]
    rw [← h1]
end
section
variable {K : PySem.W.Frag} {cls : Cls} {F H F' H' : Hp} {X : Cx} {W : WX} {O : List Addr}
theorem pr_bos : ∀ {ks : List Key} {vs : List V} {ds : List D}, Bos K cls F H vs ds → ks.length = vs.length → PR (Bo K cls F H) (ks.zip vs) (ks.zip ds)
  | [], _, _, _, _ => .nil
  | k :: ks, _, _, .cons a b, h => .cons a (pr_bos b (by simpa using h))
  | k :: ks, _, _, .nil, h => by simp at h
theorem ows_sh : ∀ {vs : List V} {ds : List D} {O : List Addr}, Ows K cls F H vs ds O → (ds.all fun d => !own1 d) = true → O = [] ∧ Rps K cls F vs ds
  | _, _, _, .nil, _ => ⟨rfl, .nil⟩
  | _, _, _, .cons a b dj e, h => by
    simp only [List.all_cons, Bool.and_eq_true] at h
    obtain ⟨h1, h2⟩ := ows_sh b h.2
    cases a with
    | sh r => exact ⟨by rw [e, h1]; rfl, .cons r h2⟩
    | _ => simp [own1] at h
theorem pr_rps : ∀ {ks : List Key} {vs : List V} {ds : List D}, Rps K cls F vs ds → ks.length = vs.length → PR (Rp K cls F) (ks.zip vs) (ks.zip ds)
  | [], _, _, _, _ => .nil
  | k :: ks, _, _, .cons a b, h => .cons a (pr_rps b (by simpa using h))
  | k :: ks, _, _, .nil, h => by simp at h
theorem PR.rps {l : List (Key × V)} {m : List (Key × D)} (h : PR (Rp K cls F) l m) : Rps K cls F (l.map (·.2)) (m.map (·.2)) := by
  induction h with
  | nil => exact .nil
  | cons r t ih => exact .cons r ih
def eDic : Env → Res D := fun _ => .ok (.od [] [])
@[simp] theorem eDic_ (g : Env) : eDic g = .ok (.od [] []) := rfl
theorem je_dic {pos : Pos} : JE X cls W (.Dict [] [] pos) eDic := by
  refine ⟨_, pe_dnewK, ?_⟩
  intro σ F H g O Q s st p q hq
  refine p (.ref q) F _ [q] (Ext.own s hq) (fresh_new hq) (.inl ?_)
  exact .od (O := []) (s.free hq) (by rw [upd_same]; rfl) rfl (fun h => nomatch h) .nil
def opDG : D → D → Option D
  | .bd ks ds, .int k => valG (ks.zip ds) (.inl k)
  | _, _ => none
def rDG : V → V → Hp → VK → Prop := fun x y H Q => ∃ a v, x = .ref a ∧ DGet H a y (some v) ∧ Q v H
theorem ok_dg : R2Ok K cls rDG opDG := by
  intro F H x y a b d Q s b1 b2 e q
  unfold opDG at e
  split at e
  · rename_i ks ds k
    obtain rfl := b2.int
    cases b1 with
    | sh r => cases r
    | @bd a' _ vs _ h l r =>
      obtain ⟨v, h1, h2⟩ := (pr_bos r l).val e
      refine ⟨a', v, rfl, ?_, q v F H [] (.refl s) Fresh.nil (.inr ⟨h2, rfl⟩)⟩
      rw [← h1]
      exact DGet.k (k := .inl k) h
  · cases e
theorem je_dget {a b : Expr} {fa fb : Env → Res D} {k : Nat} {pos : Pos} (c : Cn X W k) (ha : JE X cls W a fa) (hb : JE X cls W b fb) (hs : NoSl b := by exact fun _ _ => rfl) : JE X cls W (.Subscript a b pos) (eBin opDG fa fb) := by
  obtain ⟨ta, pa, da⟩ := ha.ex
  obtain ⟨tb, pb, db⟩ := hb.ex
  have hu := c.eq
  exact ⟨tOp rDG ta tb, pe_dget (by omega) pa pb hs, de_bin ok_dg da db⟩
def cDI : D → D → Option Bool
  | .int k, .bd ks ds => some ((ks.zip ds).any fun kv => decide (kv.1 = .inl k))
  | _, _ => none
def cDN : D → D → Option Bool := fun a b => (cDI a b).map (!·)
def rDI (n : Bool) : V → V → Hp → VK → Prop := fun y x H Q => ∃ a o, x = .ref a ∧ DGet H a y o ∧ Q (.bl (if n then !o.isSome else o.isSome)) H
theorem op_di (hu : X.A.units + 1 < cLine) : OpR X (compareOp .In) (rDI false) := by
  intro pins s σ H x y v u Q I rx ry h
  obtain ⟨a, o, ex, g, q⟩ := h
  subst ex
  obtain rfl : u = Value.ref a := ry
  exact d_in hu I g rx fun s3 I3 => ⟨.bl o.isSome, H, I3, rfl, q⟩
theorem op_dn (hu : X.A.units + 1 < cLine) : OpR X (compareOp .NotIn) (rDI true) := by
  intro pins s σ H x y v u Q I rx ry h
  obtain ⟨a, o, ex, g, q⟩ := h
  subst ex
  obtain rfl : u = Value.ref a := ry
  exact d_notIn hu I g rx fun s3 I3 => ⟨.bl (!o.isSome), H, I3, rfl, q⟩
theorem valV_anyK (l : List (Key × V)) (k : Key) : (valV l k).isSome = l.any fun kv => decide (kv.1 = k) := (valV_any k l).symm
theorem di_ok {x y : V} {a b : D} {d : Bool} (b1 : Bo K cls F H x a) (b2 : Bo K cls F H y b) (e : cDI a b = some d) : ∃ q o, y = .ref q ∧ DGet H q x o ∧ o.isSome = d := by
  unfold cDI at e
  split at e
  · rename_i k ks ds
    obtain rfl := b1.int
    cases b2 with
    | sh r => cases r
    | @bd a' _ vs _ h l r =>
      refine ⟨a', valV (ks.zip vs) (.inl k), rfl, DGet.k (k := .inl k) h, ?_⟩
      rw [valV_anyK, (pr_bos r l).any]
      exact Option.some.inj e
  · cases e
theorem ok_di : C2Ok K cls (rDI false) cDI := by
  intro F H x y a b d Q s b1 b2 e q
  obtain ⟨p, o, e1, h1, h2⟩ := di_ok b1 b2 e
  exact ⟨p, o, e1, h1, by rw [if_neg (by decide), h2]; exact q⟩
theorem ok_dn : C2Ok K cls (rDI true) cDN := by
  intro F H x y a b d Q s b1 b2 e q
  unfold cDN at e
  cases e0 : cDI a b with
  | none => rw [e0] at e; cases e
  | some k =>
    rw [e0] at e
    cases e
    obtain ⟨p, o, e1, h1, h2⟩ := di_ok b1 b2 e0
    exact ⟨p, o, e1, h1, by rw [if_pos rfl, h2]; exact q⟩
theorem Sts.dct {g : Env} {i : Nat} {ks : List Key} {xs : List D} {σ : L2.St} (st : Sts K cls F H σ g O) (e : g[i]? = some (.od ks xs)) : ∃ p vs O1, σ[i]? = some (some (.ref p)) ∧ H p = some (.dK (ks.zip vs)) ∧ ks.length = vs.length ∧ F p = none ∧ Ows K cls F H vs xs O1 ∧
    ∀ (F' H' : Hp) (ks' : List Key) (ws : List V) (ys : List D), Ext F H F' H' → Rps K cls F' ws ys → ks'.length = ws.length →
      ∃ O'', Sts K cls F' (upd H' p (.dK (ks'.zip ws))) σ (g.set i (.od ks' ys)) O'' ∧ SExt F H O F' (upd H' p (.dK (ks'.zip ws))) O'' := by
  obtain ⟨P, h1, h2, h3, _⟩ := st.at i (List.getElem?_eq_some_iff.mp e).1
  rcases h2 with ⟨h2, _⟩ | ⟨v, d, h2, h2', ow⟩
  · rw [e] at h2; cases h2
  · rw [e] at h2'; cases h2'
    cases ow with
    | sh r => cases r
    | @od p _ vs _ O1 f1 f2 fl f3 f4 =>
      refine ⟨p, vs, O1, h2, f2, fl, f1, f4, fun F' H' ks' ws ys x w hl => ?_⟩
      have hp : F' p = none := x.ow p f1 (by rw [f2]; exact fun e => nomatch e)
      have up : ∀ b, b ≠ p → upd H' p (.dK (ks'.zip ws)) b = H' b := fun b hb => upd_ne hb
      obtain ⟨O'', q1, q2⟩ := h3 F' (upd H' p (.dK (ks'.zip ws))) (.ref p) (.od ks' ys) [p] (fun b hb hn => by
          obtain ⟨e1, e2⟩ := x.get (st.dom b hb).1 (st.dom b hb).2
          exact ⟨(up b fun z => hn (by simp [z])).trans e1, e2⟩) x.ff
        (.od (O := []) hp upd_same hl (fun h => nomatch h) w.toOws) (fun a ha hO => by
          rcases List.mem_cons.mp ha with rfl | ha
          · simp
          · exact nomatch ha)
      rw [set_self h2] at q1
      refine ⟨O'', q1, x.ff, fun b o q => ?_, fun b o q hn => ?_, fun b h1 h2 _ => x.ow b h1 h2, fun b hb => ?_⟩
      · rw [up b fun z => by rw [z, hp] at q; cases q]; exact x.fh b o q
      · rw [up b fun z => hn (z ▸ h1 p (by simp))]; exact x.hh b o q
      · rcases q2 b hb with z | z
        · exact .inl z
        · rcases List.mem_cons.mp z with rfl | z
          · exact .inl (h1 _ (by simp))
          · exact nomatch z
def sDSet (i : Nat) (fk fa : Env → Res D) : Env → Out := fun g => ((fa g).bind kp).st g fun d => match g[i]? with
  | some (.od ks xs) => (fk g).st g fun k => match opd k with
    | .int k => if xs.all (fun d => !own1 d) = true ∧ own1 d = false ∧ ks.length < lim then .nx (g.set i (.od ((putG (ks.zip xs) (.inl k) d).map (·.1)) ((putG (ks.zip xs) (.inl k) d).map (·.2)))) else .bad
    | _ => .bad
  | _ => .bad
@[simp] theorem sDSet_ (i : Nat) (fk fa : Env → Res D) (g : Env) : sDSet i fk fa g = ((fa g).bind kp).st g fun d => match g[i]? with
  | some (.od ks xs) => (fk g).st g fun k => match opd k with
    | .int k => if xs.all (fun d => !own1 d) = true ∧ own1 d = false ∧ ks.length < lim then .nx (g.set i (.od ((putG (ks.zip xs) (.inl k) d).map (·.1)) ((putG (ks.zip xs) (.inl k) d).map (·.2)))) else .bad
    | _ => .bad
  | _ => .bad := rfl
theorem js_dset {a b : Expr} {fa : Env → Res D} {pos : Pos} {i k : Nat} {x : Str} {npos spos : Pos} {fk : Env → Res D} (c : Cn X W k) (hN : X.N[i]? = some x) (hv : Vis X.env.scope x) (ha : JE X cls W a fa) (hk : JE X cls W b fk) (hd : (x == ("__debug__" : Str)) = false := by decide) (hcd : (x == ("__classdict__" : Str)) = false := by decide)
    (hs : swapsWith a (some (.Subscript (.Name x npos) b spos)) pos.line X.env = pure false := by rfl) : JS X cls W (.Assign [.Subscript (.Name x npos) b spos] a pos) (sDSet i fk fa) := by
  obtain ⟨t, p, d⟩ := ha.ex
  obtain ⟨t2, p2, d2⟩ := hk.ex
  have hu := c.eq
  refine ⟨_, ps_dput (by omega) (pe_var hN hv hd hcd) p2 p hs, ?_⟩
  intro D σ F H g O s st p
  rw [sDSet_] at p
  refine d.goS s st p fun dd e p v F1 H1 O2 x fr w => ?_
  split at p
  · rename_i ks xs eg
    obtain ⟨q, vs, O1, h1, h2, hl, h2', h4, h7⟩ := st.dct eg
    refine ⟨.ref q, h1, ?_⟩
    refine d2.go x.fh (st.ext x) (fun c e F' H' y => by rw [e] at p; exact p σ F' H' O ((x.trans y).sext fun a h => .inl h) (st.ext (x.trans y))) (fun e => by rw [e] at p; exact p) fun kd e kv F3 H3 x3 b3 => ?_
    rw [e, Res.st_ok] at p
    split at p
    · rename_i k ek
      split at p
      · rename_i hc
        obtain ⟨c1, c2, c3⟩ := hc
        rw [ek] at b3
        obtain rfl := b3.int
        have x13 := x.trans x3
        obtain ⟨rfl, r1⟩ := ows_sh (h4.ext x13) c1
        have rd : Rp X.K cls F3 v dd := by
          cases w with
          | sh r => exact r.mono x3.ff
          | _ => simp [own1] at c2
        have pr := (pr_rps r1 hl).put (.inl k) rd
        obtain ⟨z1, z2, z3⟩ := pr.zipE
        have lz : (ks.zip vs).length < sizeLine := by
          have : (ks.zip vs).length ≤ ks.length := by rw [List.length_zip]; exact Nat.min_le_left _ _
          have := lim_lt c3
          omega
        refine ⟨q, _, rfl, DPut.k (k := .inl k) (x13.hh _ _ h2) lz, ?_⟩
        obtain ⟨O'', y1, y2⟩ := h7 F3 H3 ((putG (ks.zip xs) (.inl k) dd).map (·.1)) ((putK (ks.zip vs) (.inl k) v).map (·.2)) ((putG (ks.zip xs) (.inl k) dd).map (·.2)) x13 pr.rps z2
        rw [← z1] at y1 y2
        exact p σ F3 _ O'' y2 y1
      · exact p.elim
    · exact p.elim
  · exact p.elim
end
def ddK (l : List (Int × D)) : List Key := l.map fun x => .inl x.1
def ddV (l : List (Int × D)) : List D := l.map (·.2)
theorem zip_ddK (l : List (Int × D)) : (ddK l).zip (ddV l) = l.map fun x => ((.inl x.1 : Key), x.2) := by
  unfold ddK ddV
  induction l with
  | nil => rfl
  | cons a l ih => simp [ih]
theorem put_ddK (l : List (Int × D)) (k : Int) (d : D) : putG ((ddK l).zip (ddV l)) (.inl k) d = (ddK (putG l k d)).zip (ddV (putG l k d)) := by
  rw [zip_ddK, zip_ddK]
  unfold putG
  have e : ((l.map fun x => ((.inl x.1 : Key), x.2)).any fun kv => decide (kv.1 = .inl k)) = l.any fun kv => decide (kv.1 = k) := by
    rw [List.any_map]; congr 1; funext x; simp
  rw [e]
  split
  · rw [List.map_map, List.map_map]
    refine List.map_congr_left fun x _ => ?_
    by_cases q : x.1 = k <;> simp [q]
  · simp
theorem putD_k (l : List (Int × D)) (k : Int) (d : D) : (putG ((ddK l).zip (ddV l)) (.inl k) d).map (·.1) = ddK (putG l k d) := by
  rw [put_ddK, List.map_fst_zip]; simp [ddK, ddV]
theorem putD_d (l : List (Int × D)) (k : Int) (d : D) : (putG ((ddK l).zip (ddV l)) (.inl k) d).map (·.2) = ddV (putG l k d) := by
  rw [put_ddK, List.map_snd_zip]; simp [ddK, ddV]
theorem opDG_dd (l : List (Int × D)) (k : Int) : opDG (.bd (ddK l) (ddV l)) (.int k) = valG l k := by
  show valG ((ddK l).zip (ddV l)) (.inl k) = _
  rw [zip_ddK]
  induction l with
  | nil => rfl
  | cons a l ih =>
    unfold valG at ih ⊢
    by_cases q : a.1 = k
    · rw [List.map_cons, List.find?_cons_of_pos (by simp [q]), List.find?_cons_of_pos (by simp [q])]; rfl
    · rw [List.map_cons, List.find?_cons_of_neg (by simp [q]), List.find?_cons_of_neg (by simp [q])]; exact ih
theorem cDI_dd (l : List (Int × D)) (k : Int) : cDI (.int k) (.bd (ddK l) (ddV l)) = some (l.any fun kv => decide (kv.1 = k)) := by
  show some (((ddK l).zip (ddV l)).any fun kv => decide (kv.1 = .inl k)) = _
  rw [zip_ddK, List.any_map]
  congr 2
  funext x; simp
end DL
namespace DL
open L2 in
theorem Cn.eq1 {X : L2.Cx} {W : L2.WX} {k : Nat} (c : Cn X W k) : X.A.units + 1 < PySem.cLine := by have := c.eq; omega
end DL

namespace DL
open PySem PySem.Spec PyProof.Rows L2
section
variable {K : PySem.W.Frag} {cls : Cls} {W : WX} {X : Cx} {F H F' H' : Hp} {O : List Addr} {a b e tg iter elt : Expr} {fs : Env → Res (List D)} {fa fb : Env → Res D} {pos : Pos}
def sAsgI (i : Nat) (fa : Env → Res D) : Env → Out := fun g => ((fa g).bind kp).st g fun d => match d with
  | .ol xs => if nods xs = true then .nx (g.set i (.ol (frzs xs))) else .bad
  | _ => .bad
@[simp] theorem sAsgI_ (i : Nat) (fa : Env → Res D) (g : Env) : sAsgI i fa g = ((fa g).bind kp).st g fun d => match d with
  | .ol xs => if nods xs = true then .nx (g.set i (.ol (frzs xs))) else .bad
  | _ => .bad := rfl
def sSwp (i : Nat) (fk fl fa : Env → Res D) : Env → Out := fun g => ((fa g).bind kp).st g fun d => if nod d = true then match frz d, g[i]? with
  | .tp [d1, d2], some (.ol xs) => match fk g with
    | .ok k => match opd k with
      | .int k => match ixN xs.length k with
        | some j => match fl (g.set i (.ol (xs.set j d1))) with
          | .ok l => match opd l with
            | .int l => match ixN (xs.set j d1).length l with
              | some m => .nx (g.set i (.ol ((xs.set j d1).set m d2)))
              | none => .bad
            | _ => .bad
          | _ => .bad
        | none => .bad
      | _ => .bad
    | _ => .bad
  | _, _ => .bad else .bad
@[simp] theorem sSwp_ (i : Nat) (fk fl fa : Env → Res D) (g : Env) : sSwp i fk fl fa g = ((fa g).bind kp).st g fun d => if nod d = true then match frz d, g[i]? with
  | .tp [d1, d2], some (.ol xs) => match fk g with
    | .ok k => match opd k with
      | .int k => match ixN xs.length k with
        | some j => match fl (g.set i (.ol (xs.set j d1))) with
          | .ok l => match opd l with
            | .int l => match ixN (xs.set j d1).length l with
              | some m => .nx (g.set i (.ol ((xs.set j d1).set m d2)))
              | none => .bad
            | _ => .bad
          | _ => .bad
        | none => .bad
      | _ => .bad
    | _ => .bad
  | _, _ => .bad else .bad := rfl
def sAug2 (op : Int → Int → Int) (i j1 j2 : Nat) (fa : Env → Res D) : Env → Out := fun g => match g[i]?, g[j1]?, g[j2]? with
  | some (.ol xs), some (.int k1), some (.int k2) => match ixN xs.length k1 with
    | some z => match xs[z]? with
      | some (.ol ys) => if 0 ≤ k2 ∧ k2 < 1000000000 then match ys[k2.toNat]? with
        | some (.int n) => (fa g).st g fun d => match opd d with
          | .int b => .nx (g.set i (.ol (xs.set z (.ol (ys.set k2.toNat (.int (op n b)))))))
          | _ => .bad
        | _ => .bad else .bad
      | _ => .bad
    | none => .bad
  | _, _, _ => .bad
@[simp] theorem sAug2_ (op : Int → Int → Int) (i j1 j2 : Nat) (fa : Env → Res D) (g : Env) : sAug2 op i j1 j2 fa g = match g[i]?, g[j1]?, g[j2]? with
  | some (.ol xs), some (.int k1), some (.int k2) => match ixN xs.length k1 with
    | some z => match xs[z]? with
      | some (.ol ys) => if 0 ≤ k2 ∧ k2 < 1000000000 then match ys[k2.toNat]? with
        | some (.int n) => (fa g).st g fun d => match opd d with
          | .int b => .nx (g.set i (.ol (xs.set z (.ol (ys.set k2.toNat (.int (op n b)))))))
          | _ => .bad
        | _ => .bad else .bad
      | _ => .bad
    | none => .bad
  | _, _, _ => .bad := rfl
end
end DL

namespace DL
open PySem PySem.Spec PyProof.Rows L2
section
variable {K : PySem.W.Frag} {cls : Cls} {W : WX} {X : Cx} {F H F' H' : Hp} {O : List Addr} {a b e tg iter elt : Expr} {fs : Env → Res (List D)} {fa fb : Env → Res D} {pos : Pos}
def opAddS (a b : D) : Option D := match sqK a, sqK b with
    | some xs, some ys => if xs.length + ys.length ≤ lim then some (.ol (xs ++ ys)) else none
    | _, _ => none
@[simp] theorem opAddS_sl {xs ys : List D} (h : xs.length + ys.length ≤ lim) : opAddS (.sc xs) (.ls ys) = some (.ol (xs ++ ys)) := if_pos h
end
end DL

namespace PySem
open Sem (wp)
section
variable {prog : Program} {w : World} {A : Around} {E : Value → Shared → Prop} {s : Shared}
end
end PySem
namespace DL
open PySem PySem.Spec PyProof.Rows L2 TL PySem.W
section
variable {K : PySem.W.Frag} {cls : Cls} {W : WX} {X : Cx} {F H F' H' F1 H1 : Hp} {O O1 : List Addr} {a b : Expr} {fs : Env → Res (List D)} {pos : Pos}
def iZp2 (fs : Env → Res (List D)) : Env → Res (List D) := fun g => (fs g).bind fun ds => match ds with
  | [d, e] => (Res.of (lsS d)).bind fun xs => (Res.of (sqS e)).bind fun ys => .ok (zipD xs ys)
  | _ => .bad
@[simp] theorem iZp2_ (fs : Env → Res (List D)) (g : Env) : iZp2 fs g = (fs g).bind fun ds => match ds with
  | [d, e] => (Res.of (lsS d)).bind fun xs => (Res.of (sqS e)).bind fun ys => .ok (zipD xs ys)
  | _ => .bad := rfl
end
end DL

namespace DL
open PySem PySem.Spec PyProof.Rows L2 TL PySem.W
section
variable {K : PySem.W.Frag} {cls : Cls} {W : WX} {X : Cx} {F H F' H' F1 H1 : Hp} {O O1 : List Addr} {a b : Expr} {fs : Env → Res (List D)} {pos : Pos}
def zpA : D → D → Option (List D)
  | .tp xs, .tp ys => some (zipD xs ys)
  | d, e => match lsS d, sqS e with
    | some xs, some ys => some (zipD xs ys)
    | _, _ => none
@[simp] theorem zpA_tt {xs ys : List D} : zpA (.tp xs) (.tp ys) = some (zipD xs ys) := rfl
@[simp] theorem zpA_lt {xs ys : List D} : zpA (.ls xs) (.tp ys) = some (zipD xs ys) := rfl
@[simp] theorem zpA_ll {xs ys : List D} : zpA (.ls xs) (.ls ys) = some (zipD xs ys) := rfl
def iZp3 (fs : Env → Res (List D)) : Env → Res (List D) := fun g => (fs g).bind fun ds => match ds with
  | [d, e] => Res.of (zpA d e)
  | _ => .bad
@[simp] theorem iZp3_ (fs : Env → Res (List D)) (g : Env) : iZp3 fs g = (fs g).bind fun ds => match ds with
  | [d, e] => Res.of (zpA d e)
  | _ => .bad := rfl
end
end DL

namespace DL
open PySem L2
section
variable {K : PySem.W.Frag} {cls : Cls} {W : WX} {X : Cx} {a : Expr} {fa : Env → Res D}
def eFrz (fa : Env → Res D) : Env → Res D := fun g => ((fa g).bind kp).bind fun d => if nod d = true then .ok (frz d) else .bad
@[simp] theorem eFrz_ (fa : Env → Res D) (g : Env) : eFrz fa g = ((fa g).bind kp).bind fun d => if nod d = true then .ok (frz d) else .bad := rfl
end
end DL

namespace DL
open PySem PySem.Spec PyProof.Rows L2 TL PySem.W
section
variable {K : PySem.W.Frag} {cls : Cls} {W : WX} {X : Cx} {F H F' H' F1 H1 : Hp} {O O1 : List Addr} {Q : VK} {a b e : Expr} {es : List Expr} {fa fb fc : Env → Res D} {fs : Env → Res (List D)} {pos : Pos}
def sIns2 (i : Nat) (fs : Env → Res (List D)) : Env → Out := fun g => match g[i]? with
  | some (.ol xs) => (fs g).st g fun ds => match ds with
    | [.int j, d] => if 0 ≤ j ∧ j ≤ 1000000000 ∧ xs.length < lim ∧ xs.all (fun d => !own1 d) = true ∧ shd1 d = true then .nx (g.set i (.ol (xs.take j.toNat ++ [d] ++ xs.drop j.toNat))) else .bad
    | _ => .bad
  | _ => .bad
@[simp] theorem sIns2_ (i : Nat) (fs : Env → Res (List D)) (g : Env) : sIns2 i fs g = match g[i]? with
  | some (.ol xs) => (fs g).st g fun ds => match ds with
    | [.int j, d] => if 0 ≤ j ∧ j ≤ 1000000000 ∧ xs.length < lim ∧ xs.all (fun d => !own1 d) = true ∧ shd1 d = true then .nx (g.set i (.ol (xs.take j.toNat ++ [d] ++ xs.drop j.toNat))) else .bad
    | _ => .bad
  | _ => .bad := rfl
end
end DL

namespace DL
open PySem PySem.Spec PyProof.Rows L2 TL PySem.W
section
variable {K : PySem.W.Frag} {cls : Cls} {W : WX} {X : Cx} {F H F' H' F1 H1 : Hp} {O O1 : List Addr} {Q : VK} {a b e tg : Expr} {es : List Expr} {fa fb fc : Env → Res D} {fs : Env → Res (List D)} {pos : Pos}
def sRvs (i : Nat) : Env → Out := fun g => match g[i]? with
  | some (.ol xs) => if xs.all (fun d => !own1 d) = true then .nx (g.set i (.ol xs.reverse)) else .bad
  | _ => .bad
@[simp] theorem sRvs_ (i : Nat) (g : Env) : sRvs i g = match g[i]? with
  | some (.ol xs) => if xs.all (fun d => !own1 d) = true then .nx (g.set i (.ol xs.reverse)) else .bad
  | _ => .bad := rfl
def iRvA (fa : Env → Res D) : Env → Res (List D) := fun g => (fa g).bind fun a => (Res.of (sqS (opd a))).bind fun xs => .ok xs.reverse
@[simp] theorem iRvA_ (fa : Env → Res D) (g : Env) : iRvA fa g = (fa g).bind fun a => (Res.of (sqS (opd a))).bind fun xs => .ok xs.reverse := rfl
theorem or_one (n : Nat) : n ||| 1 = 2 * (n / 2) + 1 := by
  have h1 : (n ||| 1) / 2 = n / 2 := by rw [Nat.or_div_two]; simp
  have h2 : (n ||| 1) % 2 = 1 := Nat.or_mod_two_eq_one.mpr (.inr rfl)
  omega
theorem xor_one (i : Int) (h : 0 ≤ i) : Builtin.bitXor i 1 = if i % 2 = 0 then i + 1 else i - 1 := by
  have e1 : Builtin.bitAnd i 1 = ((i.toNat &&& 1 : Nat) : Int) := by
    unfold Builtin.bitAnd
    rw [decide_eq_true h]
    rfl
  have e2 : Builtin.bitOr i 1 = ((i.toNat ||| 1 : Nat) : Int) := by
    unfold Builtin.bitOr
    have n1 : Builtin.bitNot i = -i - 1 := rfl
    have n2 : Builtin.bitNot 1 = -2 := rfl
    unfold Builtin.bitAnd
    rw [n1, n2, decide_eq_false (by omega), decide_eq_false (by omega)]
    show Builtin.bitNot (Builtin.bitNot (((Builtin.bitNot (-i - 1)).toNat ||| (Builtin.bitNot (-2)).toNat : Nat) : Int)) = _
    have n3 : Builtin.bitNot (-i - 1) = i := by unfold Builtin.bitNot; omega
    have n4 : Builtin.bitNot (-2) = 1 := rfl
    rw [n3, n4]
    unfold Builtin.bitNot
    show -(-((i.toNat ||| 1 : Nat) : Int) - 1) - 1 = _
    omega
  unfold Builtin.bitXor
  rw [e1, e2, or_one, Nat.and_one_is_mod]
  split <;> omega
def opXor : D → D → Option D
  | .int i, .int j => if j = 1 ∧ 0 ≤ i then some (.int (if i % 2 = 0 then i + 1 else i - 1)) else none
  | _, _ => none
@[simp] theorem opXor_int {i : Int} (h : 0 ≤ i) : opXor (.int i) (.int 1) = some (.int (if i % 2 = 0 then i + 1 else i - 1)) := if_pos ⟨rfl, h⟩
theorem ok_xor : R2Ok K cls (rI0 fun i j => .int (Builtin.bitXor i j)) opXor := by
  intro F H x y a b d Q s b1 b2 e q
  unfold opXor at e
  split at e
  · rename_i i j
    split at e
    · rename_i h
      obtain ⟨rfl, h⟩ := h
      cases e
      obtain rfl := b1.int
      obtain rfl := b2.int
      refine ⟨i, 1, rfl, rfl, ?_⟩
      show Q (.int (Builtin.bitXor i 1)) H
      rw [xor_one i h]
      exact pi1 s (.int _) q
    · cases e
  · cases e
end
end DL

namespace DL
open PySem PySem.Spec PyProof.Rows L2 TL PySem.W
section
variable {K : PySem.W.Frag} {cls : Cls} {W : WX} {X : Cx} {F H F' H' F1 H1 : Hp} {O O1 : List Addr} {Q : VK} {a b e tg : Expr} {es : List Expr} {fa fb fc : Env → Res D} {fs : Env → Res (List D)} {pos : Pos}
def sAugE (op : Int → Int → Int) (i : Nat) (fk fa : Env → Res D) : Env → Out := fun g => match g[i]? with
  | some (.ol xs) => (fk g).st g fun k => match opd k with
    | .int k => if 0 ≤ k ∧ k < 1000000000 then match xs[k.toNat]? with
      | some (.int n) => (fa g).st g fun d => match opd d with
        | .int b => .nx (g.set i (.ol (xs.set k.toNat (.int (op n b)))))
        | _ => .bad
      | _ => .bad else .bad
    | _ => .bad
  | _ => .bad
@[simp] theorem sAugE_ (op : Int → Int → Int) (i : Nat) (fk fa : Env → Res D) (g : Env) : sAugE op i fk fa g = match g[i]? with
  | some (.ol xs) => (fk g).st g fun k => match opd k with
    | .int k => if 0 ≤ k ∧ k < 1000000000 then match xs[k.toNat]? with
      | some (.int n) => (fa g).st g fun d => match opd d with
        | .int b => .nx (g.set i (.ol (xs.set k.toNat (.int (op n b)))))
        | _ => .bad
      | _ => .bad else .bad
    | _ => .bad
  | _ => .bad := rfl
end
end DL

namespace DL
open PySem PySem.Spec PyProof.Rows L2 TL PySem.W
section
variable {K : PySem.W.Frag} {cls : Cls} {X : Cx} {F H F' H' F1 H1 : Hp} {O O1 : List Addr} {Q : VK}
def caMin4 (ds : List D) : Option D := match ds with
  | [.tp xs] => match intsOf xs with
    | some (n :: ns) => some (.int (ns.foldl min n))
    | _ => none
  | ds => caMin3 ds
@[simp] theorem caMin4_tp (n : Int) (ns : List Int) : caMin4 [.tp (.int n :: ns.map D.int)] = some (.int (ns.foldl min n)) := by
  have : intsOf (D.int n :: ns.map D.int) = some (n :: ns) := intsOf_map (n :: ns)
  simp [caMin4, this]
end
end DL

namespace DL
open PySem PySem.Spec PyProof.Rows L2 TL PySem.W
section
variable {K : PySem.W.Frag} {cls : Cls} {X : Cx} {F H F' H' F1 H1 : Hp} {O O1 : List Addr} {Q : VK}
def caSum4 (ds : List D) : Option D := match ds with
  | [.tp xs] => match intsOf xs with
    | some ns => some (.int ns.sum)
    | _ => none
  | ds => caSum ds
@[simp] theorem caSum4_tp (ns : List Int) : caSum4 [.tp (ns.map D.int)] = some (.int ns.sum) := by
  have : intsOf (ns.map D.int) = some ns := intsOf_map ns
  simp [caSum4, this]
end
end DL

namespace DL
open PySem PySem.Spec PyProof.Rows L2 TL PySem.W
section
variable {K : PySem.W.Frag} {cls : Cls} {W : WX} {X : Cx} {F H F' H' F1 H1 : Hp} {O O1 : List Addr} {Q : VK} {pos : Pos}
def unX : Out → Out
  | .xc _ _ => .bad
  | o => o
def sTryN (fb : Env → Out) (fh : Nat → Env → Out) : Env → Out := fun g => match fb g with
  | .xc c g' => unX (fh c g')
  | o => o
@[simp] theorem sTryN_ (fb : Env → Out) (fh : Nat → Env → Out) (g : Env) : sTryN fb fh g = match fb g with
  | .xc c g' => unX (fh c g')
  | o => o := rfl
end
end DL

namespace DL
open PySem PySem.Spec PyProof.Rows L2 TL PySem.W
section
variable {K : PySem.W.Frag} {cls : Cls} {X : Cx} {F H F' H' F1 H1 : Hp} {O O1 : List Addr} {Q : VK}
def cLt2 : D → D → Option Bool
  | .tp xs, .tp ys => match intsOf xs, intsOf ys with
    | some ns, some ms => some (HT.lexLt ns ms)
    | _, _ => none
  | a, b => cLt a b
@[simp] theorem cLt2_tp (ns ms : List Int) : cLt2 (.tp (ns.map D.int)) (.tp (ms.map D.int)) = some (HT.lexLt ns ms) := by
  have h1 : intsOf (ns.map D.int) = some ns := intsOf_map ns
  have h2 : intsOf (ms.map D.int) = some ms := intsOf_map ms
  simp [cLt2, h1, h2]
end
end DL

namespace DL
open PySem PySem.Spec PyProof.Rows L2 TL PySem.W
section
variable {K : PySem.W.Frag} {cls : Cls} {W : WX} {X : Cx} {F H F' H' F1 H1 : Hp} {O O1 : List Addr} {Q : VK} {e : Expr} {es : List Expr} {fs : Env → Res (List D)} {pos : Pos} {i j : Nat}
def PostRP (K : PySem.W.Frag) (cls : Cls) (W : WX) (i j : Nat) (D : Ends) (F H : Hp) (O : List Addr) : Out → Prop
  | .nx g => ∃ p xs, g[i]? = some (.int p) ∧ g[j]? = some (.ol xs) ∧ ∀ v a F' H' O', SExt F H O F' H' O' → Ow K cls F' H' v (.ol xs) O' → H' a = none → D.rt (.ref a) (upd H' a (.tup [.int p, v]))
  | .xc c g => ∀ σ' F' H' O', SExt F H O F' H' O' → Sts K cls F' H' σ' g O' → W (excV cls c) none σ' H'
  | _ => False
theorem PostRP.mono {D : Ends} {r : Out} (x : SExt F H O F1 H1 O1) (p : PostRP K cls W i j D F H O r) : PostRP K cls W i j D F1 H1 O1 r := by
  cases r with
  | nx g =>
    obtain ⟨a, xs, h1, h2, h3⟩ := p
    exact ⟨a, xs, h1, h2, fun v b F' H' O' y => h3 v b F' H' O' (x.trans y)⟩
  | xc c g => exact fun σ' F' H' O' y => p σ' F' H' O' (x.trans y)
  | rt d => exact p
  | bk g => exact p
  | ct g => exact p
  | bad => exact p
def DSRP (K : PySem.W.Frag) (cls : Cls) (W : WX) (i j : Nat) (t : TS) (f : Env → Out) : Prop :=
  ∀ D σ F H g O, Same F H → Sts K cls F H σ g O → PostRP K cls W i j D F H O (f g) → t D σ H
structure JSE (X : Cx) (cls : Cls) (W : WX) (i j : Nat) (st : List Stmt) (f : Env → Out) : Prop where
  ex : ∃ t, PSs X st t ∧ DSRP X.K cls W i j t f
def sEnd : Env → Out := fun g => .nx g
@[simp] theorem sEnd_ (g : Env) : sEnd g = .nx g := rfl
def sUnp (i j : Nat) (g : List D → Res (Int × List D)) (fs : Env → Res (List D)) : Env → Out := fun env => (fs env).st env fun ds => if shd ds = true then match g ds with
  | .ok (p, xs) => .nx ((env.set i (.int p)).set j (.ol xs))
  | .xc c => .xc c env
  | .bad => .bad else .bad
@[simp] theorem sUnp_ (i j : Nat) (g : List D → Res (Int × List D)) (fs : Env → Res (List D)) (env : Env) : sUnp i j g fs env = (fs env).st env fun ds => if shd ds = true then match g ds with
  | .ok (p, xs) => .nx ((env.set i (.int p)).set j (.ol xs))
  | .xc c => .xc c env
  | .bad => .bad else .bad := rfl
end
end DL

namespace DL
open PySem PySem.Spec PyProof.Rows L2 TL PySem.W
end DL

namespace DL
open PySem PySem.Spec PyProof.Rows L2 TL PySem.W
def leT (ns ms : List Int) : Bool := Ob.lexAt (fun j => decide (ns.getD j 0 = ms.getD j 0)) (fun j => decide (ns.getD j 0 ≤ ms.getD j 0)) (decide (ns.length ≤ ms.length)) 0 (min ns.length ms.length)
section
variable {K : PySem.W.Frag} {cls : Cls} {W : WX} {X : Cx} {F H F' H' F1 H1 : Hp} {O O1 : List Addr} {Q : VK} {a b c d e : Expr} {fa fb fc fd fe : Env → Res D} {pos : Pos}
def cLe2 : D → D → Option Bool
  | .tp xs, .tp ys => match intsOf xs, intsOf ys with
    | some ns, some ms => some (leT ns ms)
    | _, _ => none
  | a, b => cLe a b
@[simp] theorem cLe2_tp (ns ms : List Int) : cLe2 (.tp (ns.map D.int)) (.tp (ms.map D.int)) = some (leT ns ms) := by
  have h1 : intsOf (ns.map D.int) = some ns := intsOf_map ns
  have h2 : intsOf (ms.map D.int) = some ms := intsOf_map ms
  simp [cLe2, h1, h2]
def lLast (op : D → D → Option Bool) (f : Env → Res D) (b : D) (g : Env) : Res Bool := (f g).bind fun c => .of (op (opd b) (opd c))
def lNext (op : D → D → Option Bool) (f : Env → Res D) (k : D → Env → Res Bool) (b : D) (g : Env) : Res Bool := (f g).bind fun c => (Res.of (op (opd b) (opd c))).bind fun kk => if kk = true then k c g else .ok false
def lHead (f : Env → Res D) (k : D → Env → Res Bool) (g : Env) : Res Bool := (f g).bind fun b => k b g
@[simp] theorem lLast_ (op : D → D → Option Bool) (f : Env → Res D) (b : D) (g : Env) : lLast op f b g = (f g).bind fun c => .of (op (opd b) (opd c)) := rfl
@[simp] theorem lNext_ (op : D → D → Option Bool) (f : Env → Res D) (k : D → Env → Res Bool) (b : D) (g : Env) : lNext op f k b g = (f g).bind fun c => (Res.of (op (opd b) (opd c))).bind fun kk => if kk = true then k c g else .ok false := rfl
@[simp] theorem lHead_ (f : Env → Res D) (k : D → Env → Res Bool) (g : Env) : lHead f k g = (f g).bind fun b => k b g := rfl
end
end DL

namespace DL
open PySem PySem.Spec PyProof.Rows L2 TL PySem.W
section
variable {K : PySem.W.Frag} {cls : Cls} {W : WX} {X : Cx} {F H F' H' F1 H1 : Hp} {O O1 : List Addr} {Q : VK} {a b : Expr} {fa fb : Env → Res D} {pos : Pos}
def eJoin (fa fb : Env → Res D) : Env → Res D := fun g => (fa g).bind fun d => match opd d with
  | .str x => (fb g).bind fun e => match sqL (opd e) with
    | some xs => match strsOf xs with
      | some ys => if (ys.map (·.length)).sum + ys.length * x.length ≤ 16777216 then .ok (.str (Txt.join x ys)) else .bad
      | none => .bad
    | none => .bad
  | _ => .bad
@[simp] theorem eJoin_ (fa fb : Env → Res D) (g : Env) : eJoin fa fb g = (fa g).bind fun d => match opd d with
  | .str x => (fb g).bind fun e => match sqL (opd e) with
    | some xs => match strsOf xs with
      | some ys => if (ys.map (·.length)).sum + ys.length * x.length ≤ 16777216 then .ok (.str (Txt.join x ys)) else .bad
      | none => .bad
    | none => .bad
  | _ => .bad := rfl
end
end DL

namespace DL
open PySem PySem.Spec PyProof.Rows L2 TL PySem.W
section
variable {K : PySem.W.Frag} {cls : Cls} {W : WX} {X : Cx} {F H F' H' F1 H1 : Hp} {O O1 : List Addr} {Q : VK} {a b tg iter : Expr} {fa fb : Env → Res D} {pos : Pos}
def eSlS (fa : Env → Res D) (lo hi : Env → Res (Option Int)) : Env → Res D := fun g => (fa g).bind fun a => (lo g).bind fun l => (hi g).bind fun h => match opd a with
  | .str z => if z.length ≤ lim then .ok (.str (cutS z l h)) else .bad
  | _ => .bad
@[simp] theorem eSlS_ (fa : Env → Res D) (lo hi : Env → Res (Option Int)) (g : Env) : eSlS fa lo hi g = (fa g).bind fun a => (lo g).bind fun l => (hi g).bind fun h => match opd a with
  | .str z => if z.length ≤ lim then .ok (.str (cutS z l h)) else .bad
  | _ => .bad := rfl
def sgs (x : Str) : List D := x.cps.toList.map fun c => D.str ⟨#[c]⟩
def iStrD (fa : Env → Res D) : Env → Res (List D) := fun g => (fa g).bind fun a => match opd a with
  | .str x => .ok (sgs x)
  | _ => .bad
@[simp] theorem iStrD_ (fa : Env → Res D) (g : Env) : iStrD fa g = (fa g).bind fun a => match opd a with
  | .str x => .ok (sgs x)
  | _ => .bad := rfl
def eSplit (fa fb : Env → Res D) : Env → Res D := fun g => (fa g).bind fun d => match opd d with
  | .str x => (fb g).bind fun e => match opd e with
    | .str y => if (y.length == 0) = false ∧ x.length + 2 ≤ lim then .ok (.ol ((Txt.split x y).map D.str)) else .bad
    | _ => .bad
  | _ => .bad
@[simp] theorem eSplit_ (fa fb : Env → Res D) (g : Env) : eSplit fa fb g = (fa g).bind fun d => match opd d with
  | .str x => (fb g).bind fun e => match opd e with
    | .str y => if (y.length == 0) = false ∧ x.length + 2 ≤ lim then .ok (.ol ((Txt.split x y).map D.str)) else .bad
    | _ => .bad
  | _ => .bad := rfl
end
end DL

namespace DL
open PySem PySem.Spec PyProof.Rows L2 PySem.W
section
variable {X : Cx} {cls : Cls} {K : PySem.W.Frag} {pins : List (Addr × Obj)} {s : Shared} {σ : L2.St} {H F H' F' : Hp} {Q : VK} {W : WX}
variable {e : Expr} {te : TE} {p apos cpos pos : Pos}
end
section
variable {K : PySem.W.Frag} {cls : Cls} {W : WX} {X : Cx} {F H F' H' F1 H1 : Hp} {O O1 : List Addr} {Q : VK} {a o e : Expr} {es : List Expr} {fa fo : Env → Res D} {fs : Env → Res (List D)} {pos apos cpos p : Pos} {k n : Nat}
def keyInts : List L2.Key → Option (List Int)
  | [] => some []
  | .inl i :: ks => (keyInts ks).map (i :: ·)
  | .inr _ :: _ => none
def eSortK (fa : Env → Res D) : Env → Res D := fun g => (fa g).bind fun d => match opd d with
  | .bd ks _ => match keyInts ks with
    | some ns => .ok (.ol ((srt ns).map D.int))
    | none => .bad
  | _ => .bad
@[simp] theorem eSortK_ (fa : Env → Res D) (g : Env) : eSortK fa g = (fa g).bind fun d => match opd d with
  | .bd ks _ => match keyInts ks with
    | some ns => .ok (.ol ((srt ns).map D.int))
    | none => .bad
  | _ => .bad := rfl
variable {m : Str} {C f : Addr} {fd : FuncData} {ps : List Str} {sp : Sp} {t : TA} {ta : TE} {E : L2.St → XK} {CX : CXT}
def eMeth (c : Nat) (g : List D → Res D) (fo : Env → Res D) (fs : Env → Res (List D)) : Env → Res D := fun e => (fo e).bind fun d => match opd d with
  | .ob c' fl => if c' = c then (fs e).bind fun ds => calD g (.ob c' fl :: ds) else .bad
  | _ => .bad
@[simp] theorem eMeth_ (c : Nat) (g : List D → Res D) (fo : Env → Res D) (fs : Env → Res (List D)) (e : Env) : eMeth c g fo fs e = (fo e).bind fun d => match opd d with
  | .ob c' fl => if c' = c then (fs e).bind fun ds => calD g (.ob c' fl :: ds) else .bad
  | _ => .bad := rfl
def eIndexT (fa fb : Env → Res D) : Env → Res D := fun g => (fa g).bind fun d => match opd d with
  | .ls xs => match tupsOf xs with
    | some L => (fb g).bind fun e => match opd e with
      | .tp ys => match intsOf ys with
        | some l => if l ∈ L then .ok (.int (L.idxOf l : Nat)) else .bad
        | none => .bad
      | _ => .bad
    | none => .bad
  | _ => .bad
@[simp] theorem eIndexT_ (fa fb : Env → Res D) (g : Env) : eIndexT fa fb g = (fa g).bind fun d => match opd d with
  | .ls xs => match tupsOf xs with
    | some L => (fb g).bind fun e => match opd e with
      | .tp ys => match intsOf ys with
        | some l => if l ∈ L then .ok (.int (L.idxOf l : Nat)) else .bad
        | none => .bad
      | _ => .bad
    | none => .bad
  | _ => .bad := rfl
end
end DL

namespace DL
open PySem PySem.Spec PyProof.Rows L2 TL PySem.W
section
variable {K : PySem.W.Frag} {cls : Cls} {X : Cx}
def cIsB : D → D → Option Bool
  | .bl a, .bl b => some (a == b)
  | _, _ => none
def cNotB : D → D → Option Bool
  | .bl a, .bl b => some (!(a == b))
  | _, _ => none
@[simp] theorem cIsB_bl (a b : Bool) : cIsB (.bl a) (.bl b) = some (a == b) := rfl
@[simp] theorem cNotB_bl (a b : Bool) : cNotB (.bl a) (.bl b) = some (!(a == b)) := rfl
end
end DL

namespace DL
open PySem PySem.Spec PyProof.Rows L2 TL PySem.W
section
variable {K : PySem.W.Frag} {cls : Cls} {X : Cx} {F H F' H' F1 H1 : Hp} {O O1 : List Addr} {Q : VK}
def cGt2 : D → D → Option Bool
  | .tp xs, .tp ys => match intsOf xs, intsOf ys with
    | some ns, some ms => some (HT.lexLt ms ns)
    | _, _ => none
  | a, b => cGt a b
@[simp] theorem cGt2_tp (ns ms : List Int) : cGt2 (.tp (ns.map D.int)) (.tp (ms.map D.int)) = some (HT.lexLt ms ns) := by
  have h1 : intsOf (ns.map D.int) = some ns := intsOf_map ns
  have h2 : intsOf (ms.map D.int) = some ms := intsOf_map ms
  simp [cGt2, h1, h2]
end
end DL

namespace DL
open PySem PySem.Spec PyProof.Rows L2 TL PySem.W
section
variable {K : PySem.W.Frag} {cls : Cls} {W : WX} {X : Cx} {F H F' H' F1 H1 : Hp} {O O1 : List Addr} {Q : VK} {o e f : Expr} {fo fk fx : Env → Res D} {apos cpos : Pos}
def eDG2 (fo fk fx : Env → Res D) : Env → Res D := fun g => (fo g).bind fun a => match opd a with
  | .bd ks ds => (fk g).bind fun b => (fx g).bind fun z => match opd b with
    | .int k => .ok ((valG (ks.zip ds) (.inl k)).getD (opd z))
    | _ => .bad
  | _ => .bad
@[simp] theorem eDG2_ (fo fk fx : Env → Res D) (g : Env) : eDG2 fo fk fx g = (fo g).bind fun a => match opd a with
  | .bd ks ds => (fk g).bind fun b => (fx g).bind fun z => match opd b with
    | .int k => .ok ((valG (ks.zip ds) (.inl k)).getD (opd z))
    | _ => .bad
  | _ => .bad := rfl
end
end DL

namespace DL
open PySem PySem.Spec PyProof.Rows L2 TL PySem.W
section
variable {K : PySem.W.Frag} {cls : Cls} {W : WX} {X : Cx} {F H F' H' F1 H1 : Hp} {O O1 : List Addr} {Q : VK} {a b e o : Expr} {fa fb fo : Env → Res D} {pos apos cpos : Pos}
def sRem (i : Nat) (fa : Env → Res D) : Env → Out := fun g => match g[i]? with
  | some (.ol xs) => (fa g).st g fun d => match toPys xs, toPy (opd d) with
    | some ps, some pd => if xs.length ≤ 1000000 ∧ PyData.plainAll ps = true ∧ pd.plain = true ∧ pd.depth ≤ 60 then match SeqAt.dataPlace ps pd with
      | some k => match xs[k]? with
        | some y => if own1 y = false then .nx (g.set i (.ol (xs.eraseIdx k))) else .bad
        | none => .bad
      | none => .bad
      else .bad
    | _, _ => .bad
  | _ => .bad
@[simp] theorem sRem_ (i : Nat) (fa : Env → Res D) (g : Env) : sRem i fa g = match g[i]? with
  | some (.ol xs) => (fa g).st g fun d => match toPys xs, toPy (opd d) with
    | some ps, some pd => if xs.length ≤ 1000000 ∧ PyData.plainAll ps = true ∧ pd.plain = true ∧ pd.depth ≤ 60 then match SeqAt.dataPlace ps pd with
      | some k => match xs[k]? with
        | some y => if own1 y = false then .nx (g.set i (.ol (xs.eraseIdx k))) else .bad
        | none => .bad
      | none => .bad
      else .bad
    | _, _ => .bad
  | _ => .bad := rfl
end
end DL

namespace DL
open PySem PySem.Spec PyProof.Rows L2 TL PySem.W
section
variable {K : PySem.W.Frag} {cls : Cls} {W : WX} {X : Cx} {F H F' H' F1 H1 : Hp} {O O1 : List Addr} {Q : VK} {a b e c : Expr} {es : List Expr} {fa fe : Env → Res D} {ft : Env → Res Bool} {fs : Env → Res (List D)} {pos : Pos}
def PostM (K : PySem.W.Frag) (cls : Cls) (W : WX) (En : Ends) (σ : L2.St) (F H : Hp) (q : Addr) (us : List V) : Res (Option D) → Prop
  | .ok none => ∀ F' H', Ext F H F' H' → En.nx σ H'
  | .ok (some d) => ∀ v F' H', Ext F H F' H' → Rp K cls F' v d → En.nx σ (upd H' q (.lst (us ++ [v])))
  | .xc c => ∀ F' H', Ext F H F' H' → W (excV cls c) none σ H'
  | .bad => False
theorem PostM.mono {En : Ends} {σ : L2.St} {q : Addr} {us : List V} {r : Res (Option D)} (x : Ext F H F1 H1) (h : PostM K cls W En σ F H q us r) : PostM K cls W En σ F1 H1 q us r := by
  cases r with
  | ok o =>
    cases o with
    | none => exact fun F' H' y => h F' H' (x.trans y)
    | some d => exact fun v F' H' y r => h v F' H' (x.trans y) r
  | xc c => exact fun F' H' y => h F' H' (x.trans y)
  | bad => exact h
structure JM (X : Cx) (cls : Cls) (W : WX) (sts : List Stmt) (f : Env → Res (Option D)) : Prop where
  ex : ∃ t, PSs X sts t ∧ ∀ (En : Ends) (σ : L2.St) (F H : Hp) (g : Env) (O : List Addr) (q : Addr) (us : List V), Same F H → Sts X.K cls F H σ g O → σ[0]? = some (some (.ref q)) → H q = some (.lst us) → us.length < lim → PostM X.K cls W En σ F H q us (f g) → t En σ H
def sPut (i : Nat) (g : List D → Res (Option D)) (fs : Env → Res (List D)) : Env → Out := fun env => match env[i]? with
  | some (.ol xs) => (fs env).st env fun ds => if shd ds = true ∧ xs.length < lim then match g ds with
    | .ok none => .nx env
    | .ok (some d) => .nx (env.set i (.ol (xs ++ [d])))
    | .xc c => .xc c env
    | .bad => .bad else .bad
  | _ => .bad
@[simp] theorem sPut_ (i : Nat) (g : List D → Res (Option D)) (fs : Env → Res (List D)) (env : Env) : sPut i g fs env = match env[i]? with
  | some (.ol xs) => (fs env).st env fun ds => if shd ds = true ∧ xs.length < lim then match g ds with
    | .ok none => .nx env
    | .ok (some d) => .nx (env.set i (.ol (xs ++ [d])))
    | .xc c => .xc c env
    | .bad => .bad else .bad
  | _ => .bad := rfl
end
end DL

namespace DL
open PySem PySem.Spec PyProof.Rows L2 TL PySem.W
section
variable {K : PySem.W.Frag} {cls : Cls} {W : WX} {X : Cx} {a : Expr} {fa : Env → Res D} {i : Nat}
def eView (i : Nat) (fa : Env → Res D) : Env → Res D := fun g => (fa (frzAt g i)).bind fun d => if flat d = true then .ok d else .bad
@[simp] theorem eView_ (i : Nat) (fa : Env → Res D) (g : Env) : eView i fa g = (fa (frzAt g i)).bind fun d => if flat d = true then .ok d else .bad := rfl
end
end DL

namespace DL
open PySem PySem.Spec PyProof.Rows L2 TL PySem.W
section
variable {K : PySem.W.Frag} {cls : Cls} {X : Cx} {F H F' H' F1 H1 : Hp} {O O1 : List Addr} {Q : VK}
def ntOf : D → Option (Int × List Int)
  | .tp [.int i, .tp xs] => (intsOf xs).map fun ns => (i, ns)
  | _ => none
theorem ntOf_NT (x : Int × List Int) : ntOf (dNT x) = some x := by
  show (intsOf (x.2.map D.int)).map (fun ns => (x.1, ns)) = _
  rw [intsOf_map]
  rfl
def cLt6 (a b : D) : Option Bool := match ntOf a, ntOf b with
  | some x, some y => some (HT.lexLt (x.1 :: x.2) (y.1 :: y.2))
  | _, _ => cLt a b
def cLe6 (a b : D) : Option Bool := match ntOf a, ntOf b with
  | some x, some y => some (!HT.lexLt (y.1 :: y.2) (x.1 :: x.2))
  | _, _ => cLe a b
@[simp] theorem cLt6_NT (x y : Int × List Int) : cLt6 (dNT x) (dNT y) = some (HT.lexLt (x.1 :: x.2) (y.1 :: y.2)) := by
  unfold cLt6
  rw [ntOf_NT, ntOf_NT]
@[simp] theorem cLe6_NT (x y : Int × List Int) : cLe6 (dNT x) (dNT y) = some (!HT.lexLt (y.1 :: y.2) (x.1 :: x.2)) := by
  unfold cLe6
  rw [ntOf_NT, ntOf_NT]
end
end DL

namespace DL
open PySem PySem.Spec PyProof.Rows L2 TL PySem.W
section
variable {K : PySem.W.Frag} {cls : Cls} {W : WX} {X : Cx} {F H F' H' F1 H1 : Hp} {O O1 : List Addr} {Q : VK} {σ : L2.St} {a b e c : Expr} {ft : Env → Res Bool} {pos : Pos}
theorem Sts.any : ∀ {σ : L2.St} {g : Env} {O : List Addr} {j : Nat} {o : Option V}, Sts K cls F H σ g O → g[j]? = some .un → Sts K cls F H (σ.set j o) g O
  | _, _, _, j, o, .nil, h => by simp at h
  | _, _, _, 0, o, .un r, _ => .un r
  | _, _, _, j + 1, o, .un r, h => .un (r.any (by simpa using h))
  | _, _, _, 0, o, .cons (d := d) w r dj e, h => by
    have h : d = .un := by simpa using h
    subst h
    cases w with
    | sh r => cases r
  | _, _, _, j + 1, o, .cons w r dj e, h => .cons w (r.any (by simpa using h)) dj e
end
end DL

namespace DL
open PySem PySem.Spec PyProof.Rows L2 TL PySem.W
section
variable {K : PySem.W.Frag} {cls : Cls} {W : WX} {X : Cx} {F H F' H' F1 H1 : Hp} {O O1 : List Addr} {Q : VK} {σ : L2.St} {a b e c o : Expr} {fo : Env → Res D} {pos apos cpos : Pos}
def eIndexS (fa fb : Env → Res D) : Env → Res D := fun g => (fa g).bind fun d => match opd d with
  | .ls xs => match strsOf xs with
    | some L => (fb g).bind fun e => match opd e with
      | .str l => if l ∈ L ∧ (L.all fun z => PyData.strOk z) = true ∧ PyData.strOk l = true then .ok (.int (L.idxOf l : Nat)) else .bad
      | _ => .bad
    | none => .bad
  | _ => .bad
@[simp] theorem eIndexS_ (fa fb : Env → Res D) (g : Env) : eIndexS fa fb g = (fa g).bind fun d => match opd d with
  | .ls xs => match strsOf xs with
    | some L => (fb g).bind fun e => match opd e with
      | .str l => if l ∈ L ∧ (L.all fun z => PyData.strOk z) = true ∧ PyData.strOk l = true then .ok (.int (L.idxOf l : Nat)) else .bad
      | _ => .bad
    | none => .bad
  | _ => .bad := rfl
end
end DL

noncomputable section
namespace DL
open PySem L2
section
variable {K : PySem.W.Frag} {cls : Cls} {X : Cx}
def repS (x : Str) (n : Nat) : Str := ⟨(List.replicate n x.cps).foldl (· ++ ·) #[]⟩
def MsOk (x : Str) (k : Int) : Prop := (2 ≤ k ∧ k ≤ 1000 ∧ x.length = 1) ∧ (repS x k.toNat).length ≤ 1000
instance (x : Str) (k : Int) : Decidable (MsOk x k) := by unfold MsOk; infer_instance
end
end DL
end

noncomputable section
namespace DL
open PySem PySem.Spec PyProof.Rows L2 TL PySem.W
section
variable {K : PySem.W.Frag} {cls : Cls} {W : WX} {X : Cx} {F H F' H' F1 H1 : Hp} {O O1 : List Addr} {Q : VK} {a o e : Expr} {fa fb : Env → Res D} {pos apos cpos : Pos}
def caLenD : List D → Option D
  | [.bd ks _] => some (.int ks.length)
  | _ => none
@[simp] theorem caLenD_ (ks : List L2.Key) (xs : List D) : caLenD [.bd ks xs] = some (.int ks.length) := rfl
theorem ok_lenD : CaOk K cls (fun xs H Q => ∃ a kvs, xs = [V.ref a] ∧ H a = some (.dK kvs) ∧ Q (.int kvs.length) H) caLenD := by
  intro F H vs ds d Q s b e q
  unfold caLenD at e
  split at e
  · rename_i ks ds'
    cases e
    obtain ⟨v, rfl, b1⟩ := b.one
    cases b1 with
    | sh r => cases r
    | bd h hl r =>
      have q' : Q (.int (ks.length : Int)) H := pi1 s (.int _) q
      refine ⟨_, _, rfl, h, ?_⟩
      rw [List.length_zip, ← hl, Nat.min_self]
      exact q'
  · cases e
def eCount (fa fb : Env → Res D) : Env → Res D := fun g => (fa g).bind fun d => match lsI d with
  | some ns => (fb g).bind fun e => match opd e with
    | .int x => .ok (.int (ns.count x : Nat))
    | _ => .bad
  | none => .bad
@[simp] theorem eCount_ (fa fb : Env → Res D) (g : Env) : eCount fa fb g = (fa g).bind fun d => match lsI d with
  | some ns => (fb g).bind fun e => match opd e with
    | .int x => .ok (.int (ns.count x : Nat))
    | _ => .bad
  | none => .bad := rfl
end
end DL
end

noncomputable section
namespace DL
open PySem PySem.Spec PyProof.Rows L2 TL PySem.W
section
variable {K : PySem.W.Frag} {cls : Cls} {W : WX} {X : Cx} {F H F' H' F1 H1 : Hp} {O O1 : List Addr} {Q : VK} {pos apos cpos npos : Pos}
def sAppMv (i j : Nat) : Env → Out := fun g => match g[i]?, g[j]? with
  | some (.ol xs), some (.ol ys) => if xs.length < lim ∧ i ≠ j then .nx ((g.set j .un).set i (.ol (xs ++ [.ol ys]))) else .bad
  | _, _ => .bad
@[simp] theorem sAppMv_ (i j : Nat) (g : Env) : sAppMv i j g = match g[i]?, g[j]? with
  | some (.ol xs), some (.ol ys) => if xs.length < lim ∧ i ≠ j then .nx ((g.set j .un).set i (.ol (xs ++ [.ol ys]))) else .bad
  | _, _ => .bad := rfl
theorem st_set_self {σ : L2.St} {j : Nat} {o : Option V} (h : σ[j]? = some o) : σ.set j o = σ := by
  refine List.ext_getElem? fun n => ?_
  rw [List.getElem?_set]
  split
  · rename_i e
    subst e
    split
    · exact h.symm
    · rename_i hn
      exact (List.getElem?_eq_none (by omega)).symm
  · rfl
theorem js_appMv {i j : Nat} {x y : Str} {ypos : Pos} (hN : X.N[i]? = some x) (hv : Vis X.env.scope x) (hM : X.N[j]? = some y) (hvy : Vis X.env.scope y) (hd : (x == ("__debug__" : Str)) = false := by decide) (hcd : (x == ("__classdict__" : Str)) = false := by decide) (hd2 : (y == ("__debug__" : Str)) = false := by decide) (hcd2 : (y == ("__classdict__" : Str)) = false := by decide)
    (hbase : attributeBase (.Name x npos) "append" X.env (eval (.Name x npos) X.env) = eval (.Name x npos) X.env := by rfl)
    (hfew : ((backTo cpos (starEach (.Name y ypos :: []) X.env)).all (fun x => !x.1) && (backToKw cpos (keywordEach [] X.env)).all (fun x => x.1.isSome)
      && decide ((.Name y ypos :: ([] : List Expr)).length + ([] : List Keyword).length + (if ([] : List Keyword).isEmpty then 0 else 1) < 30)) = true := by rfl)
    (hline : (apos.endLine == cpos.line) = true := by rfl) (hs : starEach (.Name y ypos :: []) X.env = (false, eval (.Name y ypos) X.env) :: starEach [] X.env := by rfl) (hplain : (backTo cpos (starEach [] X.env)).any (·.1) = false := by rfl)
    (hsw : swapsWith (.Call (.Attribute (.Name x npos) "append" apos) [.Name y ypos] [] cpos) none pos.line X.env = pure false := by rfl) :
    JS X cls W (.Expr (.Call (.Attribute (.Name x npos) "append" apos) [.Name y ypos] [] cpos) pos) (sAppMv i j) := by
  refine ⟨_, ps_expr (pe_bm PySem.F.plainAttrs_list PySem.F.slot_list_append PySem.F.type_list_append mt_append (pe_var hN hv hd hcd) (pa_cons (pe_var hM hvy hd2 hcd2) pa_nil hs) hbase hfew hline hs hplain) hsw, ?_⟩
  intro D σ F H g O s st p
  rw [sAppMv_] at p
  split at p
  · rename_i xs ys egi egj
    split at p
    · rename_i hh
      obtain ⟨hl, hij⟩ := hh
      -- the row goes out of its slot
      obtain ⟨Oj, j1, j2, _, j4⟩ := st.at j (List.getElem?_eq_some_iff.mp egj).1
      rcases j2 with ⟨j2, _⟩ | ⟨vj, dj, j2, j2', owj⟩
      · rw [egj] at j2; cases j2
      · rw [egj] at j2'; cases j2'
        obtain ⟨O2, k1, k2, k3⟩ := j4 F H (some vj) (fun b hb _ => ⟨rfl, (st.dom b hb).1⟩) (.refl F)
        rw [st_set_self j2] at k1
        have egi2 : (g.set j .un)[i]? = some (.ol xs) := by rw [List.getElem?_set_ne (Ne.symm hij)]; exact egi
        obtain ⟨Oi, i1, i2, i3, _⟩ := k1.at i (List.getElem?_eq_some_iff.mp egi2).1
        rcases i2 with ⟨i2, _⟩ | ⟨vi, di, i2, i2', owi⟩
        · rw [egi2] at i2; cases i2
        · rw [egi2] at i2'; cases i2'
          have owj0 := owj
          cases owi with
          | sh r => cases r
          | @ol q vs _ O1 f1 f2 f3 f4 =>
            refine ⟨.ref q, i2, .inl ⟨rfl, vs, SqL.of f2⟩, ?_⟩
            refine ⟨vj, j2, ?_⟩
            refine ⟨q, vs, vj, rfl, rfl, f2, by rw [f4.len]; exact lim_lt hl, ?_⟩
            have up : ∀ b, b ≠ q → upd H q (.lst (vs ++ [vj])) b = H b := fun b hb => upd_ne hb
            have qO2 : q ∈ O2 := i1 q (by simp)
            have qOj : q ∉ Oj := fun z => k3 q qO2 z
            have djO : ∀ a ∈ O1, a ∉ Oj := fun a ha z => k3 a (i1 a (by simp [ha])) z
            have w := f4.snoc owj0 djO
            have nq : q ∉ O1 ++ Oj := fun z => by
              rcases List.mem_append.mp z with z | z
              · exact f3 z
              · exact qOj z
            obtain ⟨O3, z1, z2⟩ := i3 F (upd H q (.lst (vs ++ [vj]))) (.ref q) (.ol (xs ++ [.ol ys])) (q :: (O1 ++ Oj)) (fun b hb hn => ⟨up b fun z => hn (by simp [z]), (k1.dom b hb).1⟩) (.refl F)
              (.ol f1 upd_same nq (w.frame (.refl F) fun a ha => ⟨up a fun z => nq (z ▸ ha), (w.dom a ha).1⟩)) (fun a ha hO => by
                rcases List.mem_cons.mp ha with rfl | ha
                · simp
                · rcases List.mem_append.mp ha with z | z
                  · simp [z]
                  · exact absurd z (k3 a hO))
            rw [st_set_self i2] at z1
            refine p _ F _ O3 ⟨.refl F, fun b o k => ?_, fun b o k hn => ?_, fun b h1 h2 _ => h1, fun b hb => ?_⟩ z1
            · rw [up b fun z => by rw [z, f1] at k; cases k]; exact s b o k
            · rw [up b fun z => hn (z ▸ k2 q qO2)]; exact k
            · rcases z2 b hb with z | z
              · exact .inl (k2 b z)
              · rcases List.mem_cons.mp z with rfl | z
                · exact .inl (k2 _ qO2)
                · rcases List.mem_append.mp z with z | z
                  · exact .inl (k2 b (i1 b (by simp [z])))
                  · exact .inl (j1 b z)
    · exact p.elim
  · exact p.elim
end
end DL
end

namespace TL
open PySem PySem.W PySem.Calls PyProof.Rows
section
variable {prog : Program} {w : World} {A : Around} {E : Value → Shared → Prop} {s : Shared}
end
end TL
namespace DL
open PySem PySem.Spec PyProof.Rows L2 TL PySem.W
section
variable {K : PySem.W.Frag} {cls : Cls} {W : WX} {X : Cx} {F H F' H' F1 H1 : Hp} {O O1 : List Addr} {Q : VK}
end
end DL

noncomputable section
namespace DL
open PySem PySem.Spec PyProof.Rows L2 PySem.W
section
variable {K : PySem.W.Frag} {cls : Cls} {W : WX} {X : Cx} {F H F' H' F1 H1 : Hp} {O O1 : List Addr} {Q : VK} {σ : L2.St} {a b e : Expr} {es : List Expr} {fa fb fc : Env → Res D} {fs : Env → Res (List D)} {pos p1 p2 : Pos}
def eCalR (i j : Nat) (g : List D → Res D) : Env → Res D := fun env => match env[i]?, env[j]? with
  | some (.ls xs), some (.od ks ds) => g [.ls xs, .od ks ds]
  | _, _ => .bad
@[simp] theorem eCalR_ (i j : Nat) (g : List D → Res D) (env : Env) : eCalR i j g env = match env[i]?, env[j]? with
  | some (.ls xs), some (.od ks ds) => g [.ls xs, .od ks ds]
  | _, _ => .bad := rfl
end
end DL
end

noncomputable section
namespace DL
open PySem PySem.Spec PyProof.Rows L2 PySem.W
section
variable {K : PySem.W.Frag} {cls : Cls} {W : WX} {X : Cx} {F H F' H' F1 H1 : Hp} {O O1 : List Addr} {Q : VK} {a : Expr} {fa : Env → Res D} {pos : Pos}
def sLstPop (j i : Nat) (fa : Env → Res D) : Env → Out := fun g => match g[i]? with
  | some (.ol xs) => ((fa g).bind kp).st g fun d => match d with
    | .int z => match ixN xs.length z with
      | some k => match xs[k]? with
        | some y => if own1 y = false ∧ xs.length ≤ lim then .nx ((g.set i (.ol (xs.eraseIdx k))).set j (.ol [y])) else .bad
        | none => .bad
      | none => .bad
    | _ => .bad
  | _ => .bad
@[simp] theorem sLstPop_ (j i : Nat) (fa : Env → Res D) (g : Env) : sLstPop j i fa g = match g[i]? with
  | some (.ol xs) => ((fa g).bind kp).st g fun d => match d with
    | .int z => match ixN xs.length z with
      | some k => match xs[k]? with
        | some y => if own1 y = false ∧ xs.length ≤ lim then .nx ((g.set i (.ol (xs.eraseIdx k))).set j (.ol [y])) else .bad
        | none => .bad
      | none => .bad
    | _ => .bad
  | _ => .bad := rfl
end
end DL
end

noncomputable section
namespace DL
open PySem PySem.Spec PyProof.Rows L2 PySem.W TL
section
variable {K : PySem.W.Frag} {cls : Cls} {W : WX} {X : Cx} {F H F' H' F1 H1 : Hp} {O O1 : List Addr} {Q : VK} {a : Expr} {fa : Env → Res D} {pos : Pos} {k : Nat}
def dst : List (List Int) → List (List Int)
  | [] => []
  | x :: l => if x ∈ dst l then dst l else x :: dst l
def eLenSetL (fa : Env → Res D) : Env → Res D := fun g => (fa g).bind fun d => match sqK (opd d) with
  | some xs => match tupsOf xs with
    | some L => if L.length < 64 then .ok (.int (dst L).length) else .bad
    | none => .bad
  | none => .bad
@[simp] theorem eLenSetL_ (fa : Env → Res D) (g : Env) : eLenSetL fa g = (fa g).bind fun d => match sqK (opd d) with
  | some xs => match tupsOf xs with
    | some L => if L.length < 64 then .ok (.int (dst L).length) else .bad
    | none => .bad
  | none => .bad := rfl
end
end DL
end

noncomputable section
namespace DL
open PySem PySem.Spec PyProof.Rows L2 TL PySem.W
section
variable {K : PySem.W.Frag} {cls : Cls} {W : WX} {X : Cx} {F H F' H' F1 H1 : Hp} {O O1 : List Addr} {Q : VK} {σ : L2.St} {pos : Pos}
end
end DL
end

noncomputable section
namespace DL
open PySem PySem.Spec PyProof.Rows L2 TL PySem.W
section
variable {K : PySem.W.Frag} {cls : Cls} {W : WX} {X : Cx} {F H F' H' F1 H1 : Hp} {O O1 : List Addr} {Q : VK} {σ : L2.St}
def intR : Res D → Option Int
  | .ok (.int z) => some z
  | _ => none
def blR : Res Bool → Option Bool
  | .ok b => some b
  | _ => none
theorem intR_ok {r : Res D} {z : Int} (h : intR r = some z) : r = .ok (.int z) := by
  unfold intR at h
  split at h
  · cases h; rfl
  · cases h
theorem DE.goI {t : TE} {fa : Env → Res D} (ha : DE K cls W t fa) {g : Env} {z : Int} (s : Same F H) (st : Sts K cls F H σ g O) (e : intR (fa g) = some z) (hk : ∀ F' H', Ext F H F' H' → Q (.int z) H') : t σ H Q := by
  have e := intR_ok e
  refine ha.go s st (fun c e' => by rw [e] at e'; cases e') (by rw [e]; exact fun z => nomatch z) fun d ed v F' H' x b => ?_
  rw [e] at ed
  cases ed
  obtain rfl := b.int
  exact hk F' H' x
end
end DL
end

noncomputable section
namespace DL
open PySem PySem.Spec PyProof.Rows L2 TL PySem.W
section
variable {K : PySem.W.Frag} {cls : Cls} {W : WX} {X : Cx}
end
end DL
end

noncomputable section
namespace DL
open PySem PySem.Spec PyProof.Rows L2 TL PySem.W
section
variable {K : PySem.W.Frag} {cls : Cls} {W : WX} {X : Cx} {F H F' H' F1 H1 : Hp} {O O1 : List Addr} {Q : VK} {σ : L2.St} {pos : Pos}
def Keeps (j : Nat) (t : TS) : Prop := ∀ (D : Ends) (σ : L2.St) (H : Hp), t D σ H = t { D with nx := fun σ' H' => σ'[j]? = σ[j]? → D.nx σ' H' } σ H
theorem keeps_drop {j : Nat} {te : TE} : Keeps j (tDrop te) := fun D σ H => by
  unfold tDrop
  congr 1
  funext _ H1
  exact propext ⟨fun h _ => h, fun h => h rfl⟩
theorem keeps_name {i j : Nat} {te : TE} (n : i ≠ j) : Keeps j (tAsg te (gName i)) := fun D σ H => by
  unfold tAsg gName
  congr 1
  funext x H1
  exact propext ⟨fun h _ => h, fun h => h (List.getElem?_set_ne n)⟩
theorem keeps_sub {j : Nat} {te to ti : TE} {ts : TSet} : Keeps j (tAsg te (gSub to ti ts)) := fun D σ H => by
  unfold tAsg gSub
  congr 1
  funext x H1
  congr 1
  funext o H2
  congr 1
  funext y H3
  congr 1
  funext H4
  exact propext ⟨fun h _ => h, fun h => h rfl⟩
theorem keeps_if {j : Nat} {c : TT} {t u : TS} (ht : Keeps j t) (hu : Keeps j u) : Keeps j (tIfS c t u) := fun D σ H => by
  unfold tIfS
  congr 1
  funext b H1
  split
  · exact ht D σ H1
  · exact hu D σ H1
structure JK (j : Nat) (X : Cx) (cls : Cls) (W : WX) (st : Stmt) (f : Env → Out) : Prop where
  ex : ∃ t, PS X st t ∧ DS X.K cls W t f ∧ Keeps j t
structure JKs (j : Nat) (X : Cx) (cls : Cls) (W : WX) (st : List Stmt) (f : Env → Out) : Prop where
  ex : ∃ t, PSs X st t ∧ DS X.K cls W t f ∧ Keeps j t
theorem jks_one {j : Nat} {st : Stmt} {f1 : Env → Out} (h1 : JK j X cls W st f1) : JKs j X cls W [st] f1 := by
  obtain ⟨t, p, d, k⟩ := h1.ex
  exact ⟨_, pss_one p, d, k⟩
theorem Ows.pull : ∀ {vs : List V} {ds : List D} {O : List Addr} {k : Nat} {ys : List D}, Ows K cls F H vs ds O → ds[k]? = some (.ol ys) →
    ∃ (r : Addr) (Or O' : List Addr), vs[k]? = some (.ref r) ∧ Ow K cls F H (.ref r) (.ol ys) Or ∧ Ows K cls F H vs (ds.set k (.rf r)) O' ∧ (∀ a ∈ Or, a ∉ O') ∧ (∀ a ∈ Or, a ∈ O) ∧ (∀ a ∈ O', a ∈ O)
  | _, _, _, _, _, .nil, e => by simp at e
  | _, _, _, 0, ys, .cons (v := v) (O1 := P1) (O2 := P2) h r dj eo, e => by
    simp at e
    subst e
    subst eo
    cases h with
    | sh r => cases r
    | @ol p us _ Q1 f1 f2 f3 f4 =>
      refine ⟨p, p :: Q1, P2, rfl, .ol f1 f2 f3 f4, ?_, dj, fun a ha => List.mem_append_left _ ha, fun a ha => List.mem_append_right _ ha⟩
      exact .cons (.sh (.rf p)) r (fun _ h => nomatch h) rfl
  | _, _, _, k + 1, ys, .cons (O1 := P1) (O2 := P2) h r dj eo, e => by
    subst eo
    obtain ⟨p, Or, O', g1, g2, g3, g4, g5, g6⟩ := Ows.pull (k := k) r (by simpa using e)
    refine ⟨p, Or, P1 ++ O', by simpa using g1, g2, .cons h g3 (fun a h1 h2 => dj a h1 (g6 a h2)) rfl, fun a h1 h2 => ?_, fun a ha => List.mem_append_right _ (g5 a ha), fun a ha => ?_⟩
    · rcases List.mem_append.mp h2 with z | z
      · exact dj a z (g5 a h1)
      · exact g4 a h1 z
    · rcases List.mem_append.mp ha with z | z
      · exact List.mem_append_left _ z
      · exact List.mem_append_right _ (g6 a z)
def isRf (r : Addr) : D → Bool
  | .rf a => decide (a = r)
  | _ => false
theorem isRf_eq {r : Addr} {d : D} (h : isRf r d = true) : d = .rf r := by
  unfold isRf at h
  split at h
  · rw [of_decide_eq_true h]
  · cases h
@[simp] theorem isRf_rf {r a : Addr} : isRf r (.rf a) = decide (a = r) := rfl
@[simp] theorem isRf_ol {r : Addr} {l : List D} : isRf r (.ol l) = false := rfl
def plug (r : Addr) (d : D) : List D → Option (List D)
  | [] => none
  | x :: l => if isRf r x = true then some (d :: l) else (plug r d l).map (x :: ·)
theorem Ows.plug : ∀ {vs : List V} {ds ds' : List D} {O Or : List Addr} {r : Addr} {d : D}, Ows K cls F H vs ds O → DL.plug r d ds = some ds' → Ow K cls F H (.ref r) d Or → (∀ a ∈ Or, a ∉ O) → ∃ O', Ows K cls F H vs ds' O' ∧ ∀ a ∈ O', a ∈ O ∨ a ∈ Or
  | _, _, _, _, _, _, _, .nil, e, _, _ => by cases e
  | _, _, _, _, Or, r, d, .cons (v := v) (d := x) (O1 := P1) (O2 := P2) h rr dj eo, e, w, n => by
    subst eo
    unfold DL.plug at e
    split at e
    · rename_i hx
      have hx := isRf_eq hx
      cases e
      subst hx
      cases h with
      | sh q =>
        cases q
        exact ⟨Or ++ P2, .cons w rr (fun a h1 h2 => n a h1 (by simpa using h2)) rfl, fun a ha => by
          rcases List.mem_append.mp ha with z | z
          · exact .inr z
          · exact .inl (by simpa using z)⟩
    · obtain ⟨l', e1, rfl⟩ := Option.map_eq_some_iff.mp e
      obtain ⟨O', w1, w2⟩ := Ows.plug rr e1 w (fun a h1 h2 => n a h1 (List.mem_append_right _ h2))
      refine ⟨P1 ++ O', .cons h w1 (fun a h1 h2 => ?_) rfl, fun a ha => ?_⟩
      · rcases w2 a h2 with z | z
        · exact dj a h1 z
        · exact n a z (List.mem_append_left _ h1)
      · rcases List.mem_append.mp ha with z | z
        · exact .inl (List.mem_append_left _ z)
        · exact (w2 a z).imp (fun z => List.mem_append_right _ z) id
def closes (i j : Nat) (r : Addr) : Out → Option D
  | .nx g => match g[i]?, g[j]? with
    | some (.ol xs), some (.ol ys) => some (.ol ((plug r (.ol ys) xs).getD xs))
    | _, _ => none
  | _ => none
def DOp (K : PySem.W.Frag) (cls : Cls) (W : WX) (i j : Nat) (t : TS) (f : Env → Out) : Prop :=
  ∀ (En : Ends) (σ : L2.St) (F H : Hp) (g : Env) (O : List Addr) (r : Addr) (d : D), Same F H → Sts K cls F H σ g O → σ[j]? = some (some (.ref r)) → closes i j r (f g) = some d →
    (∀ v F' H' O', SExt F H O F' H' O' → Ow K cls F' H' v d O' → En.rt v H') → t En σ H
structure JOp (i j : Nat) (X : Cx) (cls : Cls) (W : WX) (st : List Stmt) (f : Env → Out) : Prop where
  ex : ∃ t, PSs X st t ∧ DOp X.K cls W i j t f
theorem jop_cons {i j : Nat} {st : Stmt} {sts : List Stmt} {f1 f2 : Env → Out} (h1 : JK j X cls W st f1) (h2 : JOp i j X cls W sts f2) : JOp i j X cls W (st :: sts) (sSeq f1 f2) := by
  obtain ⟨t, p, d, k⟩ := h1.ex
  obtain ⟨u, q, d'⟩ := h2.ex
  refine ⟨_, pss_cons p q, ?_⟩
  intro En σ F H g O r dd s st hr e hk
  show t { En with nx := u En } σ H
  rw [k]
  refine d _ σ F H g O s st ?_
  rw [sSeq_] at e
  cases ef : f1 g with
  | nx g' =>
    rw [ef] at e
    intro σ' F' H' O' x st' hj
    exact d' En σ' F' H' g' O' r dd x.fh st' (hj.trans hr) e fun v F2 H2 O2 y w => hk v F2 H2 O2 (x.trans y) w
  | rt d => rw [ef] at e; cases e
  | bk g' => rw [ef] at e; cases e
  | ct g' => rw [ef] at e; cases e
  | xc c g' => rw [ef] at e; cases e
  | bad => rw [ef] at e; cases e
theorem jop_ret {i j : Nat} {x : Str} {npos : Pos} (hij : i ≠ j) (hN : X.N[i]? = some x) (hv : Vis X.env.scope x) (hd : (x == ("__debug__" : Str)) = false := by decide) (hcd : (x == ("__classdict__" : Str)) = false := by decide) :
    JOp i j X cls W [.Return (some (.Name x npos)) pos] sNil := by
  refine ⟨_, pss_one (ps_ret (pe_var hN hv hd hcd)), ?_⟩
  intro En σ F H g O r dd s st hr e hk
  unfold closes at e
  split at e
  · rename_i g' eg
    cases eg
    split at e
    · rename_i xs ys exs eys
      cases e
      obtain ⟨q, vs, O1, h1, h2, h2', h3, h4, h5, h6, _⟩ := st.lst exs
      obtain ⟨P, a1, a2, _, a4⟩ := st.at j (List.getElem?_eq_some_iff.mp eys).1
      rcases a2 with ⟨a2, _⟩ | ⟨v, d, b1, b2, ow⟩
      · rw [eys] at a2; cases a2
      · rw [eys] at b2
        cases b2
        rw [hr] at b1
        cases b1
        obtain ⟨O2, c1, c2, c3⟩ := a4 F H (σ[j]?.getD none) (fun b hb _ => ⟨rfl, (st.dom b hb).1⟩) (.refl F)
        have ej : (g.set j .un)[i]? = some (.ol xs) := by rw [List.getElem?_set_ne (Ne.symm hij)]; exact exs
        obtain ⟨q', vs', O1', k1, k2, k2', k3, k4, k5, k6, _⟩ := c1.lst ej
        have eq : (σ.set j (σ[j]?.getD none))[i]? = some (some (.ref q)) := by rw [List.getElem?_set_ne (Ne.symm hij)]; exact h1
        rw [eq] at k1
        cases k1
        rw [h2] at k2
        cases k2
        refine ⟨.ref q, h1, ?_⟩
        have sub : ∀ {O3 : List Addr}, (∀ a ∈ O3, a ∈ O1' ∨ a ∈ P) → ∀ a ∈ q :: O3, a ∈ O := fun h a ha => by
          rcases List.mem_cons.mp ha with rfl | ha
          · exact h5
          · rcases h a ha with z | z
            · exact c2 a (k6 a z)
            · exact a1 a z
        cases ep : plug r (.ol ys) xs with
        | none =>
          refine hk _ F H (q :: O1') ((Ext.refl s).sext fun a ha => .inl (sub (fun a h => .inl h) a ha)) ?_
          rw [ep]
          exact .ol h2' h2 k3 k4
        | some xs' =>
          obtain ⟨O3, w1, w2⟩ := Ows.plug k4 ep ow (fun a h1 h2 => c3 a (k6 a h2) h1)
          refine hk _ F H (q :: O3) ((Ext.refl s).sext fun a ha => .inl (sub w2 a ha)) ?_
          rw [ep]
          refine .ol h2' h2 (fun z => ?_) w1
          rcases w2 q z with z | z
          · exact k3 z
          · exact c3 q k5 z
    · cases e
  · cases e
open Classical in
def sOpen (i j : Nat) (fE : Env → Res D) (fS : Env → Out) : Env → Out := fun g => match g[i]? with
  | some (.ol xs) => match intR (fE g) with
    | some z => if 0 ≤ z ∧ z < xs.length then match xs[z.toNat]? with
      | some (.ol ys) => if h : ∃ d, ∀ r, closes i j r (fS ((g.set i (.ol (xs.set z.toNat (.rf r)))).set j (.ol ys))) = some d then .rt h.choose else .bad
      | _ => .bad else .bad
    | none => .bad
  | _ => .bad
theorem sOpen_eq {i j : Nat} {fE : Env → Res D} {fS : Env → Out} {g : Env} {xs ys : List D} {z : Int} {d : D} (h1 : g[i]? = some (.ol xs)) (h2 : fE g = .ok (.int z)) (h3 : 0 ≤ z) (h4 : xs[z.toNat]? = some (.ol ys)) (h5 : ∀ r, closes i j r (fS ((g.set i (.ol (xs.set z.toNat (.rf r)))).set j (.ol ys))) = some d) : sOpen i j fE fS g = .rt d := by
  have hl := (List.getElem?_eq_some_iff.mp h4).1
  have hz : z < xs.length := by omega
  have hh : ∃ d, ∀ r, closes i j r (fS ((g.set i (.ol (xs.set z.toNat (.rf r)))).set j (.ol ys))) = some d := ⟨d, h5⟩
  have e : intR (fE g) = some z := by rw [h2]; rfl
  unfold sOpen
  rw [h1]
  simp only [e, h4]
  rw [if_pos ⟨h3, hz⟩, dif_pos hh]
  have := hh.choose_spec 0
  rw [h5 0] at this
  exact congrArg Out.rt (Option.some.inj this).symm
theorem open_st {i j z : Nat} {g : Env} {xs ys : List D} (hij : i ≠ j) (s : Same F H) (st : Sts K cls F H σ g O) (eg : g[i]? = some (.ol xs)) (ez : xs[z]? = some (.ol ys)) (hj : j < g.length) :
    ∃ (q r : Addr) (vs : List V) (O2 : List Addr), σ[i]? = some (some (.ref q)) ∧ H q = some (.lst vs) ∧ vs[z]? = some (.ref r) ∧ vs.length = xs.length ∧ Sts K cls F H (σ.set j (some (.ref r))) ((g.set i (.ol (xs.set z (.rf r)))).set j (.ol ys)) O2 ∧ ∀ a ∈ O2, a ∈ O := by
  have hi : i < g.length := (List.getElem?_eq_some_iff.mp eg).1
  obtain ⟨P, h1, h2, _, h4⟩ := st.at i hi
  rcases h2 with ⟨h2, _⟩ | ⟨v, dd, e1, e2, ow⟩
  · rw [eg] at h2; cases h2
  · rw [eg] at e2
    cases e2
    cases ow with
    | sh r => cases r
    | @ol q vs _ O1 f1 f2 f3 f4 =>
      obtain ⟨r, Or, Op, p1, p2, p3, p4, p5, p6⟩ := f4.pull ez
      obtain ⟨O', w1, w2, w3⟩ := h4 F H (some (.ref q)) (fun b hb _ => ⟨rfl, (st.dom b hb).1⟩) (.refl F)
      rw [st_set_self e1] at w1
      obtain ⟨P3, c1, _, c3, _⟩ := w1.at j (by rw [List.length_set]; exact hj)
      obtain ⟨O3, t1, t2⟩ := c3 F H (.ref r) (.ol ys) Or (fun b hb _ => ⟨rfl, (w1.dom b hb).1⟩) (.refl F) p2 (fun a ha hO => absurd (List.mem_cons_of_mem _ (p5 a ha)) (w3 a hO))
      obtain ⟨P4, d1, d2, d3, _⟩ := t1.at i (by rw [List.length_set, List.length_set]; exact hi)
      have dP : P4 = [] := by
        rcases d2 with ⟨_, z⟩ | ⟨v, dd, _, z, ow⟩
        · exact z
        · rw [List.getElem?_set_ne (Ne.symm hij), List.getElem?_set_self hi] at z
          cases z
          cases ow with
          | sh r => cases r
      obtain ⟨O4, y1, y2⟩ := d3 F H (.ref q) (.ol (xs.set z (.rf r))) (q :: Op) (fun b hb _ => ⟨rfl, (t1.dom b hb).1⟩) (.refl F) (.ol f1 f2 (fun h => f3 (p6 q h)) p3) (fun a ha hO => by
        exfalso
        rcases t2 a hO with z | z
        · rcases List.mem_cons.mp ha with rfl | ha
          · exact w3 _ z (List.mem_cons_self ..)
          · exact w3 a z (List.mem_cons_of_mem _ (p6 a ha))
        · rcases List.mem_cons.mp ha with rfl | ha
          · exact f3 (p5 _ z)
          · exact p4 a z ha)
      have es : (σ.set j (some (V.ref r)))[i]? = some (some (.ref q)) := by rw [List.getElem?_set_ne (Ne.symm hij)]; exact e1
      rw [st_set_self es] at y1
      have eg2 : ((g.set i .un).set j (.ol ys)).set i (.ol (xs.set z (.rf r))) = (g.set i (.ol (xs.set z (.rf r)))).set j (.ol ys) := by
        rw [List.set_comm _ _ (Ne.symm hij), List.set_set]
      rw [eg2] at y1
      refine ⟨q, r, vs, O4, e1, f2, p1, f4.len, y1, fun a ha => ?_⟩
      rcases y2 a ha with z | z
      · rcases t2 a z with z | z
        · exact w2 a z
        · exact h1 a (List.mem_cons_of_mem _ (p5 a z))
      · rcases List.mem_cons.mp z with rfl | z
        · exact h1 _ (List.mem_cons_self ..)
        · exact h1 a (List.mem_cons_of_mem _ (p6 a z))
theorem ds_open {i j : Nat} {tE : TE} {tS : TS} {fE : Env → Res D} {fS : Env → Out} (hij : i ≠ j) (hE : DE K cls W tE fE) (hS : DOp K cls W i j tS fS) :
    DS K cls W (tSeq (tAsg (tOp (rIx K) (tVar i) tE) (gName j)) tS) (fun g => if j < g.length then sOpen i j fE fS g else .bad) := by
  intro En σ F H g O s st p
  simp only at p
  split at p
  · rename_i hjl
    unfold sOpen at p
    split at p
    · rename_i xs exs
      split at p
      · rename_i z ez
        split at p
        · rename_i hz
          split at p
          · rename_i ys eys
            split at p
            · rename_i h
              obtain ⟨q0, r0, vs0, O0, q1, _⟩ := open_st hij s st exs eys hjl
              refine ⟨.ref q0, q1, ?_⟩
              refine hE.goI s st ez fun F1 H1 x1 => ?_
              obtain ⟨q, r, vs, O2, e1, e2, e3, e4, st2, sub⟩ := open_st hij x1.fh (st.ext x1) exs eys hjl
              rw [q1] at e1
              cases e1
              refine .inl ⟨q0, vs, z, .ref r, rfl, rfl, SqL.of e2, ?_, ?_⟩
              · rw [atI_natG (j := z.toNat) (by omega) (by rw [e4]; omega)]; exact e3
              · have hl : j < σ.length := by rw [st.len]; exact hjl
                refine hS En (σ.set j (some (.ref r))) F1 H1 _ O2 r h.choose x1.fh st2 (List.getElem?_set_self hl) (h.choose_spec r) fun v F' H' O' x w => ?_
                exact p v F' H' O' (((x1.sext fun a ha => .inl (sub a ha)).trans x)) w
            · exact p.elim
          · exact p.elim
        · exact p.elim
      · exact p.elim
    · exact p.elim
  · exact p.elim
end
end DL
end

noncomputable section
namespace DL
open PySem PySem.Spec PyProof.Rows L2 TL PySem.W
section
variable {K : PySem.W.Frag} {cls : Cls} {W : WX} {X : Cx} {F H F' H' F1 H1 : Hp} {O O1 : List Addr} {Q : VK} {σ : L2.St} {a b e : Expr} {es : List Expr} {fa fb fc : Env → Res D} {fs : Env → Res (List D)} {ga : Env → Res Bool} {pos : Pos}
theorem jk_setF {jj : Nat} {i : Nat} {x : Str} {pos' : Pos} {k : Nat} (hij : i ≠ jj) (c : Cn X W k) (hi : X.N[i]? = some x) (hx : Loc X.env.scope x) (ha : JE X cls W a fa) (hs : swapsWith a (some (.Name x pos')) pos.line X.env = pure false := by rfl)
    (hf : X.fn x = true ∨ X.env.scope.names.lookup x = some .local := by first | exact .inl rfl | exact .inr rfl) : JK jj X cls W (.Assign [.Name x pos'] a pos) (sAsgF i fa) := by
  obtain ⟨t, p, d⟩ := ha.ex
  exact ⟨_, ps_set c.nd hi hx p hs hf, ds_asgF d, keeps_name hij⟩
theorem jk_setIx {jj : Nat} {i : Nat} {x : Str} {npos spos : Pos} {fk : Env → Res D} (hN : X.N[i]? = some x) (hv : Vis X.env.scope x) (ha : JE X cls W a fa) (hk : JE X cls W b fk) (hd : (x == ("__debug__" : Str)) = false := by decide) (hcd : (x == ("__classdict__" : Str)) = false := by decide)
    (hs : swapsWithSole [.Subscript (.Name x npos) b spos] a pos.line X.env = pure false := by rfl) (hw : swappedStores [.Subscript (.Name x npos) b spos] a X.env = pure none := by rfl)
    (h1 : (assignEach [.Subscript (.Name x npos) b spos] X.env).map (·.2) = [assign (.Subscript (.Name x npos) b spos) X.env] := by rfl)
    (hass : ∀ v, assign (.Subscript (.Name x npos) b spos) X.env v = (do
      let ov ← holding [v] (eval (.Name x npos) X.env)
      let iv ← holding [v, ov] (eval b X.env)
      standAt spos
      holding [v, ov, iv] (setItem ov iv v)
      release [v, ov, iv] []) := by intro _; rfl) : JK jj X cls W (.Assign [.Subscript (.Name x npos) b spos] a pos) (sSet i fk fa) := by
  obtain ⟨t, p, d⟩ := ha.ex
  obtain ⟨t2, p2, d2⟩ := hk.ex
  refine ⟨_, ps_asg p (pg_sub (pe_var hN hv hd hcd) p2 set_list hass) hs hw h1, ?_, keeps_sub⟩
  intro D σ F H g O s st p
  rw [sSet_] at p
  refine d.goS s st p fun dd e p v F1 H1 O2 x fr w => ?_
  split at p
  · rename_i xs eg
    obtain ⟨q, vs, O1, h1, h2, h2', h3, h4, h5, h6, h7⟩ := st.lst eg
    refine ⟨.ref q, h1, ?_⟩
    refine d2.go x.fh (st.ext x) (fun c e F' H' y => by rw [e] at p; exact p σ F' H' O ((x.trans y).sext fun a h => .inl h) (st.ext (x.trans y))) (fun e => by rw [e] at p; exact p) fun kd e kv F3 H3 x3 b3 => ?_
    rw [e, Res.st_ok] at p
    split at p
    · rename_i k ek
      split at p
      · rename_i j ej
        rw [ek] at b3
        obtain rfl := b3.int
        have x13 := x.trans x3
        refine ⟨q, vs, k, j, rfl, rfl, x13.hh _ _ h2, by rw [h4.len]; exact ej, ?_⟩
        obtain ⟨O3, w3, n3⟩ := (h4.ext x13).set j (w.ext x3) fun a q1 q2 => (h4.dom a q1).2 (fr a q2)
        obtain ⟨O'', z1, z2⟩ := h7 F3 H3 (vs.set j v) (xs.set j dd) O3 x13 w3 (fun z => by
          rcases n3 _ z with z | z
          · exact h3 z
          · have := fr q z; rw [h2] at this; cases this) (fun a z => (n3 a z).imp id (fr a))
        exact p σ F3 _ O'' z2 z1
      · exact p.elim
    · exact p.elim
  · exact p.elim
theorem jk_app {jj : Nat} {i : Nat} {x : Str} {npos apos cpos : Pos} (hN : X.N[i]? = some x) (hv : Vis X.env.scope x) (ha : JE X cls W a fa) (hd : (x == ("__debug__" : Str)) = false := by decide) (hcd : (x == ("__classdict__" : Str)) = false := by decide)
    (hbase : attributeBase (.Name x npos) "append" X.env (eval (.Name x npos) X.env) = eval (.Name x npos) X.env := by rfl)
    (hfew : ((backTo cpos (starEach (a :: []) X.env)).all (fun x => !x.1) && (backToKw cpos (keywordEach [] X.env)).all (fun x => x.1.isSome)
      && decide ((a :: []).length + ([] : List Keyword).length + (if ([] : List Keyword).isEmpty then 0 else 1) < 30)) = true := by rfl)
    (hline : (apos.endLine == cpos.line) = true := by rfl) (hs : starEach (a :: []) X.env = (false, eval a X.env) :: starEach [] X.env := by rfl) (hplain : (backTo cpos (starEach [] X.env)).any (·.1) = false := by rfl)
    (hsw : swapsWith (.Call (.Attribute (.Name x npos) "append" apos) [a] [] cpos) none pos.line X.env = pure false := by rfl) :
    JK jj X cls W (.Expr (.Call (.Attribute (.Name x npos) "append" apos) [a] [] cpos) pos) (sApp i fa) := by
  obtain ⟨t, p, d⟩ := ha.ex
  refine ⟨_, ps_expr (pe_bm PySem.F.plainAttrs_list PySem.F.slot_list_append PySem.F.type_list_append mt_append (pe_var hN hv hd hcd) (pa_cons p pa_nil hs) hbase hfew hline hs hplain) hsw, ?_, keeps_drop⟩
  intro D σ F H g O s st p
  rw [sApp_] at p
  split at p
  · rename_i xs eg
    obtain ⟨q, vs, O1, h1, h2, h2', h3, h4, h5, h6, h7⟩ := st.lst eg
    refine ⟨.ref q, h1, .inl ⟨rfl, vs, SqL.of h2⟩, ?_⟩
    refine d.goS s st p fun dd e p v F1 H1 O2 x fr w => ?_
    split at p
    · rename_i hl
      refine ⟨q, vs, v, rfl, rfl, x.hh _ _ h2, by rw [h4.len]; exact lim_lt hl, ?_⟩
      obtain ⟨O'', z1, z2⟩ := h7 F1 H1 (vs ++ [v]) (xs ++ [dd]) (O1 ++ O2) x ((h4.ext x).snoc w fun a q1 q2 => (h4.dom a q1).2 (fr a q2)) (fun z => by
          rcases List.mem_append.mp z with z | z
          · exact h3 z
          · have := fr q z; rw [h2] at this; cases this) (fun a z => (List.mem_append.mp z).imp id (fr a))
      exact p σ F1 _ O'' z2 z1
    · exact p.elim
  · exact p.elim
theorem jk_insert2 {jj : Nat} {i : Nat} {x : Str} {npos apos cpos : Pos} (hN : X.N[i]? = some x) (hv : Vis X.env.scope x) (ha : JA X cls W (a :: b :: []) fs) (hd : (x == ("__debug__" : Str)) = false := by decide) (hcd : (x == ("__classdict__" : Str)) = false := by decide)
    (hbase : attributeBase (.Name x npos) "insert" X.env (eval (.Name x npos) X.env) = eval (.Name x npos) X.env := by rfl)
    (hfew : ((backTo cpos (starEach (a :: b :: []) X.env)).all (fun x => !x.1) && (backToKw cpos (keywordEach [] X.env)).all (fun x => x.1.isSome)
      && decide ((a :: b :: []).length + ([] : List Keyword).length + (if ([] : List Keyword).isEmpty then 0 else 1) < 30)) = true := by rfl)
    (hline : (apos.endLine == cpos.line) = true := by rfl) (hs : starEach (a :: b :: []) X.env = (false, eval a X.env) :: starEach (b :: []) X.env := by rfl) (hplain : (backTo cpos (starEach (b :: []) X.env)).any (·.1) = false := by rfl)
    (hsw : swapsWith (.Call (.Attribute (.Name x npos) "insert" apos) [a, b] [] cpos) none pos.line X.env = pure false := by rfl) :
    JK jj X cls W (.Expr (.Call (.Attribute (.Name x npos) "insert" apos) [a, b] [] cpos) pos) (sIns2 i fs) := by
  obtain ⟨t, p, d⟩ := ha.ex
  refine ⟨_, ps_expr (pe_bm PySem.F.plainAttrs_list PySem.F.slot_list_insert PySem.F.type_list_insert mt_insert (pe_var hN hv hd hcd) p hbase hfew hline hs hplain) hsw, ?_, keeps_drop⟩
  intro En σ F H g O s st p
  rw [sIns2_] at p
  split at p
  · rename_i xs eg
    obtain ⟨q, vs, O1, h1, h2, h2', h3, h4, h5, h6, h7⟩ := st.lst eg
    refine ⟨.ref q, h1, .inl ⟨rfl, vs, SqL.of h2⟩, ?_⟩
    refine d.go s st (fun c e F' H' y => by rw [e] at p; exact p σ F' H' O (y.sext fun a h => .inl h) (st.ext y)) (fun e => by rw [e] at p; exact p) fun dd e us F1 H1 x b => ?_
    rw [e, Res.st_ok] at p
    split at p
    · rename_i j nd
      split at p
      · rename_i hn
        obtain ⟨j0, j1, hl, hall, hsd⟩ := hn
        obtain ⟨v1, v2, rfl, b1, b2⟩ := b.two
        obtain rfl := b1.int
        obtain ⟨rfl, r⟩ := ows_sh h4 hall
        have hlen : vs.length < lim := by rw [r.len]; exact hl
        refine ⟨q, vs, j, v2, rfl, rfl, x.hh _ _ h2, lim_lt hlen, j0, by omega, ?_⟩
        have r' := r.mono x.ff
        have rr : Rps X.K cls F1 (vs.take j.toNat ++ [v2] ++ vs.drop j.toNat) (xs.take j.toNat ++ [nd] ++ xs.drop j.toNat) := ((r'.take _).append (.cons (b2.toRp hsd) .nil)).append (r'.drop _)
        obtain ⟨O'', z1, z2⟩ := h7 F1 H1 _ _ [] x rr.toOws (by simp) (fun a z => nomatch z)
        exact p σ F1 _ O'' z2 z1
      · exact p.elim
    · exact p.elim
  · exact p.elim
theorem jk_del {jj : Nat} {i : Nat} {x : Str} {npos apos cpos : Pos} (hN : X.N[i]? = some x) (hv : Vis X.env.scope x) (ha : JE X cls W a fa) (hd : (x == ("__debug__" : Str)) = false := by decide) (hcd : (x == ("__classdict__" : Str)) = false := by decide)
    (hbase : attributeBase (.Name x npos) "pop" X.env (eval (.Name x npos) X.env) = eval (.Name x npos) X.env := by rfl)
    (hfew : ((backTo cpos (starEach (a :: []) X.env)).all (fun x => !x.1) && (backToKw cpos (keywordEach [] X.env)).all (fun x => x.1.isSome)
      && decide ((a :: []).length + ([] : List Keyword).length + (if ([] : List Keyword).isEmpty then 0 else 1) < 30)) = true := by rfl)
    (hline : (apos.endLine == cpos.line) = true := by rfl) (hs : starEach (a :: []) X.env = (false, eval a X.env) :: starEach [] X.env := by rfl) (hplain : (backTo cpos (starEach [] X.env)).any (·.1) = false := by rfl)
    (hsw : swapsWith (.Call (.Attribute (.Name x npos) "pop" apos) [a] [] cpos) none pos.line X.env = pure false := by rfl) :
    JK jj X cls W (.Expr (.Call (.Attribute (.Name x npos) "pop" apos) [a] [] cpos) pos) (sDel i fa) := by
  obtain ⟨t, p, d⟩ := ha.ex
  refine ⟨_, ps_expr (pe_bm PySem.F.plainAttrs_list PySem.F.slot_list_pop PySem.F.type_list_pop mt_popAt (pe_var hN hv hd hcd) (pa_cons p pa_nil hs) hbase hfew hline hs hplain) hsw, ?_, keeps_drop⟩
  intro En σ F H g O s st p
  rw [sDel_] at p
  split at p
  · rename_i xs eg
    obtain ⟨q, vs, O1, h1, h2, h2', h3, h4, h5, h6, h7⟩ := st.lst eg
    refine ⟨.ref q, h1, .inl ⟨rfl, vs, SqL.of h2⟩, ?_⟩
    refine d.go s st (fun c e F' H' y => by rw [e] at p; exact p σ F' H' O (y.sext fun a h => .inl h) (st.ext y)) (fun e => by rw [e] at p; exact p) fun dd e v F1 H1 x b => ?_
    rw [e, Res.st_ok] at p
    split at p
    · rename_i z eo
      rw [eo] at b
      obtain rfl := b.int
      split at p
      · rename_i kk ek
        split at p
        · rename_i yd ey
          split at p
          · rename_i hn
            obtain ⟨hn, hl⟩ := hn
            obtain ⟨e1, e2, e3, e4⟩ := ixN_seq ek
            obtain ⟨u, u1, u2, u3⟩ := (h4.ext x).erase ey hn
            have hlim : xs.length ≤ 1000000 := hl
            refine ⟨q, vs, z, kk, u, rfl, rfl, x.hh _ _ h2, by omega, by omega, by rw [h4.len]; exact e1, u1, ?_⟩
            obtain ⟨O'', z1, z2⟩ := h7 F1 H1 (vs.eraseIdx kk) (xs.eraseIdx kk) O1 x u3 h3 (fun a z => .inl z)
            exact p σ F1 _ O'' z2 z1
          · exact p.elim
        · exact p.elim
      · exact p.elim
    · exact p.elim
  · exact p.elim
theorem jk_if {jj : Nat} {c : Expr} {s1 s2 : List Stmt} {f1 f2 : Env → Out} (hc : JT X cls W c ga) (h1 : JKs jj X cls W s1 f1) (h2 : JKs jj X cls W s2 f2) : JK jj X cls W (.If c s1 s2 pos) (sIf ga f1 f2) := by
  obtain ⟨tc, pc, dc⟩ := hc.ex
  obtain ⟨t1, p1, d1, k1⟩ := h1.ex
  obtain ⟨t2, p2, d2, k2⟩ := h2.ex
  refine ⟨_, ps_if pc p1 p2, ?_, keeps_if k1 k2⟩
  intro D σ F H g O s st p
  rw [sIf_] at p
  refine dc.go s st (fun c e => by rw [e] at p; exact xc_st st p) (fun e => by rw [e] at p; exact p) fun k e F1 H1 x => ?_
  rw [e, Res.st_ok] at p
  have x' : SExt F H O F1 H1 O := x.sext fun a h => .inl h
  cases k with
  | true =>
    rw [if_pos rfl] at p
    rw [if_pos rfl]
    exact d1 D σ F1 H1 g O x.fh (st.ext x) (p.mono x')
  | false =>
    rw [if_neg (by decide)] at p
    rw [if_neg (by decide)]
    exact d2 D σ F1 H1 g O x.fh (st.ext x) (p.mono x')
def sAppIxPop (i j : Nat) (fE fk : Env → Res D) : Env → Out := fun g => match g[i]?, g[j]? with
  | some (.ol xs), some (.ol rs) => match intR (fE g), intR (fk g) with
    | some z, some k => if 0 ≤ z ∧ z < xs.length ∧ 0 ≤ k ∧ k < rs.length ∧ rs.length ≤ lim ∧ i ≠ j then match xs[z.toNat]?, rs[k.toNat]? with
      | some (.ol ys), some y => if own1 y = false ∧ ys.length < lim then .nx ((g.set j (.ol (rs.eraseIdx k.toNat))).set i (.ol (xs.set z.toNat (.ol (ys ++ [y]))))) else .bad
      | _, _ => .bad
     else .bad
    | _, _ => .bad
  | _, _ => .bad
theorem jk_appIxPop {jj i j : Nat} {x y : Str} {eE : Expr} {fE fk : Env → Res D} {xpos ipos yapos ycpos npos apos cpos : Pos} (hM : X.N[i]? = some x) (hvM : Vis X.env.scope x) (hE : JE X cls W eE fE) (hN : X.N[j]? = some y) (hv : Vis X.env.scope y) (ha : JE X cls W a fk)
    (plain : PlainIx eE := by exact fun _ _ => rfl)
    (hd : (y == ("__debug__" : Str)) = false := by decide) (hcd : (y == ("__classdict__" : Str)) = false := by decide) (hdM : (x == ("__debug__" : Str)) = false := by decide) (hcdM : (x == ("__classdict__" : Str)) = false := by decide)
    (hbase : attributeBase (.Name y npos) "pop" X.env (eval (.Name y npos) X.env) = eval (.Name y npos) X.env := by rfl)
    (hfew : ((backTo cpos (starEach (a :: []) X.env)).all (fun x => !x.1) && (backToKw cpos (keywordEach [] X.env)).all (fun x => x.1.isSome)
      && decide ((a :: []).length + ([] : List Keyword).length + (if ([] : List Keyword).isEmpty then 0 else 1) < 30)) = true := by rfl)
    (hline : (apos.endLine == cpos.line) = true := by rfl) (hs : starEach (a :: []) X.env = (false, eval a X.env) :: starEach [] X.env := by rfl) (hplain : (backTo cpos (starEach [] X.env)).any (·.1) = false := by rfl)
    (hbaseM : attributeBase (.Subscript (.Name x xpos) eE ipos) "append" X.env (eval (.Subscript (.Name x xpos) eE ipos) X.env) = eval (.Subscript (.Name x xpos) eE ipos) X.env := by rfl)
    (hfewM : ((backTo ycpos (starEach (.Call (.Attribute (.Name y npos) "pop" apos) [a] [] cpos :: []) X.env)).all (fun x => !x.1) && (backToKw ycpos (keywordEach [] X.env)).all (fun x => x.1.isSome)
      && decide ((.Call (.Attribute (.Name y npos) "pop" apos) [a] [] cpos :: ([] : List Expr)).length + ([] : List Keyword).length + (if ([] : List Keyword).isEmpty then 0 else 1) < 30)) = true := by rfl)
    (hlineM : (yapos.endLine == ycpos.line) = true := by rfl) (hsM : starEach (.Call (.Attribute (.Name y npos) "pop" apos) [a] [] cpos :: []) X.env = (false, eval (.Call (.Attribute (.Name y npos) "pop" apos) [a] [] cpos) X.env) :: starEach [] X.env := by rfl) (hplainM : (backTo ycpos (starEach [] X.env)).any (·.1) = false := by rfl)
    (hsw : swapsWith (.Call (.Attribute (.Subscript (.Name x xpos) eE ipos) "append" yapos) [.Call (.Attribute (.Name y npos) "pop" apos) [a] [] cpos] [] ycpos) none pos.line X.env = pure false := by rfl) :
    JK jj X cls W (.Expr (.Call (.Attribute (.Subscript (.Name x xpos) eE ipos) "append" yapos) [.Call (.Attribute (.Name y npos) "pop" apos) [a] [] cpos] [] ycpos) pos) (sAppIxPop i j fE fk) := by
  obtain ⟨tE, pE, dE⟩ := hE.ex
  obtain ⟨t, p, d⟩ := ha.ex
  refine ⟨_, ps_expr (pe_bm PySem.F.plainAttrs_list PySem.F.slot_list_append PySem.F.type_list_append mt_append (pe_ix ix_seq (pe_var hM hvM hdM hcdM) pE plain) (pa_cons (pe_bm PySem.F.plainAttrs_list PySem.F.slot_list_pop PySem.F.type_list_pop mt_popAt (pe_var hN hv hd hcd) (pa_cons p pa_nil hs) hbase hfew hline hs hplain) pa_nil hsM) hbaseM hfewM hlineM hsM hplainM) hsw, ?_, keeps_drop⟩
  intro En σ F H g O s st p
  unfold sAppIxPop at p
  split at p
  · rename_i xs rs exs ers
    split at p
    · rename_i z k ez ek
      split at p
      · rename_i hh
        obtain ⟨z0, z1, k0, k1, hl, hij⟩ := hh
        split at p
        · rename_i ys yd eys ey
          split at p
          · rename_i hn
            obtain ⟨hn, hl2⟩ := hn
            obtain ⟨q0, _, _, qa, _⟩ := st.lst exs
            refine ⟨.ref q0, qa, ?_⟩
            refine dE.goI s st ez fun F1 H1 x1 => ?_
            have st1 := st.ext x1
            obtain ⟨q, vs, O1, a1, a2, a3, a4, a5, a6, a7, _⟩ := st1.lst exs
            rw [qa] at a1
            cases a1
            obtain ⟨r, us, O2, g1, g2, g3, g4, g5, g6, g7, _⟩ := a5.inner eys
            have hix : atI vs z = some (.ref r) := by
              have hlt := (List.getElem?_eq_some_iff.mp g1).1
              rw [atI_natG (j := z.toNat) (by omega) hlt]; exact g1
            refine .inl ⟨q0, vs, z, .ref r, rfl, rfl, SqL.of a2, hix, ?_⟩
            refine ⟨.inl ⟨rfl, us, SqL.of g2⟩, ?_⟩
            obtain ⟨p0, ws, Q1, b1, b2, b2', b3, b4, b5, b6, b7⟩ := st1.lst ers
            refine ⟨.ref p0, b1, .inl ⟨rfl, ws, SqL.of b2⟩, ?_⟩
            refine d.goI x1.fh st1 ek fun F2 H2 x2 => ?_
            obtain ⟨u, u1, u2, u3⟩ := (b4.ext x2).erase ey hn
            have ek2 : ixN rs.length k = some k.toNat := ixN_nat k0 k1
            obtain ⟨e1, e2, e3, e4⟩ := ixN_seq ek2
            have hlim : rs.length ≤ 1000000 := hl
            refine ⟨p0, ws, k, k.toNat, u, rfl, rfl, x2.hh _ _ b2, by omega, by omega, by rw [b4.len]; exact e1, u1, ?_⟩
            obtain ⟨O'', c1, c2⟩ := b7 F2 H2 (ws.eraseIdx k.toNat) (rs.eraseIdx k.toNat) Q1 x2 u3 b3 (fun a z => .inl z)
            -- told and row lie apart
            have hqp : q0 ≠ p0 := by
              obtain ⟨P, _, i2, _, i4⟩ := st1.at i (List.getElem?_eq_some_iff.mp exs).1
              rcases i2 with ⟨i2, _⟩ | ⟨v, dd, i2, i3, ow⟩
              · rw [exs] at i2; cases i2
              · rw [exs] at i3; cases i3
                rw [qa] at i2; cases i2
                obtain ⟨O3, w1, _, w3⟩ := i4 F1 H1 none (fun b hb _ => ⟨rfl, (st1.dom b hb).1⟩) (.refl F1)
                obtain ⟨p1, _, _, y1, _, _, _, _, y6, _, _⟩ := w1.lst (i := j) (xs := rs) (by rw [List.getElem?_set_ne hij]; exact ers)
                rw [List.getElem?_set_ne hij, b1] at y1
                cases y1
                intro z
                cases ow with
                | sh r => cases r
                | ol f1 f2 f3 f4 => exact w3 _ y6 (z ▸ List.mem_cons_self ..)
            have exs2 : (g.set j (.ol (rs.eraseIdx k.toNat)))[i]? = some (.ol xs) := by rw [List.getElem?_set_ne (Ne.symm hij)]; exact exs
            obtain ⟨P, m1, m2, m3, _⟩ := c1.at i (List.getElem?_eq_some_iff.mp exs2).1
            rcases m2 with ⟨m2, _⟩ | ⟨v, dd, m2, m2', ow⟩
            · rw [exs2] at m2; cases m2
            · rw [exs2] at m2'; cases m2'
              rw [qa] at m2; cases m2
              cases ow with
              | sh r => cases r
              | @ol _ vs' _ P1 f1 f2 f3 f4 =>
                have hv' : vs' = vs := by
                  rw [upd_ne hqp, x2.hh _ _ a2] at f2
                  cases f2; rfl
                subst hv'
                obtain ⟨r', us', P2, j1, j2, j3, j4, j5, j6, j7, j8⟩ := f4.inner eys
                rw [g1] at j1
                cases j1
                obtain ⟨O4, w1, w2⟩ := j8 F2 (upd H2 p0 (.lst (ws.eraseIdx k.toNat))) (us' ++ [u]) (ys ++ [yd]) P2 (.refl c2.fh) (by
                  have := j5.snoc (v := u) (d := yd) (O2 := []) (.sh u2) (fun a _ h => nomatch h)
                  rw [List.append_nil] at this
                  exact this) j4 (fun a z => .inl z)
                refine ⟨r, us', u, rfl, rfl, j2, by rw [j5.len]; exact lim_lt hl2, ?_⟩
                have hqr : q0 ≠ r := fun z => f3 (z ▸ j6)
                generalize upd H2 p0 (.lst (ws.eraseIdx k.toNat)) = Hn at *
                have up : ∀ b, b ≠ r → upd Hn r (.lst (us' ++ [u])) b = Hn b := fun b hb => upd_ne hb
                have hq4 : q0 ∉ O4 := fun z => by
                  rcases w2 _ z with z | z
                  · exact f3 z
                  · rw [f2] at z; cases z
                obtain ⟨O5, q1, q2⟩ := m3 F2 (upd Hn r (.lst (us' ++ [u]))) (.ref q0) (.ol (xs.set z.toNat (.ol (ys ++ [yd])))) (q0 :: O4) (fun b hb hn => ⟨up b fun z => hn (by simp [z, j6]), (c1.dom b hb).1⟩) (.refl F2)
                  (.ol f1 ((up q0 hqr).trans f2) hq4 w1) (fun a ha hO => by
                    rcases List.mem_cons.mp ha with rfl | ha
                    · simp
                    · rcases w2 a ha with z | z
                      · simp [z]
                      · exact absurd z (c1.dom a hO).2)
                rw [set_self qa] at q1
                have fin : SExt F2 Hn O'' F2 (upd Hn r (.lst (us' ++ [u]))) O5 := by
                  refine ⟨.refl F2, fun b o k => ?_, fun b o k hn => ?_, fun b h1 h2 _ => h1, fun b hb => ?_⟩
                  · rw [up b fun z => by rw [z, j3] at k; cases k]; exact c2.fh b o k
                  · rw [up b fun z => hn (z ▸ m1 r (by simp [j6]))]; exact k
                  · rcases q2 b hb with z | z
                    · exact .inl z
                    · rcases List.mem_cons.mp z with rfl | z
                      · exact .inl (m1 _ (by simp))
                      · exact (w2 b z).imp (fun z => m1 b (by simp [z])) id
                exact p σ F2 _ O5 (((x1.sext fun a h => .inl h).trans c2).trans fin) q1
          · exact p.elim
        · exact p.elim
      · exact p.elim
    · exact p.elim
  · exact p.elim
def sOpn (i j : Nat) (fE : Env → Res D) (fS : Env → Out) : Env → Out := fun g => if j < g.length then sOpen i j fE fS g else .bad
theorem jss_open {i j k : Nat} {told row : Str} {E : Expr} {sts : List Stmt} {fE : Env → Res D} {fS : Env → Out} {pr pt sp ap : Pos} (c : Cn X W k) (Ni : X.N[i]? = some told) (Nj : X.N[j]? = some row)
    (vi : Vis X.env.scope told) (lj : Loc X.env.scope row) (hE : JE X cls W E fE) (hij : i ≠ j) (hS : JOp i j X cls W sts fS)
    (plain : PlainIx E := by exact fun _ _ => rfl)
    (sw0 : swapsWith (.Subscript (.Name told pt) E sp) (some (.Name row pr)) ap.line X.env = pure false := by rfl)
    (hfr : X.fn row = true ∨ X.env.scope.names.lookup row = some .local := by first | exact .inl rfl | exact .inr rfl)
    (hd : (told == ("__debug__" : Str)) = false := by decide) (hcd : (told == ("__classdict__" : Str)) = false := by decide) :
    JSs X cls W (.Assign [.Name row pr] (.Subscript (.Name told pt) E sp) ap :: sts) (sOpn i j fE fS) := by
  obtain ⟨tE, pE, dE⟩ := hE.ex
  obtain ⟨t, p, d⟩ := hS.ex
  exact ⟨_, pss_cons (ps_set c.nd Nj lj (pe_ix ix_seq (pe_var Ni vi hd hcd) pE plain) sw0 hfr) p, ds_open hij dE d⟩
end
end DL
end

noncomputable section
namespace Lw
open DL
def f_Web_init_l1 : Env → Out := sIf (tOr_ (tNo (tCh cLe cLt (eC (.int 0)) (eVar 3) (eVar 1))) (tNo (tCh cLe cLt (eC (.int 0)) (eVar 4) (eVar 1)))) (sRaise 1) (sNil)
def f_Web_init : Env → Out := sSeq (sIf (tOr_ (tNo (tCh cLe cLe (eC (.int 1)) (eVar 1) (eC (.int 14)))) (tC2 cGt (eCall caLen (aCons (eVar 2) (aNil))) (eC (.int 30)))) (sRaise 1) (sNil)) (sSeq (sFor (iSeq (eVar 2)) (gtT 2 (gtCons (gtN 3) (gtCons (gtN 4) (gtNil)))) f_Web_init_l1) (sSeq (sFld 0 14 0 (eVar 1)) (sFld 0 14 1 (eCall caList (aCons (eVar 2) (aNil))))))
def g_Web_init : List D → Res (List D) := mirI f_Web_init 14 5
def f_made_set_l1 : Env → Out := sSeq (sIf (tOr_ (tC2 cLe (eVar 3) (eVar 2)) (tC2 cGe (eVar 3) (eCall caLen (aCons (eUn (opFld 14 1) (eVar 0)) (aNil))))) (sRaise 2) (sNil)) (sAsgF 2 (eVar 3))
def f_made_set : Env → Out := sSeq (sAsgF 2 (eUn opNeg (eC (.int 1)))) (sSeq (sFor (iSeq (eVar 1)) (gtN 3) f_made_set_l1) (sRet (eCall caTuple (aCons (eVar 1) (aNil)))))
def g_made_set : List D → Res D := runF f_made_set 4
end Lw
end

noncomputable section
namespace Lw
open DL
def f_marks_over_c1 : Env → Res D := eIf (tC2 cEq (eVar 8) (eVar 7)) (eVar 6) (eVar 8)
def f_marks_over_l1 : Env → Out := sSeq (sAsgT (gtT 2 (gtCons (gtN 4) (gtCons (gtN 5) (gtNil)))) (eBin opIx (eUn (opFld 14 1) (eVar 0)) (eVar 3))) (sSeq (sAsgF 6 (eCall caMin2 (aCons (eBin opIx (eVar 2) (eVar 4)) (aCons (eBin opIx (eVar 2) (eVar 5)) (aNil))))) (sSeq (sAsgF 7 (eCall caMax2 (aCons (eBin opIx (eVar 2) (eVar 4)) (aCons (eBin opIx (eVar 2) (eVar 5)) (aNil))))) (sAsgF 2 (eLc (iSeq (eVar 2)) [8] (gtN 8) (tYesG) f_marks_over_c1))))
def f_marks_over : Env → Out := sSeq (sAsgF 2 (eLR1 (eUn (opFld 14 0) (eVar 0)))) (sSeq (sFor (iSeq (eVar 1)) (gtN 3) f_marks_over_l1) (sRetV 2))
def g_marks_over : List D → Res D := runF f_marks_over 9
def f_is_joined : Env → Out := sRet (eB (tC2 cEq (eLenSet (eOwn g_marks_over (aCons (eVar 0) (aCons (eOwn g_made_set (aCons (eVar 0) (aCons (eVar 1) (aNil)))) (aNil))))) (eC (.int 1))))
def g_is_joined : List D → Res D := runF f_is_joined 2
end Lw
end

noncomputable section
namespace Lw
open DL
def f_place_from : Env → Out := sRet (eBin opIx (eBin opIx (eUn (opFld 14 1) (eVar 0)) (eBin opDiv (eVar 1) (eC (.int 2)))) (eBin opMod (eVar 1) (eC (.int 2))))
def g_place_from : List D → Res D := runF f_place_from 2
def f_look_at_turns_l1 : Env → Out := sSeq (sIf (tOr_ (tC2 cLt (eVar 5) (eC (.int 0))) (tOr_ (tC2 cGe (eVar 5) (eBin opMul (eC (.int 2)) (eCall caLen (aCons (eUn (opFld 14 1) (eVar 0)) (aNil))))) (tOr_ (tC2 cDI (eVar 5) (eVar 2)) (tC2 cNe (eOwn g_place_from (aCons (eVar 0) (aCons (eVar 5) (aNil)))) (eVar 3))))) (sRaise 10) (sNil)) (sDSet 2 (eVar 5) (eVar 3))
def f_look_at_turns_l2 : Env → Out := sFor (iSeq (eVar 4)) (gtN 5) f_look_at_turns_l1
def f_look_at_turns : Env → Out := sSeq (sIf (tC2 cNe (eCall caLen (aCons (eVar 1) (aNil))) (eUn (opFld 14 0) (eVar 0))) (sRaise 10) (sNil)) (sSeq (sAsg 2 (eDic)) (sSeq (sFor (iEnm3 (aCons (eVar 1) (aNil))) (gtT 2 (gtCons (gtN 3) (gtCons (gtN 4) (gtNil)))) f_look_at_turns_l2) (sIf (tC2 cNe (eCall caLenD (aCons (eVar 2) (aNil))) (eBin opMul (eC (.int 2)) (eCall caLen (aCons (eUn (opFld 14 1) (eVar 0)) (aNil))))) (sRaise 10) (sNil))))
def g_look_at_turns : List D → Res D := runF f_look_at_turns 6
def f_darts_behind_l1 : Env → Out := sDSet 1 (eBin opXor (eVar 4) (eC (.int 1))) (eBin opIx (eVar 2) (eBin opMod (eBin opAdd (eVar 3) (eC (.int 1))) (eCall caLen (aCons (eVar 2) (aNil)))))
def f_darts_behind_l2 : Env → Out := sFor (iEnm3 (aCons (eVar 2) (aNil))) (gtT 2 (gtCons (gtN 3) (gtCons (gtN 4) (gtNil)))) f_darts_behind_l1
def f_darts_behind : Env → Out := sSeq (sAsg 1 (eDic)) (sSeq (sFor (iSeq (eVar 0)) (gtN 2) f_darts_behind_l2) (sRetV 1))
def g_darts_behind : List D → Res D := runF f_darts_behind 5
def f_rounds_of_l1 : Env → Out := sSeq (sDSet 3 (eVar 7) (eC (.bl true))) (sSeq (sApp 6 (eVar 7)) (sAsgF 7 (eBin opDG (eVar 2) (eVar 7))))
def f_rounds_of_l1t : Env → Res Bool := tC2 cDN (eVar 7) (eVar 3)
def f_rounds_of_l3 : Env → Out := sIf (tC2 cDN (eVar 5) (eVar 3)) (sSeq (sAsg 6 (eLst (aNil))) (sSeq (sAsgF 7 (eVar 5)) (sSeq (sWhile f_rounds_of_l1t f_rounds_of_l1) (sAppMv 4 6)))) (sNil)
def f_rounds_of : Env → Out := sSeq (sExp (eOwn g_look_at_turns (aCons (eVar 0) (aCons (eVar 1) (aNil))))) (sSeq (sAsg 2 (eOwn g_darts_behind (aCons (eVar 1) (aNil)))) (sSeq (sAsg 3 (eDic)) (sSeq (sAsg 4 (eLst (aNil))) (sSeq (sFor (iRg1 (aCons (eBin opMul (eC (.int 2)) (eCall caLen (aCons (eUn (opFld 14 1) (eVar 0)) (aNil)))) (aNil))) (gtN 5) f_rounds_of_l3) (sSeq (sIf (tC2 cEq (eCall caLen (aCons (eVar 4) (aNil))) (eC (.int 0))) (sRet (eLst (aConsO (eLst (aNil)) (aNil)))) (sNil)) (sRetV 4))))))
def g_rounds_of : List D → Res D := runF f_rounds_of 8
def f_lies_flat : Env → Out := sSeq (sAsgF 2 (eOwn g_rounds_of (aCons (eVar 0) (aCons (eVar 1) (aNil))))) (sSeq (sAsgF 3 (eTR1 (eCall caLen (aCons (eUn (opFld 14 1) (eVar 0)) (aNil))))) (sRet (eB (tAn (tV (eOwn g_is_joined (aCons (eVar 0) (aCons (eVar 3) (aNil))))) (tC2 cEq (eBin opAdd (eBin opSub (eUn (opFld 14 0) (eVar 0)) (eCall caLen (aCons (eUn (opFld 14 1) (eVar 0)) (aNil)))) (eCall caLen (aCons (eVar 2) (aNil)))) (eC (.int 2)))))))
def g_lies_flat : List D → Res D := runF f_lies_flat 4
def f_other_web_l1 : Env → Out := sDSet 3 (eVar 6) (eVar 4)
def f_other_web_l2 : Env → Out := sFor (iSeq (eVar 5)) (gtN 6) f_other_web_l1
def f_other_web_c3 : Env → Res D := eTup (aConsO (eBin opDG (eVar 3) (eBin opMul (eC (.int 2)) (eVar 7))) (aConsO (eBin opDG (eVar 3) (eBin opAdd (eBin opMul (eC (.int 2)) (eVar 7)) (eC (.int 1)))) (aNil)))
def f_other_web : Env → Out := sSeq (sIf (tNo (tTr (eOwn g_lies_flat (aCons (eVar 0) (aCons (eVar 1) (aNil)))))) (sRaise 11) (sNil)) (sSeq (sAsgF 2 (eOwn g_rounds_of (aCons (eVar 0) (aCons (eVar 1) (aNil))))) (sSeq (sAsg 3 (eDic)) (sSeq (sFor (iEnm (aCons (eVar 2) (aNil))) (gtT 2 (gtCons (gtN 4) (gtCons (gtN 5) (gtNil)))) f_other_web_l2) (sRet (eMkF 14 g_Web_init (aCons (eCall caLen (aCons (eVar 2) (aNil))) (aCons (eLc (iRg1 (aCons (eCall caLen (aCons (eUn (opFld 14 1) (eVar 0)) (aNil))) (aNil))) [7] (gtN 7) (tYesG) f_other_web_c3) (aNil))))))))
def g_other_web : List D → Res D := runF f_other_web 8
end Lw
end

noncomputable section
namespace Lw
open DL
def f_law_at : Env → Out := sSeq (sIf (tC2 cLt (eVar 1) (eCall caLen (aCons (eVar 0) (aNil)))) (sRet (eBin opIx (eVar 0) (eVar 1))) (sNil)) (sRet (eC (.int 0)))
def g_law_at : List D → Res D := runF f_law_at 2
end Lw
end

noncomputable section
namespace Lw
open DL
def f_law_mixed_v2 : Env → Out := sSeq (sAsgF 2 (eBin opMul (eBin opAdd (eBin opMod (eVar 0) (eBin opPow (eC (.int 10)) (eC (.int 60)))) (eC (.int 3))) (eBin opAdd (eC (.int 16180339887498948482045868343656381177203)) (eBin opMul (eBin opMul (eC (.int 2)) (eVar 1)) (eVar 1))))) (sSeq (sAsgF 2 (eBin opAdd (eVar 2) (eBin opMul (eC (.int 6151)) (eVar 1)))) (sRet (eBin opMod (eBin opMul (eVar 2) (eVar 2)) (eBin opAdd (eBin opPow (eC (.int 10)) (eC (.int 60))) (eC (.int 33))))))
def g_law_mixed_v2 : List D → Res D := runF f_law_mixed_v2 3
def f_law_ties_v2_l1 : Env → Out := sSeq (sIf (tC2 cEq (eVar 4) (eC (.int 0))) (sAsgF 4 (eOwn g_law_mixed_v2 (aCons (eOwn g_law_at (aCons (eVar 0) (aCons (eC (.int 2)) (aNil)))) (aCons (eVar 6) (aNil))))) (sNil)) (sSeq (sAsgF 7 (eBin opMod (eVar 4) (eBin opAdd (eBin opMul (eVar 1) (eVar 1)) (eC (.int 1))))) (sSeq (sApp 3 (eTup (aConsO (eBin opMod (eVar 7) (eVar 1)) (aConsO (eBin opMod (eBin opDiv (eVar 7) (eVar 1)) (eVar 1)) (aNil))))) (sAsgF 4 (eBin opDiv (eVar 4) (eBin opAdd (eBin opMul (eVar 1) (eVar 1)) (eC (.int 1)))))))
def f_law_ties_v2_l2 : Env → Out := sSeq (sAsgF 9 (eOwn g_law_mixed_v2 (aCons (eVar 8) (aCons (eBin opMod (eVar 6) (eC (.int 37))) (aNil))))) (sIf (tC2 cLt (eVar 6) (eVar 2)) (sApp 3 (eTup (aConsO (eBin opMod (eBin opDiv (eVar 9) (eC (.int 8))) (eVar 1)) (aConsO (eBin opMod (eBin opDiv (eVar 9) (eC (.int 800))) (eVar 1)) (aNil))))) (sSeq (sAsgF 10 (eBin opMod (eVar 6) (eVar 2))) (sSeq (sAsgF 9 (eOwn g_law_mixed_v2 (aCons (eBin opAdd (eBin opAdd (eVar 9) (eBin opIx (eBin opIx (eVar 3) (eVar 10)) (eC (.int 0)))) (eBin opMul (eC (.int 7)) (eBin opIx (eBin opIx (eVar 3) (eVar 10)) (eC (.int 1))))) (aCons (eC (.int 5)) (aNil))))) (sSet 3 (eVar 10) (eTup (aConsO (eBin opMod (eBin opDiv (eVar 9) (eC (.int 8))) (eVar 1)) (aConsO (eBin opMod (eBin opDiv (eVar 9) (eC (.int 800))) (eVar 1)) (aNil))))))))
def f_law_ties_v2 : Env → Out := sSeq (sAsg 3 (eLst (aNil))) (sSeq (sIf (tC2 cEq (eBin opMod (eOwn g_law_at (aCons (eVar 0) (aCons (eC (.int 1)) (aNil)))) (eC (.int 2))) (eC (.int 0))) (sSeq (sAsgF 4 (eBin opMod (eOwn g_law_at (aCons (eVar 0) (aCons (eC (.int 2)) (aNil)))) (eBin opPow (eC (.int 10)) (eC (.int 60))))) (sSeq (sAsgF 5 (eBin opMod (eVar 4) (eBin opAdd (eVar 2) (eC (.int 1))))) (sSeq (sAsgF 4 (eBin opDiv (eVar 4) (eBin opAdd (eVar 2) (eC (.int 1))))) (sSeq (sFor (iRg1 (aCons (eVar 5) (aNil))) (gtN 6) f_law_ties_v2_l1) (sRetV 3))))) (sNil)) (sSeq (sFor (iEnm (aCons (eSl (eVar 0) (ePart (some (eC (.int 2)))) (ePart none)) (aNil))) (gtT 2 (gtCons (gtN 6) (gtCons (gtN 8) (gtNil)))) f_law_ties_v2_l2) (sRetV 3)))
def g_law_ties_v2 : List D → Res D := runF f_law_ties_v2 11
end Lw
end

noncomputable section
namespace Lw
open DL
def f_law_amounts_l1 : Env → Out := sSeq (sIf (tC2 cEq (eVar 3) (eC (.int 0))) (sAsgF 3 (eOwn g_law_mixed_v2 (aCons (eOwn g_law_at (aCons (eVar 0) (aCons (eC (.int 2)) (aNil)))) (aCons (eVar 4) (aNil))))) (sNil)) (sSeq (sApp 2 (eBin opMod (eVar 3) (eC (.int 20000)))) (sAsgF 3 (eBin opDiv (eVar 3) (eC (.int 20000)))))
def f_law_amounts_c2 : Env → Res D := eOwn g_law_mixed_v2 (aCons (eBin opAdd (eVar 1) (eVar 4)) (aCons (eC (.int 40)) (aNil)))
def f_law_amounts_l3 : Env → Out := sIf (tC2 cGt (eCall caLen (aCons (eVar 2) (aNil))) (eC (.int 0))) (sSeq (sAsgF 6 (eBin opMod (eVar 4) (eCall caLen (aCons (eVar 2) (aNil))))) (sSet 2 (eVar 6) (eOwn g_law_mixed_v2 (aCons (eBin opAdd (eBin opIx (eVar 2) (eVar 6)) (eBin opMod (eVar 5) (eBin opPow (eC (.int 10)) (eC (.int 60))))) (aCons (eBin opMod (eVar 4) (eC (.int 37))) (aNil)))))) (sNil)
def f_law_amounts_c4 : Env → Res D := eBin opMod (eBin opDiv (eVar 7) (eC (.int 8))) (eC (.int 20000))
def f_law_amounts : Env → Out := sSeq (sAsgF 1 (eBin opMod (eOwn g_law_at (aCons (eVar 0) (aCons (eC (.int 0)) (aNil)))) (eBin opPow (eC (.int 10)) (eC (.int 60))))) (sSeq (sAsg 2 (eLst (aNil))) (sSeq (sIf (tC2 cEq (eBin opMod (eOwn g_law_at (aCons (eVar 0) (aCons (eC (.int 1)) (aNil)))) (eC (.int 2))) (eC (.int 0))) (sSeq (sAsgF 3 (eBin opMod (eOwn g_law_at (aCons (eVar 0) (aCons (eC (.int 2)) (aNil)))) (eBin opMul (eBin opPow (eC (.int 10)) (eC (.int 60))) (eBin opPow (eC (.int 10)) (eC (.int 60)))))) (sSeq (sFor (iRg1 (aCons (eBin opMod (eVar 1) (eC (.int 25))) (aNil))) (gtN 4) f_law_amounts_l1) (sRetV 2))) (sNil)) (sSeq (sAsg 2 (eLc (iRg1 (aCons (eBin opMod (eVar 1) (eC (.int 25))) (aNil))) [4] (gtN 4) (tYesG) f_law_amounts_c2)) (sSeq (sFor (iEnm (aCons (eSl (eVar 0) (ePart (some (eC (.int 2)))) (ePart none)) (aNil))) (gtT 2 (gtCons (gtN 4) (gtCons (gtN 5) (gtNil)))) f_law_amounts_l3) (sFrz 2 (sRet (eLc (iSeq (eVar 2)) [7] (gtN 7) (tYesG) f_law_amounts_c4)))))))
def g_law_amounts : List D → Res D := runF f_law_amounts 8
def f_law_behind_v2_l1 : Env → Out := sDSet 1 (eBin opXor (eVar 4) (eC (.int 1))) (eBin opIx (eVar 2) (eBin opMod (eBin opAdd (eVar 3) (eC (.int 1))) (eCall caLen (aCons (eVar 2) (aNil)))))
def f_law_behind_v2_l2 : Env → Out := sFor (iEnm3 (aCons (eVar 2) (aNil))) (gtT 2 (gtCons (gtN 3) (gtCons (gtN 4) (gtNil)))) f_law_behind_v2_l1
def f_law_behind_v2 : Env → Out := sSeq (sAsg 1 (eDic)) (sSeq (sFor (iSeq (eVar 0)) (gtN 2) f_law_behind_v2_l2) (sRetV 1))
def g_law_behind_v2 : List D → Res D := runF f_law_behind_v2 5
def f_law_put_l1 : Env → Out := sSeq (sIf (tC2 cEq (eVar 7) (eVar 1)) (sApp 6 (eBin opIx (eVar 3) (eC (.int 0)))) (sNil)) (sSeq (sIf (tC2 cEq (eVar 7) (eVar 2)) (sApp 6 (eBin opIx (eVar 3) (eC (.int 1)))) (sNil)) (sApp 6 (eVar 7)))
def f_law_put_l2 : Env → Out := sSeq (sAsg 6 (eLst (aNil))) (sSeq (sFor (iSeq (eVar 5)) (gtN 7) f_law_put_l1) (sFrz 6 (sApp 4 (eVar 6))))
def f_law_put : Env → Out := sSeq (sAsg 4 (eLst (aNil))) (sSeq (sFor (iSeq (eVar 0)) (gtN 5) f_law_put_l2) (sRetV 4))
def g_law_put : List D → Res D := runF f_law_put 8
def f_law_corner_c1 : Env → Res D := eVar 3
def f_law_corner_c1t : Env → Res Bool := tC2 cGt (eCall caLen (aCons (eVar 3) (aNil))) (eC (.int 0))
def f_law_corner : Env → Out := sSeq (sAsgF 2 (eLc (iSeq (eVar 0)) [3] (gtN 3) (f_law_corner_c1t) f_law_corner_c1)) (sSeq (sAsgF 3 (eBin opIx (eVar 2) (eBin opMod (eVar 1) (eCall caLen (aCons (eVar 2) (aNil)))))) (sRet (eBin opIx (eVar 3) (eBin opMod (eBin opDiv (eVar 1) (eC (.int 13))) (eCall caLen (aCons (eVar 3) (aNil)))))))
def g_law_corner : List D → Res D := runF f_law_corner 4
def f_law_grown_v3_l1 : Env → Out := sDSet 7 (eVar 10) (eVar 8)
def f_law_grown_v3_l2 : Env → Out := sFor (iSeq (eVar 9)) (gtN 10) f_law_grown_v3_l1
def f_law_grown_v3_l3 : Env → Out := sAsgF 13 (eBin opDG (eVar 14) (eVar 13))
def f_law_grown_v3 : Env → Out := sSeq (sAsgF 4 (eBin opMul (eC (.int 2)) (eCall caLen (aCons (eVar 1) (aNil))))) (sSeq (sAsgF 5 (eBin opIx (eLst (aConsO (eLst (aConsO (eVar 4) (aConsO (eBin opAdd (eVar 4) (eC (.int 1))) (aNil)))) (aConsO (eLst (aConsO (eBin opAdd (eVar 4) (eC (.int 1))) (aConsO (eVar 4) (aNil)))) (aNil)))) (eBin opMod (eVar 3) (eC (.int 2))))) (sSeq (sAsgF 6 (eB (tAn (tC2 cEq (eBin opMod (eBin opDiv (eVar 3) (eC (.int 2))) (eC (.int 2))) (eC (.int 0))) (tC2 cLt (eVar 0) (eC (.int 13)))))) (sSeq (sIf (tAn (tNo (tTr (eVar 6))) (tC2 cGt (eBin opSub (eCall caLen (aCons (eVar 1) (aNil))) (eVar 0)) (eC (.int 10)))) (sRet (eTup (aConsO (eVar 0) (aConsO (eVar 1) (aConsO (eVar 2) (aNil)))))) (sNil)) (sSeq (sIf (tC2 cEq (eCall caLen (aCons (eVar 1) (aNil))) (eC (.int 0))) (sSeq (sIf (tTr (eVar 6)) (sRet (eTup (aConsO (eC (.int 2)) (aConsO (eLst (aConsO (eBin opIx (eLst (aConsO (eTup (aConsO (eC (.int 0)) (aConsO (eC (.int 1)) (aNil)))) (aConsO (eTup (aConsO (eC (.int 1)) (aConsO (eC (.int 0)) (aNil)))) (aNil)))) (eBin opMod (eVar 3) (eC (.int 2)))) (aNil))) (aConsO (eLst (aConsO (eLst (aConsO (eBin opIx (eVar 5) (eC (.int 0))) (aNil))) (aConsO (eLst (aConsO (eBin opIx (eVar 5) (eC (.int 1))) (aNil))) (aNil)))) (aNil)))))) (sNil)) (sRet (eTup (aConsO (eC (.int 1)) (aConsO (eLst (aConsO (eTup (aConsO (eC (.int 0)) (aConsO (eC (.int 0)) (aNil)))) (aNil))) (aConsO (eLst (aConsO (eVar 5) (aNil))) (aNil))))))) (sNil)) (sSeq (sAsg 7 (eDic)) (sSeq (sFor (iEnm3 (aCons (eVar 2) (aNil))) (gtT 2 (gtCons (gtN 8) (gtCons (gtN 9) (gtNil)))) f_law_grown_v3_l2) (sSeq (sAsgF 11 (eOwn g_law_corner (aCons (eVar 2) (aCons (eBin opDiv (eVar 3) (eC (.int 4))) (aNil))))) (sSeq (sIf (tTr (eVar 6)) (sSeq (sAsgF 12 (eBin opIx (eLst (aConsO (eTup (aConsO (eBin opDG (eVar 7) (eVar 11)) (aConsO (eVar 0) (aNil)))) (aConsO (eTup (aConsO (eVar 0) (aConsO (eBin opDG (eVar 7) (eVar 11)) (aNil)))) (aNil)))) (eBin opMod (eVar 3) (eC (.int 2))))) (sRet (eTup (aConsO (eBin opAdd (eVar 0) (eC (.int 1))) (aConsO (eBin opAdd (eVar 1) (eLst (aConsO (eVar 12) (aNil)))) (aConsO (eBin opAdd (eOwn g_law_put (aCons (eVar 2) (aCons (eVar 11) (aCons (eC .non) (aCons (eVar 5) (aNil)))))) (eLst (aConsO (eLst (aConsO (eBin opIx (eVar 5) (eC (.int 1))) (aNil))) (aNil)))) (aNil))))))) (sNil)) (sSeq (sAsgF 13 (eVar 11)) (sSeq (sAsg 14 (eOwn g_law_behind_v2 (aCons (eVar 2) (aNil)))) (sSeq (sFor (iRg1 (aCons (eBin opMod (eBin opDiv (eVar 3) (eC (.int 1000))) (eC (.int 7))) (aNil))) (gtN 15) f_law_grown_v3_l3) (sSeq (sAsgF 12 (eBin opIx (eLst (aConsO (eTup (aConsO (eBin opDG (eVar 7) (eVar 11)) (aConsO (eBin opDG (eVar 7) (eVar 13)) (aNil)))) (aConsO (eTup (aConsO (eBin opDG (eVar 7) (eVar 13)) (aConsO (eBin opDG (eVar 7) (eVar 11)) (aNil)))) (aNil)))) (eBin opMod (eVar 3) (eC (.int 2))))) (sRet (eTup (aConsO (eVar 0) (aConsO (eBin opAdd (eVar 1) (eLst (aConsO (eVar 12) (aNil)))) (aConsO (eOwn g_law_put (aCons (eVar 2) (aCons (eVar 11) (aCons (eVar 13) (aCons (eVar 5) (aNil)))))) (aNil))))))))))))))))))
def g_law_grown_v3 : List D → Res D := runF f_law_grown_v3 16
def f_law_map_l1 : Env → Out := sAsgT (gtT 3 (gtCons (gtN 1) (gtCons (gtN 2) (gtCons (gtN 3) (gtNil))))) (eOwn g_law_grown_v3 (aCons (eVar 1) (aCons (eVar 2) (aCons (eVar 3) (aCons (eVar 4) (aNil))))))
def f_law_map : Env → Out := sSeq (sAsgF 1 (eC (.int 1))) (sSeq (sAsgF 2 (eLst (aNil))) (sSeq (sAsgF 3 (eLst (aConsO (eLst (aNil)) (aNil)))) (sSeq (sFor (iSeq (eOwn g_law_amounts (aCons (eVar 0) (aNil)))) (gtN 4) f_law_map_l1) (sRet (eTup (aConsO (eVar 1) (aConsO (eVar 2) (aConsO (eVar 3) (aNil)))))))))
def g_law_map : List D → Res D := runF f_law_map 5
def f_law_any_turns_l1 : Env → Out := sSeq (sIf (tC2 cEq (eBin opIx (eVar 7) (eC (.int 0))) (eVar 4)) (sApp 5 (eBin opMul (eC (.int 2)) (eVar 6))) (sNil)) (sIf (tC2 cEq (eBin opIx (eVar 7) (eC (.int 1))) (eVar 4)) (sApp 5 (eBin opAdd (eBin opMul (eC (.int 2)) (eVar 6)) (eC (.int 1)))) (sNil))
def f_law_any_turns_l2 : Env → Out := sSeq (sAsgF 2 (eOwn g_law_mixed_v2 (aCons (eVar 2) (aCons (eC (.int 50)) (aNil))))) (sAppPop 8 5 (eBin opMod (eBin opDiv (eVar 2) (eC (.int 8))) (eCall caLen (aCons (eVar 5) (aNil)))))
def f_law_any_turns_l2t : Env → Res Bool := tC2 cGt (eCall caLen (aCons (eVar 5) (aNil))) (eC (.int 0))
def f_law_any_turns_l4 : Env → Out := sSeq (sAsg 5 (eLst (aNil))) (sSeq (sFor (iEnm (aCons (eVar 1) (aNil))) (gtT 2 (gtCons (gtN 6) (gtCons (gtN 7) (gtNil)))) f_law_any_turns_l1) (sSeq (sAsg 8 (eLst (aNil))) (sSeq (sWhile f_law_any_turns_l2t f_law_any_turns_l2) (sFrz 8 (sApp 3 (eVar 8))))))
def f_law_any_turns : Env → Out := sSeq (sAsg 3 (eLst (aNil))) (sSeq (sFor (iRg1 (aCons (eVar 0) (aNil))) (gtN 4) f_law_any_turns_l4) (sRetV 3))
def g_law_any_turns : List D → Res D := runF f_law_any_turns 9
end Lw
end

noncomputable section
namespace Lw
open DL
end Lw
end

namespace Lw
open DL
end Lw

namespace Lw
open DL
end Lw

namespace Lw
open DL
def EndsOk (n : Int) (l : List (Int × Int)) : Prop := ∀ p ∈ l, (0 ≤ p.1 ∧ p.1 < n) ∧ 0 ≤ p.2 ∧ p.2 < n
theorem EndsOk.app {n : Int} {l m : List (Int × Int)} (h : EndsOk n l) (h' : EndsOk n m) : EndsOk n (l ++ m) := fun p hp => (List.mem_append.mp hp).elim (h p) (h' p)
theorem EndsOk.one {n : Int} {a b : Int} (h : (0 ≤ a ∧ a < n) ∧ 0 ≤ b ∧ b < n) : EndsOk n [(a, b)] := fun p hp => by simp at hp; subst hp; exact h
theorem cut_mem {α : Type} {l : List α} {lo hi : Option Int} {a : α} (h : a ∈ cut l lo hi) : a ∈ l := by
  unfold cut at h
  exact List.mem_of_mem_drop (List.mem_of_mem_take h)
theorem EndsOk.cut {n : Int} {l : List (Int × Int)} (h : EndsOk n l) (lo hi : Option Int) : EndsOk n (cut l lo hi) := fun p hp => h p (cut_mem hp)
end Lw

namespace Lw
open DL
end Lw

namespace Lw
open DL
theorem web_init_l1 (p : Int) (x0 x2 : D) : ∀ (l : List (Int × Int)) (y3 y4 : D), EndsOk p l →
    ∃ z3 z4, forL (gtT 2 (gtCons (gtN 3) (gtCons (gtN 4) (gtNil)))) f_Web_init_l1 (l.map dP) [x0, .int p, x2, y3, y4] = .nx [x0, .int p, x2, z3, z4]
  | [], y3, y4, _ => ⟨y3, y4, by simp [forL]⟩
  | (a, b) :: l, y3, y4, h => by
    obtain ⟨⟨h1, h2⟩, h3, h4⟩ := h (a, b) (List.mem_cons_self ..)
    obtain ⟨z3, z4, e⟩ := web_init_l1 p x0 x2 l (.int a) (.int b) fun q hq => h q (List.mem_cons_of_mem _ hq)
    refine ⟨z3, z4, ?_⟩
    rw [← e]
    simp at h1 h2 h3 h4
    simp [forL, f_Web_init_l1, h1, h2, h3, h4]
theorem web_init_ok (p : Int) (l : List (Int × Int)) (h1 : 1 ≤ p) (h2 : p ≤ 14) (h3 : l.length ≤ 30) (h4 : EndsOk p l) : g_Web_init [.int p, .ls (l.map dP)] = .ok [.int p, .ol (l.map dP)] := by
  refine mirI_eq fun x => ?_
  obtain ⟨z3, z4, e⟩ := web_init_l1 p (.oo (some x) 14 []) (.ls (l.map dP)) l .un .un h4
  have h5 : ¬ (30 < (l.length : Int)) := by omega
  simp [DL.runI, f_Web_init, h1, h2, h5, e, outI]
def goodAux (count : Int) : Int → List Int → Bool
  | _, [] => true
  | a, x :: l => !(decide (x ≤ a)) && !(decide (x ≥ count)) && goodAux count x l
def goodB (count : Int) (l : List Int) : Bool := goodAux count (-1) l
end Lw

namespace Lw
open DL L2
def nth (m : List Int) (i : Int) : Int := m.getD i.toNat 0
theorem nth_at {m : List Int} {i : Int} (h0 : 0 ≤ i) (h1 : i < m.length) : atI m i = some (nth m i) := by
  obtain ⟨a, e, e2⟩ := DL.atI_of h0 h1
  rw [e]; simp [nth, List.getD_eq_getElem?_getD, e2]
def tieAt (ts : List (Int × Int)) (i : Int) : Int × Int := ts.getD i.toNat (0, 0)
theorem tie_at {ts : List (Int × Int)} {i : Int} (h0 : 0 ≤ i) (h1 : i < ts.length) : atI ts i = some (tieAt ts i) ∧ tieAt ts i ∈ ts := by
  obtain ⟨a, e, e2⟩ := DL.atI_of h0 h1
  have : tieAt ts i = a := by simp [tieAt, List.getD_eq_getElem?_getD, e2]
  rw [this]
  exact ⟨e, List.mem_of_getElem? e2⟩
def stepM (m : List Int) (t : Int × Int) : List Int := m.map fun x => if x = max (nth m t.1) (nth m t.2) then min (nth m t.1) (nth m t.2) else x
def marksM (p : Nat) (ts : List (Int × Int)) (l : List Int) : List Int := l.foldl (fun m t => stepM m (tieAt ts t)) (iota p)
theorem stepM_len (m : List Int) (t : Int × Int) : (stepM m t).length = m.length := by simp [stepM]
def InT (n : Nat) (l : List Int) : Prop := ∀ t ∈ l, 0 ≤ t ∧ t < n
theorem goodAux_in (n : Nat) : ∀ (l : List Int) (a : Int), -1 ≤ a → goodAux n a l = true → InT n l
  | [], _, _, _ => fun _ h => nomatch h
  | x :: l, a, ha, h => by
    simp only [goodAux, Bool.and_eq_true, Bool.not_eq_true', decide_eq_false_iff_not] at h
    obtain ⟨⟨h1, h2⟩, h3⟩ := h
    intro t ht
    rcases List.mem_cons.mp ht with rfl | ht
    · omega
    · exact goodAux_in n l x (by omega) h3 t ht
theorem good_in {n : Nat} {l : List Int} (h : goodB n l = true) : InT n l := goodAux_in n l (-1) (by omega) h
end Lw

noncomputable section
namespace Lw
open DL
end Lw
end

namespace Lw
open DL L2
def stepL (m : List Int) (t : Int × Int) : List Int := if nth m t.1 = nth m t.2 then m else m.map fun x => if x = nth m t.2 then nth m t.1 else x
def marksL (p : Nat) (ts : List (Int × Int)) (l : List Int) : List Int := l.foldl (fun m t => stepL m (tieAt ts t)) (iota p)
theorem stepL_len (m : List Int) (t : Int × Int) : (stepL m t).length = m.length := by unfold stepL; split <;> simp
def SameP (p : Nat) (m m' : List Int) : Prop := ∀ i j : Int, 0 ≤ i → i < p → 0 ≤ j → j < p → (nth m i = nth m j ↔ nth m' i = nth m' j)
theorem nth_map {m : List Int} {f : Int → Int} {i : Int} (h0 : 0 ≤ i) (h1 : i < m.length) : nth (m.map f) i = f (nth m i) := by
  unfold nth
  have : i.toNat < m.length := by omega
  simp [List.getD_eq_getElem?_getD, List.getElem?_map, List.getElem?_eq_getElem this]
theorem same_step {p : Nat} {m m' : List Int} {t : Int × Int} (h : SameP p m m') (hm : m.length = p) (hm' : m'.length = p) (ht : (0 ≤ t.1 ∧ t.1 < p) ∧ 0 ≤ t.2 ∧ t.2 < p) : SameP p (stepM m t) (stepL m' t) := by
  obtain ⟨⟨a0, a1⟩, b0, b1⟩ := ht
  intro i j i0 i1 j0 j1
  have hab := h t.1 t.2 a0 a1 b0 b1
  have hia := h i t.1 i0 i1 a0 a1
  have hib := h i t.2 i0 i1 b0 b1
  have hja := h j t.1 j0 j1 a0 a1
  have hjb := h j t.2 j0 j1 b0 b1
  have hij := h i j i0 i1 j0 j1
  unfold stepM stepL
  rw [nth_map i0 (by omega), nth_map j0 (by omega)]
  by_cases c : nth m' t.1 = nth m' t.2
  · rw [if_pos c]
    have c' := hab.mpr c
    rw [← hij]
    rw [show max (nth m t.1) (nth m t.2) = nth m t.2 by omega, show min (nth m t.1) (nth m t.2) = nth m t.2 by omega]
    by_cases q1 : nth m i = nth m t.2 <;> by_cases q2 : nth m j = nth m t.2 <;> simp [q1, q2]
  · rw [if_neg c, nth_map i0 (by omega), nth_map j0 (by omega)]
    have c' : ¬ nth m t.1 = nth m t.2 := fun z => c (hab.mp z)
    generalize nth m t.1 = a at *
    generalize nth m t.2 = b at *
    generalize nth m' t.1 = a' at *
    generalize nth m' t.2 = b' at *
    generalize nth m i = x at *
    generalize nth m j = y at *
    generalize nth m' i = x' at *
    generalize nth m' j = y' at *
    rcases Int.le_total a b with z | z
    · rw [show max a b = b by omega, show min a b = a by omega]
      by_cases u1 : x = b <;> by_cases u2 : y = b <;> by_cases u3 : x' = b' <;> by_cases u4 : y' = b' <;> simp_all <;> omega
    · rw [show max a b = a by omega, show min a b = b by omega]
      by_cases u1 : x = a <;> by_cases u2 : y = a <;> by_cases u3 : x' = b' <;> by_cases u4 : y' = b' <;> simp_all <;> omega
end Lw

namespace Lw
open DL L2
theorem same_fold (p : Nat) (ts : List (Int × Int)) (hE : EndsOk p ts) : ∀ (l m m' : List Int), SameP p m m' → m.length = p → m'.length = p → InT ts.length l → SameP p (l.foldl (fun m t => stepM m (tieAt ts t)) m) (l.foldl (fun m t => stepL m (tieAt ts t)) m')
  | [], _, _, h, _, _, _ => h
  | t :: l, m, m', h, hm, hm', hl => by
    obtain ⟨t0, t1⟩ := hl t (List.mem_cons_self ..)
    exact same_fold p ts hE l _ _ (same_step h hm hm' (hE _ (tie_at t0 t1).2)) (by rw [stepM_len]; exact hm) (by rw [stepL_len]; exact hm') fun t h => hl t (List.mem_cons_of_mem _ h)
theorem same_marks (p : Nat) (ts : List (Int × Int)) (hE : EndsOk p ts) (l : List Int) (hl : InT ts.length l) : SameP p (marksM p ts l) (marksL p ts l) :=
  same_fold p ts hE l _ _ (fun _ _ _ _ _ _ => Iff.rfl) (by simp) (by simp) hl
theorem nth_mem {m : List Int} {i : Int} (h0 : 0 ≤ i) (h1 : i < m.length) : nth m i ∈ m := by
  have : i.toNat < m.length := by omega
  unfold nth
  rw [List.getD_eq_getElem?_getD, List.getElem?_eq_getElem this]
  exact List.getElem_mem this
theorem mem_nth {m : List Int} {x : Int} (h : x ∈ m) : ∃ i : Int, 0 ≤ i ∧ i < m.length ∧ nth m i = x := by
  obtain ⟨i, hi, e⟩ := List.mem_iff_getElem.mp h
  refine ⟨i, by omega, by omega, ?_⟩
  unfold nth
  simp [List.getD_eq_getElem?_getD, List.getElem?_eq_getElem hi, e]
theorem sset_one {m : List Int} (h : 1 ≤ m.length) : (sset m).length = 1 ↔ ∀ i : Int, 0 ≤ i → i < m.length → nth m i = nth m 0 := by
  constructor
  · intro e i i0 i1
    obtain ⟨x, hx⟩ := List.length_eq_one_iff.mp e
    have a := (sset_mem (nth m i) m).mpr (nth_mem i0 i1)
    have b := (sset_mem (nth m 0) m).mpr (nth_mem (Int.le_refl 0) (by omega))
    rw [hx] at a b
    rw [List.mem_singleton.mp a, List.mem_singleton.mp b]
  · intro k
    have : sset m = [nth m 0] := rise_uniq (sset_rise m) (by simp) fun x => by
      rw [sset_mem, List.mem_singleton]
      constructor
      · intro hx
        obtain ⟨i, i0, i1, rfl⟩ := mem_nth hx
        exact k i i0 i1
      · rintro rfl
        exact nth_mem (Int.le_refl 0) (by omega)
    rw [this]; rfl
def up (lo : Int) : Nat → List Int
  | 0 => []
  | k + 1 => lo :: up (lo + 1) k
theorem range_up : ∀ (k : Nat) (lo : Int), ((List.range k).map fun i : Nat => lo + (i : Int)) = up lo k
  | 0, _ => rfl
  | k + 1, lo => by
    rw [List.range_succ_eq_map, List.map_cons, List.map_map, up, ← range_up k (lo + 1)]
    congr 1
    · simp
    · refine List.map_congr_left fun a _ => ?_
      simp; omega
theorem iota_up (n : Nat) : iota n = up 0 n := by rw [← range_up]; unfold iota; simp
theorem up_good : ∀ (k : Nat) (lo : Int), goodAux (lo + k) (lo - 1) (up lo k) = true
  | 0, _ => rfl
  | k + 1, lo => by
    have := up_good k (lo + 1)
    rw [show lo + 1 - 1 = lo by omega] at this
    simp only [up, goodAux, Bool.and_eq_true, Bool.not_eq_true', decide_eq_false_iff_not]
    exact ⟨⟨by omega, by omega⟩, by rw [show lo + ((k + 1 : Nat) : Int) = lo + 1 + k by omega]; exact this⟩
theorem iota_good (n : Nat) : goodB n (iota n) = true := by
  rw [iota_up]; simpa [goodB] using up_good n 0
end Lw

namespace Lw
open DL L2
inductive Conn (es : List (Int × Int)) : Int → Int → Prop
  | refl (a : Int) : Conn es a a
  | tie {a b : Int} : (a, b) ∈ es → Conn es a b
  | symm {a b : Int} : Conn es a b → Conn es b a
  | trans {a b c : Int} : Conn es a b → Conn es b c → Conn es a c
theorem Conn.mono {es fs : List (Int × Int)} (h : ∀ e ∈ es, e ∈ fs) {a b : Int} (c : Conn es a b) : Conn fs a b := by
  induction c with
  | refl a => exact .refl a
  | tie h' => exact .tie (h _ h')
  | symm _ ih => exact ih.symm
  | trans _ _ ih1 ih2 => exact ih1.trans ih2
theorem Conn.le {es fs : List (Int × Int)} (h : ∀ e ∈ es, Conn fs e.1 e.2) {a b : Int} (c : Conn es a b) : Conn fs a b := by
  induction c with
  | refl a => exact .refl a
  | tie h' => exact h _ h'
  | symm _ ih => exact ih.symm
  | trans _ _ ih1 ih2 => exact ih1.trans ih2
theorem conn_snoc {es : List (Int × Int)} {t : Int × Int} {i j : Int} : Conn (es ++ [t]) i j ↔ Conn es i j ∨ (Conn es i t.1 ∧ Conn es t.2 j) ∨ (Conn es i t.2 ∧ Conn es t.1 j) := by
  constructor
  · intro c
    induction c with
    | refl a => exact .inl (.refl a)
    | tie h =>
      rcases List.mem_append.mp h with h | h
      · exact .inl (.tie h)
      · simp at h
        subst h
        exact .inr (.inl ⟨.refl _, .refl _⟩)
    | symm _ ih =>
      rcases ih with h | ⟨h1, h2⟩ | ⟨h1, h2⟩
      · exact .inl h.symm
      · exact .inr (.inr ⟨h2.symm, h1.symm⟩)
      · exact .inr (.inl ⟨h2.symm, h1.symm⟩)
    | trans _ _ ih1 ih2 =>
      rcases ih1 with h | ⟨h1, h2⟩ | ⟨h1, h2⟩ <;> rcases ih2 with k | ⟨k1, k2⟩ | ⟨k1, k2⟩
      · exact .inl (h.trans k)
      · exact .inr (.inl ⟨h.trans k1, k2⟩)
      · exact .inr (.inr ⟨h.trans k1, k2⟩)
      · exact .inr (.inl ⟨h1, h2.trans k⟩)
      · exact .inl ((h1.trans (h2.trans k1).symm).trans k2)
      · exact .inl (h1.trans k2)
      · exact .inr (.inr ⟨h1, h2.trans k⟩)
      · exact .inl (h1.trans k2)
      · exact .inl ((h1.trans (h2.trans k1).symm).trans k2)
  · have m : ∀ {a b}, Conn es a b → Conn (es ++ [t]) a b := fun c => c.mono fun e h => List.mem_append_left _ h
    have ht : Conn (es ++ [t]) t.1 t.2 := .tie (List.mem_append_right _ (by simp))
    rintro (h | ⟨h1, h2⟩ | ⟨h1, h2⟩)
    · exact m h
    · exact ((m h1).trans ht).trans (m h2)
    · exact ((m h1).trans ht.symm).trans (m h2)
theorem conn_nil {i j : Int} (c : Conn [] i j) : i = j := by
  induction c with
  | refl a => rfl
  | tie h => exact (nomatch h)
  | symm _ ih => exact ih.symm
  | trans _ _ ih1 ih2 => exact ih1.trans ih2
def mk (p : Nat) (es : List (Int × Int)) : List Int := es.foldl stepL (iota p)
theorem mk_len (p : Nat) (es : List (Int × Int)) : (mk p es).length = p := by
  have : ∀ (es : List (Int × Int)) (m : List Int), (es.foldl stepL m).length = m.length := by
    intro es
    induction es with
    | nil => intro m; rfl
    | cons t es ih => intro m; rw [List.foldl_cons, ih, stepL_len]
  unfold mk
  rw [this]; simp
theorem mk_snoc (p : Nat) (es : List (Int × Int)) (t : Int × Int) : mk p (es ++ [t]) = stepL (mk p es) t := by simp [mk, List.foldl_append]
theorem marksL_mk (p : Nat) (ts : List (Int × Int)) (l : List Int) : marksL p ts l = mk p (l.map (tieAt ts)) := by unfold marksL mk; rw [List.foldl_map]
theorem nth_iota {p : Nat} {i : Int} (h0 : 0 ≤ i) (h1 : i < p) : nth (iota p) i = i := by
  have : i.toNat < p := by omega
  unfold nth iota
  rw [List.getD_eq_getElem?_getD, List.getElem?_map, List.getElem?_range this]
  simp; omega
theorem stepL_same {m : List Int} {t : Int × Int} {i j : Int} (hi : 0 ≤ i ∧ i < m.length) (hj : 0 ≤ j ∧ j < m.length) :
    nth (stepL m t) i = nth (stepL m t) j ↔ nth m i = nth m j ∨ (nth m i = nth m t.1 ∧ nth m t.2 = nth m j) ∨ (nth m i = nth m t.2 ∧ nth m t.1 = nth m j) := by
  unfold stepL
  by_cases c : nth m t.1 = nth m t.2
  · rw [if_pos c, c]
    constructor
    · exact .inl
    · rintro (h | ⟨h1, h2⟩ | ⟨h1, h2⟩)
      · exact h
      · exact h1.trans h2
      · exact h1.trans h2
  · rw [if_neg c, nth_map hi.1 hi.2, nth_map hj.1 hj.2]
    generalize nth m t.1 = a at *
    generalize nth m t.2 = b at *
    generalize nth m i = x at *
    generalize nth m j = y at *
    by_cases u1 : x = b <;> by_cases u2 : y = b <;> simp [u1, u2] <;> omega
theorem mk_conn (p : Nat) : ∀ (n : Nat) (es : List (Int × Int)), es.length = n → EndsOk p es → ∀ i j : Int, 0 ≤ i → i < p → 0 ≤ j → j < p → (nth (mk p es) i = nth (mk p es) j ↔ Conn es i j)
  | 0, es, hn, hE, i, j, i0, i1, j0, j1 => by
    obtain rfl := List.eq_nil_of_length_eq_zero hn
    show nth (iota p) i = nth (iota p) j ↔ _
    rw [nth_iota i0 i1, nth_iota j0 j1]
    constructor
    · rintro rfl; exact .refl _
    · exact conn_nil
  | n + 1, es, hn, hE, i, j, i0, i1, j0, j1 => by
    have hne : es ≠ [] := by intro z; subst z; simp at hn
    have hsp := List.dropLast_concat_getLast hne
    generalize es.dropLast = fs at hsp
    generalize es.getLast hne = t at hsp
    subst hsp
    have hf : EndsOk p fs := fun e h => hE e (List.mem_append_left _ h)
    have ht := hE t (List.mem_append_right _ (by simp))
    have ih := mk_conn p n fs (by simpa using hn) hf
    rw [mk_snoc, stepL_same ⟨i0, by rw [mk_len]; exact i1⟩ ⟨j0, by rw [mk_len]; exact j1⟩, conn_snoc, ih i j i0 i1 j0 j1, ih i t.1 i0 i1 ht.1.1 ht.1.2, ih t.2 j ht.2.1 ht.2.2 j0 j1, ih i t.2 i0 i1 ht.2.1 ht.2.2, ih t.1 j ht.1.1 ht.1.2 j0 j1]
end Lw

namespace Lw
open DL L2
theorem nodup_le : ∀ {l m : List Int}, l.Nodup → (∀ x ∈ l, x ∈ m) → l.length ≤ m.length
  | [], m, _, _ => Nat.zero_le _
  | x :: l, m, h, k => by
    have hx := k x (List.mem_cons_self ..)
    obtain ⟨h1, h2⟩ := List.nodup_cons.mp h
    have := nodup_le (l := l) (m := m.erase x) h2 fun y hy => (List.mem_erase_of_ne (fun (z : y = x) => h1 (by rw [← z]; exact hy))).mpr (k y (List.mem_cons_of_mem _ hy))
    rw [List.length_erase_of_mem hx] at this
    have hp : 0 < m.length := List.length_pos_of_mem hx
    simp only [List.length_cons]
    omega
theorem idx_nth {m : List Int} {x : Int} (h : x ∈ m) : ((m.idxOf x : Nat) : Int) < m.length ∧ nth m (m.idxOf x : Nat) = x := by
  have hl := List.idxOf_lt_length_of_mem h
  refine ⟨by omega, ?_⟩
  unfold nth
  simp [List.getD_eq_getElem?_getD, List.getElem?_eq_getElem hl, List.getElem_idxOf]
theorem sset_le {m m' : List Int} (hl : m.length = m'.length) (h : ∀ i j : Int, 0 ≤ i → i < m.length → 0 ≤ j → j < m.length → nth m i = nth m j → nth m' i = nth m' j) : (sset m').length ≤ (sset m).length := by
  have : (sset m').length ≤ ((sset m).map fun x => nth m' (m.idxOf x : Nat)).length := by
    refine nodup_le (rise_nodup (sset_rise m')) fun y hy => ?_
    obtain ⟨i, i0, i1, rfl⟩ := mem_nth ((sset_mem y m').mp hy)
    have hx : nth m i ∈ m := nth_mem i0 (by omega)
    obtain ⟨k1, k2⟩ := idx_nth hx
    refine List.mem_map.mpr ⟨nth m i, (sset_mem _ m).mpr hx, ?_⟩
    exact h _ i (by omega) k1 i0 (by omega) k2
  simpa using this
def cnt (p : Nat) (es : List (Int × Int)) : Nat := (sset (mk p es)).length
theorem cnt_le {p : Nat} {es fs : List (Int × Int)} (h1 : EndsOk p es) (h2 : EndsOk p fs) (h : ∀ e ∈ es, Conn fs e.1 e.2) : cnt p fs ≤ cnt p es := by
  refine sset_le (by rw [mk_len, mk_len]) fun i j i0 i1 j0 j1 e => ?_
  rw [mk_len] at i1 j1
  rw [mk_conn p _ es rfl h1 i j i0 i1 j0 j1] at e
  exact (mk_conn p _ fs rfl h2 i j i0 i1 j0 j1).mpr (e.le h)
theorem cnt_eq {p : Nat} {es fs : List (Int × Int)} (h1 : EndsOk p es) (h2 : EndsOk p fs) (h : ∀ e ∈ es, Conn fs e.1 e.2) (h' : ∀ e ∈ fs, Conn es e.1 e.2) : cnt p es = cnt p fs :=
  Nat.le_antisymm (cnt_le h2 h1 h') (cnt_le h1 h2 h)
theorem cnt_set {p : Nat} {es fs : List (Int × Int)} (h1 : EndsOk p es) (h2 : EndsOk p fs) (h : ∀ e, e ∈ es ↔ e ∈ fs) : cnt p es = cnt p fs :=
  cnt_eq h1 h2 (fun e he => .tie ((h e).mp he)) fun e he => .tie ((h e).mpr he)
theorem cnt_nil (p : Nat) : cnt p [] = p := by
  show (sset (iota p)).length = p
  rw [rise_uniq (sset_rise (iota p)) (m := iota p) ?_ fun k => sset_mem k _]
  · simp
  · unfold iota
    rw [List.pairwise_map]
    exact List.pairwise_lt_range.imp fun h => by omega
theorem cnt_same {p : Nat} {es : List (Int × Int)} {t : Int × Int} (h : EndsOk p (es ++ [t])) (c : Conn es t.1 t.2) : cnt p (es ++ [t]) = cnt p es := by
  refine cnt_eq h (fun e he => h e (List.mem_append_left _ he)) (fun e he => ?_) fun e he => .tie (List.mem_append_left _ he)
  rcases List.mem_append.mp he with z | z
  · exact .tie z
  · simp at z; subst z; exact c
theorem sset_step {m : List Int} {t : Int × Int} (h1 : 0 ≤ t.1 ∧ t.1 < m.length) (h2 : 0 ≤ t.2 ∧ t.2 < m.length) (n : nth m t.1 ≠ nth m t.2) : (sset (stepL m t)).length + 1 = (sset m).length := by
  have hb : nth m t.2 ∈ sset m := (sset_mem _ m).mpr (nth_mem h2.1 h2.2)
  have nd := rise_nodup (sset_rise m)
  have e : sset (stepL m t) = (sset m).erase (nth m t.2) := by
    refine rise_uniq (sset_rise _) ((sset_rise m).sublist List.erase_sublist) fun k => ?_
    rw [sset_mem, nd.mem_erase_iff, sset_mem]
    unfold stepL
    rw [if_neg n, List.mem_map]
    constructor
    · rintro ⟨x, hx, rfl⟩
      by_cases c : x = nth m t.2
      · rw [if_pos c]; exact ⟨n, nth_mem h1.1 h1.2⟩
      · rw [if_neg c]; exact ⟨c, hx⟩
    · rintro ⟨c, hx⟩
      exact ⟨k, hx, if_neg c⟩
  rw [e, List.length_erase_of_mem hb]
  have := List.length_pos_of_mem hb
  omega
theorem cnt_new {p : Nat} {es : List (Int × Int)} {t : Int × Int} (h : EndsOk p (es ++ [t])) (c : ¬ Conn es t.1 t.2) : cnt p (es ++ [t]) + 1 = cnt p es := by
  have ht := h t (by simp)
  have hf : EndsOk p es := fun e he => h e (List.mem_append_left _ he)
  unfold cnt
  rw [mk_snoc]
  refine sset_step ⟨ht.1.1, by rw [mk_len]; exact ht.1.2⟩ ⟨ht.2.1, by rw [mk_len]; exact ht.2.2⟩ fun e => c ?_
  exact (mk_conn p _ es rfl hf t.1 t.2 ht.1.1 ht.1.2 ht.2.1 ht.2.2).mp e
theorem cnt_pos {p : Nat} (hp : 1 ≤ p) (es : List (Int × Int)) : 1 ≤ cnt p es := by
  have : nth (mk p es) 0 ∈ sset (mk p es) := (sset_mem _ _).mpr (nth_mem (Int.le_refl 0) (by rw [mk_len]; omega))
  exact List.length_pos_of_mem this
theorem snoc_of {α : Type} {es : List α} {n : Nat} (h : es.length = n + 1) : ∃ fs t, es = fs ++ [t] ∧ fs.length = n := by
  have hne : es ≠ [] := by intro z; subst z; simp at h
  exact ⟨es.dropLast, es.getLast hne, (List.dropLast_concat_getLast hne).symm, by simp; omega⟩
theorem cnt_lo (p : Nat) : ∀ (n : Nat) (es : List (Int × Int)), es.length = n → EndsOk p es → p ≤ cnt p es + n
  | 0, es, hn, hE => by
    obtain rfl := List.eq_nil_of_length_eq_zero hn
    rw [cnt_nil]; omega
  | n + 1, es, hn, hE => by
    obtain ⟨fs, t, rfl, hl⟩ := snoc_of hn
    have ih := cnt_lo p n fs hl fun e he => hE e (List.mem_append_left _ he)
    by_cases c : Conn fs t.1 t.2
    · rw [cnt_same hE c]; omega
    · have := cnt_new hE c; omega
theorem cnt_one {p : Nat} (hp : 1 ≤ p) {es : List (Int × Int)} (hE : EndsOk p es) : cnt p es = 1 ↔ ∀ i j : Int, 0 ≤ i → i < p → 0 ≤ j → j < p → Conn es i j := by
  unfold cnt
  rw [sset_one (by rw [mk_len]; exact hp), mk_len]
  constructor
  · intro h i j i0 i1 j0 j1
    exact (mk_conn p _ es rfl hE i j i0 i1 j0 j1).mp ((h i i0 i1).trans (h j j0 j1).symm)
  · intro h i i0 i1
    exact (mk_conn p _ es rfl hE i 0 i0 i1 (by omega) (by omega)).mpr (h i 0 i0 i1 (by omega) (by omega))
def tiesAt (ts : List (Int × Int)) (l : List Int) : List (Int × Int) := l.map (tieAt ts)
theorem tiesAt_ok {p : Int} {ts : List (Int × Int)} (hE : EndsOk p ts) {l : List Int} (hl : InT ts.length l) : EndsOk p (tiesAt ts l) := fun e he => by
  obtain ⟨t, ht, rfl⟩ := List.mem_map.mp he
  obtain ⟨t0, t1⟩ := hl t ht
  exact hE _ (tie_at t0 t1).2
theorem nthM (p : Nat) (ts : List (Int × Int)) (hE : EndsOk p ts) (l : List Int) (hl : InT ts.length l) (i j : Int) (i0 : 0 ≤ i) (i1 : i < p) (j0 : 0 ≤ j) (j1 : j < p) : nth (marksM p ts l) i = nth (marksM p ts l) j ↔ Conn (tiesAt ts l) i j := by
  rw [same_marks p ts hE l hl i j i0 i1 j0 j1, marksL_mk]
  exact mk_conn p _ _ rfl (tiesAt_ok hE hl) i j i0 i1 j0 j1
theorem nthL (p : Nat) (ts : List (Int × Int)) (hE : EndsOk p ts) (l : List Int) (hl : InT ts.length l) (i j : Int) (i0 : 0 ≤ i) (i1 : i < p) (j0 : 0 ≤ j) (j1 : j < p) : nth (marksL p ts l) i = nth (marksL p ts l) j ↔ Conn (tiesAt ts l) i j := by
  rw [marksL_mk]
  exact mk_conn p _ _ rfl (tiesAt_ok hE hl) i j i0 i1 j0 j1
def treeB (p : Int) (ts : List (Int × Int)) (l : List Int) : Bool := decide ((l.length : Int) = p - 1) && goodB ts.length l && decide (cnt p.toNat (tiesAt ts l) = 1)
end Lw

noncomputable section
namespace Lw
open DL
end Lw
end

namespace Lw
open DL L2
end Lw

noncomputable section
namespace Lw
open DL
end Lw
end

namespace Lw
open DL L2
theorem goodAux_of {n : Int} : ∀ {l : List Int} {a : Int}, (∀ x ∈ l, a < x ∧ x < n) → l.Pairwise (· < ·) → goodAux n a l = true
  | [], _, _, _ => rfl
  | x :: l, a, h, hp => by
    obtain ⟨h1, h2⟩ := List.pairwise_cons.mp hp
    have hx := h x (List.mem_cons_self ..)
    simp only [goodAux, Bool.and_eq_true, Bool.not_eq_true', decide_eq_false_iff_not]
    exact ⟨⟨by omega, by omega⟩, goodAux_of (fun y hy => ⟨h1 y hy, (h y (List.mem_cons_of_mem _ hy)).2⟩) h2⟩
theorem good_of {n : Nat} {l : List Int} (h : InT n l) (hp : l.Pairwise (· < ·)) : goodB n l = true :=
  goodAux_of (fun x hx => ⟨by have := h x hx; omega, (h x hx).2⟩) hp
theorem srt_mem {l : List Int} {x : Int} : x ∈ srt l ↔ x ∈ l := (srt_perm l).mem_iff
theorem srt_lt {l : List Int} (h : l.Nodup) : (srt l).Pairwise (· < ·) := by
  have h1 := srt_sorted l
  have h2 : (srt l).Nodup := (srt_perm l).nodup_iff.mpr h
  exact (h1.and h2).imp fun ⟨a, b⟩ => by omega
theorem srt_good {n : Nat} {l : List Int} (h : InT n l) (hn : l.Nodup) : goodB n (srt l) = true := good_of (fun t ht => h t (srt_mem.mp ht)) (srt_lt hn)
theorem tiesAt_mem {ts : List (Int × Int)} {l m : List Int} (h : ∀ x, x ∈ l ↔ x ∈ m) : ∀ e, e ∈ tiesAt ts l ↔ e ∈ tiesAt ts m := fun e => by
  unfold tiesAt
  simp only [List.mem_map, h]
theorem iota_nodup (n : Nat) : (iota n).Nodup := by
  unfold iota
  exact List.Pairwise.map _ (fun a b h => by omega) List.nodup_range
theorem iota_mem {n : Nat} {x : Int} : x ∈ iota n ↔ 0 ≤ x ∧ x < n := by
  unfold iota
  simp only [List.mem_map, List.mem_range]
  constructor
  · rintro ⟨a, h, rfl⟩; omega
  · intro ⟨h0, h1⟩; exact ⟨x.toNat, by omega, by omega⟩
structure Grown (p : Nat) (ts : List (Int × Int)) (i : Nat) (left some : List Int) : Prop where
  len : left.length + i = ts.length
  nd : left.Nodup
  lin : InT ts.length left
  snd : some.Nodup
  sin : InT ts.length some
  sl : ∀ x ∈ some, x ∉ left
  ct : cnt p (tiesAt ts some) + some.length = p
  al : ∀ t : Int, 0 ≤ t ∧ t < ts.length → t ∉ left → Conn (tiesAt ts some) (tieAt ts t).1 (tieAt ts t).2
end Lw

noncomputable section
namespace Lw
open DL
end Lw
end

namespace Lw
open DL L2 TL
section
variable (L : List (List Int))
@[simp] theorem brws_T : brws (L.map dT) = L.map dT := (dulls dull_T L).1
@[simp] theorem frzs_T : frzs (L.map dT) = L.map dT := (dulls dull_T L).2.1
@[simp] theorem plns_T : plns (L.map dT) = L.map dT := (dulls dull_T L).2.2.1
@[simp] theorem nods_T : nods (L.map dT) = true := (dulls dull_T L).2.2.2.1
@[simp] theorem shd_T : shd (L.map dT) = true := (dulls dull_T L).2.2.2.2.1
@[simp] theorem ploks_T : ploks (L.map dT) = true := (dulls dull_T L).2.2.2.2.2
end
theorem goodAux_rise {n : Int} : ∀ {l : List Int} {a : Int}, goodAux n a l = true → (∀ x ∈ l, a < x) ∧ l.Pairwise (· < ·)
  | [], _, _ => ⟨fun _ h => (nomatch h), .nil⟩
  | x :: l, a, g => by
    simp only [goodAux, Bool.and_eq_true, Bool.not_eq_true', decide_eq_false_iff_not] at g
    obtain ⟨h1, h2⟩ := goodAux_rise g.2
    refine ⟨fun y hy => ?_, List.pairwise_cons.mpr ⟨h1, h2⟩⟩
    rcases List.mem_cons.mp hy with rfl | hy
    · omega
    · have := h1 y hy; omega
theorem good_iff {n : Nat} {l : List Int} : goodB n l = true ↔ InT n l ∧ l.Pairwise (· < ·) := ⟨fun h => ⟨good_in h, (goodAux_rise h).2⟩, fun h => good_of h.1 h.2⟩
theorem good_nodup {n : Nat} {l : List Int} (h : goodB n l = true) : l.Nodup := rise_nodup (good_iff.mp h).2
def allB (q : Nat) : Nat → List (List Int)
  | 0 => [[]]
  | k + 1 => allB q k ++ ((allB q k).filter fun l => decide (l.length < q)).map (· ++ [(k : Int)])
theorem allB_mem (q : Nat) : ∀ (k : Nat) (l : List Int), l ∈ allB q k ↔ l.length ≤ q ∧ goodB k l = true
  | 0, l => by
    simp only [allB, List.mem_singleton]
    constructor
    · rintro rfl; simp [goodB, goodAux]
    · rintro ⟨_, h⟩
      match l, good_in h with
      | [], _ => rfl
      | x :: l, h => have := h x (List.mem_cons_self ..); omega
  | k + 1, l => by
    simp only [allB, List.mem_append, List.mem_map, List.mem_filter, decide_eq_true_eq, allB_mem q k]
    constructor
    · rintro (⟨h1, h2⟩ | ⟨m, ⟨⟨h1, h2⟩, h3⟩, rfl⟩)
      · obtain ⟨k1, k2⟩ := good_iff.mp h2
        exact ⟨h1, good_of (fun t ht => by have := k1 t ht; omega) k2⟩
      · obtain ⟨k1, k2⟩ := good_iff.mp h2
        refine ⟨by simp; omega, good_of (fun t ht => ?_) ?_⟩
        · rcases List.mem_append.mp ht with z | z
          · have := k1 t z; omega
          · simp at z; omega
        · rw [List.pairwise_append]
          exact ⟨k2, List.pairwise_singleton _ _, fun a ha b hb => by simp at hb; have := k1 a ha; omega⟩
    · rintro ⟨h1, h2⟩
      obtain ⟨k1, k2⟩ := good_iff.mp h2
      by_cases hk : (k : Int) ∈ l
      · right
        have hne : l ≠ [] := List.ne_nil_of_mem hk
        have hs := List.dropLast_concat_getLast hne
        generalize l.dropLast = m at hs
        generalize l.getLast hne = x at hs
        subst hs
        rw [List.pairwise_append] at k2
        obtain ⟨p1, _, p3⟩ := k2
        have hx := k1 x (by simp)
        have ex : x = (k : Int) := by
          rcases List.mem_append.mp hk with z | z
          · have := p3 _ z x (by simp); omega
          · simp at z; exact z.symm
        subst ex
        refine ⟨m, ⟨⟨by simp at h1; omega, good_of (fun t ht => ?_) p1⟩, by simp at h1; omega⟩, rfl⟩
        have a := k1 t (List.mem_append_left _ ht)
        have b := p3 t ht (k : Int) (by simp)
        omega
      · left
        refine ⟨h1, good_of (fun t ht => ?_) k2⟩
        have := k1 t ht
        have ne : t ≠ (k : Int) := fun z => hk (z ▸ ht)
        omega
theorem allB_nodup (q : Nat) : ∀ k : Nat, (allB q k).Nodup
  | 0 => by simp [allB]
  | k + 1 => by
    simp only [allB]
    rw [List.nodup_append]
    refine ⟨allB_nodup q k, ?_, fun a ha b hb e => ?_⟩
    · refine List.Pairwise.map _ (fun a b h e => h ?_) ((allB_nodup q k).filter _)
      simpa using e
    · obtain ⟨m, _, rfl⟩ := List.mem_map.mp hb
      subst e
      have := good_in ((allB_mem q k _).mp ha).2 (k : Int) (by simp)
      omega
theorem tree_parts' {p : Nat} {ts : List (Int × Int)} {l : List Int} (h : treeB p ts l = true) : (l.length : Int) = p - 1 ∧ goodB ts.length l = true ∧ InT ts.length l ∧ cnt p (tiesAt ts l) = 1 := by
  simp only [treeB, Bool.and_eq_true, decide_eq_true_eq, Int.toNat_natCast] at h
  exact ⟨h.1.1, h.1.2, good_in h.1.2, h.2⟩
def trees (p : Nat) (ts : List (Int × Int)) : List (List Int) := srtL ((allB (p - 1) ts.length).filter (treeB p ts))
theorem trees_mem {p : Nat} (hp : 1 ≤ p) {ts : List (Int × Int)} {l : List Int} : l ∈ trees p ts ↔ treeB p ts l = true := by
  unfold trees
  rw [(srtL_perm _).mem_iff, List.mem_filter, allB_mem]
  constructor
  · exact fun h => h.2
  · intro h
    obtain ⟨k1, k2, _⟩ := tree_parts' h
    exact ⟨⟨by omega, k2⟩, h⟩
theorem trees_nodup (p : Nat) (ts : List (Int × Int)) : (trees p ts).Nodup := (srtL_perm _).nodup_iff.mpr ((allB_nodup _ _).filter _)
end Lw

namespace Lw
open DL L2 TL
structure Ind (p : Nat) (ts : List (Int × Int)) (J : List Int) : Prop where
  nd : J.Nodup
  inn : InT ts.length J
  ct : cnt p (tiesAt ts J) + J.length = p
theorem tiesAt_snoc (ts : List (Int × Int)) (J : List Int) (t : Int) : tiesAt ts (J ++ [t]) = tiesAt ts J ++ [tieAt ts t] := by simp [tiesAt]
theorem conn_at {ts : List (Int × Int)} {J : List Int} {t : Int} (h : t ∈ J) : Conn (tiesAt ts J) (tieAt ts t).1 (tieAt ts t).2 := .tie (List.mem_map.mpr ⟨t, h, rfl⟩)
theorem conn_sub {ts : List (Int × Int)} {J S : List Int} (h : ∀ x ∈ J, x ∈ S) {a b : Int} (c : Conn (tiesAt ts J) a b) : Conn (tiesAt ts S) a b :=
  c.mono fun e he => by
    obtain ⟨t, ht, rfl⟩ := List.mem_map.mp he
    exact List.mem_map.mpr ⟨t, h t ht, rfl⟩
theorem Ind.snoc {p : Nat} {ts : List (Int × Int)} (hE : EndsOk p ts) {J : List Int} (h : Ind p ts J) {t : Int} (t0 : 0 ≤ t ∧ t < ts.length) (c : ¬ Conn (tiesAt ts J) (tieAt ts t).1 (tieAt ts t).2) : Ind p ts (J ++ [t]) := by
  have hin : InT ts.length (J ++ [t]) := fun x hx => by
    rcases List.mem_append.mp hx with z | z
    · exact h.inn x z
    · simp at z; subst z; exact t0
  refine ⟨?_, hin, ?_⟩
  · rw [List.nodup_append]
    refine ⟨h.nd, by simp, fun a ha b hb e => ?_⟩
    simp at hb
    subst hb
    subst e
    exact c (conn_at ha)
  · have := cnt_new (p := p) (es := tiesAt ts J) (t := tieAt ts t) (by rw [← tiesAt_snoc]; exact tiesAt_ok hE hin) c
    have := h.ct
    rw [tiesAt_snoc, List.length_append, List.length_singleton]
    omega
theorem ind_ext {p : Nat} {ts : List (Int × Int)} (hE : EndsOk p ts) : ∀ (S J : List Int), Ind p ts J → InT ts.length S → ∃ J', Ind p ts J' ∧ (∀ x ∈ J, x ∈ J') ∧ (∀ x ∈ J', x ∈ J ∨ x ∈ S) ∧ ∀ t ∈ S, Conn (tiesAt ts J') (tieAt ts t).1 (tieAt ts t).2
  | [], J, h, _ => ⟨J, h, fun _ h => h, fun _ h => .inl h, fun _ h => (nomatch h)⟩
  | t :: S, J, h, hS => by
    by_cases c : Conn (tiesAt ts J) (tieAt ts t).1 (tieAt ts t).2
    · obtain ⟨J', h1, h2, h3, h4⟩ := ind_ext hE S J h fun x hx => hS x (List.mem_cons_of_mem _ hx)
      refine ⟨J', h1, h2, fun x hx => (h3 x hx).imp id (List.mem_cons_of_mem _), fun x hx => ?_⟩
      rcases List.mem_cons.mp hx with rfl | hx
      · exact conn_sub h2 c
      · exact h4 x hx
    · obtain ⟨J', h1, h2, h3, h4⟩ := ind_ext hE S (J ++ [t]) (h.snoc hE (hS t (List.mem_cons_self ..)) c) fun x hx => hS x (List.mem_cons_of_mem _ hx)
      refine ⟨J', h1, fun x hx => h2 x (List.mem_append_left _ hx), fun x hx => ?_, fun x hx => ?_⟩
      · rcases h3 x hx with z | z
        · rcases List.mem_append.mp z with z | z
          · exact .inl z
          · simp at z; subst z; exact .inr (List.mem_cons_self ..)
        · exact .inr (List.mem_cons_of_mem _ z)
      · rcases List.mem_cons.mp hx with rfl | hx
        · exact conn_at (h2 x (List.mem_append_right _ (by simp)))
        · exact h4 x hx
theorem ind_nil (p : Nat) (ts : List (Int × Int)) : Ind p ts [] := ⟨by simp, fun _ h => (nomatch h), by simp [tiesAt, cnt_nil]⟩
theorem treeB_nat {p : Nat} {ts : List (Int × Int)} {l : List Int} : treeB p ts l = true ↔ (l.length : Int) = p - 1 ∧ goodB ts.length l = true ∧ cnt p (tiesAt ts l) = 1 := by
  simp only [treeB, Bool.and_eq_true, decide_eq_true_eq, Int.toNat_natCast, and_assoc]
theorem cnt_srt {p : Nat} {ts : List (Int × Int)} (hE : EndsOk p ts) {l : List Int} (h : InT ts.length l) : cnt p (tiesAt ts (srt l)) = cnt p (tiesAt ts l) :=
  cnt_set (tiesAt_ok hE fun t ht => h t (srt_mem.mp ht)) (tiesAt_ok hE h) (tiesAt_mem fun x => srt_mem)
theorem tree_ind {p : Nat} {ts : List (Int × Int)} {T : List Int} (h : treeB p ts T = true) (hp : 1 ≤ p) : Ind p ts T := by
  obtain ⟨h1, h2, h3⟩ := treeB_nat.mp h
  exact ⟨good_nodup h2, good_in h2, by omega⟩
theorem Ind.sub {p : Nat} {ts : List (Int × Int)} (hE : EndsOk p ts) {J K : List Int} (h : Ind p ts J) (hn : K.Nodup) (hs : ∀ x ∈ K, x ∈ J) : Ind p ts K := by
  have hK : InT ts.length K := fun x hx => h.inn x (hs x hx)
  refine ⟨hn, hK, ?_⟩
  obtain ⟨K', k1, k2, k3, k4⟩ := ind_ext hE K [] (ind_nil p ts) hK
  obtain ⟨J', j1, j2, j3, j4⟩ := ind_ext hE J K' k1 h.inn
  have hKK : K'.length ≤ K.length := nodup_le k1.nd fun x hx => (k3 x hx).elim (fun z => (nomatch z)) id
  have e1 : cnt p (tiesAt ts K') = cnt p (tiesAt ts K) := cnt_eq (tiesAt_ok hE k1.inn) (tiesAt_ok hE hK)
    (fun e he => by
      obtain ⟨t, ht, rfl⟩ := List.mem_map.mp he
      exact conn_at ((k3 t ht).elim (fun z => (nomatch z)) id))
    (fun e he => by
      obtain ⟨t, ht, rfl⟩ := List.mem_map.mp he
      exact k4 t ht)
  -- as many as there are: else J would have a ring
  have hJJ : J'.length = J.length := by
    have a : cnt p (tiesAt ts J') = cnt p (tiesAt ts J) := cnt_eq (tiesAt_ok hE j1.inn) (tiesAt_ok hE h.inn)
      (fun e he => by
        obtain ⟨t, ht, rfl⟩ := List.mem_map.mp he
        refine conn_at ?_
        rcases j3 t ht with z | z
        · exact hs t ((k3 t z).elim (fun z => (nomatch z)) id)
        · exact z)
      (fun e he => by
        obtain ⟨t, ht, rfl⟩ := List.mem_map.mp he
        exact j4 t ht)
    have := j1.ct
    have := h.ct
    omega
  have sub : ∀ x ∈ J', x ∈ J := fun x hx => by
    rcases j3 x hx with z | z
    · exact hs x ((k3 x z).elim (fun z => (nomatch z)) id)
    · exact z
  have all : ∀ x ∈ J, x ∈ J' := fun x hx => by
    rcases Classical.em (x ∈ J') with z | z
    · exact z
    · have := nodup_le (l := x :: J') (m := J) (List.nodup_cons.mpr ⟨z, j1.nd⟩) fun y hy => by
        rcases List.mem_cons.mp hy with rfl | hy
        · exact hx
        · exact sub y hy
      simp at this
      omega
  -- each of K is in K': else it would be put in to K' behind, though hung together
  have hKl : K.length ≤ K'.length := by
    refine nodup_le hn fun x hx => ?_
    rcases Classical.em (x ∈ K') with z | z
    · exact z
    · exfalso
      have hxJ := all x (hs x hx)
      -- J' less x hangs together what J' does
      have c := k4 x hx
      have i1 : InT ts.length (J'.erase x) := fun y hy => j1.inn y (List.mem_of_mem_erase hy)
      have sub2 : ∀ y ∈ K', y ∈ J'.erase x := fun y hy => (List.mem_erase_of_ne (fun (e : y = x) => z (by rw [← e]; exact hy))).mpr (j2 y hy)
      have e2 : cnt p (tiesAt ts (J'.erase x)) = cnt p (tiesAt ts J') := cnt_eq (tiesAt_ok hE i1) (tiesAt_ok hE j1.inn)
        (fun e he => by
          obtain ⟨t, ht, rfl⟩ := List.mem_map.mp he
          exact conn_at (List.mem_of_mem_erase ht))
        (fun e he => by
          obtain ⟨t, ht, rfl⟩ := List.mem_map.mp he
          by_cases ee : t = x
          · subst ee; exact conn_sub sub2 c
          · exact conn_at ((List.mem_erase_of_ne ee).mpr ht))
      have lo := cnt_lo p _ _ rfl (tiesAt_ok hE i1)
      have l2 : (tiesAt ts (J'.erase x)).length = J'.length - 1 := by rw [tiesAt, List.length_map, List.length_erase_of_mem hxJ]
      have hp := List.length_pos_of_mem hxJ
      have := j1.ct
      omega
  rw [← e1]
  have := k1.ct
  omega
end Lw

noncomputable section
namespace Lw
open DL
end Lw
end

noncomputable section
namespace Lw
open DL
end Lw
end

namespace Lw
open DL L2
def LT (o : D) (l : List Int) : Prop := o = .ls (l.map D.int) ∨ o = .tp (l.map D.int)
def wo (l : List Int) (t : Int) : List Int := l.filter fun x => !decide (x = t)
theorem wo_in {n : Nat} {l : List Int} (h : InT n l) (t : Int) : InT n (wo l t) := fun x hx => h x ((List.mem_filter.mp hx).1)
def onR (p : Nat) (ts : List (Int × Int)) (l : List Int) (t : Int) (x : Int) : Bool := !decide (nth (marksM p ts (wo l x)) (tieAt ts t).1 = nth (marksM p ts (wo l x)) (tieAt ts t).2)
theorem enm_iota (ts : List (Int × Int)) : enm 0 (ts.map dP) = (iota ts.length).map fun i => (.tp [.int i, dP (tieAt ts i)] : D) := by
  have : ∀ (l pre : List (Int × Int)), ts = pre ++ l → enm pre.length (l.map dP) = (List.range l.length).map fun j => (.tp [.int ((pre.length + j : Nat) : Int), dP (tieAt ts ((pre.length + j : Nat) : Int))] : D) := by
    intro l
    induction l with
    | nil => intro pre _; simp [enm]
    | cons t l ih =>
      intro pre e
      have := ih (pre ++ [t]) (by rw [e]; simp)
      rw [List.map_cons, enm, List.length_cons, List.range_succ_eq_map, List.map_cons, List.map_map]
      simp only [List.length_append, List.length_cons, List.length_nil, Nat.zero_add] at this
      rw [this]
      have et : tieAt ts ((pre.length : Nat) : Int) = t := by simp [tieAt, e]
      simp only [Nat.add_zero, et]
      congr 1
      refine List.map_congr_left fun j _ => ?_
      simp only [Function.comp, Nat.succ_eq_add_one]
      rw [show pre.length + 1 + j = pre.length + (j + 1) by omega]
  have h := this ts [] rfl
  simp only [List.length_nil, Nat.zero_add] at h
  rw [h]
  unfold iota
  rw [List.map_map]
  rfl
end Lw

noncomputable section
namespace Lw
open DL
end Lw
end

namespace Lw
open DL L2 TL
def swap (l : List Int) (o i : Int) : List Int := srt (wo l o ++ [i])
theorem wo_mem {l : List Int} {t x : Int} : x ∈ wo l t ↔ x ∈ l ∧ x ≠ t := by simp [wo]
theorem wo_nodup {l : List Int} (h : l.Nodup) (t : Int) : (wo l t).Nodup := h.filter _
theorem swap_mem {l : List Int} {o i x : Int} : x ∈ swap l o i ↔ (x ∈ l ∧ x ≠ o) ∨ x = i := by
  unfold swap; rw [srt_mem, List.mem_append, wo_mem]; simp
theorem wo_erase {l : List Int} (h : l.Nodup) (t : Int) : wo l t = l.erase t := by
  rw [h.erase_eq_filter]
  unfold wo
  refine List.filter_congr fun x _ => ?_
  by_cases e : x = t <;> simp [e]
theorem wo_length {l : List Int} (h : l.Nodup) {t : Int} (ht : t ∈ l) : (wo l t).length + 1 = l.length := by
  rw [wo_erase h, List.length_erase_of_mem ht]
  have := List.length_pos_of_mem ht
  omega
theorem swap_tree {p : Nat} (hp : 1 ≤ p) {ts : List (Int × Int)} (hE : EndsOk p ts) {T : List Int} (hT : treeB p ts T = true) {o i : Int} (ho : o ∈ T) (hi : i ∉ T) (hr : 0 ≤ i ∧ i < ts.length) :
    treeB p ts (swap T o i) = true ↔ ¬ Conn (tiesAt ts (wo T o)) (tieAt ts i).1 (tieAt ts i).2 := by
  have hI := tree_ind hT hp
  obtain ⟨h1, h2, h3⟩ := treeB_nat.mp hT
  have hW := hI.sub hE (wo_nodup hI.nd o) (fun x hx => (wo_mem.mp hx).1)
  have hwl := wo_length hI.nd ho
  have hin : InT ts.length (wo T o ++ [i]) := fun x hx => by
    rcases List.mem_append.mp hx with z | z
    · exact hW.inn x z
    · simp at z; subst z; exact hr
  have hnd : (wo T o ++ [i]).Nodup := by
    rw [List.nodup_append]
    refine ⟨hW.nd, by simp, fun a ha b hb e => ?_⟩
    simp at hb
    subst hb; subst e
    exact hi (wo_mem.mp ha).1
  have hct := hW.ct
  have hEs : EndsOk p (tiesAt ts (wo T o) ++ [tieAt ts i]) := by rw [← tiesAt_snoc]; exact tiesAt_ok hE hin
  have e1 : cnt p (tiesAt ts (swap T o i)) = cnt p (tiesAt ts (wo T o) ++ [tieAt ts i]) := by unfold swap; rw [cnt_srt hE hin, tiesAt_snoc]
  rw [treeB_nat]
  constructor
  · rintro ⟨_, _, h⟩ c
    rw [e1, cnt_same hEs c] at h
    omega
  · intro c
    have := cnt_new hEs c
    refine ⟨?_, srt_good hin hnd, by rw [e1]; omega⟩
    unfold swap
    rw [srt_len, List.length_append, List.length_singleton]
    omega
end Lw

namespace Lw
open DL L2 TL
def gr (p : Nat) (ts : List (Int × Int)) : List Int → List Int → List Int
  | [], J => J
  | t :: s, J => if nth (marksM p ts (srt J)) (tieAt ts t).1 = nth (marksM p ts (srt J)) (tieAt ts t).2 then gr p ts s J else gr p ts s (J ++ [t])
theorem gr_app (p : Nat) (ts : List (Int × Int)) : ∀ (s r J : List Int), gr p ts (s ++ r) J = gr p ts r (gr p ts s J)
  | [], r, J => rfl
  | t :: s, r, J => by
    simp only [List.cons_append, gr]
    split
    · exact gr_app p ts s r J
    · exact gr_app p ts s r (J ++ [t])
theorem conn_srt {ts : List (Int × Int)} {J : List Int} {a b : Int} : Conn (tiesAt ts (srt J)) a b ↔ Conn (tiesAt ts J) a b :=
  ⟨conn_sub fun x hx => srt_mem.mp hx, conn_sub fun x hx => srt_mem.mpr hx⟩
theorem gr_test {p : Nat} {ts : List (Int × Int)} (hE : EndsOk p ts) {J : List Int} (hJ : InT ts.length J) {t : Int} (ht : 0 ≤ t ∧ t < ts.length) : nth (marksM p ts (srt J)) (tieAt ts t).1 = nth (marksM p ts (srt J)) (tieAt ts t).2 ↔ Conn (tiesAt ts J) (tieAt ts t).1 (tieAt ts t).2 := by
  obtain ⟨_, e2⟩ := tie_at ht.1 ht.2
  obtain ⟨⟨a0, a1⟩, b0, b1⟩ := hE _ e2
  rw [nthM p ts hE (srt J) (fun x hx => hJ x (srt_mem.mp hx)) _ _ a0 a1 b0 b1, conn_srt]
theorem gr_ok {p : Nat} {ts : List (Int × Int)} (hE : EndsOk p ts) : ∀ (s J : List Int), Ind p ts J → InT ts.length s → Ind p ts (gr p ts s J) ∧ (∃ K, gr p ts s J = J ++ K ∧ K.Sublist s) ∧ ∀ t ∈ s, Conn (tiesAt ts (gr p ts s J)) (tieAt ts t).1 (tieAt ts t).2
  | [], J, h, _ => ⟨h, ⟨[], by simp [gr], .refl _⟩, fun _ h => (nomatch h)⟩
  | t :: s, J, h, hs => by
    have ht := hs t (List.mem_cons_self ..)
    have hs' : InT ts.length s := fun x hx => hs x (List.mem_cons_of_mem _ hx)
    simp only [gr]
    by_cases c : nth (marksM p ts (srt J)) (tieAt ts t).1 = nth (marksM p ts (srt J)) (tieAt ts t).2
    · rw [if_pos c]
      obtain ⟨k1, ⟨K, k2, k3⟩, k4⟩ := gr_ok hE s J h hs'
      refine ⟨k1, ⟨K, k2, k3.cons t⟩, fun x hx => ?_⟩
      rcases List.mem_cons.mp hx with rfl | hx
      · exact conn_sub (fun y hy => by rw [k2]; exact List.mem_append_left _ hy) ((gr_test hE h.inn ht).mp c)
      · exact k4 x hx
    · rw [if_neg c]
      obtain ⟨k1, ⟨K, k2, k3⟩, k4⟩ := gr_ok hE s (J ++ [t]) (h.snoc hE ht fun z => c ((gr_test hE h.inn ht).mpr z)) hs'
      refine ⟨k1, ⟨t :: K, by rw [k2]; simp, k3.cons₂ t⟩, fun x hx => ?_⟩
      rcases List.mem_cons.mp hx with rfl | hx
      · exact conn_at (by rw [k2]; simp)
      · exact k4 x hx
theorem Ind.le {p : Nat} {ts : List (Int × Int)} (hE : EndsOk p ts) {K J : List Int} (hK : Ind p ts K) (hJ : Ind p ts J) (h : ∀ t ∈ K, Conn (tiesAt ts J) (tieAt ts t).1 (tieAt ts t).2) : K.length ≤ J.length := by
  have : cnt p (tiesAt ts J) ≤ cnt p (tiesAt ts K) := cnt_le (tiesAt_ok hE hK.inn) (tiesAt_ok hE hJ.inn) fun e he => by
    obtain ⟨t, ht, rfl⟩ := List.mem_map.mp he
    exact h t ht
  have := hK.ct
  have := hJ.ct
  omega
def bel (l : List Int) (x : Int) : Nat := (l.filter fun y => decide (y < x)).length
theorem bel_perm {l m : List Int} (h : l.Perm m) (x : Int) : bel l x = bel m x := (h.filter _).length_eq
theorem gale_lex : ∀ {a b : List Int}, a.Pairwise (· < ·) → b.Pairwise (· < ·) → a.length = b.length → (∀ x, bel b x ≤ bel a x) → a ≠ b → HT.lexLt a b = true
  | [], [], _, _, _, _, n => absurd rfl n
  | [], _ :: _, _, _, h, _, _ => by simp at h
  | _ :: _, [], _, _, h, _, _ => by simp at h
  | x :: a, y :: b, ha, hb, hl, hd, n => by
    obtain ⟨a1, a2⟩ := List.pairwise_cons.mp ha
    obtain ⟨b1, b2⟩ := List.pairwise_cons.mp hb
    rw [HT.lexLt_cons]
    by_cases e : x = y
    · subst e
      rw [if_pos rfl]
      refine gale_lex a2 b2 (by simpa using hl) (fun z => ?_) fun q => n (by rw [q])
      have := hd z
      simp only [bel, List.filter_cons] at this ⊢
      split at this
      · simpa using this
      · exact this
    · rw [if_neg e]
      refine decide_eq_true ?_
      rcases Int.lt_or_le x y with z | z
      · exact z
      · exfalso
        have hlt : y < x := by omega
        have := hd (y + 1)
        have h1 : bel (x :: a) (y + 1) = 0 := by
          unfold bel
          rw [List.length_eq_zero_iff, List.filter_eq_nil_iff]
          intro w hw
          rcases List.mem_cons.mp hw with rfl | hw
          · simp; omega
          · have := a1 w hw; simp; omega
        have h2 : 1 ≤ bel (y :: b) (y + 1) := by
          unfold bel
          rw [List.filter_cons_of_pos (by simp; omega)]
          simp
        omega
theorem filter_split {l : List Int} (h : l.Pairwise (· < ·)) (x : Int) : l = (l.filter fun y => decide (y < x)) ++ l.filter fun y => !decide (y < x) := by
  induction l with
  | nil => rfl
  | cons a l ih =>
    obtain ⟨h1, h2⟩ := List.pairwise_cons.mp h
    by_cases c : a < x
    · rw [List.filter_cons_of_pos (by simpa using c), List.filter_cons_of_neg (by simpa using c), List.cons_append, ← ih h2]
    · rw [List.filter_cons_of_neg (by simpa using c), List.filter_cons_of_pos (by simpa using c)]
      have : (l.filter fun y => decide (y < x)) = [] := List.filter_eq_nil_iff.mpr fun y hy => by have := h1 y hy; simp; omega
      rw [this, List.nil_append]
      congr 1
      refine (List.filter_eq_self.mpr fun y hy => ?_).symm
      have := h1 y hy; simp; omega
theorem filter_none {l : List Int} {q : Int → Bool} (h : ∀ x ∈ l, q x = false) : l.filter q = [] := List.filter_eq_nil_iff.mpr fun x hx => by rw [h x hx]; decide
theorem filter_all {l : List Int} {q : Int → Bool} (h : ∀ x ∈ l, q x = true) : l.filter q = l := List.filter_eq_self.mpr h
end Lw

namespace Lw
open DL L2 TL
def othL (n : Nat) (T : List Int) : List Int := (iota n).filter fun x => !decide (x ∈ T)
theorem len_split (l : List Int) (q : Int → Bool) : l.length = (l.filter q).length + (l.filter fun x => !q x).length := by
  induction l with
  | nil => rfl
  | cons a l ih => cases c : q a <;> simp [List.filter_cons, c, ih] <;> omega
theorem iota_rise (n : Nat) : (iota n).Pairwise (· < ·) := by
  unfold iota
  rw [List.pairwise_map]
  exact List.pairwise_lt_range.imp fun h => by omega
section
variable {p : Nat} (hp : 1 ≤ p) {ts : List (Int × Int)} (hE : EndsOk p ts) {T : List Int} (hT : treeB p ts T = true)
include hp hE hT
end
end Lw

namespace Lw
open DL L2 TL
theorem tree_len {p : Nat} (hp : 1 ≤ p) {ts : List (Int × Int)} {N : List Int} (h : treeB p ts N = true) : N.length + 1 = p := by
  have := (treeB_nat.mp h).1
  omega
end Lw

noncomputable section
namespace Lw
open DL
end Lw
end

namespace Lw
open DL L2 TL
theorem blsOf_map : ∀ bs : List Bool, blsOf (bs.map D.bl) = some bs
  | [] => rfl
  | b :: bs => by simp [blsOf, blsOf_map bs]
def nxt (k : Nat) (s : List Int) : Int := if k = 0 then 0 else nth s (k - 1 : Nat) + 1
end Lw

namespace Lw
open DL L2 TL
def KLt (L : List Int) (t u : Int) : Prop := nth L t < nth L u ∨ (nth L t = nth L u ∧ t < u)
instance (L : List Int) (t u : Int) : Decidable (KLt L t u) := by unfold KLt; infer_instance
structure Ord (L : List Int) (n : Nat) (O : List Int) : Prop where
  pm : O.Perm (iota n)
  lt : O.Pairwise (KLt L)
theorem Ord.mem {L : List Int} {n : Nat} {O : List Int} (h : Ord L n O) {x : Int} : x ∈ O ↔ 0 ≤ x ∧ x < n := by rw [h.pm.mem_iff, iota_mem]
section
variable {L : List Int} {p : Nat} {ts : List (Int × Int)} {O : List Int}
end
end Lw

namespace Lw
open DL L2
theorem at_ok (s : List Int) (k : Int) (hk : 0 ≤ k) : ∃ c : Int, g_law_at [.sc (s.map D.int), .int k] = .ok (.int c) := by
  by_cases h : k < s.length
  · obtain ⟨a, e, _⟩ := DL.atI_of hk h
    exact ⟨a, by simp [g_law_at, runF, f_law_at, h, e]⟩
  · exact ⟨0, by simp [g_law_at, runF, f_law_at, h]⟩
theorem log2_le {n k : Nat} (h : n < 2 ^ k) : n.log2 ≤ k := by
  by_cases h0 : n = 0
  · subst h0; simp
  · exact Nat.le_of_lt ((Nat.log2_lt h0).mpr h)
theorem opMul_500 {a b : Int} (h : a.natAbs < 2 ^ 500) (h' : b.natAbs < 2 ^ 500) : opMul (.int a) (.int b) = some (.int (a * b)) := by
  rw [opMul_eq, if_pos]
  have := log2_le h
  have := log2_le h'
  exact .inr (by omega)
theorem e60_lt : e60 < 2 ^ 250 := by decide
end Lw

namespace Lw
open DL L2
end Lw

noncomputable section
namespace Lw
open DL
end Lw
end

namespace Lw
open DL L2
end Lw

noncomputable section
namespace Lw
open DL
end Lw
end

namespace Lw
open DL L2 TL
theorem enm_ints (L : List Int) : enm 0 (L.map D.int) = (iota L.length).map fun i => (.tp [.int i, .int (nth L i)] : D) := by
  have : ∀ (l pre : List Int), L = pre ++ l → enm pre.length (l.map D.int) = (List.range l.length).map fun j => (.tp [.int ((pre.length + j : Nat) : Int), .int (nth L ((pre.length + j : Nat) : Int))] : D) := by
    intro l
    induction l with
    | nil => intro pre _; simp [enm]
    | cons t l ih =>
      intro pre e
      have := ih (pre ++ [t]) (by rw [e]; simp)
      rw [List.map_cons, enm, List.length_cons, List.range_succ_eq_map, List.map_cons, List.map_map]
      simp only [List.length_append, List.length_cons, List.length_nil, Nat.zero_add] at this
      rw [this]
      have et : nth L ((pre.length : Nat) : Int) = t := by simp [nth, e]
      simp only [Nat.add_zero, et]
      congr 1
      refine List.map_congr_left fun j _ => ?_
      simp only [Function.comp, Nat.succ_eq_add_one]
      rw [show pre.length + 1 + j = pre.length + (j + 1) by omega]
  have h := this L [] rfl
  simp only [List.length_nil, Nat.zero_add] at h
  rw [h]
  unfold iota
  rw [List.map_map]
  rfl
def hj (m : List Int) (t : Int × Int) : List Int := m.map fun x => if x = nth m t.2 then nth m t.1 else x
end Lw

namespace Lw
open DL L2 TL
def mxK : Int := 16180339887498948482045868343656381177203
def mxA (c k : Int) : Int := (c % e60 + 3) * (mxK + 2 * k * k) + 6151 * k
def mxF (c k : Int) : Int := mxA c k * mxA c k % (e60 + 33)
theorem mxA_lt (c k : Int) (h0 : 0 ≤ k) (h1 : k ≤ 1000) : (mxA c k).natAbs < 2 ^ 500 := by
  have c0 : 0 ≤ c % e60 := Int.emod_nonneg _ (by have := e60_pos; omega)
  have c1 : c % e60 < e60 := Int.emod_lt_of_pos _ e60_pos
  have hE := e60_lt
  have kk : 0 ≤ 2 * k * k := Int.mul_nonneg (by omega) h0
  have kk2 : 2 * k * k ≤ 2000 * 1000 := Int.mul_le_mul (by omega) h1 h0 (by omega)
  have a1 : (c % e60 + 3).natAbs < 2 ^ 251 := by
    have : (2 : Int) ^ 251 = 2 ^ 250 + 2 ^ 250 := by decide
    have : (3 : Int) < 2 ^ 250 := by decide
    have : ((2 : Nat) ^ 251 : Nat) = ((2 : Int) ^ 251).natAbs := by decide
    omega
  have a2 : (mxK + 2 * k * k).natAbs < 2 ^ 200 := by
    have : mxK + 2000000 < 2 ^ 200 := by decide
    have : (0 : Int) < mxK := by decide
    have : ((2 : Nat) ^ 200 : Nat) = ((2 : Int) ^ 200).natAbs := by decide
    omega
  have a3 : ((c % e60 + 3) * (mxK + 2 * k * k)).natAbs ≤ 2 ^ 251 * 2 ^ 200 := by
    rw [Int.natAbs_mul]
    exact Nat.mul_le_mul (Nat.le_of_lt a1) (Nat.le_of_lt a2)
  have a4 : (6151 * k).natAbs ≤ 6151000 := by omega
  unfold mxA
  have a5 := Int.natAbs_add_le ((c % e60 + 3) * (mxK + 2 * k * k)) (6151 * k)
  have a6 : 2 ^ 251 * 2 ^ 200 + 6151000 < 2 ^ 500 := by decide
  omega
theorem mx_ok (c k : Int) (h0 : 0 ≤ k) (h1 : k ≤ 1000) : g_law_mixed_v2 [.int c, .int k] = .ok (.int (mxF c k)) := by
  have c0 : 0 ≤ c % e60 := Int.emod_nonneg _ (by have := e60_pos; omega)
  have c1 : c % e60 < e60 := Int.emod_lt_of_pos _ e60_pos
  have hE := e60_lt
  have kk : 0 ≤ 2 * k * k := Int.mul_nonneg (by omega) h0
  have kk2 : 2 * k * k ≤ 2000 * 1000 := Int.mul_le_mul (by omega) h1 h0 (by omega)
  have a1 : (c % e60 + 3).natAbs < 2 ^ 500 := by
    have : ((2 : Nat) ^ 251 : Nat) = ((2 : Int) ^ 251).natAbs := by decide
    have h1 : (c % e60 + 3).natAbs < 2 ^ 251 := by
      have : (2 : Int) ^ 251 = 2 ^ 250 + 2 ^ 250 := by decide
      have : (3 : Int) < 2 ^ 250 := by decide
      omega
    exact Nat.lt_trans h1 (by decide)
  have a2 : (mxK + 2 * k * k).natAbs < 2 ^ 500 := by
    have h1 : (mxK + 2 * k * k).natAbs < 2 ^ 200 := by
      have : mxK + 2000000 < 2 ^ 200 := by decide
      have : (0 : Int) < mxK := by decide
      have : ((2 : Nat) ^ 200 : Nat) = ((2 : Int) ^ 200).natAbs := by decide
      omega
    exact Nat.lt_trans h1 (by decide)
  have e1 := opMul_500 a1 a2
  have e2 := opMul_500 (mxA_lt c k h0 h1) (mxA_lt c k h0 h1)
  have e0 : opMul (.int (2 * k)) (.int k) = some (.int (2 * k * k)) := opMul_r (by omega) (by omega)
  have p33 : 0 < e60 + 33 := by decide
  have eA : (c % e60 + 3) * (16180339887498948482045868343656381177203 + 2 * k * k) + 6151 * k = mxA c k := rfl
  have e1' : opMul (.int (c % e60 + 3)) (.int (16180339887498948482045868343656381177203 + 2 * k * k)) = some (.int ((c % e60 + 3) * (16180339887498948482045868343656381177203 + 2 * k * k))) := e1
  have eF : mxA c k * mxA c k % (e60 + 33) = mxF c k := rfl
  simp [g_law_mixed_v2, runF, f_law_mixed_v2, e0, e1', eA, e2, p33, eF]
end Lw

namespace Lw
open DL L2 TL
theorem ties2_l1 (s : List Int) (p most : Int) (hp : 0 < p) (hp2 : p ≤ 1000) (x5 y8 y9 y10 : D) : ∀ (n : Nat) (lo : Int) (r : Int) (l : List (Int × Int)) (y6 y7 : D), 0 ≤ lo → lo + n ≤ 1000 → l.length + n ≤ 1000 → EndsOk p l →
    ∃ (r' : Int) (l' : List (Int × Int)) (z6 z7 : D), l'.length = l.length + n ∧ EndsOk p l' ∧ forL (gtN 6) f_law_ties_v2_l1 (rng lo n) [.sc (s.map D.int), .int p, .int most, .ol (l.map dP), .int r, x5, y6, y7, y8, y9, y10] = .nx [.sc (s.map D.int), .int p, .int most, .ol (l'.map dP), .int r', x5, z6, z7, y8, y9, y10]
  | 0, lo, r, l, y6, y7, _, _, _, hE => ⟨r, l, y6, y7, by omega, hE, by simp [rng_zero, forL]⟩
  | n + 1, lo, r, l, y6, y7, h0, h1, h2, hE => by
    obtain ⟨c, ec⟩ := at_ok s 2 (by omega)
    have a4 : p < 1073741824 := by omega
    have a5 : -18446744073709551616 < p := by omega
    have a6 : p < 18446744073709551616 := by omega
    have a7 : 0 < p * p := Int.mul_pos hp hp
    have a9 : 0 < p * p + 1 := by omega
    have a8 : p * p + 1 < 1073741824 := by
      have : p * p ≤ 1000 * 1000 := Int.mul_le_mul hp2 hp2 (by omega) (by omega)
      omega
    have hlim : l.length < lim := by rw [lim_eq]; omega
    have mx := mx_ok c lo h0 (by omega)
    have fin : ∀ q : Int, (if r = 0 then mxF c lo else r) = q → ∃ (r' : Int) (l' : List (Int × Int)) (z6 z7 : D), l'.length = l.length + (n + 1) ∧ EndsOk p l' ∧ forL (gtN 6) f_law_ties_v2_l1 (rng lo (n + 1)) [.sc (s.map D.int), .int p, .int most, .ol (l.map dP), .int r, x5, y6, y7, y8, y9, y10] = .nx [.sc (s.map D.int), .int p, .int most, .ol (l'.map dP), .int r', x5, z6, z7, y8, y9, y10] := fun q hq => by
      have o1 := Int.emod_nonneg (q % (p * p + 1)) (by omega : p ≠ 0)
      have o2 := Int.emod_lt_of_pos (q % (p * p + 1)) hp
      have p1 := Int.emod_nonneg (q % (p * p + 1) / p) (by omega : p ≠ 0)
      have p2 := Int.emod_lt_of_pos (q % (p * p + 1) / p) hp
      obtain ⟨r', l', z6, z7, h3, h4, h5⟩ := ties2_l1 s p most hp hp2 x5 y8 y9 y10 n (lo + 1) (q / (p * p + 1)) (l ++ [(q % (p * p + 1) % p, q % (p * p + 1) / p % p)]) (.int lo) (.int (q % (p * p + 1))) (by omega) (by omega) (by simp; omega) (hE.app (.one ⟨⟨o1, o2⟩, p1, p2⟩))
      refine ⟨r', l', z6, z7, by simp at h3; omega, h4, ?_⟩
      rw [← h5]
      by_cases c0 : r = 0
      · rw [if_pos c0] at hq
        subst hq
        simp [rng_succ, forL, f_law_ties_v2_l1, c0, ec, mx, hp, a4, a5, a6, a9, a8, hlim]
      · rw [if_neg c0] at hq
        subst hq
        simp [rng_succ, forL, f_law_ties_v2_l1, c0, hp, a4, a5, a6, a9, a8, hlim]
    exact fin _ rfl
theorem forL_step {tg : D → Env → Option Env} {b : Env → Out} {d : D} {ds : List D} {g g1 g' : Env} (h : tg d g = some g1) (hb : b g1 = .nx g') : forL tg b (d :: ds) g = forL tg b ds g' := by
  rw [forL_cons, h]
  simp only [hb]
theorem ties2_step (s : List Int) (p most : Int) (hp : 0 < p) (hp2 : p ≤ 1000) (hm : 1 ≤ most) (hm2 : most ≤ 500) (y4 y5 y7 : D) (c : Int) (k : Int) (kn : 0 ≤ k) (l : List (Int × Int)) (y6 y8 y9 y10 : D) (hl : (l.length : Int) = min (k : Int) most) (hE : EndsOk p l) :
    ∃ (l' : List (Int × Int)) (z9 z10 : D), (l'.length : Int) = min ((k : Int) + 1) most ∧ EndsOk p l' ∧ f_law_ties_v2_l2 [.sc (s.map D.int), .int p, .int most, .ol (l.map dP), y4, y5, .int k, y7, .int c, y9, y10] = .nx [.sc (s.map D.int), .int p, .int most, .ol (l'.map dP), y4, y5, .int k, y7, .int c, z9, z10] := by
  have k0 := Int.emod_nonneg (k : Int) (by omega : (37 : Int) ≠ 0)
  have k1 := Int.emod_lt_of_pos (k : Int) (by omega : (0 : Int) < 37)
  have mx := mx_ok c ((k : Int) % 37) k0 (by omega)
  have a4 : p < 1073741824 := by omega
  by_cases q : (k : Int) < most
  · have hlim : l.length < lim := by rw [lim_eq]; omega
    generalize mxF c ((k : Int) % 37) = m at mx
    have o1 := Int.emod_nonneg (m / 8) (by omega : p ≠ 0)
    have o2 := Int.emod_lt_of_pos (m / 8) hp
    have p1 := Int.emod_nonneg (m / 800) (by omega : p ≠ 0)
    have p2 := Int.emod_lt_of_pos (m / 800) hp
    refine ⟨l ++ [(m / 8 % p, m / 800 % p)], .int m, y10, by simp; omega, hE.app (.one ⟨⟨o1, o2⟩, p1, p2⟩), ?_⟩
    simp [f_law_ties_v2_l2, mx, q, hp, hlim]
  · have t0 := Int.emod_nonneg (k : Int) (by omega : most ≠ 0)
    have t1 := Int.emod_lt_of_pos (k : Int) (by omega : 0 < most)
    have hmost : 0 < most := by omega
    obtain ⟨a, ea, _⟩ := DL.atI_of (l := l) (i := (k : Int) % most) t0 (by omega)
    generalize mxF c ((k : Int) % 37) = m at mx
    have mx2 := mx_ok (m + a.1 + 7 * a.2) 5 (by omega) (by omega)
    generalize mxF (m + a.1 + 7 * a.2) 5 = m2 at mx2
    have hix : L2.ixN l.length ((k : Int) % most) = some ((k : Int) % most).toNat := ixN_nat t0 (by omega)
    have o1 := Int.emod_nonneg (m2 / 8) (by omega : p ≠ 0)
    have o2 := Int.emod_lt_of_pos (m2 / 8) hp
    have p1 := Int.emod_nonneg (m2 / 800) (by omega : p ≠ 0)
    have p2 := Int.emod_lt_of_pos (m2 / 800) hp
    refine ⟨l.set ((k : Int) % most).toNat (m2 / 8 % p, m2 / 800 % p), .int m2, .int ((k : Int) % most), by rw [List.length_set]; omega, fun e he => ?_, ?_⟩
    · rcases List.mem_or_eq_of_mem_set he with z | z
      · exact hE e z
      · subst z; exact ⟨⟨o1, o2⟩, p1, p2⟩
    · simp [f_law_ties_v2_l2, mx, q, hmost, hp, ea, mx2, hix, dP]
theorem ties2_l2 (s : List Int) (p most : Int) (hp : 0 < p) (hp2 : p ≤ 1000) (hm : 1 ≤ most) (hm2 : most ≤ 500) (y4 y5 y7 : D) (cs : List Int) : ∀ (k : Nat) (l : List (Int × Int)) (y6 y8 y9 y10 : D), (l.length : Int) = min (k : Int) most → EndsOk p l →
    ∃ (l' : List (Int × Int)) (z6 z8 z9 z10 : D), (l'.length : Int) ≤ most ∧ EndsOk p l' ∧ forL (gtT 2 (gtCons (gtN 6) (gtCons (gtN 8) (gtNil)))) f_law_ties_v2_l2 (enm k (cs.map D.int)) [.sc (s.map D.int), .int p, .int most, .ol (l.map dP), y4, y5, y6, y7, y8, y9, y10] = .nx [.sc (s.map D.int), .int p, .int most, .ol (l'.map dP), y4, y5, z6, y7, z8, z9, z10] := by
  induction cs with
  | nil => exact fun k l y6 y8 y9 y10 hl hE => ⟨l, y6, y8, y9, y10, by omega, hE, by simp [enm, forL]⟩
  | cons c cs ih =>
    intro k l y6 y8 y9 y10 hl hE
    obtain ⟨l1, z9, z10, h1, h2, h3⟩ := ties2_step s p most hp hp2 hm hm2 y4 y5 y7 c k (by omega) l y6 y8 y9 y10 hl hE
    obtain ⟨l', w6, w8, w9, w10, h4, h5, h6⟩ := ih (k + 1) l1 (.int k) (.int c) z9 z10 (by omega) h2
    refine ⟨l', w6, w8, w9, w10, h4, h5, ?_⟩
    exact (forL_step rfl h3).trans h6
theorem ties2_ok (s : List Int) (hs : s.length ≤ 900) (p most : Int) (hp : 1 ≤ p) (hp2 : p ≤ 1000) (hm : 1 ≤ most) (hm2 : most ≤ 500) :
    ∃ l : List (Int × Int), (l.length : Int) ≤ most ∧ EndsOk p l ∧ g_law_ties_v2 [.sc (s.map D.int), .int p, .int most] = .ok (.ol (l.map dP)) := by
  obtain ⟨w, ew⟩ := at_ok s 1 (by omega)
  obtain ⟨c, ec⟩ := at_ok s 2 (by omega)
  by_cases q : w % 2 = 0
  · have n0 := Int.emod_nonneg (c % e60) (by omega : most + 1 ≠ 0)
    have n1 := Int.emod_lt_of_pos (c % e60) (by omega : 0 < most + 1)
    obtain ⟨r', l, z6, z7, h1, h2, h3⟩ := ties2_l1 s p most (by omega) hp2 (.int (c % e60 % (most + 1))) .un .un .un (c % e60 % (most + 1)).toNat 0 (c % e60 / (most + 1)) [] .un .un (by omega) (by omega) (by simp; omega) (fun _ h => nomatch h)
    have a2 : 0 < most + 1 := by omega
    have a3 : most + 1 < 1073741824 := by omega
    have hr : rgOk (c % e60 % (most + 1)) := rgOk_of (by omega) (by omega)
    refine ⟨l, by simp at h1; omega, h2, ?_⟩
    simp at h3
    simp [g_law_ties_v2, runF, f_law_ties_v2, ew, q, ec, a2, a3, hr, h3]
  · obtain ⟨l, z6, z8, z9, z10, h1, h2, h3⟩ := ties2_l2 s p most (by omega) hp2 hm hm2 .un .un .un (s.drop 2) 0 [] .un .un .un .un (by simp; omega) (fun _ h => nomatch h)
    have cf : cut s (some 2) none = s.drop 2 := by rw [cut_from s 2 (by omega)]; rfl
    refine ⟨l, h1, h2, ?_⟩
    simp [-List.map_drop] at h3
    simp [g_law_ties_v2, runF, f_law_ties_v2, ew, q, cf, h3, -List.map_drop]
end Lw

namespace Lw
open DL L2 TL
theorem forL_nil {tg : D → Env → Option Env} {b : Env → Out} {g : Env} : forL tg b [] g = .nx g := rfl
theorem forL_xc {tg : D → Env → Option Env} {b : Env → Out} {d : D} {c : Nat} {ds : List D} {g g1 g' : Env} (h : tg d g = some g1) (hb : b g1 = .xc c g') : forL tg b (d :: ds) g = .xc c g' := by
  rw [forL_cons, h]; simp only [hb]
end Lw

noncomputable section
namespace Lw
open DL L2
theorem seq_to {f u : Env → Out} {g g1 : Env} {o : Out} (h : f g = .nx g1) (h2 : u g1 = o) : sSeq f u g = o := by
  rw [sSeq_, h]
  exact h2
end Lw
end

namespace Dt
def sm : Nat → (Nat → Int) → Int
  | 0, _ => 0
  | n + 1, f => sm n f + f n
def sg (i : Nat) : Int := if i % 2 = 0 then 1 else -1
abbrev Mx := Nat → Nat → Int
def del (i : Nat) (A : Mx) : Mx := fun r => A (if r < i then r else r + 1)
def det : Nat → Nat → Mx → Int
  | 0, _, _ => 1
  | n + 1, c, A => sm (n + 1) fun i => sg i * A i c * det n (c + 1) (del i A)
def upd (A : Mx) (k : Nat) (x : Nat → Int) : Mx := fun r => if r = k then x else A r
theorem upd_ne {A : Mx} {k r : Nat} {x : Nat → Int} (h : r ≠ k) : upd A k x r = A r := by simp [upd, h]
def pr : Nat → (Nat → Int) → Int
  | 0, _ => 1
  | n + 1, w => pr n w * w n
end Dt

namespace Dt
def ex (k : Nat) (ρ : Nat → Nat) (i : Nat) : Nat := if i < k then i else ρ (i - k)
structure Bar (n k : Nat) (A A' E : Mx) (s ahead : Int) : Prop where
  hs : det n 0 A = s * det n 0 A'
  ss : s = 1 ∨ s = -1
  ha : ahead = det k 0 A'
  hn : ahead ≠ 0
  hE : ∀ (m : Nat) (ρ γ : Nat → Nat), det (m + 1) 0 (fun i j => E (ρ i) (γ j)) = det (k + m + 1) 0 (fun i j => A' (ex k ρ i) (ex k γ j)) * ahead ^ m
def sw (k f i : Nat) : Nat := if i = k then f else if i = f then k else i
def nx (E : Mx) (k : Nat) (ahead : Int) : Mx := fun r c => (E r c * E k k - E r k * E k c) / ahead
end Dt

noncomputable section
namespace Lw
open DL
end Lw
end

namespace Lw
open DL L2 TL
def dR (l : List Int) : D := .ls (l.map D.int)
theorem dull_R (l : List Int) : dull (dR l) := by
  refine ⟨?_, ?_, ?_, ?_, ?_, ?_⟩ <;> simp [dR]
structure Sq (n : Nat) (L : List (List Int)) : Prop where
  len : L.length = n
  row : ∀ l ∈ L, l.length = n
def nr (n k : Nat) (q : List Int → Nat → Int) (R : List Int) : List Int := List.replicate (k + 1) (0 : Int) ++ (List.range (n - (k + 1))).map fun i => q R (k + 1 + i)
end Lw

namespace Lw
open DL L2 TL
end Lw

namespace Dt
abbrev Ed := Nat × Nat
def iv (b : Prop) [Decidable b] : Int := if b then 1 else 0
def xv (e : Ed) (j : Nat) : Int := iv (j = e.1) - iv (j = e.2)
def Xm (m : Nat → Nat) (e : Ed) (i : Nat) : Int := iv (m e.1 = i) - iv (m e.2 = i)
def Rw (m : Nat → Nat) : List Ed → Mx
  | [], _, _ => 0
  | e :: es, i, j => Xm m e i * xv e j + Rw m es i j
def Mat (m : Nat → Nat) (es : List Ed) : Mx := fun i j => if m i = i then Rw m es i j else iv (j = i) - iv (j = m i)
def D (n : Nat) (m : Nat → Nat) (es : List Ed) : Int := det n 0 (Mat m es)
structure Lab (n : Nat) (m : Nat → Nat) : Prop where
  le : ∀ i, i ≤ n → m i ≤ n
  id : ∀ i, i ≤ n → m (m i) = m i
  top : m n = n
def mrg (a b : Nat) (m : Nat → Nat) (v : Nat) : Nat := if m v = a then b else m v
theorem Lab.mrg {n : Nat} {m : Nat → Nat} (h : Lab n m) {a b : Nat} (ha : a ≠ n) (hb : b ≤ n) (hm : m b = b) (hn : a ≠ b) : Lab n (mrg a b m) where
  le := fun i hi => by
    unfold Dt.mrg; split
    · exact hb
    · exact h.le i hi
  id := fun i hi => by
    unfold Dt.mrg
    by_cases q : m i = a
    · rw [if_pos q, hm, if_neg (fun z => hn z.symm)]
    · rw [if_neg q, h.id i hi, if_neg q]
  top := by
    unfold Dt.mrg
    rw [h.top, if_neg (fun z => ha z.symm)]
def Ker (n : Nat) (u v : Nat → Nat) : Prop := ∀ i j, i ≤ n → j ≤ n → (u i = u j ↔ v i = v j)
theorem mrg_eq {a b : Nat} {u : Nat → Nat} {i j : Nat} : mrg a b u i = mrg a b u j ↔ u i = u j ∨ (u i = a ∧ u j = b) ∨ (u i = b ∧ u j = a) := by
  unfold mrg
  by_cases h1 : u i = a <;> by_cases h2 : u j = a
  · rw [if_pos h1, if_pos h2]; exact ⟨fun _ => .inl (h1.trans h2.symm), fun _ => rfl⟩
  · rw [if_pos h1, if_neg h2]
    constructor
    · exact fun h => .inr (.inl ⟨h1, h.symm⟩)
    · rintro (h | h | h)
      · exact absurd (h ▸ h1) h2
      · exact h.2.symm
      · exact absurd h.2 h2
  · rw [if_neg h1, if_pos h2]
    constructor
    · exact fun h => .inr (.inr ⟨h, h2⟩)
    · rintro (h | h | h)
      · exact absurd (h.trans h2) h1
      · exact absurd h.1 h1
      · exact h.1
  · rw [if_neg h1, if_neg h2]
    constructor
    · exact .inl
    · rintro (h | h | h)
      · exact h
      · exact absurd h.1 h1
      · exact absurd h.2 h2
theorem Ker.mrg {n : Nat} {u v : Nat → Nat} (h : Ker n u v) {x y : Nat} (hx : x ≤ n) (hy : y ≤ n) : Ker n (mrg (u x) (u y) u) (mrg (v x) (v y) v) := fun i j hi hj => by
  rw [mrg_eq, mrg_eq, h i j hi hj, h i x hi hx, h j y hj hy, h i y hi hy, h j x hj hx]
theorem Ker.turn {n : Nat} {u : Nat → Nat} {x y : Nat} : Ker n (Dt.mrg (u x) (u y) u) (Dt.mrg (u y) (u x) u) := fun i j _ _ => by
  rw [mrg_eq, mrg_eq]
  constructor <;> (rintro (h | h | h); exact .inl h; exact .inr (.inr h); exact .inr (.inl h))
end Dt

namespace Lw
open DL L2 TL
theorem nodup_leG2 {α : Type} [DecidableEq α] : ∀ {l m : List α}, l.Nodup → (∀ x ∈ l, x ∈ m) → l.length ≤ m.length
  | [], _, _, _ => Nat.zero_le _
  | a :: l, m, h, k => by
    obtain ⟨h1, h2⟩ := List.nodup_cons.mp h
    have ha := k a (List.mem_cons_self ..)
    have := nodup_leG2 (l := l) (m := m.erase a) h2 fun x hx => (List.mem_erase_of_ne (fun (e : x = a) => h1 (e ▸ hx))).mpr (k x (List.mem_cons_of_mem _ hx))
    rw [List.length_erase_of_mem ha] at this
    have := List.length_pos_of_mem ha
    simp only [List.length_cons]
    omega
section
variable {p : Nat} {ts : List (Int × Int)}
theorem testL (hE : EndsOk p ts) {J : List Int} (hJ : InT ts.length J) {t : Int} (ht : 0 ≤ t ∧ t < ts.length) : nth (marksL p ts J) (tieAt ts t).1 = nth (marksL p ts J) (tieAt ts t).2 ↔ Conn (tiesAt ts J) (tieAt ts t).1 (tieAt ts t).2 := by
  obtain ⟨_, e2⟩ := tie_at ht.1 ht.2
  obtain ⟨⟨a0, a1⟩, b0, b1⟩ := hE _ e2
  exact nthL p ts hE J hJ _ _ a0 a1 b0 b1
end
end Lw

noncomputable section
namespace Lw
open DL
end Lw
end

namespace Lw
open DL L2 TL
end Lw

namespace Lw
open DL L2 TL Classical
theorem Ind.cuts {p : Nat} {ts : List (Int × Int)} (hE : EndsOk p ts) {J : List Int} (h : Ind p ts J) {f : Int} (hf : f ∈ J) : ¬ Conn (tiesAt ts (wo J f)) (tieAt ts f).1 (tieAt ts f).2 := by
  intro c
  have hW := h.sub hE (wo_nodup h.nd f) (fun x hx => (wo_mem.mp hx).1)
  have e : cnt p (tiesAt ts (wo J f)) = cnt p (tiesAt ts J) := cnt_eq (tiesAt_ok hE hW.inn) (tiesAt_ok hE h.inn)
    (fun e he => by
      obtain ⟨t, ht, rfl⟩ := List.mem_map.mp he
      exact conn_at (wo_mem.mp ht).1)
    (fun e he => by
      obtain ⟨t, ht, rfl⟩ := List.mem_map.mp he
      by_cases q : t = f
      · subst q; exact c
      · exact conn_at (wo_mem.mpr ⟨ht, q⟩))
  have := h.ct
  have := hW.ct
  have := wo_length h.nd hf
  omega
theorem conn_snoc' {ts : List (Int × Int)} {J : List Int} {t : Int} {i j : Int} : Conn (tiesAt ts (J ++ [t])) i j ↔ Conn (tiesAt ts J) i j ∨ (Conn (tiesAt ts J) i (tieAt ts t).1 ∧ Conn (tiesAt ts J) (tieAt ts t).2 j) ∨ (Conn (tiesAt ts J) i (tieAt ts t).2 ∧ Conn (tiesAt ts J) (tieAt ts t).1 j) := by
  rw [tiesAt_snoc]; exact conn_snoc
theorem Ind.meet {p : Nat} {ts : List (Int × Int)} (hE : EndsOk p ts) {J : List Int} (h : Ind p ts J) {f : Int} (hf : f ∈ J) {K : List Int} (hK : ∀ x ∈ K, x ∈ J) {a b : Int} (c1 : Conn (tiesAt ts K) a b) (c2 : Conn (tiesAt ts (wo J f)) a b) : Conn (tiesAt ts (wo K f)) a b := by
  have c3 : Conn (tiesAt ts (wo K f ++ [f])) a b := conn_sub (fun x hx => by
    by_cases q : x = f
    · subst q; simp
    · exact List.mem_append_left _ (wo_mem.mpr ⟨hx, q⟩)) c1
  have up : ∀ {x y}, Conn (tiesAt ts (wo K f)) x y → Conn (tiesAt ts (wo J f)) x y := fun c => conn_sub (fun x hx => wo_mem.mpr ⟨hK x (wo_mem.mp hx).1, (wo_mem.mp hx).2⟩) c
  rcases conn_snoc'.mp c3 with c | ⟨d1, d2⟩ | ⟨d1, d2⟩
  · exact c
  · exact absurd ((up d1).symm.trans (c2.trans (up d2).symm)) (h.cuts hE hf)
  · exact absurd ((up d2).trans (c2.symm.trans (up d1))) (h.cuts hE hf)
end Lw

namespace Lw
open DL L2 TL
section
variable {p : Nat} (hp : 1 ≤ p) {ts : List (Int × Int)} (hE : EndsOk p ts) {T : List Int} (hT : treeB p ts T = true) (L : List Int)
include hp hE hT
end
end Lw

namespace Lw
open DL L2 TL
section
variable {p : Nat} {ts : List (Int × Int)}
theorem gr_q (hE : EndsOk p ts) {s J : List Int} (hJ : Ind p ts J) (hs : InT ts.length s) {q : Int → Bool} (sp : s = s.filter q ++ s.filter fun y => !q y) :
    ((gr p ts s J).filter q).length + J.length = (gr p ts (s.filter q) J).length + (J.filter q).length := by
  have h1 : InT ts.length (s.filter q) := fun y hy => hs y (List.mem_filter.mp hy).1
  have h2 : InT ts.length (s.filter fun y => !q y) := fun y hy => hs y (List.mem_filter.mp hy).1
  have e : gr p ts s J = gr p ts (s.filter fun y => !q y) (gr p ts (s.filter q) J) := by
    rw [← gr_app, ← sp]
  obtain ⟨i1, ⟨K1, k1, q1⟩, _⟩ := gr_ok hE (s.filter q) J hJ h1
  obtain ⟨i2, ⟨K2, k2, q2⟩, _⟩ := gr_ok hE (s.filter fun y => !q y) (gr p ts (s.filter q) J) i1 h2
  rw [e, k2, k1]
  simp only [List.filter_append, List.length_append]
  rw [filter_all (l := K1) fun y hy => (List.mem_filter.mp (q1.subset hy)).2, filter_none (l := K2) fun y hy => by have := (List.mem_filter.mp (q2.subset hy)).2; simpa using this]
  simp
  omega
theorem dom_q (hE : EndsOk p ts) {s J : List Int} (hJ : Ind p ts J) (hs : InT ts.length s) {q : Int → Bool} (sp : s = s.filter q ++ s.filter fun y => !q y) {T : List Int} (hT : Ind p ts T) (hJT : ∀ x ∈ J, x ∈ T) (hTs : ∀ x ∈ T, x ∈ J ∨ x ∈ s) :
    (T.filter q).length ≤ ((gr p ts s J).filter q).length := by
  have g := gr_q hE hJ hs sp
  have h1 : InT ts.length (s.filter q) := fun y hy => hs y (List.mem_filter.mp hy).1
  obtain ⟨i1, ⟨K1, k1, q1⟩, c1⟩ := gr_ok hE (s.filter q) J hJ h1
  have pJ : (T.filter fun x => decide (x ∈ J)).Perm J := by
    refine (List.perm_ext_iff_of_nodup (hT.nd.sublist List.filter_sublist) hJ.nd).mpr fun x => ?_
    rw [List.mem_filter, decide_eq_true_eq]
    exact ⟨fun h => h.2, fun h => ⟨hJT x h, h⟩⟩
  have eT : (T.filter q).length = (J.filter q).length + ((T.filter fun x => !decide (x ∈ J)).filter q).length := by
    rw [len_split (T.filter q) (fun x => decide (x ∈ J)), ← (pJ.filter q).length_eq, List.filter_filter, List.filter_filter, List.filter_filter, List.filter_filter]
    congr 1
    · congr 1; refine List.filter_congr fun x _ => ?_; rw [Bool.and_comm]
    · congr 1; refine List.filter_congr fun x _ => ?_; rw [Bool.and_comm]
  have hM : Ind p ts (J ++ (T.filter fun x => !decide (x ∈ J)).filter q) := by
    refine hT.sub hE ?_ fun x hx => ?_
    · refine List.nodup_append.mpr ⟨hJ.nd, (hT.nd.sublist List.filter_sublist).sublist List.filter_sublist, fun a ha b hb e => ?_⟩
      subst e
      have := (List.mem_filter.mp (List.mem_filter.mp hb).1).2
      simp [ha] at this
    · rcases List.mem_append.mp hx with h | h
      · exact hJT x h
      · exact (List.mem_filter.mp (List.mem_filter.mp h).1).1
  have le := hM.le hE i1 fun t ht => by
    rcases List.mem_append.mp ht with h | h
    · exact conn_at (by rw [k1]; exact List.mem_append_left _ h)
    · obtain ⟨h5, h6⟩ := List.mem_filter.mp h
      obtain ⟨h7, h8⟩ := List.mem_filter.mp h5
      refine c1 t (List.mem_filter.mpr ⟨?_, h6⟩)
      rcases hTs t h7 with h9 | h9
      · simp [h9] at h8
      · exact h9
  rw [List.length_append] at le
  omega
def gi (p : Nat) (ts : List (Int × Int)) (ins : List Int) : List Int → List Int → Option (List Int)
  | [], J => some J
  | t :: s, J => if nth (marksL p ts J) (tieAt ts t).1 = nth (marksL p ts J) (tieAt ts t).2 then (if t ∈ ins then none else gi p ts ins s J) else gi p ts ins s (J ++ [t])
theorem gi_app (ins : List Int) : ∀ (s r J : List Int), gi p ts ins (s ++ r) J = (gi p ts ins s J).bind (gi p ts ins r)
  | [], r, J => rfl
  | t :: s, r, J => by
    simp only [List.cons_append, gi]
    split
    · split
      · rfl
      · exact gi_app ins s r J
    · exact gi_app ins s r (J ++ [t])
theorem gi_out (hE : EndsOk p ts) (ins : List Int) : ∀ (s J : List Int), InT ts.length J → InT ts.length s → (∀ x ∈ s, x ∉ ins) → gi p ts ins s J = some (gr p ts s J)
  | [], J, _, _, _ => rfl
  | t :: s, J, hJ, hs, h => by
    have ht := hs t (List.mem_cons_self ..)
    have hs' : InT ts.length s := fun x hx => hs x (List.mem_cons_of_mem _ hx)
    have h' : ∀ x ∈ s, x ∉ ins := fun x hx => h x (List.mem_cons_of_mem _ hx)
    have e : (nth (marksL p ts J) (tieAt ts t).1 = nth (marksL p ts J) (tieAt ts t).2) ↔ (nth (marksM p ts (srt J)) (tieAt ts t).1 = nth (marksM p ts (srt J)) (tieAt ts t).2) := (testL hE hJ ht).trans (gr_test hE hJ ht).symm
    simp only [gi, gr]
    by_cases c : nth (marksL p ts J) (tieAt ts t).1 = nth (marksL p ts J) (tieAt ts t).2
    · rw [if_pos c, if_neg (h t (List.mem_cons_self ..)), if_pos (e.mp c)]
      exact gi_out hE ins s J hJ hs' h'
    · rw [if_neg c, if_neg fun z => c (e.mpr z)]
      exact gi_out hE ins s (J ++ [t]) (fun x hx => by
        rcases List.mem_append.mp hx with h | h
        · exact hJ x h
        · rw [List.mem_singleton.mp h]; exact ht) hs' h'
theorem ind_not {J : List Int} (hE : EndsOk p ts) {t : Int} (hJ : Ind p ts J) (ht : 0 ≤ t ∧ t < ts.length) (c : Conn (tiesAt ts J) (tieAt ts t).1 (tieAt ts t).2) : ¬ Ind p ts (J ++ [t]) := fun h => by
  have h1 := h.ct
  have h2 := hJ.ct
  have h3 := cnt_same (p := p) (es := tiesAt ts J) (t := tieAt ts t) (by rw [← tiesAt_snoc]; exact tiesAt_ok hE h.inn) c
  rw [tiesAt_snoc, h3] at h1
  simp at h1
  omega
theorem gi_in (hE : EndsOk p ts) (ins : List Int) : ∀ (s J : List Int), Ind p ts J → InT ts.length s → (∀ x ∈ s, x ∈ ins) → (gi p ts ins s J = some (J ++ s) ∧ Ind p ts (J ++ s)) ∨ (gi p ts ins s J = none ∧ ¬ Ind p ts (J ++ s))
  | [], J, hJ, _, _ => .inl ⟨by simp [gi], by simpa using hJ⟩
  | t :: s, J, hJ, hs, h => by
    have ht := hs t (List.mem_cons_self ..)
    have hs' : InT ts.length s := fun x hx => hs x (List.mem_cons_of_mem _ hx)
    have h' : ∀ x ∈ s, x ∈ ins := fun x hx => h x (List.mem_cons_of_mem _ hx)
    simp only [gi]
    have ea : J ++ t :: s = J ++ [t] ++ s := by simp
    by_cases c : nth (marksL p ts J) (tieAt ts t).1 = nth (marksL p ts J) (tieAt ts t).2
    · rw [if_pos c, if_pos (h t (List.mem_cons_self ..))]
      refine .inr ⟨rfl, fun z => ?_⟩
      have c' := (testL hE hJ.inn ht).mp c
      have z1 : Ind p ts (J ++ [t]) := z.sub hE (by
        have := z.nd
        rw [ea] at this
        exact (List.nodup_append.mp this).1) fun x hx => by rw [ea]; exact List.mem_append_left _ hx
      exact ind_not hE hJ ht c' z1
    · rw [if_neg c, ea]
      exact gi_in hE ins s (J ++ [t]) (hJ.snoc hE ht fun z => c ((testL hE hJ.inn ht).mpr z)) hs' h'
def grow (p : Nat) (ts : List (Int × Int)) (ins outs O : List Int) : Option (List Int) :=
  match gi p ts ins (ins ++ O.filter fun t => !decide (t ∈ ins) && !decide (t ∈ outs)) [] with
  | none => none
  | some J => if J.length + 1 < p then none else some (srt J)
def wth (p : Nat) (ts : List (Int × Int)) (ins outs : List Int) : List (List Int) := (trees p ts).filter fun T => ins.all (fun t => decide (t ∈ T)) && !outs.any (fun t => decide (t ∈ T))
theorem wth_mem (hp : 1 ≤ p) {ins outs T : List Int} : T ∈ wth p ts ins outs ↔ treeB p ts T = true ∧ (∀ t ∈ ins, t ∈ T) ∧ ∀ t ∈ outs, t ∉ T := by
  unfold wth
  rw [List.mem_filter, trees_mem hp]
  simp
theorem grow_ok (hp : 1 ≤ p) (hE : EndsOk p ts) {ins outs O : List Int} (hi : InT ts.length ins) (hn : ins.Nodup) (hO : O.Perm (iota ts.length)) (hd : ∀ x ∈ ins, x ∉ outs) :
    (grow p ts ins outs O = none ∧ wth p ts ins outs = []) ∨ ∃ J, Ind p ts ins ∧ J = gr p ts (O.filter fun t => !decide (t ∈ ins) && !decide (t ∈ outs)) ins ∧ grow p ts ins outs O = some (srt J) ∧ srt J ∈ wth p ts ins outs ∧ Ind p ts J := by
  have hOm : ∀ {x : Int}, x ∈ O ↔ 0 ≤ x ∧ x < ts.length := fun {x} => by rw [hO.mem_iff, iota_mem]
  have hs : InT ts.length (O.filter fun t => !decide (t ∈ ins) && !decide (t ∈ outs)) := fun x hx => hOm.mp (List.mem_filter.mp hx).1
  have nil : ∀ {l : List (List Int)}, (∀ a ∈ l, False) → l = [] := fun {l} h => List.eq_nil_iff_forall_not_mem.mpr h
  unfold grow
  rw [gi_app]
  rcases gi_in hE ins ins [] (ind_nil p ts) hi (fun _ h => h) with ⟨h1, h2⟩ | ⟨h1, h2⟩
  · simp only [List.nil_append] at h1 h2
    rw [h1]
    simp only [Option.bind_some]
    rw [gi_out hE ins _ ins hi hs (fun x hx => by have := (List.mem_filter.mp hx).2; simp at this; exact this.1)]
    obtain ⟨i1, ⟨K, k1, k2⟩, c1⟩ := gr_ok hE (O.filter fun t => !decide (t ∈ ins) && !decide (t ∈ outs)) ins h2 hs
    have hc := i1.ct
    have hcp := cnt_pos hp (tiesAt ts (gr p ts (O.filter fun t => !decide (t ∈ ins) && !decide (t ∈ outs)) ins))
    simp only
    by_cases c : (gr p ts (O.filter fun t => !decide (t ∈ ins) && !decide (t ∈ outs)) ins).length + 1 < p
    · left
      rw [if_pos c]
      refine ⟨rfl, nil fun T hT => ?_⟩
      obtain ⟨t1, t2, t3⟩ := (wth_mem hp).mp hT
      have hI := tree_ind t1 hp
      have := hI.le hE i1 fun t ht => by
        by_cases m : t ∈ ins
        · exact conn_at (by rw [k1]; exact List.mem_append_left _ m)
        · refine c1 t (List.mem_filter.mpr ⟨hOm.mpr (hI.inn t ht), ?_⟩)
          simp only [m, decide_false, Bool.not_false, Bool.true_and, Bool.not_eq_true', decide_eq_false_iff_not]
          exact fun z => t3 t z ht
      have := tree_len hp t1
      omega
    · right
      rw [if_neg c]
      refine ⟨_, h2, rfl, rfl, (wth_mem hp).mpr ⟨treeB_nat.mpr ⟨by rw [srt_len]; omega, srt_good i1.inn i1.nd, by rw [cnt_srt hE i1.inn]; omega⟩, fun t ht => srt_mem.mpr (by rw [k1]; exact List.mem_append_left _ ht), fun t ht z => ?_⟩, i1⟩
      have z := srt_mem.mp z
      rw [k1] at z
      rcases List.mem_append.mp z with z | z
      · exact hd t z ht
      · have := (List.mem_filter.mp (k2.subset z)).2
        simp [ht] at this
  · simp only [List.nil_append] at h2
    left
    rw [h1]
    refine ⟨rfl, nil fun T hT => ?_⟩
    obtain ⟨t1, t2, t3⟩ := (wth_mem hp).mp hT
    exact h2 ((tree_ind t1 hp).sub hE hn t2)
theorem wth_rise (ins outs : List Int) : Rise (wth p ts ins outs) := List.Pairwise.sublist List.filter_sublist (srtL_rise _)
theorem wth_nodup (ins outs : List Int) : (wth p ts ins outs).Nodup := (trees_nodup p ts).sublist List.filter_sublist
theorem first_of {L : List (List Int)} (hr : Rise L) (hn : L.Nodup) {R : List Int} (hR : R ∈ L) (h : ∀ T ∈ L, T ≠ R → HT.lexLt R T = true) : L.head? = some R := by
  match L, hR with
  | a :: L, hR =>
    by_cases e : a = R
    · rw [e]; rfl
    · exfalso
      have h1 := h a (List.mem_cons_self ..) e
      have h2 := (List.pairwise_cons.mp hr).1 R (by rcases List.mem_cons.mp hR with q | q; exact absurd q.symm e; exact q)
      rw [h1] at h2; cases h2
theorem least_law (hp : 1 ≤ p) (hE : EndsOk p ts) {ins outs : List Int} (hi : InT ts.length ins) (hn : ins.Nodup) (hd : ∀ x ∈ ins, x ∉ outs) : grow p ts ins outs (iota ts.length) = (wth p ts ins outs).head? := by
  rcases grow_ok hp hE hi hn (.refl _) hd with ⟨h1, h2⟩ | ⟨J, h0, h1, h2, h3, h4⟩
  · rw [h1, h2]; rfl
  · rw [h2]
    refine (first_of (wth_rise _ _) (wth_nodup _ _) h3 fun T hT ne => ?_).symm
    obtain ⟨t1, t2, t3⟩ := (wth_mem hp).mp hT
    have hI := tree_ind t1 hp
    obtain ⟨r1, _, _⟩ := (wth_mem hp).mp h3
    have l1 := tree_len hp t1
    have l2 := tree_len hp r1
    have hs : InT ts.length ((iota ts.length).filter fun t => !decide (t ∈ ins) && !decide (t ∈ outs)) := fun x hx => iota_mem.mp (List.mem_filter.mp hx).1
    refine gale_lex (good_iff.mp (treeB_nat.mp r1).2.1).2 (good_iff.mp (treeB_nat.mp t1).2.1).2 (by omega) (fun x => ?_) ne.symm
    rw [bel_perm (srt_perm J), h1]
    refine dom_q (s := (iota ts.length).filter fun t => !decide (t ∈ ins) && !decide (t ∈ outs)) hE h0 hs (q := fun y => decide (y < x)) (filter_split ((iota_rise _).filter _) x) hI t2 fun t ht => ?_
    by_cases m : t ∈ ins
    · exact .inl m
    · refine .inr (List.mem_filter.mpr ⟨iota_mem.mpr (hI.inn t ht), ?_⟩)
      simp only [m, decide_false, Bool.not_false, Bool.true_and, Bool.not_eq_true', decide_eq_false_iff_not]
      exact fun z => t3 t z ht
end
end Lw

namespace Lw
open DL L2 TL
def flt (ins : List Int) (k : Nat) (T : List Int) : List Int := T.filter fun x => decide (x < (k : Int)) && !decide (x ∈ ins)
section
variable {p : Nat} {ts : List (Int × Int)}
end
end Lw

namespace Lw
open DL L2 TL
def dO' (l : List Int) : D := .ol (l.map D.int)
end Lw

namespace Lw
open DL L2 TL
theorem fO (T : List (List Int)) : frzs (T.map dO') = T.map dR ∧ nods (T.map dO') = true := by
  induction T with
  | nil => exact ⟨rfl, rfl⟩
  | cons a T ih => simp only [List.map_cons, frzs_cons, nods, nod, ih.1, ih.2]; exact ⟨by simp [dO', dR], by simp [dO']⟩
end Lw

noncomputable section
namespace Lw
open DL L2 TL
def dMp (M : List (Int × Int)) : D := .od (ddK (M.map fun x => (x.1, D.int x.2))) (ddV (M.map fun x => (x.1, D.int x.2)))
def bMp (M : List (Int × Int)) : D := .bd (ddK (M.map fun x => (x.1, D.int x.2))) (ddV (M.map fun x => (x.1, D.int x.2)))
theorem put_int (M : List (Int × Int)) (k v : Int) : putG (M.map fun x => (x.1, D.int x.2)) k (.int v) = (putG M k v).map fun x => (x.1, D.int x.2) := by
  unfold putG
  rw [List.any_map]
  have e : ((fun kv : Int × D => decide (kv.1 = k)) ∘ fun x : Int × Int => (x.1, D.int x.2)) = fun kv : Int × Int => decide (kv.1 = k) := rfl
  rw [e]
  split
  · rw [List.map_map, List.map_map]
    refine List.map_congr_left fun x _ => ?_
    by_cases q : x.1 = k <;> simp [q]
  · simp
theorem ddV_int (M : List (Int × Int)) : ddV (M.map fun x => (x.1, D.int x.2)) = (M.map fun x => x.2).map D.int := by
  unfold ddV
  rw [List.map_map, List.map_map]
  rfl
theorem valG_int (M : List (Int × Int)) (k : Int) : valG (M.map fun x => (x.1, D.int x.2)) k = (valG M k).map D.int := by
  unfold valG
  rw [List.find?_map]
  have e : ((fun kv : Int × D => decide (kv.1 = k)) ∘ fun x : Int × Int => (x.1, D.int x.2)) = fun kv : Int × Int => decide (kv.1 = k) := rfl
  rw [e]
  cases M.find? (fun kv => decide (kv.1 = k)) <;> rfl
theorem own_int (M : List (Int × Int)) : (ddV (M.map fun x => (x.1, D.int x.2))).all (fun d => !own1 d) = true := by
  rw [ddV_int, List.all_eq_true]
  intro d hd
  obtain ⟨i, _, rfl⟩ := List.mem_map.mp hd
  rfl
theorem dset_int {i : Nat} {fk fa : Env → Res D} {g : Env} {M : List (Int × Int)} {k v : Int} (h0 : g[i]? = some (dMp M)) (hk : fk g = .ok (.int k)) (ha : fa g = .ok (.int v)) (hl : M.length < lim) : sDSet i fk fa g = .nx (g.set i (dMp (putG M k v))) := by
  rw [sDSet_, ha, h0]
  have oi : own1 (D.int v) = false := rfl
  have kl : (ddK (M.map fun x => (x.1, D.int x.2))).length < lim := by unfold ddK; rw [List.length_map, List.length_map]; exact hl
  have kpi : kp (D.int v) = .ok (D.int v) := rfl
  simp only [dMp, Res.bind_ok, kpi, Res.st_ok, hk, opd_int]
  rw [if_pos ⟨own_int M, oi, kl⟩, putD_k, putD_d, put_int]
theorem opDG_int (M : List (Int × Int)) (k : Int) : opDG (bMp M) (.int k) = (valG M k).map D.int := by
  unfold bMp
  rw [opDG_dd, valG_int]
theorem brw_dMp (M : List (Int × Int)) : brw (dMp M) = bMp M := by
  unfold dMp bMp
  rw [brw_od, ddV_int]
  simp [-List.map_map]
theorem cDI_int (M : List (Int × Int)) (k : Int) : cDI (.int k) (bMp M) = some (M.any fun kv => decide (kv.1 = k)) := by
  unfold bMp
  rw [cDI_dd, List.any_map]
  rfl
theorem valG_putI (k j v : Int) (M : List (Int × Int)) : valG (putG M k v) j = if j = k then some v else valG M j := by
  unfold putG
  split
  · rename_i h
    induction M with
    | nil => simp at h
    | cons a M ih =>
      unfold valG at ih ⊢
      rw [List.map_cons]
      by_cases c : a.1 = k
      · rw [if_pos c]
        by_cases d : j = k
        · rw [if_pos d, List.find?_cons_of_pos (by simp [c, d])]; rfl
        · rw [if_neg d, List.find?_cons_of_neg (by simp; omega), List.find?_cons_of_neg (by simp; omega)]
          clear ih h
          induction M with
          | nil => rfl
          | cons b M ih2 =>
            rw [List.map_cons]
            by_cases e : b.1 = j
            · rw [if_neg (by omega), List.find?_cons_of_pos (by simp [e]), List.find?_cons_of_pos (by simp [e])]
            · by_cases f : b.1 = k
              · rw [if_pos f, List.find?_cons_of_neg (by simp [e]), List.find?_cons_of_neg (by simp [e])]; exact ih2
              · rw [if_neg f, List.find?_cons_of_neg (by simp [e]), List.find?_cons_of_neg (by simp [e])]; exact ih2
      · rw [if_neg c]
        rw [List.any_cons, decide_eq_false c, Bool.false_or] at h
        have ih := ih h
        by_cases d : a.1 = j
        · rw [List.find?_cons_of_pos (by simp [d]), List.find?_cons_of_pos (by simp [d]), if_neg (by omega)]
        · rw [List.find?_cons_of_neg (by simp [d]), List.find?_cons_of_neg (by simp [d])]; exact ih
  · rename_i h
    unfold valG
    rw [List.find?_append]
    have hn : ∀ x ∈ M, x.1 ≠ k := fun x hx e => h (List.any_eq_true.mpr ⟨x, hx, by simp [e]⟩)
    by_cases d : j = k
    · rw [if_pos d]
      have : M.find? (fun kv => decide (kv.1 = j)) = none := List.find?_eq_none.mpr fun x hx => by have := hn x hx; simp; omega
      rw [this]
      simp [d]
    · rw [if_neg d]
      cases q : M.find? (fun kv => decide (kv.1 = j)) with
      | none => rw [Option.none_or, List.find?_cons_of_neg (by simp; omega)]; rfl
      | some y => rfl
theorem putI_len (M : List (Int × Int)) (k v : Int) : (putG M k v).length ≤ M.length + 1 := by
  unfold putG
  split
  · rw [List.length_map]; omega
  · rw [List.length_append]; simp
theorem any_keys (M : List (Int × Int)) (k : Int) : (M.any fun kv => decide (kv.1 = k)) = decide (k ∈ M.map fun x => x.1) := by
  rw [Bool.eq_iff_iff, List.any_eq_true, decide_eq_true_eq, List.mem_map]
  simp
theorem runF_rt {f : Env → Out} {n : Nat} {ds : List D} {d : D} (h : f (ds ++ List.replicate (n - ds.length) .un) = .rt d) : runF f n ds = .ok d := by unfold runF; rw [h]
theorem runF_nx {f : Env → Out} {n : Nat} {ds : List D} {g : Env} (h : f (ds ++ List.replicate (n - ds.length) .un) = .nx g) : runF f n ds = .ok .non := by unfold runF; rw [h]
theorem runF_xc {f : Env → Out} {n : Nat} {ds : List D} {c : Nat} {g : Env} (h : f (ds ++ List.replicate (n - ds.length) .un) = .xc c g) : runF f n ds = .xc c := by unfold runF; rw [h]
def xr1 (d : Int) : Int := if d % 2 = 0 then d + 1 else d - 1
def dbRow (R : List Int) : List Int → List (Int × Int) → List (Int × Int)
  | [], M => M
  | k :: l, M => dbRow R l (putG M (xr1 (nth R k)) (nth R ((k + 1) % R.length)))
def dbM : List (List Int) → List (Int × Int) → List (Int × Int)
  | [], M => M
  | R :: T, M => dbM T (dbRow R (iota R.length) M)
theorem dbRow_len (R : List Int) : ∀ (l : List Int) (M : List (Int × Int)), (dbRow R l M).length ≤ M.length + l.length
  | [], M => by simp [dbRow]
  | k :: l, M => by
    have h1 := dbRow_len R l (putG M (xr1 (nth R k)) (nth R ((k + 1) % R.length)))
    have h2 := putI_len M (xr1 (nth R k)) (nth R ((k + 1) % R.length))
    unfold dbRow
    rw [List.length_cons]
    omega
theorem behind_l1 {R : List Int} {o : D} (ho : LT o R) (hR : R.length ≤ 100) (hp : ∀ d ∈ R, 0 ≤ d) (x0 : D) : ∀ (l : List Int) (M : List (Int × Int)) (y3 y4 : D), (∀ k ∈ l, 0 ≤ k ∧ k < (R.length : Int)) → M.length + l.length ≤ 5000 →
    ∃ z3 z4, forL (gtT 2 (gtCons (gtN 3) (gtCons (gtN 4) (gtNil)))) f_darts_behind_l1 (l.map fun i => (.tp [.int i, .int (nth R i)] : D)) [x0, dMp M, o, y3, y4] = .nx [x0, dMp (dbRow R l M), o, z3, z4]
  | [], M, y3, y4, _, _ => ⟨y3, y4, by simp [forL, dbRow]⟩
  | k :: l, M, y3, y4, hl, hM => by
    obtain ⟨k0, k1⟩ := hl k (List.mem_cons_self ..)
    rw [List.length_cons] at hM
    have pl := putI_len M (xr1 (nth R k)) (nth R ((k + 1) % R.length))
    obtain ⟨z3, z4, ih⟩ := behind_l1 ho hR hp x0 l (putG M (xr1 (nth R k)) (nth R ((k + 1) % R.length))) (.int k) (.int (nth R k)) (fun j hj => hl j (List.mem_cons_of_mem _ hj)) (by omega)
    refine ⟨z3, z4, ?_⟩
    rw [show dbRow R (k :: l) M = dbRow R l (putG M (xr1 (nth R k)) (nth R ((k + 1) % R.length))) from rfl, ← ih, List.map_cons]
    refine forL_step (g1 := [x0, dMp M, o, .int k, .int (nth R k)]) (by simp) ?_
    have hl0 : (0 : Int) < R.length := by omega
    have q0 := Int.emod_nonneg (k + 1) (b := (R.length : Int)) (by omega)
    have q1 := Int.emod_lt_of_pos (k + 1) hl0
    have at1 := nth_at (m := R) q0 q1
    have hd := hp _ (nth_mem (m := R) k0 k1)
    have ox : opXor (.int (nth R k)) (.int 1) = some (.int (xr1 (nth R k))) := opXor_int hd
    unfold f_darts_behind_l1
    refine dset_int (M := M) rfl ?_ ?_ (by rw [lim_eq]; omega)
    · simp [ox]
    · generalize hRl : (R.length : Int) = rl at *
      rcases ho with rfl | rfl <;> simp [hRl, hl0, at1]
def TTb (h : List Int → D) (o : D) (T : List (List Int)) : Prop := (∀ R, LT (h R) R) ∧ (o = .ls (T.map h) ∨ o = .tp (T.map h))
theorem enm_LT {o : D} {R : List Int} (ho : LT o R) (x0 x1 x3 x4 : D) : iEnm3 (aCons (eVar 2) (aNil)) [x0, x1, o, x3, x4] = .ok ((iota R.length).map fun i => (.tp [.int i, .int (nth R i)] : D)) := by
  have en := enm_ints R
  rcases ho with rfl | rfl <;> simp [en, -List.map_map]
theorem behind_for {h : List Int → D} (hh : ∀ R, LT (h R) R) : ∀ (T : List (List Int)) (M : List (Int × Int)) (x0 y2 y3 y4 : D), (∀ R ∈ T, R.length ≤ 100 ∧ ∀ d ∈ R, 0 ≤ d) → M.length + T.flatten.length ≤ 5000 →
    ∃ z2 z3 z4, forL (gtN 2) f_darts_behind_l2 (T.map h) [x0, dMp M, y2, y3, y4] = .nx [x0, dMp (dbM T M), z2, z3, z4]
  | [], M, x0, y2, y3, y4, _, _ => ⟨y2, y3, y4, by simp [forL, dbM]⟩
  | R :: T, M, x0, y2, y3, y4, k, hM => by
    obtain ⟨h1, h2⟩ := k R (List.mem_cons_self ..)
    rw [List.flatten_cons, List.length_append] at hM
    obtain ⟨w3, w4, e⟩ := behind_l1 (hh R) h1 h2 x0 (iota R.length) M y3 y4 (fun k hk => iota_mem.mp hk) (by rw [iota_len]; omega)
    have bl := dbRow_len R (iota R.length) M
    rw [iota_len] at bl
    obtain ⟨z2, z3, z4, ih⟩ := behind_for hh T (dbRow R (iota R.length) M) x0 (h R) w3 w4 (fun Q hQ => k Q (List.mem_cons_of_mem _ hQ)) (by omega)
    refine ⟨z2, z3, z4, ?_⟩
    rw [show dbM (R :: T) M = dbM T (dbRow R (iota R.length) M) from rfl, ← ih, List.map_cons]
    refine forL_step (g1 := [x0, dMp M, h R, y3, y4]) rfl ?_
    unfold f_darts_behind_l2
    rw [sFor_, enm_LT (hh R)]
    exact e
theorem iSeq_TT {h : List Int → D} {o : D} {T : List (List Int)} (ho : TTb h o T) {i : Nat} {g : Env} (e : gv g i = .ok o) : iSeq (eVar i) g = .ok (T.map h) := by
  rw [iSeq_, eVar_, e]
  rcases ho.2 with rfl | rfl <;> simp
theorem behind_ok {h : List Int → D} {o : D} {T : List (List Int)} (ho : TTb h o T) (k : ∀ R ∈ T, R.length ≤ 100 ∧ ∀ d ∈ R, 0 ≤ d) (hl : T.flatten.length ≤ 5000) : g_darts_behind [o] = .ok (dMp (dbM T [])) := by
  obtain ⟨z2, z3, z4, e⟩ := behind_for ho.1 T [] o .un .un .un k (by simpa using hl)
  have e0 : dMp [] = .od [] [] := rfl
  rw [e0] at e
  have nb : kp (dMp (dbM T [])) = .ok (dMp (dbM T [])) := rfl
  have sq : iSeq (eVar 0) [o, .od [] [], .un, .un, .un] = .ok (T.map h) := iSeq_TT ho (by rcases ho.2 with rfl | rfl <;> rfl)
  have e1 : f_darts_behind [o, .un, .un, .un, .un] = .rt (dMp (dbM T [])) := by
    unfold f_darts_behind
    refine seq_to (g1 := [o, .od [] [], .un, .un, .un]) (by simp) ?_
    refine seq_to (g1 := [o, dMp (dbM T []), z2, z3, z4]) (by rw [sFor_, sq]; exact e) ?_
    rfl
  exact runF_rt e1
def wlk (f : Int → Int) : Nat → List Int → Int → List Int
  | 0, _, _ => []
  | n + 1, v, a => if a ∈ v then [] else a :: wlk f n (v ++ [a]) (f a)
def wk (K : Nat) (f : Int → Int) (v : List Int) (a : Int) : List Int := wlk f (K - v.length) v a
theorem wk_in {K : Nat} {f : Int → Int} {v : List Int} {a : Int} (h : a ∈ v) : wk K f v a = [] := by
  unfold wk
  cases K - v.length with
  | zero => rfl
  | succ n => unfold wlk; rw [if_pos h]
theorem wk_out {K : Nat} {f : Int → Int} {v : List Int} {a : Int} (h : a ∉ v) (hv : v.length < K) : wk K f v a = a :: wk K f (v ++ [a]) (f a) := by
  unfold wk
  obtain ⟨n, e⟩ : ∃ n, K - v.length = n + 1 := ⟨K - v.length - 1, by omega⟩
  rw [e, List.length_append, List.length_singleton, show K - (v.length + 1) = n by omega]
  rw [show wlk f (n + 1) v a = if a ∈ v then [] else a :: wlk f n (v ++ [a]) (f a) from rfl, if_neg h]
def rnd (K : Nat) (f : Int → Int) : List Int → List Int → List (List Int)
  | [], _ => []
  | d :: ds, v => if d ∈ v then rnd K f ds v else wk K f v d :: rnd K f ds (v ++ wk K f v d)
def dMet (v : List Int) : D := .od (ddK (v.map fun x => (x, D.bl true))) (ddV (v.map fun x => (x, D.bl true)))
def bMet (v : List Int) : D := .bd (ddK (v.map fun x => (x, D.bl true))) (ddV (v.map fun x => (x, D.bl true)))
theorem ddV_met (v : List Int) : ddV (v.map fun x => (x, D.bl true)) = (v.map fun _ => true).map D.bl := by
  unfold ddV
  rw [List.map_map, List.map_map]
  rfl
theorem brw_met (v : List Int) : brw (dMet v) = bMet v := by
  unfold dMet bMet
  rw [brw_od, ddV_met]
  obtain ⟨d1, _⟩ := dulls dull_bl (v.map fun _ => true)
  rw [d1]
theorem cDN_met (v : List Int) (k : Int) : cDN (.int k) (bMet v) = some (!decide (k ∈ v)) := by
  have : cDI (.int k) (bMet v) = some (decide (k ∈ v)) := by
    unfold bMet
    rw [cDI_dd, List.any_map]
    congr 1
    rw [Bool.eq_iff_iff, List.any_eq_true, decide_eq_true_eq]
    simp
  unfold cDN
  rw [this]
  rfl
theorem dset_met {i : Nat} {fk fa : Env → Res D} {g : Env} {v : List Int} {k : Int} (h0 : g[i]? = some (dMet v)) (hk : fk g = .ok (.int k)) (ha : fa g = .ok (.bl true)) (hn : k ∉ v) (hl : v.length < lim) : sDSet i fk fa g = .nx (g.set i (dMet (v ++ [k]))) := by
  rw [sDSet_, ha, h0]
  have oi : own1 (D.bl true) = false := rfl
  have kl : (ddK (v.map fun x => (x, D.bl true))).length < lim := by unfold ddK; rw [List.length_map, List.length_map]; exact hl
  have ow : (ddV (v.map fun x => (x, D.bl true))).all (fun d => !own1 d) = true := by
    rw [ddV_met, List.all_eq_true]
    intro d hd
    obtain ⟨i, _, rfl⟩ := List.mem_map.mp hd
    rfl
  have pt : putG (v.map fun x => (x, D.bl true)) k (.bl true) = (v ++ [k]).map fun x => (x, D.bl true) := by
    unfold putG
    rw [if_neg]
    · simp
    · rw [List.any_map, List.any_eq_true]
      rintro ⟨x, hx, e⟩
      have e : x = k := by simpa using e
      exact hn (e ▸ hx)
  have kpi : kp (D.bl true) = .ok (D.bl true) := rfl
  simp only [dMet, Res.bind_ok, kpi, Res.st_ok, hk, opd_int]
  rw [if_pos ⟨ow, oi, kl⟩, putD_k, putD_d, pt]
structure Nx (K : Nat) (M : List (Int × Int)) : Prop where
  to : ∀ d : Int, 0 ≤ d → d < K → ∃ v, valG M d = some v ∧ 0 ≤ v ∧ v < K
def nxD (M : List (Int × Int)) (d : Int) : Int := (valG M d).getD 0
theorem Nx.at {K : Nat} {M : List (Int × Int)} (h : Nx K M) {d : Int} (d0 : 0 ≤ d) (d1 : d < K) : valG M d = some (nxD M d) ∧ 0 ≤ nxD M d ∧ nxD M d < K := by
  obtain ⟨v, e, v0, v1⟩ := h.to d d0 d1
  unfold nxD
  rw [e]
  exact ⟨rfl, v0, v1⟩
theorem sub_len {K : Nat} {v : List Int} (nd : v.Nodup) (hv : ∀ x ∈ v, 0 ≤ x ∧ x < (K : Int)) : v.length ≤ K := by
  have := nodup_le (m := iota K) nd fun x hx => iota_mem.mpr (hv x hx)
  rwa [iota_len] at this
theorem ro_while {K : Nat} {M : List (Int × Int)} (hN : Nx K M) (hK : K ≤ 1000) (x0 x1 x4 x5 : D) : ∀ (n m : Nat) (v row : List Int) (a : Int), v.Nodup → (∀ x ∈ v, 0 ≤ x ∧ x < (K : Int)) → 0 ≤ a → a < K → K + 1 - v.length ≤ n → n < m → row.length + n ≤ 5000 →
    ∃ z7, whileN f_rounds_of_l1t f_rounds_of_l1 m [x0, x1, dMp M, dMet v, x4, x5, .ol (row.map D.int), .int a] = .nx [x0, x1, dMp M, dMet (v ++ wk (K + 1) (nxD M) v a), x4, x5, .ol ((row ++ wk (K + 1) (nxD M) v a).map D.int), z7]
  | 0, m, v, row, a, nd, hv, _, _, hn, _, _ => by
    have := sub_len nd hv
    omega
  | n + 1, 0, v, row, a, nd, hv, a0, a1, hn, hm, hr => by omega
  | n + 1, m + 1, v, row, a, nd, hv, a0, a1, hn, hm, hr => by
    have sl := sub_len nd hv
    have ct : f_rounds_of_l1t [x0, x1, dMp M, dMet v, x4, x5, .ol (row.map D.int), .int a] = .ok (!decide (a ∈ v)) := by
      have e : gv [x0, x1, dMp M, dMet v, x4, x5, .ol (row.map D.int), .int a] 3 = .ok (bMet v) := by
        rw [← brw_met]; rfl
      have c := cDN_met v a
      have ob : opd (bMet v) = bMet v := rfl
      generalize bMet v = bv at *
      generalize dMet v = dv at *
      generalize dMp M = dm at *
      unfold f_rounds_of_l1t
      rw [tC2_, eVar_, eVar_, e]
      simp [ob, c]
    rw [whileN_succ, ct, Res.st_ok]
    by_cases c : a ∈ v
    · refine ⟨.int a, ?_⟩
      rw [wk_in c, List.append_nil, List.append_nil]
      simp [c]
    · obtain ⟨e1, n0, n1⟩ := hN.at a0 a1
      have nd' : (v ++ [a]).Nodup := by
        rw [List.nodup_append]
        exact ⟨nd, by simp, fun x hx y hy e => by rw [List.mem_singleton.mp hy] at e; exact c (e ▸ hx)⟩
      have hv' : ∀ x ∈ v ++ [a], 0 ≤ x ∧ x < (K : Int) := fun x hx => by
        rcases List.mem_append.mp hx with z | z
        · exact hv x z
        · rw [List.mem_singleton.mp z]; exact ⟨a0, a1⟩
      obtain ⟨z7, ih⟩ := ro_while hN hK x0 x1 x4 x5 n m (v ++ [a]) (row ++ [a]) (nxD M a) nd' hv' n0 n1 (by rw [List.length_append, List.length_singleton]; omega) (by omega) (by rw [List.length_append, List.length_singleton]; omega)
      refine ⟨z7, ?_⟩
      have w := wk_out (K := K + 1) (f := nxD M) c (by omega)
      rw [w]
      have b1 : sDSet 3 (eVar 7) (eC (.bl true)) [x0, x1, dMp M, dMet v, x4, x5, .ol (row.map D.int), .int a] = .nx [x0, x1, dMp M, dMet (v ++ [a]), x4, x5, .ol (row.map D.int), .int a] := dset_met (v := v) rfl (by simp) (by simp) c (by rw [lim_eq]; omega)
      have b2 : sApp 6 (eVar 7) [x0, x1, dMp M, dMet (v ++ [a]), x4, x5, .ol (row.map D.int), .int a] = .nx [x0, x1, dMp M, dMet (v ++ [a]), x4, x5, .ol ((row ++ [a]).map D.int), .int a] := by
        have hl : row.length < lim := by rw [lim_eq]; omega
        generalize dMet (v ++ [a]) = dv
        generalize dMp M = dm
        simp [hl]
      have b3 : sAsgF 7 (eBin opDG (eVar 2) (eVar 7)) [x0, x1, dMp M, dMet (v ++ [a]), x4, x5, .ol ((row ++ [a]).map D.int), .int a] = .nx [x0, x1, dMp M, dMet (v ++ [a]), x4, x5, .ol ((row ++ [a]).map D.int), .int (nxD M a)] := by
        have e : gv [x0, x1, dMp M, dMet (v ++ [a]), x4, x5, .ol ((row ++ [a]).map D.int), .int a] 2 = .ok (bMp M) := by
          rw [← brw_dMp]; rfl
        have og := opDG_int M a
        rw [e1] at og
        have ob : opd (bMp M) = bMp M := rfl
        generalize bMp M = bm at *
        generalize dMet (v ++ [a]) = dv at *
        generalize dMp M = dm at *
        rw [sAsgF_, eBin_, eVar_, eVar_, e]
        simp [ob, og]
      have body : f_rounds_of_l1 [x0, x1, dMp M, dMet v, x4, x5, .ol (row.map D.int), .int a] = .nx [x0, x1, dMp M, dMet (v ++ [a]), x4, x5, .ol ((row ++ [a]).map D.int), .int (nxD M a)] := seq_to b1 (seq_to b2 b3)
      rw [decide_eq_false c, Bool.not_false, if_pos rfl, body]
      show whileN f_rounds_of_l1t f_rounds_of_l1 m _ = _
      rw [ih]
      simp
end Lw
end

noncomputable section
namespace Mp
def Pth (f : Int → Int) : Int → List Int → Prop
  | _, [] => True
  | a, b :: l => f a = b ∧ Pth f b l
variable {f g : Int → Int} {a b x y z : Int} {l m c c' X Y : List Int} {S : Int → Prop} {C C' : List (List Int)}
theorem lastD_mem : ∀ (l : List Int) (a : Int), l.getLastD a ∈ a :: l
  | [], a => by simp
  | b :: l, a => by rw [List.getLastD_cons]; exact List.mem_cons_of_mem _ (lastD_mem l b)
theorem pth_app : ∀ {l : List Int} {a : Int}, Pth f a (l ++ m) ↔ Pth f a l ∧ Pth f (l.getLastD a) m
  | [], a => by simp [Pth]
  | b :: l, a => by simp only [List.cons_append, Pth, pth_app (l := l), List.getLastD_cons, and_assoc]
theorem pth_congr : ∀ {l : List Int} {a : Int}, (∀ x ∈ (a :: l).dropLast, f x = g x) → Pth f a l → Pth g a l
  | [], _, _, _ => trivial
  | b :: l, a, h, k => ⟨(h a (by simp)).symm.trans k.1, pth_congr (fun x hx => h x (by rw [List.dropLast_cons₂]; exact List.mem_cons_of_mem _ hx)) k.2⟩
def Cyc (f : Int → Int) : List Int → Prop
  | [] => False
  | a :: l => Pth f a (l ++ [a])
theorem Cyc.ne (h : Cyc f c) : c ≠ [] := fun e => by subst e; exact h
theorem cyc_rot (h : Cyc f (X ++ Y)) : Cyc f (Y ++ X) := by
  cases X with
  | nil => simpa using h
  | cons x X =>
    cases Y with
    | nil => simpa using h
    | cons y Y =>
      have h : Pth f x ((X ++ y :: Y) ++ [x]) := h
      rw [List.append_assoc, pth_app] at h
      obtain ⟨h1, h2, h3⟩ := h
      show Pth f y ((Y ++ x :: X) ++ [y])
      rw [show (Y ++ x :: X) ++ [y] = (Y ++ [x]) ++ (X ++ [y]) by simp, pth_app]
      refine ⟨h3, ?_⟩
      have : (Y ++ [x]).getLastD y = x := by simp
      rw [this, pth_app]
      exact ⟨h1, h2, trivial⟩
theorem cyc_at (h : Cyc f c) (hx : x ∈ c) : ∃ X Y, c = X ++ x :: Y ∧ Cyc f (x :: (Y ++ X)) := by
  obtain ⟨X, Y, rfl⟩ := List.append_of_mem hx
  exact ⟨X, Y, rfl, by have := cyc_rot h; simpa using this⟩
theorem Cyc.to (h : Cyc f c) (hx : x ∈ c) : f x ∈ c := by
  obtain ⟨X, Y, rfl, hr⟩ := cyc_at h hx
  have h : Pth f x ((Y ++ X) ++ [x]) := hr
  cases e : Y ++ X with
  | nil =>
    rw [e] at h
    rw [h.1]; exact hx
  | cons y W =>
    rw [e] at h
    have : y ∈ Y ++ X := by rw [e]; simp
    rw [h.1]
    rcases List.mem_append.mp this with q | q <;> simp [q]
theorem Cyc.from (h : Cyc f c) (hx : x ∈ c) : ∃ y ∈ c, f y = x := by
  obtain ⟨X, Y, rfl, hr⟩ := cyc_at h hx
  have h : Pth f x ((Y ++ X) ++ [x]) := hr
  rw [pth_app] at h
  refine ⟨(Y ++ X).getLastD x, ?_, h.2.1⟩
  have := lastD_mem (Y ++ X) x
  generalize (Y ++ X).getLastD x = z at *
  rcases List.mem_cons.mp this with q | q
  · rw [q]; simp
  · rcases List.mem_append.mp q with q | q <;> simp [q]
theorem pth_all {P : Int → Prop} (hP : ∀ x, P x → P (f x)) : ∀ {l : List Int} {a : Int}, Pth f a l → P a → ∀ y ∈ l, P y
  | [], _, _, _, _, h => nomatch h
  | b :: l, a, h, ha, y, hy => by
    have hb : P b := h.1 ▸ hP a ha
    rcases List.mem_cons.mp hy with rfl | hy
    · exact hb
    · exact pth_all hP h.2 hb y hy
theorem Cyc.all {P : Int → Prop} (hP : ∀ x, P x → P (f x)) (h : Cyc f c) (hx : x ∈ c) (px : P x) : ∀ y ∈ c, P y := by
  obtain ⟨X, Y, rfl, hr⟩ := cyc_at h hx
  have h : Pth f x ((Y ++ X) ++ [x]) := hr
  have := pth_all hP h px
  intro y hy
  refine this y ?_
  rcases List.mem_append.mp hy with q | q
  · simp [q]
  · rcases List.mem_cons.mp q with q | q <;> simp [q]
theorem Cyc.sub (h : Cyc f c) (h' : Cyc f c') (hx : x ∈ c) (hx' : x ∈ c') : ∀ y ∈ c, y ∈ c' :=
  h.all (P := fun y => y ∈ c') (fun _ q => h'.to q) hx hx'
theorem pth_pre : ∀ {l : List Int} {a : Int}, Pth f a (l ++ [z]) → x ∈ a :: l → f x = z → z ∉ l → x = l.getLastD a
  | [], a, _, hx, _, _ => by simpa using hx
  | b :: l, a, h, hx, e, hz => by
    rw [List.getLastD_cons]
    rcases List.mem_cons.mp hx with rfl | hx
    · exact absurd (h.1.symm.trans e) fun q => hz (by simp [q])
    · exact pth_pre h.2 hx e fun q => hz (List.mem_cons_of_mem _ q)
theorem Cyc.inj (h : Cyc f c) (nd : c.Nodup) (hx : x ∈ c) (hy : y ∈ c) (e : f x = f y) : x = y := by
  obtain ⟨X, Y, e0, hr⟩ := cyc_at h (h.to hx)
  rw [e0] at nd hx hy
  have h : Pth f (f x) ((Y ++ X) ++ [f x]) := hr
  have nz : f x ∉ Y ++ X := by
    rw [List.nodup_append] at nd
    obtain ⟨n1, n2, n3⟩ := nd
    rw [List.nodup_cons] at n2
    intro q
    rcases List.mem_append.mp q with q | q
    · exact n2.1 q
    · exact n3 _ q _ (List.mem_cons_self ..) rfl
  have mm : ∀ {w}, w ∈ X ++ f x :: Y → w ∈ f x :: (Y ++ X) := fun {w} q => by
    rcases List.mem_append.mp q with q | q
    · simp [q]
    · rcases List.mem_cons.mp q with q | q <;> simp [q]
  exact (pth_pre h (mm hx) rfl nz).trans (pth_pre h (mm hy) e.symm nz).symm
structure Dec (f : Int → Int) (S : Int → Prop) (C : List (List Int)) : Prop where
  cyc : ∀ c ∈ C, Cyc f c
  nd : C.flatten.Nodup
  mem : ∀ d, d ∈ C.flatten ↔ S d
theorem Dec.of (h : Dec f S C) (hx : S x) : ∃ c ∈ C, x ∈ c := by
  obtain ⟨c, h1, h2⟩ := List.mem_flatten.mp ((h.mem x).mpr hx)
  exact ⟨c, h1, h2⟩
theorem Dec.in (h : Dec f S C) (hc : c ∈ C) (hx : x ∈ c) : S x := (h.mem x).mp (List.mem_flatten.mpr ⟨c, hc, hx⟩)
theorem Dec.to (h : Dec f S C) (hx : S x) : S (f x) := by
  obtain ⟨c, h1, h2⟩ := h.of hx
  exact h.in h1 ((h.cyc c h1).to h2)
theorem Dec.from (h : Dec f S C) (hx : S x) : ∃ y, S y ∧ f y = x := by
  obtain ⟨c, h1, h2⟩ := h.of hx
  obtain ⟨y, k1, k2⟩ := (h.cyc c h1).from h2
  exact ⟨y, h.in h1 k1, k2⟩
theorem nd_mem {C : List (List Int)} (nd : C.flatten.Nodup) (hc : c ∈ C) : c.Nodup := by
  obtain ⟨A, B, rfl⟩ := List.append_of_mem hc
  rw [List.flatten_append, List.flatten_cons, List.nodup_append] at nd
  rw [List.nodup_append] at nd
  exact nd.2.1.1
theorem Dec.inj (h : Dec f S C) (hx : S x) (hy : S y) (e : f x = f y) : x = y := by
  obtain ⟨c, h1, h2⟩ := h.of hx
  obtain ⟨c', k1, k2⟩ := h.of hy
  have q : f x ∈ c := (h.cyc c h1).to h2
  have q' : f x ∈ c' := e ▸ (h.cyc c' k1).to k2
  have s := (h.cyc c' k1).sub (h.cyc c h1) q' q
  exact (h.cyc c h1).inj (nd_mem h.nd h1) h2 (s y k2) e
theorem Dec.cut {A B : List (List Int)} (h : Dec f S (A ++ c :: B)) : Dec f (fun d => S d ∧ d ∉ c) (A ++ B) := by
  have nd := h.nd
  rw [List.flatten_append, List.flatten_cons] at nd
  have p : (A.flatten ++ (c ++ B.flatten)).Perm (c ++ (A.flatten ++ B.flatten)) := by
    rw [← List.append_assoc, ← List.append_assoc]
    exact List.Perm.append_right _ List.perm_append_comm
  have nd2 := p.nodup_iff.mp nd
  rw [List.nodup_append] at nd2
  obtain ⟨n1, n2, n3⟩ := nd2
  refine ⟨fun d hd => h.cyc d ?_, by rw [List.flatten_append]; exact n2, fun d => ?_⟩
  · rcases List.mem_append.mp hd with q | q <;> simp [q]
  · have hm := h.mem d
    rw [List.flatten_append, List.flatten_cons] at hm
    rw [List.flatten_append]
    constructor
    · intro q
      refine ⟨hm.mp ?_, fun z => n3 _ z _ q rfl⟩
      rcases List.mem_append.mp q with q | q
      · exact List.mem_append_left _ q
      · exact List.mem_append_right _ (List.mem_append_right _ q)
    · rintro ⟨q1, q2⟩
      rcases List.mem_append.mp (hm.mpr q1) with q | q
      · exact List.mem_append_left _ q
      · rcases List.mem_append.mp q with q | q
        · exact absurd q q2
        · exact List.mem_append_right _ q
theorem Dec.congr {S' : Int → Prop} (h : Dec f S C) (e : ∀ d, S d ↔ S' d) : Dec f S' C := ⟨h.cyc, h.nd, fun d => (h.mem d).trans (e d)⟩
theorem Dec.len : ∀ {C C' : List (List Int)} {S : Int → Prop}, Dec f S C → Dec f S C' → C.length = C'.length
  | [], C', S, h, h' => by
    cases C' with
    | nil => rfl
    | cons c C' =>
      have ne := (h'.cyc c (by simp)).ne
      obtain ⟨x, hx⟩ := List.exists_mem_of_ne_nil c ne
      have := (h.mem x).mpr (h'.in (by simp) hx)
      simp at this
  | c :: C, C', S, h, h' => by
    obtain ⟨x, hx⟩ := List.exists_mem_of_ne_nil c (h.cyc c (by simp)).ne
    obtain ⟨c', k1, k2⟩ := h'.of (h.in (by simp) hx)
    obtain ⟨A, B, rfl⟩ := List.append_of_mem k1
    have cc := h.cyc c (by simp)
    have cc' := h'.cyc c' k1
    have s1 := cc.sub cc' hx k2
    have s2 := cc'.sub cc k2 hx
    have d1 : Dec f (fun d => S d ∧ d ∉ c) C := (show Dec f S ([] ++ c :: C) from h).cut
    have d2 : Dec f (fun d => S d ∧ d ∉ c) (A ++ B) := h'.cut.congr fun d => ⟨fun q => ⟨q.1, fun z => q.2 (s1 d z)⟩, fun q => ⟨q.1, fun z => q.2 (s2 d z)⟩⟩
    have := Dec.len d1 d2
    simp only [List.length_cons, List.length_append] at this ⊢
    omega
theorem cyc_congr (h : Cyc f c) (e : ∀ x ∈ c, f x = g x) : Cyc g c := by
  cases c with
  | nil => exact h
  | cons a l => exact pth_congr (fun x hx => e x (by rw [← List.cons_append, List.dropLast_concat] at hx; exact hx)) h
theorem pth_pre_flat {p : Int → List Int} : ∀ {l : List Int} {a : Int}, Pth f a l → (Pth g a (l.flatMap fun d => p d ++ [d]) ↔ ∀ x ∈ (a :: l).dropLast, Pth g x (p (f x) ++ [f x]))
  | [], a, _ => by simp [Pth]
  | b :: l, a, h => by
    have e : (p b ++ [b]).getLastD a = b := by simp
    rw [List.flatMap_cons, pth_app, e, pth_pre_flat h.2, List.dropLast_cons₂]
    constructor
    · rintro ⟨h1, h2⟩ x hx
      rcases List.mem_cons.mp hx with rfl | hx
      · rw [h.1]; exact h1
      · exact h2 x hx
    · intro k
      refine ⟨?_, fun x hx => k x (List.mem_cons_of_mem _ hx)⟩
      have := k a (List.mem_cons_self ..)
      rw [h.1] at this
      exact this
theorem cyc_put {p : Int → List Int} (h : Cyc f c) : Cyc g (c.flatMap fun d => p d ++ [d]) ↔ ∀ x ∈ c, Pth g x (p (f x) ++ [f x]) := by
  cases c with
  | nil => exact h.elim
  | cons a l =>
    have h : Pth f a (l ++ [a]) := h
    have k := pth_pre_flat (g := g) (p := p) h
    rw [← List.cons_append, List.dropLast_concat] at k
    rw [← k, List.flatMap_append, List.flatMap_cons]
    simp only [List.flatMap_cons, List.flatMap_nil, List.append_nil]
    constructor
    · intro q
      have q := cyc_rot (X := p a) (Y := [a] ++ l.flatMap fun d => p d ++ [d]) (by simpa using q)
      have q : Cyc g (a :: (l.flatMap (fun d => p d ++ [d]) ++ p a)) := by simpa using q
      have q : Pth g a ((l.flatMap (fun d => p d ++ [d]) ++ p a) ++ [a]) := q
      rw [List.append_assoc] at q; exact q
    · intro q
      have q : Cyc g (a :: (l.flatMap (fun d => p d ++ [d]) ++ p a)) := by
        show Pth g a ((l.flatMap (fun d => p d ++ [d]) ++ p a) ++ [a])
        rw [List.append_assoc]; exact q
      have q := cyc_rot (X := [a] ++ l.flatMap fun d => p d ++ [d]) (Y := p a) (by simpa using q)
      simpa using q
end Mp
end

noncomputable section
namespace Mp
variable {f g s s' r : Int → Int} {a b x y z one other : Int} {l m c c' X Y : List Int} {S : Int → Prop} {C C' : List (List Int)}
theorem ins_perm {q : List Int} : ∀ {L : List Int}, L.Nodup → one ∈ L → (L.flatMap fun d => (if d = one then q else []) ++ [d]).Perm (q ++ L)
  | [], _, h => nomatch h
  | d :: L, nd, h => by
    rw [List.nodup_cons] at nd
    rw [List.flatMap_cons]
    by_cases e : d = one
    · subst e
      have : (L.flatMap fun x => (if x = d then q else []) ++ [x]) = L := by
        have nm := nd.1
        clear nd h
        induction L with
        | nil => rfl
        | cons y L ih =>
          rw [List.flatMap_cons, ih (fun z => nm (List.mem_cons_of_mem _ z)), if_neg (fun z => nm (by rw [z]; simp))]
          rfl
      rw [this, if_pos rfl, List.append_assoc]
      rfl
    · rw [if_neg e]
      have h : one ∈ L := by
        rcases List.mem_cons.mp h with q | q
        · exact absurd q.symm e
        · exact q
      have ih := ins_perm (q := q) nd.2 h
      have : (([] ++ [d]) ++ (L.flatMap fun d => (if d = one then q else []) ++ [d])).Perm (d :: (q ++ L)) := ih.cons d
      exact this.trans List.perm_middle.symm
theorem map_flat (h : Int → List Int) : ∀ (C : List (List Int)), (C.map fun c => c.flatMap h).flatten = C.flatten.flatMap h
  | [] => rfl
  | c :: C => by rw [List.map_cons, List.flatten_cons, List.flatten_cons, List.flatMap_append, map_flat h C]
def with2 (S : Int → Prop) (a b : Int) : Int → Prop := fun d => d = a ∨ d = b ∨ S d
theorem dec_perm {L L' : List Int} (p : L.Perm (a :: b :: L')) (nd : L'.Nodup) (hm : ∀ d, d ∈ L' ↔ S d) (ha : ¬ S a) (hb : ¬ S b) (ab : a ≠ b) : L.Nodup ∧ ∀ d, d ∈ L ↔ with2 S a b d := by
  refine ⟨p.nodup_iff.mpr ?_, fun d => ?_⟩
  · rw [List.nodup_cons, List.nodup_cons]
    refine ⟨fun q => ?_, fun q => hb ((hm b).mp q), nd⟩
    rcases List.mem_cons.mp q with q | q
    · exact ab q
    · exact ha ((hm a).mp q)
  · rw [p.mem_iff, List.mem_cons, List.mem_cons, hm]
    exact Iff.rfl
theorem grow_fresh (h : Dec f S C) (hf : ∀ x, f x = s (r x)) (hg : ∀ x, g x = s' (r x)) (hr : ∀ x, S x → S (r x)) (ra : r a = b) (rb : r b = a) (ha : ¬ S a) (hb : ¬ S b) (ab : a ≠ b) (ho : S one)
    (h1 : ∀ x, S x → Pth s' x ((if s x = one then [a] else []) ++ [s x])) (h2 : ∃ x, S x ∧ s x = one) (h3 : s' b = b) : ∃ C', Dec g (with2 S a b) C' ∧ C'.length = C.length := by
  have ka : s' a = one := by
    obtain ⟨x, q1, q2⟩ := h2
    have := h1 x q1
    rw [q2, if_pos rfl] at this
    exact this.2.1
  have p := ins_perm (q := [a, b]) h.nd ((h.mem one).mpr ho)
  rw [← map_flat] at p
  obtain ⟨k1, k2⟩ := dec_perm p h.nd h.mem ha hb ab
  refine ⟨_, ⟨fun c hc => ?_, k1, k2⟩, by simp⟩
  obtain ⟨c0, hc0, rfl⟩ := List.mem_map.mp hc
  rw [cyc_put (h.cyc c0 hc0)]
  intro x hx
  have sx := h.in hc0 hx
  have e := h1 (r x) (hr x sx)
  rw [← hf] at e
  by_cases q : f x = one
  · rw [if_pos q] at e ⊢
    rw [q]
    refine ⟨(hg x).trans e.1, ?_, ?_, trivial⟩
    · rw [hg, ra]; exact h3
    · rw [hg, rb]; exact ka
  · rw [if_neg q] at e ⊢
    exact ⟨(hg x).trans e.1, trivial⟩
theorem pth_to (hS : ∀ x, S x → f x ≠ one → f x ≠ other → g x = f x) : ∀ {l : List Int} {a : Int}, Pth f a l → (∀ x ∈ a :: l, S x) → (∀ z ∈ l, z ≠ one ∧ z ≠ other) → Pth g a l
  | [], _, _, _, _ => trivial
  | b :: l, a, h, k, n => by
    have nb := n b (List.mem_cons_self ..)
    refine ⟨?_, pth_to hS h.2 (fun x hx => k x (List.mem_cons_of_mem _ hx)) fun z hz => n z (List.mem_cons_of_mem _ hz)⟩
    rw [hS a (k a (List.mem_cons_self ..)) (by rw [h.1]; exact nb.1) (by rw [h.1]; exact nb.2)]
    exact h.1
theorem grow_split (h : Dec f S C) (hf : ∀ x, f x = s (r x)) (hg : ∀ x, g x = s' (r x)) (hr : ∀ x, S x → S (r x)) (hrr : ∀ x, S x → r (r x) = x) (ra : r a = b) (rb : r b = a) (ha : ¬ S a) (hb : ¬ S b) (ab : a ≠ b)
    (h1 : ∀ x, S x → Pth s' x ((if s x = one then [a] else []) ++ ((if s x = other then [b] else []) ++ [s x]))) (hc : c ∈ C) (h2 : one ∈ c) (h3 : other ∈ c) : ∃ C', Dec g (with2 S a b) C' ∧ C'.length = C.length + 1 := by
  obtain ⟨A, B, rfl⟩ := List.append_of_mem hc
  have cc := h.cyc c hc
  -- what comes behind the new darts
  have pre : ∀ z, z ∈ c → ∃ x, S x ∧ f x = z := fun z hz => by
    obtain ⟨y, q1, q2⟩ := cc.from hz
    exact ⟨y, h.in hc q1, q2⟩
  have gx : ∀ x, S x → Pth s' (r x) ((if f x = one then [a] else []) ++ ((if f x = other then [b] else []) ++ [f x])) := fun x hx => by
    have := h1 (r x) (hr x hx)
    rw [← hf] at this
    exact this
  have old : ∀ x, S x → f x ≠ one → f x ≠ other → g x = f x := fun x hx n1 n2 => by
    have := gx x hx
    rw [if_neg n1, if_neg n2] at this
    exact (hg x).trans this.1
  have toA : ∀ x, S x → f x = one → g x = a := fun x hx n => by
    have := gx x hx
    rw [if_pos n] at this
    exact (hg x).trans this.1
  obtain ⟨X, Y, ec, cr⟩ := cyc_at cc h2
  generalize hW : Y ++ X = W at cr
  have pw : c.Perm (one :: W) := by
    rw [ec, ← hW]
    exact (List.perm_append_comm (l₁ := X) (l₂ := one :: Y))
  have ndc : c.Nodup := nd_mem h.nd hc
  have ndw := pw.nodup_iff.mp ndc
  rw [List.nodup_cons] at ndw
  have sw : ∀ x ∈ one :: W, S x := fun x hx => h.in hc (pw.mem_iff.mpr hx)
  have cr : Pth f one (W ++ [one]) := cr
  rw [pth_app] at cr
  have rest : ∀ d ∈ A ++ B, Cyc g d := fun d hd => by
    have hd' : d ∈ A ++ c :: B := by
      rcases List.mem_append.mp hd with q | q
      · exact List.mem_append_left _ q
      · exact List.mem_append_right _ (List.mem_cons_of_mem _ q)
    have cd := h.cyc d hd'
    have dj : ∀ z, z ∈ d → z ∉ c := fun z hz hz' => by
      have := ((h.cut.mem z).mp (List.mem_flatten.mpr ⟨d, hd, hz⟩)).2
      exact this hz'
    refine cyc_congr cd fun x hx => ?_
    have fx := cd.to hx
    exact (old x (h.in hd' hx) (fun e => dj _ fx (e ▸ h2)) (fun e => dj _ fx (e ▸ h3))).symm
  have fin : ∀ X1 X2 : List Int, (X1 ++ X2).Perm (one :: W) → Cyc g (b :: X1) → Cyc g (a :: X2) → ∃ C', Dec g (with2 S a b) C' ∧ C'.length = (A ++ c :: B).length + 1 := by
    intro X1 X2 p c1 c2
    have pp : (A ++ (b :: X1) :: (a :: X2) :: B).flatten.Perm (a :: b :: (A ++ c :: B).flatten) := by
      rw [List.flatten_append, List.flatten_cons, List.flatten_cons, List.flatten_append, List.flatten_cons]
      have q : ((b :: X1) ++ ((a :: X2) ++ B.flatten)).Perm (a :: b :: (c ++ B.flatten)) := by
        have q1 : ((b :: X1) ++ ((a :: X2) ++ B.flatten)).Perm (a :: ((b :: X1) ++ (X2 ++ B.flatten))) := List.perm_middle
        refine q1.trans (List.Perm.cons a (List.Perm.cons b ?_))
        show (X1 ++ (X2 ++ B.flatten)).Perm _
        rw [← List.append_assoc]
        exact List.Perm.append_right _ (p.trans pw.symm)
      have q2 := List.Perm.append_left A.flatten q
      refine q2.trans ?_
      have q3 : (A.flatten ++ a :: b :: (c ++ B.flatten)).Perm (a :: (A.flatten ++ b :: (c ++ B.flatten))) := List.perm_middle
      exact q3.trans (List.Perm.cons a List.perm_middle)
    obtain ⟨k1, k2⟩ := dec_perm pp h.nd h.mem ha hb ab
    refine ⟨_, ⟨fun d hd => ?_, k1, k2⟩, by simp; omega⟩
    rcases List.mem_append.mp hd with q | q
    · exact rest d (List.mem_append_left _ q)
    · rcases List.mem_cons.mp q with rfl | q
      · exact c1
      · rcases List.mem_cons.mp q with rfl | q
        · exact c2
        · exact rest d (List.mem_append_right _ q)
  have lastW := lastD_mem W one
  by_cases e : other = one
  · -- both ahead of one dart
    obtain ⟨x, sx, fx⟩ := pre one h2
    have k := gx x sx
    rw [e, if_pos fx, if_pos fx, fx] at k
    have k1 : s' a = b := k.2.1
    have k2 : s' b = one := k.2.2.1
    refine fin [] (one :: W) (List.Perm.refl _) ?_ ?_
    · refine ⟨?_, trivial⟩
      rw [hg, rb]; exact k1
    · refine ⟨by rw [hg, ra]; exact k2, ?_⟩
      show Pth g one (W ++ [a])
      rw [pth_app]
      refine ⟨pth_to (S := S) old cr.1 sw fun z hz => ?_, ?_, trivial⟩
      · have : z ≠ one := fun q => ndw.1 (q ▸ hz)
        exact ⟨this, e ▸ this⟩
      · exact toA _ (sw _ lastW) cr.2.1
  · have ho : other ∈ W := by
      rcases List.mem_cons.mp (pw.mem_iff.mp h3) with q | q
      · exact absurd q e
      · exact q
    obtain ⟨x, sx, fx⟩ := pre one h2
    have k := gx x sx
    rw [if_pos fx, fx, if_neg (fun q => e q.symm)] at k
    have k1 : s' a = one := k.2.1
    obtain ⟨x2, sx2, fx2⟩ := pre other h3
    have k' := gx x2 sx2
    rw [fx2, if_neg e, if_pos rfl] at k'
    have k2 : s' b = other := k'.2.1
    have toB : ∀ x, S x → f x = other → g x = b := fun x hx n => by
      have := gx x hx
      rw [n, if_neg e, if_pos rfl] at this
      exact (hg x).trans this.1
    obtain ⟨X1, Y1, eW⟩ := List.append_of_mem ho
    rw [eW] at cr ndw sw
    have el : (X1 ++ other :: Y1).getLastD one = Y1.getLastD other := by
      rw [List.getLastD_eq_getLast?, List.getLastD_eq_getLast?, List.getLast?_append, List.getLast?_cons]
      simp [List.getLastD_eq_getLast?]
    rw [el, pth_app] at cr
    obtain ⟨⟨c1, c2, c3⟩, c4, _⟩ := cr
    have n1 : ∀ z, z ∈ X1 → z ≠ one ∧ z ≠ other := fun z hz => by
      refine ⟨fun q => ndw.1 (List.mem_append_left _ (q ▸ hz)), fun q => ?_⟩
      have := ndw.2
      rw [List.nodup_append] at this
      exact this.2.2 z hz other (List.mem_cons_self ..) q
    have n2 : ∀ z, z ∈ Y1 → z ≠ one ∧ z ≠ other := fun z hz => by
      refine ⟨fun q => ndw.1 (List.mem_append_right _ (List.mem_cons_of_mem _ (q ▸ hz))), fun q => ?_⟩
      have := ndw.2
      rw [List.nodup_append] at this
      exact (List.nodup_cons.mp this.2.1).1 (q ▸ hz)
    have s1 : ∀ x ∈ one :: X1, S x := fun x hx => sw x (by
      rcases List.mem_cons.mp hx with q | q <;> simp [q])
    have s2 : ∀ x ∈ other :: Y1, S x := fun x hx => sw x (by
      rcases List.mem_cons.mp hx with q | q <;> simp [q])
    refine fin (one :: X1) (other :: Y1) ?_ ?_ ?_
    · rw [eW]; exact List.Perm.refl _
    · refine ⟨by rw [hg, rb]; exact k1, ?_⟩
      show Pth g one (X1 ++ [b])
      rw [pth_app]
      exact ⟨pth_to (S := S) old c1 s1 n1, toB _ (s1 _ (lastD_mem X1 one)) c2, trivial⟩
    · refine ⟨by rw [hg, ra]; exact k2, ?_⟩
      show Pth g other (Y1 ++ [a])
      rw [pth_app]
      exact ⟨pth_to (S := S) old c3 s2 n2, toA _ (s2 _ (lastD_mem Y1 other)) c4, trivial⟩
def par {α : Type} (p : α → Bool) : List α → Bool
  | [] => false
  | x :: l => (p x ^^ par p l)
theorem par_perm {α : Type} {p : α → Bool} {l m : List α} (h : l.Perm m) : par p l = par p m := by
  induction h with
  | nil => rfl
  | cons x _ ih => simp [par, ih]
  | swap x y l => simp only [par]; cases p x <;> cases p y <;> simp
  | trans _ _ h1 h2 => exact h1.trans h2
theorem par_xor {α : Type} {p q : α → Bool} : ∀ {l : List α}, par (fun x => p x ^^ q x) l = (par p l ^^ par q l)
  | [] => rfl
  | x :: l => by
    simp only [par, par_xor (l := l)]
    cases p x <;> cases q x <;> simp
theorem par_map {α β : Type} {p : β → Bool} {h : α → β} : ∀ {l : List α}, par p (l.map h) = par (fun x => p (h x)) l
  | [] => rfl
  | x :: l => by simp [par, par_map (l := l)]
theorem par_congr {α : Type} {p q : α → Bool} : ∀ {l : List α}, (∀ x ∈ l, p x = q x) → par p l = par q l
  | [], _ => rfl
  | x :: l, h => by rw [par, par, h x (by simp), par_congr fun y hy => h y (List.mem_cons_of_mem _ hy)]
theorem par_none {α : Type} {p : α → Bool} : ∀ {l : List α}, (∀ x ∈ l, p x = false) → par p l = false
  | [], _ => rfl
  | x :: l, h => by rw [par, h x (by simp), par_none fun y hy => h y (List.mem_cons_of_mem _ hy)]; rfl
theorem par_only {α : Type} {p : α → Bool} {t : α} : ∀ {l : List α}, l.Nodup → t ∈ l → p t = true → (∀ x ∈ l, x ≠ t → p x = false) → par p l = true
  | [], _, h, _, _ => nomatch h
  | x :: l, nd, h, ht, k => by
    rw [List.nodup_cons] at nd
    rw [par]
    rcases List.mem_cons.mp h with q | q
    · subst q
      rw [ht, par_none fun y hy => k y (List.mem_cons_of_mem _ hy) fun e => nd.1 (e ▸ hy)]
      rfl
    · have n : x ≠ t := fun e => nd.1 (e ▸ q)
      rw [k x (by simp) n, par_only nd.2 q ht fun y hy => k y (List.mem_cons_of_mem _ hy)]
      rfl
theorem ortho (h : Dec s S C) {L : List Int} (hL : L.Nodup) (hm : ∀ d, d ∈ L ↔ S d) {u w : Int → Bool} (hw : ∀ x, S x → w (s x) = w x) (hu : ∀ x, S x → u (s x) = u (r x)) : par (fun x => w x && (u x ^^ u (r x))) L = false := by
  have p : (L.map s).Perm L := by
    refine (List.perm_ext_iff_of_nodup ?_ hL).mpr fun d => ?_
    · refine List.nodup_iff_pairwise_ne.mpr ?_
      rw [List.pairwise_map]
      exact hL.imp_of_mem fun {x y} hx hy ne e => ne (h.inj ((hm x).mp hx) ((hm y).mp hy) e)
    · rw [List.mem_map, hm]
      constructor
      · rintro ⟨x, hx, rfl⟩
        exact h.to ((hm x).mp hx)
      · intro hd
        obtain ⟨y, h1, h2⟩ := h.from hd
        exact ⟨y, (hm y).mpr h1, h2⟩
  have e1 : par (fun x => w x && (u x ^^ u (r x))) L = par (fun x => (w x && u x) ^^ (w (s x) && u (s x))) L := by
    refine par_congr fun x hx => ?_
    have sx := (hm x).mp hx
    rw [hw x sx, hu x sx]
    cases w x <;> cases u x <;> cases u (r x) <;> rfl
  rw [e1, par_xor]
  have e2 : par (fun x => w (s x) && u (s x)) L = par (fun x => w x && u x) (L.map s) := by rw [par_map]
  rw [e2, par_perm p]
  simp
def dts (l : List Int) : List Int := l.flatMap fun t => [2 * t, 2 * t + 1]
theorem par_dts {u w r : Int → Bool} {rr : Int → Int} (hr : ∀ t, rr (2 * t) = 2 * t + 1 ∧ rr (2 * t + 1) = 2 * t) : ∀ {l : List Int}, par (fun x => w x && (u x ^^ u (rr x))) (dts l) = par (fun t => (w (2 * t) ^^ w (2 * t + 1)) && (u (2 * t) ^^ u (2 * t + 1))) l
  | [] => rfl
  | t :: l => by
    have ih := par_dts (u := u) (w := w) (r := r) hr (l := l)
    unfold dts at ih ⊢
    rw [List.flatMap_cons]
    simp only [List.cons_append, List.nil_append, par, (hr t).1, (hr t).2, ih]
    cases w (2 * t) <;> cases w (2 * t + 1) <;> cases u (2 * t) <;> cases u (2 * t + 1) <;> simp
end Mp
end

noncomputable section
namespace Lw
open DL L2 TL Mp
theorem xr1_b (t : Int) : xr1 (2 * t) = 2 * t + 1 ∧ xr1 (2 * t + 1) = 2 * t := by unfold xr1; constructor <;> split <;> omega
theorem xr1_xr1 (d : Int) : xr1 (xr1 d) = d := by unfold xr1; split <;> split <;> omega
theorem xr1_in {m : Nat} {d : Int} (h : 0 ≤ d ∧ d < 2 * (m : Int)) : 0 ≤ xr1 d ∧ xr1 d < 2 * (m : Int) := by unfold xr1; split <;> omega
theorem xr1_inj {a b : Int} (h : xr1 a = xr1 b) : a = b := by rw [← xr1_xr1 a, h, xr1_xr1]
def Way (f : Int → Int) (a : Int) (P : List Int) (x : Int) : Prop := (P = [] ∧ x = a) ∨ ∃ P', P = a :: P' ∧ Pth f a (P' ++ [x])
theorem pth_from {f : Int → Int} : ∀ {l : List Int} {a x : Int}, Pth f a l → x ∈ l → ∃ A B : List Int, a :: l = A ++ x :: B ∧ A ≠ [] ∧ f (A.getLastD a) = x ∧ A.getLastD a ∈ A
  | [], _, _, _, h => nomatch h
  | b :: l, a, x, h, hx => by
    rcases List.mem_cons.mp hx with rfl | hx
    · exact ⟨[a], l, rfl, by simp, by simpa using h.1, by simp⟩
    · obtain ⟨A, B, e, ne, fx, mm⟩ := pth_from h.2 hx
      refine ⟨a :: A, B, by rw [e]; rfl, by simp, ?_, ?_⟩
      · cases A with
        | nil => exact absurd rfl ne
        | cons w A =>
          rw [List.getLastD_cons] at fx
          rw [List.getLastD_cons, List.getLastD_cons]
          exact fx
      · cases A with
        | nil => exact absurd rfl ne
        | cons w A =>
          rw [List.getLastD_cons] at mm ⊢
          rw [List.getLastD_cons]
          exact List.mem_cons_of_mem _ mm
theorem wk_cyc {K : Nat} {f : Int → Int} {S : Int → Prop} (hS : ∀ d, S d ↔ 0 ≤ d ∧ d < (K : Int)) (hf : ∀ x, S x → S (f x)) (hi : ∀ x y, S x → S y → f x = f y → x = y) (v : List Int) (hv : ∀ y, S y → f y ∈ v → y ∈ v) (a : Int) (ha : a ∉ v) :
    ∀ (n : Nat) (P : List Int) (x : Int), Way f a P x → S x → (v ++ P).Nodup → (∀ y ∈ v ++ P, S y) → K + 1 - (v ++ P).length ≤ n → Cyc f (P ++ wk (K + 1) f (v ++ P) x) ∧ (v ++ (P ++ wk (K + 1) f (v ++ P) x)).Nodup ∧ ∀ y ∈ v ++ (P ++ wk (K + 1) f (v ++ P) x), S y
  | n, P, x, hw, sx, nd, hs, hn => by
    have sl := sub_len nd fun y hy => (hS y).mp (hs y hy)
    by_cases c : x ∈ v ++ P
    · rw [wk_in c, List.append_nil]
      refine ⟨?_, nd, hs⟩
      rcases hw with ⟨rfl, rfl⟩ | ⟨P', rfl, hp⟩
      · exact absurd (by simpa using c) ha
      · have sla : (P'.getLastD a) ∈ a :: P' := lastD_mem P' a
        have hp2 := hp
        rw [pth_app] at hp2
        have fl : f (P'.getLastD a) = x := hp2.2.1
        have sl' : S (P'.getLastD a) := hs _ (List.mem_append_right _ sla)
        rcases List.mem_append.mp c with q | q
        · exfalso
          have := hv _ sl' (fl ▸ q)
          rw [List.nodup_append] at nd
          exact nd.2.2 _ this _ sla rfl
        · rcases List.mem_cons.mp q with rfl | q
          · exact hp
          · exfalso
            obtain ⟨A, B, e, ne, fx, mm⟩ := pth_from hp2.1 q
            have sA : S (A.getLastD a) := hs _ (List.mem_append_right _ (by rw [e]; exact List.mem_append_left _ mm))
            have q2 := hi _ _ sA sl' (fx.trans fl.symm)
            -- the last stands behind x
            have lx : P'.getLastD a ∈ x :: B := by
              have : (a :: P').getLastD a = (A ++ x :: B).getLastD a := by rw [e]
              rw [List.getLastD_cons] at this
              rw [this]
              have z : (A ++ x :: B).getLastD a = B.getLastD x := by
                rw [List.getLastD_eq_getLast?, List.getLastD_eq_getLast?, List.getLast?_append, List.getLast?_cons]
                simp [List.getLastD_eq_getLast?]
              rw [z]; exact lastD_mem B x
            have nd2 : (a :: P').Nodup := (List.nodup_append.mp nd).2.1
            rw [e, List.nodup_append] at nd2
            exact nd2.2.2 _ mm _ lx q2
    · rw [wk_out c (by omega)]
      match n, hn with
      | 0, hn => omega
      | n + 1, hn =>
        have e : v ++ (P ++ [x]) = v ++ P ++ [x] := by rw [List.append_assoc]
        have nd' : (v ++ (P ++ [x])).Nodup := by
          rw [e, List.nodup_append]
          exact ⟨nd, by simp, fun y hy z hz q => by rw [List.mem_singleton.mp hz] at q; exact c (q ▸ hy)⟩
        have ih := wk_cyc hS hf hi v hv a ha n (P ++ [x]) (f x) (by
          right
          rcases hw with ⟨rfl, rfl⟩ | ⟨P', rfl, hp⟩
          · exact ⟨[], rfl, rfl, trivial⟩
          · refine ⟨P' ++ [x], rfl, ?_⟩
            rw [pth_app]
            refine ⟨hp, ?_, trivial⟩
            simp) (hf x sx) nd' (fun y hy => by
              rw [e] at hy
              rcases List.mem_append.mp hy with q | q
              · exact hs y q
              · rw [List.mem_singleton.mp q]; exact sx) (by rw [e, List.length_append, List.length_singleton]; omega)
        rw [show P ++ x :: wk (K + 1) f (v ++ P ++ [x]) (f x) = (P ++ [x]) ++ wk (K + 1) f (v ++ (P ++ [x])) (f x) by rw [e]; simp]
        exact ih
theorem rnd_cyc {K : Nat} {f : Int → Int} {S : Int → Prop} (hS : ∀ d, S d ↔ 0 ≤ d ∧ d < (K : Int)) (hf : ∀ x, S x → S (f x)) (hi : ∀ x y, S x → S y → f x = f y → x = y) :
    ∀ (ds v : List Int), (∀ d ∈ ds, S d) → v.Nodup → (∀ y ∈ v, S y) → (∀ y, S y → f y ∈ v → y ∈ v) →
      (∀ c ∈ rnd (K + 1) f ds v, Cyc f c) ∧ (v ++ (rnd (K + 1) f ds v).flatten).Nodup ∧ (∀ y ∈ v ++ (rnd (K + 1) f ds v).flatten, S y) ∧ ∀ d ∈ ds, d ∈ v ++ (rnd (K + 1) f ds v).flatten
  | [], v, _, nd, hv, _ => by
    unfold rnd
    simp only [List.flatten_nil, List.append_nil]
    exact ⟨fun c h => (nomatch h), nd, hv, fun d h => nomatch h⟩
  | d :: ds, v, hd, nd, hv, hc => by
    unfold rnd
    have sd := hd d (List.mem_cons_self ..)
    by_cases q : d ∈ v
    · rw [if_pos q]
      obtain ⟨h1, h2, h3, h4⟩ := rnd_cyc hS hf hi ds v (fun x hx => hd x (List.mem_cons_of_mem _ hx)) nd hv hc
      refine ⟨h1, h2, h3, fun x hx => ?_⟩
      rcases List.mem_cons.mp hx with rfl | hx
      · exact List.mem_append_left _ q
      · exact h4 x hx
    · rw [if_neg q]
      obtain ⟨w1, w2, w3⟩ := wk_cyc hS hf hi v hc d q (K + 1) [] d (Or.inl ⟨rfl, rfl⟩) sd (by simpa using nd) (by simpa using hv) (by omega)
      simp only [List.append_nil, List.nil_append] at w1 w2 w3
      have w0 : d ∈ wk (K + 1) f v d := by
        have := sub_len nd fun y hy => (hS y).mp (hv y hy)
        rw [wk_out q (by omega)]; simp
      generalize wk (K + 1) f v d = c at *
      obtain ⟨h1, h2, h3, h4⟩ := rnd_cyc hS hf hi ds (v ++ c) (fun x hx => hd x (List.mem_cons_of_mem _ hx)) w2 w3 (fun y sy hy => by
        rcases List.mem_append.mp hy with z | z
        · exact List.mem_append_left _ (hc y sy z)
        · obtain ⟨u, u1, u2⟩ := w1.from z
          rw [hi y u sy (w3 u (List.mem_append_right _ u1)) u2.symm]
          exact List.mem_append_right _ u1)
      rw [List.flatten_cons, ← List.append_assoc]
      refine ⟨fun e he => ?_, h2, h3, fun x hx => ?_⟩
      · rcases List.mem_cons.mp he with rfl | he
        · exact w1
        · exact h1 e he
      · rcases List.mem_cons.mp hx with rfl | hx
        · exact List.mem_append_left _ (List.mem_append_right _ w0)
        · exact h4 x hx
def inR (K : Nat) (d : Int) : Prop := 0 ≤ d ∧ d < (K : Int)
theorem rnd_dec {K : Nat} {f : Int → Int} (hf : ∀ x, inR K x → inR K (f x)) (hi : ∀ x y, inR K x → inR K y → f x = f y → x = y) : Dec f (inR K) (rnd (K + 1) f (iota K) []) := by
  obtain ⟨h1, h2, h3, h4⟩ := rnd_cyc (S := inR K) (fun d => Iff.rfl) hf hi (iota K) [] (fun d hd => iota_mem.mp hd) (by simp) (fun _ h => (nomatch h)) (fun _ _ h => (nomatch h))
  simp only [List.nil_append] at h2 h3 h4
  exact ⟨h1, h2, fun d => ⟨fun h => h3 d h, fun h => h4 d (iota_mem.mpr h)⟩⟩
theorem dbRow_no {R : List Int} {j : Int} : ∀ (l : List Int) (M : List (Int × Int)), (∀ k ∈ l, xr1 (nth R k) ≠ j) → valG (dbRow R l M) j = valG M j
  | [], M, _ => rfl
  | k :: l, M, h => by
    unfold dbRow
    rw [dbRow_no l _ fun x hx => h x (List.mem_cons_of_mem _ hx), valG_putI, if_neg fun q => h k (List.mem_cons_self ..) q.symm]
theorem nth_inj {R : List Int} (nd : R.Nodup) {i j : Int} (i0 : 0 ≤ i) (i1 : i < R.length) (j0 : 0 ≤ j) (j1 : j < R.length) (e : nth R i = nth R j) : i = j := by
  have hi : i.toNat < R.length := by omega
  have hj : j.toNat < R.length := by omega
  unfold nth at e
  rw [List.getD_eq_getElem?_getD, List.getD_eq_getElem?_getD, List.getElem?_eq_getElem hi, List.getElem?_eq_getElem hj, Option.getD_some, Option.getD_some] at e
  have := (List.getElem_inj nd).mp e
  omega
theorem dbRow_at {R : List Int} (nd : R.Nodup) : ∀ (l : List Int) (M : List (Int × Int)), l.Nodup → (∀ k ∈ l, 0 ≤ k ∧ k < (R.length : Int)) → ∀ k ∈ l, valG (dbRow R l M) (xr1 (nth R k)) = some (nth R ((k + 1) % R.length))
  | [], _, _, _, _, h => nomatch h
  | a :: l, M, nl, hl, k, hk => by
    rw [List.nodup_cons] at nl
    unfold dbRow
    rcases List.mem_cons.mp hk with rfl | hk
    · rw [dbRow_no, valG_putI, if_pos rfl]
      intro x hx q
      obtain ⟨x0, x1⟩ := hl x (List.mem_cons_of_mem _ hx)
      obtain ⟨k0, k1⟩ := hl k (List.mem_cons_self ..)
      exact nl.1 (nth_inj nd x0 x1 k0 k1 (xr1_inj q) ▸ hx)
    · exact dbRow_at nd l _ nl.2 (fun x hx => hl x (List.mem_cons_of_mem _ hx)) k hk
theorem dbM_no {j : Int} : ∀ (T : List (List Int)) (M : List (Int × Int)), (∀ d ∈ T.flatten, xr1 d ≠ j) → valG (dbM T M) j = valG M j
  | [], M, _ => rfl
  | R :: T, M, h => by
    unfold dbM
    rw [List.flatten_cons] at h
    rw [dbM_no T _ fun x hx => h x (List.mem_append_right _ hx), dbRow_no]
    intro k hk
    obtain ⟨k0, k1⟩ := iota_mem.mp hk
    exact h _ (List.mem_append_left _ (nth_mem k0 k1))
theorem dbM_at : ∀ (T : List (List Int)) (M : List (Int × Int)), T.flatten.Nodup → ∀ R ∈ T, ∀ k : Int, 0 ≤ k → k < (R.length : Int) → valG (dbM T M) (xr1 (nth R k)) = some (nth R ((k + 1) % R.length))
  | [], _, _, _, h, _, _, _ => nomatch h
  | Q :: T, M, nd, R, hR, k, k0, k1 => by
    rw [List.flatten_cons, List.nodup_append] at nd
    unfold dbM
    rcases List.mem_cons.mp hR with rfl | hR
    · rw [dbM_no]
      · exact dbRow_at nd.1 _ _ (iota_nodup _) (fun x hx => iota_mem.mp hx) k (iota_mem.mpr ⟨k0, k1⟩)
      · intro d hd q
        exact nd.2.2 _ (nth_mem k0 k1) d hd (xr1_inj q).symm
    · exact dbM_at T _ nd.2.1 R hR k k0 k1
theorem getD_left {l m : List Int} {i : Nat} (h : i < l.length) : (l ++ m).getD i 0 = l.getD i 0 := by
  rw [List.getD_eq_getElem?_getD, List.getD_eq_getElem?_getD, List.getElem?_append_left h]
theorem getD_right {l m : List Int} : (l ++ m).getD l.length 0 = m.getD 0 0 := by
  rw [List.getD_eq_getElem?_getD, List.getD_eq_getElem?_getD, List.getElem?_append_right (Nat.le_refl _), Nat.sub_self]
theorem pth_idx {f : Int → Int} : ∀ {l : List Int} {a : Int}, (∀ i : Nat, i < l.length → f ((a :: l).getD i 0) = l.getD i 0) → Pth f a l
  | [], _, _ => trivial
  | b :: l, a, h => ⟨by simpa using h 0 (by simp), pth_idx fun i hi => by simpa using h (i + 1) (by simpa using hi)⟩
theorem cyc_idx {f : Int → Int} {R : List Int} (hR : R ≠ []) (h : ∀ k : Int, 0 ≤ k → k < (R.length : Int) → f (nth R k) = nth R ((k + 1) % R.length)) : Cyc f R := by
  cases R with
  | nil => exact absurd rfl hR
  | cons a l =>
    refine pth_idx (l := l ++ [a]) fun i hi => ?_
    rw [List.length_append, List.length_singleton] at hi
    have := h (i : Int) (by omega) (by rw [List.length_cons]; omega)
    have e1 : nth (a :: l) (i : Int) = (a :: (l ++ [a])).getD i 0 := by
      unfold nth
      rw [Int.toNat_natCast, ← List.cons_append, getD_left (by simpa using hi)]
    rw [← e1, this]
    unfold nth
    rw [List.length_cons]
    by_cases q : i = l.length
    · subst q
      rw [show (((l.length : Nat) : Int) + 1) % ((l.length + 1 : Nat) : Int) = 0 by rw [Int.natCast_succ]; exact Int.emod_self]
      rw [getD_right]
      simp
    · rw [Int.emod_eq_of_lt (by omega) (by omega), show ((i : Int) + 1).toNat = i + 1 by omega, getD_left (by omega)]
      simp
end Lw
end

noncomputable section
namespace Lw
open DL L2 TL Mp
def dpl (ts : List (Int × Int)) (d : Int) : Int := if d % 2 = 0 then (tieAt ts (d / 2)).1 else (tieAt ts (d / 2)).2
theorem place_from_ok (p : D) (ts : List (Int × Int)) {d : Int} (h0 : 0 ≤ d) (h1 : d < 2 * (ts.length : Int)) : g_place_from [.ob 14 [p, .ls (ts.map dP)], .int d] = .ok (.int (dpl ts d)) := by
  obtain ⟨e, _⟩ := tie_at (ts := ts) (i := d / 2) (by omega) (by omega)
  have h2 : (0 : Int) < 2 := by decide
  have h3 : (2 : Int) < 1073741824 := by decide
  unfold dpl
  have m := Int.emod_two_eq d
  rcases m with m | m <;> simp [g_place_from, runF, f_place_from, e, m, h2, h3]
def gdD (ts : List (Int × Int)) (k d : Int) : Prop := (0 ≤ d ∧ d < 2 * (ts.length : Int)) ∧ dpl ts d = k
instance (ts : List (Int × Int)) (k d : Int) : Decidable (gdD ts k d) := by unfold gdD; infer_instance
def keysM (M : List (Int × Int)) : List Int := M.map (·.1)
theorem put_new {M : List (Int × Int)} {k v : Int} (h : k ∉ keysM M) : putG M k v = M ++ [(k, v)] := by
  unfold putG
  rw [if_neg]
  rw [List.any_eq_true]
  rintro ⟨x, hx, e⟩
  exact h (List.mem_map.mpr ⟨x, hx, by simpa using e⟩)
theorem in2 (ts : List (Int × Int)) {v : List Int} (nd : v.Nodup) (h : ∀ d ∈ v, 0 ≤ d ∧ d < 2 * (ts.length : Int)) : v.length ≤ 2 * ts.length :=
  sub_len (K := 2 * ts.length) nd fun d hd => by have := h d hd; constructor <;> omega
theorem look_step {p : D} {ts : List (Int × Int)} (hl : ts.length ≤ 1000) (x1 x4 : D) (k : Int) (d : Int) (M : List (Int × Int)) (nd : (keysM M).Nodup) (hM : ∀ d ∈ keysM M, 0 ≤ d ∧ d < 2 * (ts.length : Int)) :
    (gdD ts k d ∧ d ∉ keysM M ∧ f_look_at_turns_l1 [.ob 14 [p, .ls (ts.map dP)], x1, dMp M, .int k, x4, .int d] = .nx [.ob 14 [p, .ls (ts.map dP)], x1, dMp (M ++ [(d, k)]), .int k, x4, .int d]) ∨
    (¬ (gdD ts k d ∧ d ∉ keysM M) ∧ ∃ g', f_look_at_turns_l1 [.ob 14 [p, .ls (ts.map dP)], x1, dMp M, .int k, x4, .int d] = .xc 10 g') := by
  have ml : M.length ≤ 2 * ts.length := by
    have := in2 ts nd hM
    unfold keysM at this
    rwa [List.length_map] at this
  have hb : gv [.ob 14 [p, .ls (ts.map dP)], x1, dMp M, .int k, x4, .int d] 2 = .ok (bMp M) := by rw [← brw_dMp]; rfl
  have ci : cDI (.int d) (bMp M) = some (decide (d ∈ keysM M)) := by rw [cDI_int, any_keys]; rfl
  have ob : opd (bMp M) = bMp M := rfl
  have ll : opMul (.int 2) (.int (ts.length : Int)) = some (.int (2 * (ts.length : Int))) := opMul_l (by decide) (by decide)
  -- the test
  have test : tOr_ (tC2 cLt (eVar 5) (eC (.int 0))) (tOr_ (tC2 cGe (eVar 5) (eBin opMul (eC (.int 2)) (eCall caLen (aCons (eUn (opFld 14 1) (eVar 0)) (aNil))))) (tOr_ (tC2 cDI (eVar 5) (eVar 2)) (tC2 cNe (eOwn g_place_from (aCons (eVar 0) (aCons (eVar 5) (aNil)))) (eVar 3)))) [.ob 14 [p, .ls (ts.map dP)], x1, dMp M, .int k, x4, .int d] = .ok (!decide (gdD ts k d ∧ d ∉ keysM M)) := by
    have e3 : tC2 cDI (eVar 5) (eVar 2) [.ob 14 [p, .ls (ts.map dP)], x1, dMp M, .int k, x4, .int d] = .ok (decide (d ∈ keysM M)) := by
      rw [tC2_, eVar_, eVar_, hb]
      generalize bMp M = bm at *
      generalize dMp M = dm at *
      simp [ob, ci]
    generalize hdm : dMp M = dm at *
    by_cases c0 : d < 0
    · have : ¬ (gdD ts k d ∧ d ∉ keysM M) := fun q => by have := q.1.1.1; omega
      simp [this, c0]
    · by_cases c1 : 2 * (ts.length : Int) ≤ d
      · have : ¬ (gdD ts k d ∧ d ∉ keysM M) := fun q => by have := q.1.1.2; omega
        simp [this, c0, c1, ll]
      · have pf := place_from_ok p ts (d := d) (by omega) (by omega)
        have sh : shd [D.ob 14 [p, .ls (ts.map dP)], D.int d] = true := rfl
        simp only [tOr__, e3]
        by_cases c2 : d ∈ keysM M
        · have : ¬ (gdD ts k d ∧ d ∉ keysM M) := fun q => q.2 c2
          simp [this, c0, c1, ll, c2]
        · by_cases c3 : dpl ts d = k
          · have q : gdD ts k d ∧ d ∉ keysM M := ⟨⟨⟨by omega, by omega⟩, c3⟩, c2⟩
            rw [decide_eq_true q]
            simp [c0, c1, ll, c2, pf, c3]
          · have q : ¬ (gdD ts k d ∧ d ∉ keysM M) := fun q => c3 q.1.2
            rw [decide_eq_false q]
            simp [c0, c1, ll, c2, pf, c3]
  by_cases c : gdD ts k d ∧ d ∉ keysM M
  · left
    refine ⟨c.1, c.2, ?_⟩
    rw [← put_new c.2]
    unfold f_look_at_turns_l1
    refine seq_to (g1 := [.ob 14 [p, .ls (ts.map dP)], x1, dMp M, .int k, x4, .int d]) ?_ ?_
    · rw [sIf_, test, decide_eq_true c]
      rfl
    · exact dset_int (M := M) rfl (by simp) (by simp) (by rw [lim_eq]; omega)
  · right
    refine ⟨c, [.ob 14 [p, .ls (ts.map dP)], x1, dMp M, .int k, x4, .int d], ?_⟩
    unfold f_look_at_turns_l1
    rw [sSeq_, sIf_, test, decide_eq_false c]
    rfl
theorem look_row {p : D} {ts : List (Int × Int)} (hl : ts.length ≤ 1000) (x1 x4 : D) (k : Int) : ∀ (l : List Int) (M : List (Int × Int)) (y5 : D), (keysM M).Nodup → (∀ d ∈ keysM M, 0 ≤ d ∧ d < 2 * (ts.length : Int)) →
    ((∀ d ∈ l, gdD ts k d) ∧ (keysM M ++ l).Nodup ∧ ∃ z5, forL (gtN 5) f_look_at_turns_l1 (l.map D.int) [.ob 14 [p, .ls (ts.map dP)], x1, dMp M, .int k, x4, y5] = .nx [.ob 14 [p, .ls (ts.map dP)], x1, dMp (M ++ l.map fun d => (d, k)), .int k, x4, z5]) ∨
    (¬ ((∀ d ∈ l, gdD ts k d) ∧ (keysM M ++ l).Nodup) ∧ ∃ g', forL (gtN 5) f_look_at_turns_l1 (l.map D.int) [.ob 14 [p, .ls (ts.map dP)], x1, dMp M, .int k, x4, y5] = .xc 10 g')
  | [], M, y5, nd, hM => .inl ⟨fun _ h => (nomatch h), by simpa using nd, y5, by simp [forL]⟩
  | d :: l, M, y5, nd, hM => by
    rw [List.map_cons]
    rcases look_step (p := p) hl x1 x4 k d M nd hM with ⟨h1, h2, e⟩ | ⟨h1, g', e⟩
    · have km : keysM (M ++ [(d, k)]) = keysM M ++ [d] := by simp [keysM]
      have nd' : (keysM (M ++ [(d, k)])).Nodup := by
        rw [km, List.nodup_append]
        exact ⟨nd, by simp, fun x hx y hy q => by rw [List.mem_singleton.mp hy] at q; exact h2 (q ▸ hx)⟩
      have ap : keysM M ++ [d] ++ l = keysM M ++ d :: l := by simp
      rcases look_row hl x1 x4 k l (M ++ [(d, k)]) (.int d) nd' (fun x hx => by
        rw [km] at hx
        rcases List.mem_append.mp hx with q | q
        · exact hM x q
        · rw [List.mem_singleton.mp q]; exact h1.1) with ⟨i1, i2, z5, i3⟩ | ⟨i1, g', i2⟩
      · rw [km, ap] at i2
        refine .inl ⟨fun x hx => ?_, i2, z5, ?_⟩
        · rcases List.mem_cons.mp hx with rfl | hx
          · exact h1
          · exact i1 x hx
        · rw [forL_step (g1 := [.ob 14 [p, .ls (ts.map dP)], x1, dMp M, .int k, x4, .int d]) rfl e, i3]
          simp
      · rw [km, ap] at i1
        refine .inr ⟨fun q => i1 ⟨fun x hx => q.1 x (List.mem_cons_of_mem _ hx), q.2⟩, g', ?_⟩
        rw [forL_step (g1 := [.ob 14 [p, .ls (ts.map dP)], x1, dMp M, .int k, x4, .int d]) rfl e, i2]
    · refine .inr ⟨fun q => h1 ⟨q.1 d (List.mem_cons_self ..), fun z => ?_⟩, g', forL_xc rfl e⟩
      have := q.2
      rw [List.nodup_append] at this
      exact this.2.2 d z d (List.mem_cons_self ..) rfl
def RowsGd (ts : List (Int × Int)) : Nat → List (List Int) → Prop
  | _, [] => True
  | k, R :: T => (∀ d ∈ R, gdD ts k d) ∧ RowsGd ts (k + 1) T
theorem look_for {h : List Int → D} (hh : ∀ R, LT (h R) R) {p : D} {ts : List (Int × Int)} (hl : ts.length ≤ 1000) (x1 : D) : ∀ (T : List (List Int)) (k : Nat) (M : List (Int × Int)) (y3 y4 y5 : D), (keysM M).Nodup → (∀ d ∈ keysM M, 0 ≤ d ∧ d < 2 * (ts.length : Int)) →
    (RowsGd ts k T ∧ (keysM M ++ T.flatten).Nodup ∧ ∃ M' z3 z4 z5, keysM M' = keysM M ++ T.flatten ∧ forL (gtT 2 (gtCons (gtN 3) (gtCons (gtN 4) (gtNil)))) f_look_at_turns_l2 (enm k (T.map h)) [.ob 14 [p, .ls (ts.map dP)], x1, dMp M, y3, y4, y5] = .nx [.ob 14 [p, .ls (ts.map dP)], x1, dMp M', z3, z4, z5]) ∨
    (¬ (RowsGd ts k T ∧ (keysM M ++ T.flatten).Nodup) ∧ ∃ g', forL (gtT 2 (gtCons (gtN 3) (gtCons (gtN 4) (gtNil)))) f_look_at_turns_l2 (enm k (T.map h)) [.ob 14 [p, .ls (ts.map dP)], x1, dMp M, y3, y4, y5] = .xc 10 g')
  | [], k, M, y3, y4, y5, nd, hM => .inl ⟨trivial, by simpa using nd, M, y3, y4, y5, by simp, by simp [forL, enm]⟩
  | R :: T, k, M, y3, y4, y5, nd, hM => by
    have ec : enm k ((R :: T).map h) = .tp [.int (k : Int), h R] :: enm (k + 1) (T.map h) := rfl
    rw [ec]
    have tg : gtT 2 (gtCons (gtN 3) (gtCons (gtN 4) (gtNil))) (.tp [.int (k : Int), h R]) [.ob 14 [p, .ls (ts.map dP)], x1, dMp M, y3, y4, y5] = some [.ob 14 [p, .ls (ts.map dP)], x1, dMp M, .int k, h R, y5] := by simp
    have bd : f_look_at_turns_l2 [.ob 14 [p, .ls (ts.map dP)], x1, dMp M, .int k, h R, y5] = forL (gtN 5) f_look_at_turns_l1 (R.map D.int) [.ob 14 [p, .ls (ts.map dP)], x1, dMp M, .int k, h R, y5] := by
      unfold f_look_at_turns_l2
      generalize dMp M = dm
      rcases hh R with e | e <;> rw [e] <;> simp
    rcases look_row (p := p) hl x1 (h R) (k : Int) R M y5 nd hM with ⟨h1, h2, z5, e⟩ | ⟨h1, g', e⟩
    · rw [← bd] at e
      have km : keysM (M ++ R.map fun d => (d, (k : Int))) = keysM M ++ R := by
        unfold keysM
        rw [List.map_append, List.map_map]
        congr 1
        exact (List.map_congr_left fun x _ => rfl).trans (List.map_id R)
      rcases look_for hh hl x1 T (k + 1) (M ++ R.map fun d => (d, (k : Int))) (.int k) (h R) z5 (by rw [km]; exact h2) (fun x hx => by
        rw [km] at hx
        rcases List.mem_append.mp hx with q | q
        · exact hM x q
        · exact (h1 x q).1) with ⟨i1, i2, M', z3, z4, z6, i3, i4⟩ | ⟨i1, g', i2⟩
      · rw [km, List.append_assoc, ← List.flatten_cons] at i2 i3
        exact .inl ⟨⟨h1, i1⟩, i2, M', z3, z4, z6, i3, by rw [forL_step tg e, i4]⟩
      · rw [km, List.append_assoc, ← List.flatten_cons] at i1
        exact .inr ⟨fun q => i1 ⟨q.1.2, q.2⟩, g', by rw [forL_step tg e, i2]⟩
    · rw [← bd] at e
      refine .inr ⟨fun q => h1 ⟨q.1.1, ?_⟩, g', forL_xc tg e⟩
      have := q.2
      rw [List.flatten_cons, ← List.append_assoc] at this
      exact (List.nodup_append.mp this).1
structure Turns (p : Int) (ts : List (Int × Int)) (T : List (List Int)) : Prop where
  len : (T.length : Int) = p
  rows : RowsGd ts 0 T
  nd : T.flatten.Nodup
  all : T.flatten.length = 2 * ts.length
theorem look_turns {h : List Int → D} {o : D} {T : List (List Int)} (ho : TTb h o T) (p : Int) (ts : List (Int × Int)) (hl : ts.length ≤ 1000) :
    (Turns p ts T ∧ g_look_at_turns [.ob 14 [.int p, .ls (ts.map dP)], o] = .ok .non) ∨ (¬ Turns p ts T ∧ g_look_at_turns [.ob 14 [.int p, .ls (ts.map dP)], o] = .xc 10) := by
  have lo : ∀ g : Env, gv g 1 = .ok o → eCall caLen (aCons (eVar 1) (aNil)) g = .ok (.int (T.length : Int)) := fun g e => by
    rw [eCall_, aCons_, eVar_, e]
    rcases ho.2 with rfl | rfl <;> simp
  have go : ∀ x2 x3 x4 x5 : D, gv [.ob 14 [.int p, .ls (ts.map dP)], o, x2, x3, x4, x5] 1 = .ok o := fun x2 x3 x4 x5 => by rcases ho.2 with rfl | rfl <;> rfl
  have en : ∀ x2 x3 x4 x5 : D, iEnm3 (aCons (eVar 1) (aNil)) [.ob 14 [.int p, .ls (ts.map dP)], o, x2, x3, x4, x5] = .ok (enm 0 (T.map h)) := fun x2 x3 x4 x5 => by
    rcases ho.2 with rfl | rfl <;> simp
  have t1 : ∀ x2 x3 x4 x5 : D, tC2 cNe (eCall caLen (aCons (eVar 1) (aNil))) (eUn (opFld 14 0) (eVar 0)) [.ob 14 [.int p, .ls (ts.map dP)], o, x2, x3, x4, x5] = .ok (!decide ((T.length : Int) = p)) := fun x2 x3 x4 x5 => by
    rw [tC2_, lo _ (go ..)]
    simp
  by_cases c : (T.length : Int) = p
  · have s1 : sIf (tC2 cNe (eCall caLen (aCons (eVar 1) (aNil))) (eUn (opFld 14 0) (eVar 0))) (sRaise 10) (sNil) [.ob 14 [.int p, .ls (ts.map dP)], o, .un, .un, .un, .un] = .nx [.ob 14 [.int p, .ls (ts.map dP)], o, .un, .un, .un, .un] := by
      rw [sIf_, t1]; simp [c]
    have s2 : sAsg 2 (eDic) [.ob 14 [.int p, .ls (ts.map dP)], o, .un, .un, .un, .un] = .nx [.ob 14 [.int p, .ls (ts.map dP)], o, dMp [], .un, .un, .un] := by
      have : dMp [] = .od [] [] := rfl
      rw [this]; simp
    rcases look_for ho.1 (p := .int p) hl o T 0 [] .un .un .un (by simp [keysM]) (fun _ q => (nomatch q)) with ⟨h1, h2, M', z3, z4, z5, h3, e⟩ | ⟨h1, g', e⟩
    · have h2 : T.flatten.Nodup := by simpa [keysM] using h2
      have h3 : keysM M' = T.flatten := by simpa [keysM] using h3
      have s3 : sFor (iEnm3 (aCons (eVar 1) (aNil))) (gtT 2 (gtCons (gtN 3) (gtCons (gtN 4) (gtNil)))) f_look_at_turns_l2 [.ob 14 [.int p, .ls (ts.map dP)], o, dMp [], .un, .un, .un] = .nx [.ob 14 [.int p, .ls (ts.map dP)], o, dMp M', z3, z4, z5] := by
        rw [sFor_, en]; exact e
      have t4 : tC2 cNe (eCall caLenD (aCons (eVar 2) (aNil))) (eBin opMul (eC (.int 2)) (eCall caLen (aCons (eUn (opFld 14 1) (eVar 0)) (aNil)))) [.ob 14 [.int p, .ls (ts.map dP)], o, dMp M', z3, z4, z5] = .ok (!decide (T.flatten.length = 2 * ts.length)) := by
        have hb : gv [.ob 14 [.int p, .ls (ts.map dP)], o, dMp M', z3, z4, z5] 2 = .ok (bMp M') := by rw [← brw_dMp]; rfl
        have ob : opd (bMp M') = bMp M' := rfl
        have cl : caLenD [bMp M'] = some (.int (T.flatten.length : Int)) := by
          unfold bMp
          rw [caLenD_]
          unfold ddK
          rw [List.length_map, List.length_map, ← h3]
          unfold keysM
          rw [List.length_map]
        have ll : opMul (.int 2) (.int (ts.length : Int)) = some (.int (2 * (ts.length : Int))) := opMul_l (by decide) (by decide)
        have ec : ((T.flatten.length : Int) = 2 * (ts.length : Int)) ↔ T.flatten.length = 2 * ts.length := by omega
        rw [tC2_, eCall_, aCons_, eVar_, hb]
        generalize bMp M' = bm at *
        generalize dMp M' = dm at *
        generalize T.flatten.length = fl at *
        simp [ob, cl, ll, ec]
      by_cases c2 : T.flatten.length = 2 * ts.length
      · left
        refine ⟨⟨c, h1, h2, c2⟩, ?_⟩
        refine runF_nx (g := [.ob 14 [.int p, .ls (ts.map dP)], o, dMp M', z3, z4, z5]) ?_
        show f_look_at_turns [.ob 14 [.int p, .ls (ts.map dP)], o, .un, .un, .un, .un] = _
        unfold f_look_at_turns
        refine seq_to s1 (seq_to s2 (seq_to s3 ?_))
        rw [sIf_, t4, decide_eq_true c2]
        rfl
      · right
        refine ⟨fun q => c2 q.all, ?_⟩
        refine runF_xc (g := [.ob 14 [.int p, .ls (ts.map dP)], o, dMp M', z3, z4, z5]) ?_
        show f_look_at_turns [.ob 14 [.int p, .ls (ts.map dP)], o, .un, .un, .un, .un] = _
        unfold f_look_at_turns
        refine seq_to s1 (seq_to s2 (seq_to s3 ?_))
        rw [sIf_, t4, decide_eq_false c2]
        rfl
    · right
      have h1 : ¬ (RowsGd ts 0 T ∧ T.flatten.Nodup) := by simpa [keysM] using h1
      refine ⟨fun q => h1 ⟨q.rows, q.nd⟩, ?_⟩
      refine runF_xc (g := g') ?_
      show f_look_at_turns [.ob 14 [.int p, .ls (ts.map dP)], o, .un, .un, .un, .un] = _
      unfold f_look_at_turns
      refine seq_to s1 (seq_to s2 ?_)
      rw [sSeq_, sFor_, en]
      show (match forL _ _ _ _ with | .nx g' => _ | o => o) = _
      rw [e]
  · right
    refine ⟨fun q => c q.len, ?_⟩
    refine runF_xc (g := [.ob 14 [.int p, .ls (ts.map dP)], o, .un, .un, .un, .un]) ?_
    show f_look_at_turns [.ob 14 [.int p, .ls (ts.map dP)], o, .un, .un, .un, .un] = _
    unfold f_look_at_turns
    rw [sSeq_, sIf_, t1]
    simp [c]
end Lw
end

noncomputable section
namespace Lw
open DL L2 TL Mp
variable {p : Int} {ts : List (Int × Int)} {T : List (List Int)}
theorem rows_in : ∀ {T : List (List Int)} {k : Nat}, RowsGd ts k T → ∀ d ∈ T.flatten, 0 ≤ d ∧ d < 2 * (ts.length : Int)
  | [], _, _, d, h => by simp at h
  | R :: T, k, h, d, hd => by
    rw [List.flatten_cons] at hd
    rcases List.mem_append.mp hd with q | q
    · exact (h.1 d q).1
    · exact rows_in h.2 d q
theorem rowsGd_at : ∀ {T : List (List Int)} {k : Nat}, RowsGd ts k T → ∀ (i : Nat) (R : List Int), T[i]? = some R → ∀ d ∈ R, gdD ts ((k + i : Nat) : Int) d
  | [], _, _, i, R, e => by simp at e
  | Q :: T, k, h, 0, R, e => by
    have e : Q = R := by simpa using e
    subst e
    exact h.1
  | Q :: T, k, h, i + 1, R, e => by
    have := rowsGd_at h.2 i R (by simpa using e)
    rw [show k + (i + 1) = k + 1 + i by omega]
    exact this
theorem Turns.mem (h : Turns p ts T) (d : Int) : d ∈ T.flatten ↔ inR (2 * ts.length) d := by
  have hin := rows_in h.rows
  constructor
  · intro q
    have := hin d q
    unfold inR; constructor <;> omega
  · intro q
    apply Classical.byContradiction
    intro c
    have l := nodup_le (l := d :: T.flatten) (m := iota (2 * ts.length)) (List.nodup_cons.mpr ⟨c, h.nd⟩) fun x hx => by
      rcases List.mem_cons.mp hx with rfl | hx
      · exact iota_mem.mpr q
      · have := hin x hx
        exact iota_mem.mpr (by constructor <;> omega)
    rw [iota_len, List.length_cons, h.all] at l
    omega
theorem flat_len {R : List Int} : ∀ {T : List (List Int)}, R ∈ T → R.length ≤ T.flatten.length
  | [], h => nomatch h
  | Q :: T, h => by
    rw [List.flatten_cons, List.length_append]
    rcases List.mem_cons.mp h with rfl | h
    · omega
    · have := flat_len h; omega
theorem Turns.row (h : Turns p ts T) {R : List Int} (hR : R ∈ T) : R.length ≤ 2 * ts.length ∧ ∀ d ∈ R, 0 ≤ d := by
  have := flat_len hR
  rw [h.all] at this
  exact ⟨this, fun d hd => (rows_in h.rows d (List.mem_flatten.mpr ⟨R, hR, hd⟩)).1⟩
def fT (T : List (List Int)) : Int → Int := nxD (dbM T [])
def sT (T : List (List Int)) : Int → Int := fun d => fT T (xr1 d)
theorem fT_sT (d : Int) : fT T d = sT T (xr1 d) := by unfold sT; rw [xr1_xr1]
def full (T : List (List Int)) : List (List Int) := T.filter fun R => !decide (R = [])
theorem full_mem {R : List Int} : R ∈ full T ↔ R ∈ T ∧ R ≠ [] := by unfold full; simp
theorem full_flat : ∀ T : List (List Int), (full T).flatten = T.flatten
  | [] => rfl
  | R :: T => by
    unfold full
    rw [List.filter_cons]
    by_cases c : R = []
    · subst c
      simp only [decide_true, Bool.not_true, if_false]
      exact full_flat T
    · rw [if_pos (by simp [c]), List.flatten_cons, List.flatten_cons]
      congr 1
      exact full_flat T
theorem cyc_rows (nd : T.flatten.Nodup) {R : List Int} (hR : R ∈ T) (ne : R ≠ []) : Cyc (sT T) R := by
  refine cyc_idx ne fun k k0 k1 => ?_
  have := dbM_at T [] nd R hR k k0 k1
  show nxD (dbM T []) (xr1 (nth R k)) = _
  unfold nxD
  rw [this]
  rfl
theorem Turns.dec (h : Turns p ts T) : Dec (sT T) (inR (2 * ts.length)) (full T) :=
  ⟨fun c hc => cyc_rows h.nd (full_mem.mp hc).1 (full_mem.mp hc).2, by rw [full_flat]; exact h.nd, fun d => by rw [full_flat]; exact h.mem d⟩
theorem xr_in {m : Nat} {d : Int} (h : inR (2 * m) d) : inR (2 * m) (xr1 d) := by
  have := xr1_in (m := m) (d := d) (by unfold inR at h; omega)
  unfold inR; omega
theorem Turns.fin (h : Turns p ts T) {d : Int} (hd : inR (2 * ts.length) d) : inR (2 * ts.length) (fT T d) := by
  rw [fT_sT]
  exact h.dec.to (xr_in hd)
theorem Turns.finj (h : Turns p ts T) {x y : Int} (hx : inR (2 * ts.length) x) (hy : inR (2 * ts.length) y) (e : fT T x = fT T y) : x = y := by
  rw [fT_sT, fT_sT] at e
  exact xr1_inj (h.dec.inj (xr_in hx) (xr_in hy) e)
def rnds (m : Nat) (T : List (List Int)) : List (List Int) := rnd (2 * m + 1) (fT T) (iota (2 * m)) []
theorem Turns.rdec (h : Turns p ts T) : Dec (fT T) (inR (2 * ts.length)) (rnds ts.length T) := rnd_dec (K := 2 * ts.length) (fun _ q => h.fin q) (fun _ _ q1 q2 e => h.finj q1 q2 e)
def rF (C : List (List Int)) : List (List Int) := if C = [] then [[]] else C
def rO' (C : List (List Int)) : D := .ol ((rF C).map dO')
theorem rO'_frz (C : List (List Int)) : frz (rO' C) = .ls ((rF C).map dR) ∧ nod (rO' C) = true ∧ kp (rO' C) = .ok (rO' C) := by
  obtain ⟨f1, f2⟩ := fO (rF C)
  exact ⟨by unfold rO'; rw [frz_ol, f1], by unfold rO'; simpa using f2, rfl⟩
theorem Turns.nx (h : Turns p ts T) : Nx (2 * ts.length) (dbM T []) where
  to := fun d d0 d1 => by
    have hd : inR (2 * ts.length) (xr1 d) := xr_in ⟨d0, by omega⟩
    obtain ⟨R, hR, hm⟩ := List.mem_flatten.mp ((h.mem _).mpr hd)
    obtain ⟨k, k0, k1, e⟩ := mem_nth hm
    have at1 := dbM_at T [] h.nd R hR k k0 k1
    rw [e, xr1_xr1] at at1
    have q0 := Int.emod_nonneg (k + 1) (b := (R.length : Int)) (by omega)
    have q1 := Int.emod_lt_of_pos (k + 1) (b := (R.length : Int)) (by omega)
    have mm := (h.mem _).mp (List.mem_flatten.mpr ⟨R, hR, nth_mem (m := R) q0 q1⟩)
    exact ⟨_, at1, mm.1, by have := mm.2; omega⟩
theorem ro_for {K : Nat} {M : List (Int × Int)} (hN : Nx K M) (hi : ∀ x y, inR K x → inR K y → nxD M x = nxD M y → x = y) (hK : K ≤ 500) (x0 x1 : D) : ∀ (ds v : List Int) (told : List (List Int)) (y5 y6 y7 : D), (∀ d ∈ ds, inR K d) → v.Nodup → (∀ y ∈ v, inR K y) → (∀ y, inR K y → nxD M y ∈ v → y ∈ v) → told.length + ds.length ≤ 5000 →
    ∃ v' z5 z6 z7, forL (gtN 5) f_rounds_of_l3 (ds.map D.int) [x0, x1, dMp M, dMet v, .ol (told.map dO'), y5, y6, y7] = .nx [x0, x1, dMp M, dMet v', .ol ((told ++ rnd (K + 1) (nxD M) ds v).map dO'), z5, z6, z7]
  | [], v, told, y5, y6, y7, _, _, _, _, _ => ⟨v, y5, y6, y7, by simp [forL, rnd]⟩
  | d :: ds, v, told, y5, y6, y7, hd, nd, hv, hc, ht => by
    have sd := hd d (List.mem_cons_self ..)
    rw [List.length_cons] at ht
    have ct : tC2 cDN (eVar 5) (eVar 3) [x0, x1, dMp M, dMet v, .ol (told.map dO'), .int d, y6, y7] = .ok (!decide (d ∈ v)) := by
      have e : gv [x0, x1, dMp M, dMet v, .ol (told.map dO'), .int d, y6, y7] 3 = .ok (bMet v) := by rw [← brw_met]; rfl
      have c := cDN_met v d
      have ob : opd (bMet v) = bMet v := rfl
      generalize bMet v = bv at *
      generalize dMet v = dv at *
      generalize dMp M = dm at *
      rw [tC2_, eVar_, eVar_, e]
      simp [ob, c]
    rw [List.map_cons]
    by_cases c : d ∈ v
    · obtain ⟨v', z5, z6, z7, ih⟩ := ro_for hN hi hK x0 x1 ds v told (.int d) y6 y7 (fun x hx => hd x (List.mem_cons_of_mem _ hx)) nd hv hc (by omega)
      refine ⟨v', z5, z6, z7, ?_⟩
      rw [show rnd (K + 1) (nxD M) (d :: ds) v = rnd (K + 1) (nxD M) ds v by show (if d ∈ v then _ else _) = _; rw [if_pos c], ← ih]
      refine forL_step (g1 := [x0, x1, dMp M, dMet v, .ol (told.map dO'), .int d, y6, y7]) rfl ?_
      unfold f_rounds_of_l3
      rw [sIf_, ct, decide_eq_true c]
      rfl
    · have sl := sub_len nd hv
      obtain ⟨z7, wh⟩ := ro_while hN (by omega) x0 x1 (.ol (told.map dO')) (.int d) (K + 1) fuel v [] d nd hv sd.1 sd.2 (by omega) (by unfold fuel; omega) (by simp; omega)
      obtain ⟨w1, w2, w3⟩ := wk_cyc (S := inR K) (fun d => Iff.rfl) (fun x hx => (hN.at hx.1 hx.2).2) hi v hc d c (K + 1) [] d (Or.inl ⟨rfl, rfl⟩) sd (by simpa using nd) (by simpa using hv) (by omega)
      simp only [List.append_nil, List.nil_append] at w1 w2 w3
      rw [show rnd (K + 1) (nxD M) (d :: ds) v = wk (K + 1) (nxD M) v d :: rnd (K + 1) (nxD M) ds (v ++ wk (K + 1) (nxD M) v d) by show (if d ∈ v then _ else _) = _; rw [if_neg c]]
      simp only [List.nil_append, List.map_nil] at wh
      generalize wk (K + 1) (nxD M) v d = w at *
      obtain ⟨v', z5, z6, z8, ih⟩ := ro_for hN hi hK x0 x1 ds (v ++ w) (told ++ [w]) (.int d) .un z7 (fun x hx => hd x (List.mem_cons_of_mem _ hx)) w2 w3 (fun y sy hy => by
        rcases List.mem_append.mp hy with z | z
        · exact List.mem_append_left _ (hc y sy z)
        · obtain ⟨u, u1, u2⟩ := w1.from z
          rw [hi y u sy (w3 u (List.mem_append_right _ u1)) u2.symm]
          exact List.mem_append_right _ u1) (by rw [List.length_append, List.length_singleton]; omega)
      refine ⟨v', z5, z6, z8, ?_⟩
      rw [show told ++ w :: rnd (K + 1) (nxD M) ds (v ++ w) = told ++ [w] ++ rnd (K + 1) (nxD M) ds (v ++ w) by simp, ← ih]
      refine forL_step (g1 := [x0, x1, dMp M, dMet v, .ol (told.map dO'), .int d, y6, y7]) rfl ?_
      unfold f_rounds_of_l3
      rw [sIf_, ct, decide_eq_false c]
      rw [Res.st_ok, Bool.not_false, if_pos rfl]
      have wh : sWhile f_rounds_of_l1t f_rounds_of_l1 [x0, x1, dMp M, dMet v, .ol (told.map dO'), .int d, .ol [], .int d] = .nx [x0, x1, dMp M, dMet (v ++ w), .ol (told.map dO'), .int d, .ol (w.map D.int), z7] := wh
      refine seq_to (g1 := [x0, x1, dMp M, dMet v, .ol (told.map dO'), .int d, .ol [], y7]) ?_ (seq_to (g1 := [x0, x1, dMp M, dMet v, .ol (told.map dO'), .int d, .ol [], .int d]) ?_ (seq_to (g1 := [x0, x1, dMp M, dMet (v ++ w), .ol (told.map dO'), .int d, .ol (w.map D.int), z7]) wh ?_))
      · generalize dMp M = dm
        generalize dMet v = dv
        simp
      · generalize dMp M = dm
        generalize dMet v = dv
        simp
      · have hl : told.length < lim := by rw [lim_eq]; omega
        generalize dMp M = dm
        generalize dMet (v ++ w) = dv
        simp [hl, dO']
theorem rounds_ok {h : List Int → D} {o : D} (ho : TTb h o T) (hl : ts.length ≤ 50) (hT : Turns p ts T) : g_rounds_of [.ob 14 [.int p, .ls (ts.map dP)], o] = .ok (rO' (rnds ts.length T)) := by
  have lk : g_look_at_turns [.ob 14 [.int p, .ls (ts.map dP)], o] = .ok .non := by
    rcases look_turns ho p ts (by omega) with ⟨_, e⟩ | ⟨n, _⟩
    · exact e
    · exact absurd hT n
  have bh := behind_ok ho (fun R hR => ⟨by have := (hT.row hR).1; omega, (hT.row hR).2⟩) (by rw [hT.all]; omega)
  obtain ⟨v', z5, z6, z7, fo⟩ := ro_for hT.nx (fun x y q1 q2 e => hT.finj q1 q2 e) (by omega) (.ob 14 [.int p, .ls (ts.map dP)]) o (iota (2 * ts.length)) [] [] .un .un .un (fun d hd => iota_mem.mp hd) (by simp) (fun _ q => (nomatch q)) (fun _ _ q => (nomatch q)) (by rw [iota_len]; simp; omega)
  have go : ∀ x2 x3 x4 x5 x6 x7 : D, gv [.ob 14 [.int p, .ls (ts.map dP)], o, x2, x3, x4, x5, x6, x7] 1 = .ok o := fun x2 x3 x4 x5 x6 x7 => by rcases ho.2 with rfl | rfl <;> rfl
  have so : shd1 o = true ∧ opd o = o := by rcases ho.2 with rfl | rfl <;> exact ⟨rfl, rfl⟩
  have s1 : sExp (eOwn g_look_at_turns (aCons (eVar 0) (aCons (eVar 1) (aNil)))) [.ob 14 [.int p, .ls (ts.map dP)], o, .un, .un, .un, .un, .un, .un] = .nx [.ob 14 [.int p, .ls (ts.map dP)], o, .un, .un, .un, .un, .un, .un] := by
    rw [sExp_, eOwn_, aCons_, aCons_, eVar_, eVar_, go]
    simp [so.1, so.2, lk]
  have s2 : sAsg 2 (eOwn g_darts_behind (aCons (eVar 1) (aNil))) [.ob 14 [.int p, .ls (ts.map dP)], o, .un, .un, .un, .un, .un, .un] = .nx [.ob 14 [.int p, .ls (ts.map dP)], o, dMp (dbM T []), .un, .un, .un, .un, .un] := by
    have kk : kp (dMp (dbM T [])) = .ok (dMp (dbM T [])) := rfl
    rw [sAsg_, eOwn_, aCons_, eVar_, go]
    generalize dMp (dbM T []) = dm at *
    simp [-kp, so.1, so.2, bh, kk]
  have s3 : sAsg 3 (eDic) [.ob 14 [.int p, .ls (ts.map dP)], o, dMp (dbM T []), .un, .un, .un, .un, .un] = .nx [.ob 14 [.int p, .ls (ts.map dP)], o, dMp (dbM T []), dMet [], .un, .un, .un, .un] := by
    have : dMet [] = .od [] [] := rfl
    rw [this]
    generalize dMp (dbM T []) = dm at *
    simp
  have s4 : sAsg 4 (eLst (aNil)) [.ob 14 [.int p, .ls (ts.map dP)], o, dMp (dbM T []), dMet [], .un, .un, .un, .un] = .nx [.ob 14 [.int p, .ls (ts.map dP)], o, dMp (dbM T []), dMet [], .ol [], .un, .un, .un] := by
    generalize dMp (dbM T []) = dm at *
    generalize dMet [] = dv at *
    simp
  have s5 : sFor (iRg1 (aCons (eBin opMul (eC (.int 2)) (eCall caLen (aCons (eUn (opFld 14 1) (eVar 0)) (aNil)))) (aNil))) (gtN 5) f_rounds_of_l3 [.ob 14 [.int p, .ls (ts.map dP)], o, dMp (dbM T []), dMet [], .ol [], .un, .un, .un] = .nx [.ob 14 [.int p, .ls (ts.map dP)], o, dMp (dbM T []), dMet v', .ol ((rnds ts.length T).map dO'), z5, z6, z7] := by
    have ll : opMul (.int 2) (.int (ts.length : Int)) = some (.int (2 * (ts.length : Int))) := opMul_l (by decide) (by decide)
    have hr : rgOk (2 * (ts.length : Int)) := rgOk_of (by omega) (by omega)
    have hn : 2 * (ts.length : Int) ≤ 1000000 := by omega
    have et : rng 0 (2 * (ts.length : Int)).toNat = (iota (2 * ts.length)).map D.int := by rw [show (2 * (ts.length : Int)).toNat = 2 * ts.length by omega, rng_iota]
    rw [List.nil_append, List.map_nil] at fo
    rw [show rnds ts.length T = rnd (2 * ts.length + 1) (nxD (dbM T [])) (iota (2 * ts.length)) [] from rfl]
    generalize dMp (dbM T []) = dm at *
    generalize dMet [] = dv at *
    generalize dMet v' = dv' at *
    rw [sFor_, iRg1_]
    simp [ll, hr, hn, et, fo]
  have e1 : f_rounds_of [.ob 14 [.int p, .ls (ts.map dP)], o, .un, .un, .un, .un, .un, .un] = .rt (rO' (rnds ts.length T)) := by
    unfold f_rounds_of
    refine seq_to s1 (seq_to s2 (seq_to s3 (seq_to s4 (seq_to s5 ?_))))
    unfold rO' rF
    generalize rnds ts.length T = C at *
    generalize dMp (dbM T []) = dm at *
    generalize dMet v' = dv' at *
    cases C with
    | nil => simp [dO']
    | cons c C =>
      have : ¬ ((C.length : Int) + 1 = 0) := by omega
      have bl : (brws (C.map dO')).length = C.length := by
        clear this fo s5
        induction C with
        | nil => rfl
        | cons c C ih => simp [ih]
      have b2 : brw (dO' c) = .bo (c.map D.int) := by simp [dO']
      simp [this, bl, b2]
  exact runF_rt e1
theorem rounds_no {h : List Int → D} {o : D} (ho : TTb h o T) (hl : ts.length ≤ 50) (hT : ¬ Turns p ts T) : g_rounds_of [.ob 14 [.int p, .ls (ts.map dP)], o] = .xc 10 := by
  have lk : g_look_at_turns [.ob 14 [.int p, .ls (ts.map dP)], o] = .xc 10 := by
    rcases look_turns ho p ts (by omega) with ⟨n, _⟩ | ⟨_, e⟩
    · exact absurd n hT
    · exact e
  have go : ∀ x2 x3 x4 x5 x6 x7 : D, gv [.ob 14 [.int p, .ls (ts.map dP)], o, x2, x3, x4, x5, x6, x7] 1 = .ok o := fun x2 x3 x4 x5 x6 x7 => by rcases ho.2 with rfl | rfl <;> rfl
  have so : shd1 o = true ∧ opd o = o := by rcases ho.2 with rfl | rfl <;> exact ⟨rfl, rfl⟩
  refine runF_xc (g := [.ob 14 [.int p, .ls (ts.map dP)], o, .un, .un, .un, .un, .un, .un]) ?_
  show f_rounds_of [.ob 14 [.int p, .ls (ts.map dP)], o, .un, .un, .un, .un, .un, .un] = _
  unfold f_rounds_of
  rw [sSeq_, sExp_, eOwn_, aCons_, aCons_, eVar_, eVar_, go]
  simp [so.1, so.2, lk]
end Lw
end

noncomputable section
namespace Lw
open DL L2 TL Mp
variable {p : Int} {ts : List (Int × Int)} {T : List (List Int)}
theorem iota_sorted (n : Nat) : (iota n).Pairwise (· < ·) := (good_iff.mp (iota_good n)).2
end Lw
end

noncomputable section
namespace Lw
open DL L2 TL Mp
variable {p : Int} {ts : List (Int × Int)} {T : List (List Int)}
theorem erase_perm : ∀ {l : List Int} {i : Nat} {x : Int}, l[i]? = some x → (x :: l.eraseIdx i).Perm l
  | [], i, x, h => by simp at h
  | a :: l, 0, x, h => by
    have h : a = x := by simpa using h
    subst h
    exact List.Perm.refl _
  | a :: l, i + 1, x, h => by
    have h : l[i]? = some x := by simpa using h
    rw [List.eraseIdx_cons_succ]
    exact (List.Perm.swap a x _).trans ((erase_perm h).cons a)
theorem turns_nd : ∀ {T : List (List Int)} {k : Nat}, (∀ (i : Nat) (R : List Int), T[i]? = some R → R.Nodup ∧ ∀ d ∈ R, dpl ts d = ((k + i : Nat) : Int)) → T.flatten.Nodup ∧ ∀ d ∈ T.flatten, ∃ i : Nat, k ≤ i ∧ dpl ts d = (i : Int)
  | [], k, _ => ⟨by simp, fun d h => by simp at h⟩
  | R :: T, k, h => by
    obtain ⟨h1, h2⟩ := h 0 R rfl
    obtain ⟨i1, i2⟩ := turns_nd (T := T) (k := k + 1) fun i Q e => by
      have := h (i + 1) Q (by simpa using e)
      rw [show k + (i + 1) = k + 1 + i by omega] at this
      exact this
    rw [List.flatten_cons]
    refine ⟨List.nodup_append.mpr ⟨h1, i1, fun x hx y hy e => ?_⟩, fun d hd => ?_⟩
    · subst e
      obtain ⟨i, q1, q2⟩ := i2 x hy
      have := h2 x hx
      rw [q2] at this
      omega
    · rcases List.mem_append.mp hd with q | q
      · exact ⟨k, Nat.le_refl _, by simpa using h2 d q⟩
      · obtain ⟨i, q1, q2⟩ := i2 d q
        exact ⟨i, by omega, q2⟩
theorem rowsGd_of : ∀ {T : List (List Int)} {k : Nat}, (∀ (i : Nat) (R : List Int), T[i]? = some R → ∀ d ∈ R, gdD ts ((k + i : Nat) : Int) d) → RowsGd ts k T
  | [], _, _ => trivial
  | R :: T, k, h => ⟨by simpa using h 0 R rfl, rowsGd_of fun i Q e => by
      have := h (i + 1) Q (by simpa using e)
      rw [show k + (i + 1) = k + 1 + i by omega] at this
      exact this⟩
theorem dpl_in (hE : EndsOk p ts) {d : Int} (h : inR (2 * ts.length) d) : 0 ≤ dpl ts d ∧ dpl ts d < p := by
  obtain ⟨d0, d1⟩ := h
  obtain ⟨_, e2⟩ := tie_at (ts := ts) (i := d / 2) (by omega) (by omega)
  obtain ⟨a, b⟩ := hE _ e2
  unfold dpl
  split
  · exact a
  · exact b
theorem turns_of (hE : EndsOk p ts) (hl : (T.length : Int) = p) (h : ∀ (i : Nat) (R : List Int), T[i]? = some R → R.Nodup ∧ ∀ d, d ∈ R ↔ gdD ts (i : Int) d) : Turns p ts T := by
  obtain ⟨n1, _⟩ := turns_nd (T := T) (k := 0) (ts := ts) fun i R e => ⟨(h i R e).1, fun d hd => by rw [Nat.zero_add]; exact (((h i R e).2 d).mp hd).2⟩
  have rg : RowsGd ts 0 T := rowsGd_of fun i R e d hd => by rw [Nat.zero_add]; exact ((h i R e).2 d).mp hd
  refine ⟨hl, rg, n1, ?_⟩
  have pm : T.flatten.Perm (iota (2 * ts.length)) := by
    refine (List.perm_ext_iff_of_nodup n1 (iota_nodup _)).mpr fun d => ?_
    rw [iota_mem]
    constructor
    · intro q
      have := rows_in rg d q
      constructor <;> omega
    · intro q
      obtain ⟨a, b⟩ := dpl_in hE (d := d) q
      have hlt : (dpl ts d).toNat < T.length := by omega
      refine List.mem_flatten.mpr ⟨T[(dpl ts d).toNat], List.getElem_mem hlt, ?_⟩
      refine ((h _ _ (List.getElem?_eq_getElem hlt)).2 d).mpr ⟨⟨q.1, by have := q.2; omega⟩, by omega⟩
  rw [pm.length_eq, iota_len]
def dAt (ts : List (Int × Int)) (k : Int) (l : List Int) : List Int := l.flatMap fun t => (if (tieAt ts t).1 = k then [2 * t] else []) ++ (if (tieAt ts t).2 = k then [2 * t + 1] else [])
theorem dAt_mem {k : Int} {l : List Int} {d : Int} : d ∈ dAt ts k l ↔ d / 2 ∈ l ∧ dpl ts d = k := by
  unfold dAt
  rw [List.mem_flatMap]
  constructor
  · rintro ⟨t, ht, hd⟩
    rcases List.mem_append.mp hd with q | q
    · by_cases c : (tieAt ts t).1 = k
      · rw [if_pos c] at q
        have e : d = 2 * t := by simpa using q
        subst e
        have e2 : 2 * t / 2 = t := by omega
        have e3 : 2 * t % 2 = 0 := by omega
        unfold dpl
        rw [e2, if_pos e3]
        exact ⟨ht, c⟩
      · rw [if_neg c] at q; exact absurd q (by simp)
    · by_cases c : (tieAt ts t).2 = k
      · rw [if_pos c] at q
        have e : d = 2 * t + 1 := by simpa using q
        subst e
        have e2 : (2 * t + 1) / 2 = t := by omega
        have e3 : ¬ (2 * t + 1) % 2 = 0 := by omega
        unfold dpl
        rw [e2, if_neg e3]
        exact ⟨ht, c⟩
      · rw [if_neg c] at q; exact absurd q (by simp)
  · rintro ⟨h1, h2⟩
    refine ⟨d / 2, h1, ?_⟩
    unfold dpl at h2
    by_cases c : d % 2 = 0
    · rw [if_pos c] at h2
      exact List.mem_append_left _ (by rw [if_pos h2]; simp; omega)
    · rw [if_neg c] at h2
      exact List.mem_append_right _ (by rw [if_pos h2]; simp; omega)
theorem dAt_nd {k : Int} : ∀ {l : List Int}, l.Nodup → (dAt ts k l).Nodup
  | [], _ => by simp [dAt]
  | t :: l, nd => by
    rw [List.nodup_cons] at nd
    have ih := dAt_nd (k := k) nd.2
    unfold dAt at ih ⊢
    rw [List.flatMap_cons, List.nodup_append]
    refine ⟨?_, ih, fun x hx y hy e => ?_⟩
    · by_cases c : (tieAt ts t).1 = k <;> by_cases c2 : (tieAt ts t).2 = k <;> simp [c, c2]
      omega
    · subst e
      have := (dAt_mem (ts := ts) (k := k) (l := l) (d := x)).mp hy
      have h2 : x / 2 = t := by
        rcases List.mem_append.mp hx with q | q
        · by_cases c : (tieAt ts t).1 = k
          · rw [if_pos c] at q
            have : x = 2 * t := by simpa using q
            omega
          · rw [if_neg c] at q; exact absurd q (by simp)
        · by_cases c : (tieAt ts t).2 = k
          · rw [if_pos c] at q
            have : x = 2 * t + 1 := by simpa using q
            omega
          · rw [if_neg c] at q; exact absurd q (by simp)
      rw [h2] at this
      exact nd.1 this.1
theorem dAt_len (k : Int) : ∀ (l : List Int), (dAt ts k l).length ≤ 2 * l.length
  | [] => by simp [dAt]
  | t :: l => by
    have ih := dAt_len k l
    unfold dAt at ih ⊢
    have h1 : ((if (tieAt ts t).1 = k then [2 * t] else []) ++ (if (tieAt ts t).2 = k then [2 * t + 1] else [])).length ≤ 2 := by
      by_cases c : (tieAt ts t).1 = k <;> by_cases c2 : (tieAt ts t).2 = k <;> simp [c, c2]
    rw [List.flatMap_cons, List.length_append, List.length_cons]
    omega
theorem er_map : ∀ (l : List Int) (i : Nat), (l.map D.int).eraseIdx i = (l.eraseIdx i).map D.int
  | [], i => by simp
  | a :: l, 0 => rfl
  | a :: l, i + 1 => by rw [List.map_cons, List.eraseIdx_cons_succ, List.eraseIdx_cons_succ, List.map_cons, er_map l i]
theorem any_l1 (x0 x1 x2 x3 x8 : D) (k : Int) : ∀ (l : List Int) (A : List Int) (y6 y7 : D), A.length + 2 * l.length ≤ 5000 → (∀ t ∈ l, t.natAbs ≤ 1000) →
    ∃ z6 z7, forL (gtT 2 (gtCons (gtN 6) (gtCons (gtN 7) (gtNil)))) f_law_any_turns_l1 (l.map fun i => (.tp [.int i, dP (tieAt ts i)] : D)) [x0, x1, x2, x3, .int k, .ol (A.map D.int), y6, y7, x8] = .nx [x0, x1, x2, x3, .int k, .ol ((A ++ dAt ts k l).map D.int), z6, z7, x8]
  | [], A, y6, y7, _, _ => ⟨y6, y7, by simp [forL, dAt]⟩
  | t :: l, A, y6, y7, hA, ht => by
    rw [List.length_cons] at hA
    have bt := ht t (List.mem_cons_self ..)
    have bl : A.length < lim := by rw [lim_eq]; omega
    have bl1 : A.length + 1 < lim := by rw [lim_eq]; omega
    have o2 : opMul (.int 2) (.int t) = some (.int (2 * t)) := opMul_l (by decide) (by decide)
    obtain ⟨z6, z7, ih⟩ := any_l1 x0 x1 x2 x3 x8 k l (A ++ ((if (tieAt ts t).1 = k then [2 * t] else []) ++ (if (tieAt ts t).2 = k then [2 * t + 1] else []))) (.int t) (dP (tieAt ts t)) (by
      rw [List.length_append, List.length_append]
      by_cases c : (tieAt ts t).1 = k <;> by_cases c2 : (tieAt ts t).2 = k <;> simp [c, c2] <;> omega) (fun u hu => ht u (List.mem_cons_of_mem _ hu))
    refine ⟨z6, z7, ?_⟩
    have e : A ++ dAt ts k (t :: l) = A ++ ((if (tieAt ts t).1 = k then [2 * t] else []) ++ (if (tieAt ts t).2 = k then [2 * t + 1] else [])) ++ dAt ts k l := by
      unfold dAt
      rw [List.flatMap_cons]
      simp only [List.append_assoc]
    rw [e, ← ih, List.map_cons]
    refine forL_step (g1 := [x0, x1, x2, x3, .int k, .ol (A.map D.int), .int t, dP (tieAt ts t), x8]) (by simp) ?_
    unfold f_law_any_turns_l1
    by_cases c : (tieAt ts t).1 = k <;> by_cases c2 : (tieAt ts t).2 = k <;> simp [c, c2, o2, bl, bl1]
theorem any_while (x0 x1 x3 x4 x6 x7 : D) : ∀ (n f : Nat) (darts row : List Int) (m : Int), darts.length ≤ n → n < f → row.length + darts.length ≤ 5000 →
    ∃ (m' : Int) (row' : List Int), row'.Perm (row ++ darts) ∧ whileN f_law_any_turns_l2t f_law_any_turns_l2 f [x0, x1, .int m, x3, x4, .ol (darts.map D.int), x6, x7, .ol (row.map D.int)] = .nx [x0, x1, .int m', x3, x4, .ol [], x6, x7, .ol (row'.map D.int)]
  | n, 0, darts, row, m, hn, hf, _ => by omega
  | n, f + 1, darts, row, m, hn, hf, hb => by
    have ct : f_law_any_turns_l2t [x0, x1, .int m, x3, x4, .ol (darts.map D.int), x6, x7, .ol (row.map D.int)] = .ok (decide (0 < (darts.length : Int))) := by
      unfold f_law_any_turns_l2t
      simp
    rw [whileN_succ, ct, Res.st_ok]
    by_cases c : darts = []
    · subst c
      refine ⟨m, row, by simp, ?_⟩
      simp
    · have hl : 0 < darts.length := List.length_pos_iff.mpr c
      match n, hn with
      | 0, hn => omega
      | n + 1, hn =>
        obtain ⟨w, ew⟩ : ∃ w, w = mxF m 50 := ⟨_, rfl⟩
        have mx := mx_ok m 50 (by omega) (by omega)
        rw [← ew] at mx
        have hl' : (0 : Int) < (darts.length : Int) := by omega
        have z0 := Int.emod_nonneg (w / 8) (b := (darts.length : Int)) (by omega)
        have z1 := Int.emod_lt_of_pos (w / 8) hl'
        obtain ⟨z, ez⟩ : ∃ z, z = w / 8 % (darts.length : Int) := ⟨_, rfl⟩
        rw [← ez] at z0 z1
        have xi : ixN darts.length z = some z.toNat := ixN_nat z0 z1
        have hz : z.toNat < darts.length := by omega
        have ey : darts[z.toNat]? = some darts[z.toNat] := List.getElem?_eq_getElem hz
        obtain ⟨y, hy⟩ : ∃ y, y = darts[z.toNat] := ⟨_, rfl⟩
        rw [← hy] at ey
        have pm := erase_perm ey
        have el : (darts.eraseIdx z.toNat).length = darts.length - 1 := by rw [List.length_eraseIdx, if_pos hz]
        obtain ⟨m', row', ih1, ih2⟩ := any_while x0 x1 x3 x4 x6 x7 n f (darts.eraseIdx z.toNat) (row ++ [y]) w (by omega) (by omega) (by rw [List.length_append, List.length_singleton]; omega)
        refine ⟨m', row', ih1.trans ?_, ?_⟩
        · rw [List.append_assoc]
          exact List.Perm.append_left row pm
        · have b1 : darts.length ≤ lim := by rw [lim_eq]; omega
          have b2 : row.length < lim := by rw [lim_eq]; omega
          have em : (darts.map D.int).eraseIdx z.toNat = (darts.eraseIdx z.toNat).map D.int := by
            exact er_map _ _
          have ey' : (darts.map D.int)[z.toNat]? = some (.int y) := by rw [List.getElem?_map, ey]; rfl
          have s1 : sAsgF 2 (eOwn g_law_mixed_v2 (aCons (eVar 2) (aCons (eC (.int 50)) (aNil)))) [x0, x1, .int m, x3, x4, .ol (darts.map D.int), x6, x7, .ol (row.map D.int)] = .nx [x0, x1, .int w, x3, x4, .ol (darts.map D.int), x6, x7, .ol (row.map D.int)] := by
            simp [mx]
          have s2 : sAppPop 8 5 (eBin opMod (eBin opDiv (eVar 2) (eC (.int 8))) (eCall caLen (aCons (eVar 5) (aNil)))) [x0, x1, .int w, x3, x4, .ol (darts.map D.int), x6, x7, .ol (row.map D.int)] = .nx [x0, x1, .int w, x3, x4, .ol ((darts.eraseIdx z.toNat).map D.int), x6, x7, .ol ((row ++ [y]).map D.int)] := by
            have od : opDiv (.int w) (.int 8) = some (.int (w / 8)) := opDiv_pos (by decide) (by decide)
            have om : opMod (.int (w / 8)) (.int (darts.length : Int)) = some (.int z) := by rw [opMod_pos hl', ← ez]
            have ow : own1 (.int y) = false := rfl
            have bd := brws_I darts
            rw [← em]
            generalize hD : darts.map D.int = DD at *
            have ld : DD.length = darts.length := by rw [← hD, List.length_map]
            simp [od, ld, om, xi, ey', ow, b1, b2, bd]
          have body : f_law_any_turns_l2 [x0, x1, .int m, x3, x4, .ol (darts.map D.int), x6, x7, .ol (row.map D.int)] = .nx [x0, x1, .int w, x3, x4, .ol ((darts.eraseIdx z.toNat).map D.int), x6, x7, .ol ((row ++ [y]).map D.int)] := seq_to s1 s2
          rw [decide_eq_true hl', if_pos rfl, body]
          exact ih2
theorem any_l4 (x0 : D) (hl : ts.length ≤ 100) : ∀ (n : Nat) (lo : Int) (A : List (List Int)) (m : Int) (y4 y5 y6 y7 y8 : D), 0 ≤ lo → lo + n ≤ 1000 → A.length + n ≤ 1000 →
    ∃ (B : List (List Int)) (m' : Int) (z4 z5 z6 z7 z8 : D), B.length = n ∧ (∀ (i : Nat) (R : List Int), B[i]? = some R → R.Perm (dAt ts (lo + i) (iota ts.length))) ∧
      forL (gtN 4) f_law_any_turns_l4 (rng lo n) [x0, .ls (ts.map dP), .int m, .ol (A.map dR), y4, y5, y6, y7, y8] = .nx [x0, .ls (ts.map dP), .int m', .ol ((A ++ B).map dR), z4, z5, z6, z7, z8]
  | 0, lo, A, m, y4, y5, y6, y7, y8, _, _, _ => ⟨[], m, y4, y5, y6, y7, y8, rfl, fun i R e => by simp at e, by simp [rng_zero, forL]⟩
  | n + 1, lo, A, m, y4, y5, y6, y7, y8, h0, h1, h2 => by
    have dl := dAt_len (ts := ts) lo (iota ts.length)
    rw [iota_len] at dl
    obtain ⟨w6, w7, e1⟩ := any_l1 (ts := ts) x0 (.ls (ts.map dP)) (.int m) (.ol (A.map dR)) y8 lo (iota ts.length) [] y6 y7 (by rw [iota_len]; simp; omega) (fun t ht => by have := iota_mem.mp ht; omega)
    rw [List.nil_append, List.map_nil] at e1
    obtain ⟨m', row, pr, e2⟩ := any_while x0 (.ls (ts.map dP)) (.ol (A.map dR)) (.int lo) w6 w7 (dAt ts lo (iota ts.length)).length fuel (dAt ts lo (iota ts.length)) [] m (Nat.le_refl _) (by unfold fuel; omega) (by simp; omega)
    rw [List.nil_append] at pr
    rw [List.map_nil] at e2
    have e2 : sWhile f_law_any_turns_l2t f_law_any_turns_l2 [x0, .ls (ts.map dP), .int m, .ol (A.map dR), .int lo, .ol ((dAt ts lo (iota ts.length)).map D.int), w6, w7, .ol []] = .nx [x0, .ls (ts.map dP), .int m', .ol (A.map dR), .int lo, .ol [], w6, w7, .ol (row.map D.int)] := e2
    obtain ⟨B, m2, z4, z5, z6, z7, z8, i1, i2, i3⟩ := any_l4 x0 hl n (lo + 1) (A ++ [row]) m' (.int lo) (.ol []) w6 w7 (dR row) (by omega) (by omega) (by rw [List.length_append, List.length_singleton]; omega)
    refine ⟨row :: B, m2, z4, z5, z6, z7, z8, by simp [i1], fun i R e => ?_, ?_⟩
    · cases i with
      | zero =>
        have e : row = R := by simpa using e
        subst e
        simpa using pr
      | succ i =>
        have := i2 i R (by simpa using e)
        rw [show lo + ((i + 1 : Nat) : Int) = lo + 1 + (i : Int) by omega]
        exact this
    · rw [show A ++ row :: B = A ++ [row] ++ B by simp, ← i3, rng_succ]
      refine forL_step (g1 := [x0, .ls (ts.map dP), .int m, .ol (A.map dR), .int lo, y5, y6, y7, y8]) rfl ?_
      have en := enm_iota ts
      have bA : A.length < lim := by rw [lim_eq]; omega
      have s1 : sAsg 5 (eLst (aNil)) [x0, .ls (ts.map dP), .int m, .ol (A.map dR), .int lo, y5, y6, y7, y8] = .nx [x0, .ls (ts.map dP), .int m, .ol (A.map dR), .int lo, .ol [], y6, y7, y8] := by simp
      have s2 : sFor (iEnm (aCons (eVar 1) (aNil))) (gtT 2 (gtCons (gtN 6) (gtCons (gtN 7) (gtNil)))) f_law_any_turns_l1 [x0, .ls (ts.map dP), .int m, .ol (A.map dR), .int lo, .ol [], y6, y7, y8] = .nx [x0, .ls (ts.map dP), .int m, .ol (A.map dR), .int lo, .ol ((dAt ts lo (iota ts.length)).map D.int), w6, w7, y8] := by
        rw [sFor_]
        have ie : iEnm (aCons (eVar 1) (aNil)) [x0, .ls (ts.map dP), .int m, .ol (A.map dR), .int lo, .ol [], y6, y7, y8] = .ok ((iota ts.length).map fun i => (.tp [.int i, dP (tieAt ts i)] : D)) := by
          rw [← en]; simp
        rw [ie]
        exact e1
      have s3 : sAsg 8 (eLst (aNil)) [x0, .ls (ts.map dP), .int m, .ol (A.map dR), .int lo, .ol ((dAt ts lo (iota ts.length)).map D.int), w6, w7, y8] = .nx [x0, .ls (ts.map dP), .int m, .ol (A.map dR), .int lo, .ol ((dAt ts lo (iota ts.length)).map D.int), w6, w7, .ol []] := by simp
      have s4 : sFrz 8 (sApp 3 (eVar 8)) [x0, .ls (ts.map dP), .int m', .ol (A.map dR), .int lo, .ol [], w6, w7, .ol (row.map D.int)] = .nx [x0, .ls (ts.map dP), .int m', .ol ((A ++ [row]).map dR), .int lo, .ol [], w6, w7, dR row] := by
        simp [bA, dR, frzAt]
      exact seq_to s1 (seq_to s2 (seq_to s3 (seq_to e2 s4)))
theorem any_ok {q : Nat} (hq : 1 ≤ q) (hq2 : q ≤ 100) (hE : EndsOk q ts) (hl : ts.length ≤ 100) (m : Int) : ∃ T : List (List Int), Turns q ts T ∧ g_law_any_turns [.int q, .ls (ts.map dP), .int m] = .ok (.ol (T.map dR)) := by
  obtain ⟨B, m', z4, z5, z6, z7, z8, h1, h2, h3⟩ := any_l4 (ts := ts) (.int q) hl q 0 [] m .un .un .un .un .un (by omega) (by omega) (by simp; omega)
  refine ⟨B, turns_of hE (by omega) fun i R e => ?_, ?_⟩
  · have pm := h2 i R e
    rw [Int.zero_add] at pm
    refine ⟨pm.nodup_iff.mpr (dAt_nd (iota_nodup _)), fun d => ?_⟩
    rw [pm.mem_iff, dAt_mem, iota_mem]
    unfold gdD
    constructor
    · rintro ⟨q1, q2⟩; exact ⟨by omega, q2⟩
    · rintro ⟨q1, q2⟩; exact ⟨by omega, q2⟩
  · have hr : rgOk (q : Int) := rgOk_of (by omega) (by omega)
    have hn : (q : Int) ≤ 1000000 := by omega
    rw [List.nil_append, List.map_nil] at h3
    refine runF_rt ?_
    show f_law_any_turns [.int q, .ls (ts.map dP), .int m, .un, .un, .un, .un, .un, .un] = _
    unfold f_law_any_turns
    refine seq_to (g1 := [.int q, .ls (ts.map dP), .int m, .ol [], .un, .un, .un, .un, .un]) (by simp) (seq_to (g1 := [.int q, .ls (ts.map dP), .int m', .ol (B.map dR), z4, z5, z6, z7, z8]) ?_ ?_)
    · rw [sFor_, iRg1_]
      simp [hr, hn, h3]
    · simp
end Lw
end

noncomputable section
namespace Lw
open DL L2 TL Mp
theorem am_sa {x0 x1 y5 y6 y7 : D} {cs r k : Int} {L : List Int} (es : g_law_at [x0, .int 2] = .ok (.int cs)) (mx : g_law_mixed_v2 [.int cs, .int k] = .ok (.int r)) (bL : L.length < lim) (hx : ∃ s : List Int, x0 = .sc (s.map D.int)) : f_law_amounts_l1 [x0, x1, .ol (L.map D.int), .int 0, .int k, y5, y6, y7] = .nx [x0, x1, .ol ((L ++ [r % 20000]).map D.int), .int (r / 20000), .int k, y5, y6, y7] := by
  obtain ⟨s, rfl⟩ := hx
  simp [f_law_amounts_l1, es, mx, bL]
theorem am_sb {x0 x1 y5 y6 y7 : D} {r k : Int} {L : List Int} (h : ¬ r = 0) (bL : L.length < lim) : f_law_amounts_l1 [x0, x1, .ol (L.map D.int), .int r, .int k, y5, y6, y7] = .nx [x0, x1, .ol ((L ++ [r % 20000]).map D.int), .int (r / 20000), .int k, y5, y6, y7] := by
  simp [f_law_amounts_l1, h, bL]
theorem am_l1 (s : List Int) (cs : Int) (es : g_law_at [.sc (s.map D.int), .int 2] = .ok (.int cs)) (x1 y5 y6 y7 : D) : ∀ (n lo : Nat) (rest : Int) (L : List Int) (y4 : D), lo + n ≤ 200 → L.length + n ≤ 1000 →
    ∃ (rest' : Int) (L' : List Int) (z4 : D), L'.length = L.length + n ∧ forL (gtN 4) f_law_amounts_l1 (rng lo n) [.sc (s.map D.int), x1, .ol (L.map D.int), .int rest, y4, y5, y6, y7] = .nx [.sc (s.map D.int), x1, .ol (L'.map D.int), .int rest', z4, y5, y6, y7] := by
  intro n
  induction n with
  | zero => exact fun lo rest L y4 _ _ => ⟨rest, L, y4, rfl, by rw [rng_zero]; rfl⟩
  | succ n IH =>
    intro lo rest L y4 hl hn
    have bL : L.length < lim := by rw [lim_eq]; omega
    have mx := mx_ok cs (lo : Int) (by omega) (by omega)
    obtain ⟨r, st⟩ : ∃ r, f_law_amounts_l1 [.sc (s.map D.int), x1, .ol (L.map D.int), .int rest, .int (lo : Int), y5, y6, y7] = .nx [.sc (s.map D.int), x1, .ol ((L ++ [r % 20000]).map D.int), .int (r / 20000), .int (lo : Int), y5, y6, y7] := by
      by_cases c0 : rest = 0
      · rw [c0]
        exact ⟨_, am_sa es mx bL ⟨s, rfl⟩⟩
      · exact ⟨_, am_sb c0 bL⟩
    obtain ⟨rest', L', z4, i1, i3⟩ := IH (lo + 1) (r / 20000) (L ++ [r % 20000]) (.int (lo : Int)) (by omega) (by rw [List.length_append, List.length_singleton]; omega)
    rw [Int.natCast_succ] at i3
    rw [List.length_append, List.length_singleton] at i1
    refine ⟨rest', L', z4, by omega, ?_⟩
    rw [rng_succ]
    exact (forL_step rfl st).trans i3
theorem am_b (L : List Int) (c kk at' v w : Int) {j : Nat} (c0 : L ≠ []) (oa : opMod (.int kk) (.int (L.length : Int)) = some (.int at')) (ev : atI L at' = some v) (mx : g_law_mixed_v2 [.int (v + c % e60), .int (kk % 37)] = .ok (.int w)) (xi : ixN L.length at' = some j) (x0 x1 x3 x6 x7 : D) :
    f_law_amounts_l3 [x0, x1, .ol (L.map D.int), x3, .int kk, .int c, x6, x7] = .nx [x0, x1, .ol ((L.set j w).map D.int), x3, .int kk, .int c, .int at', x7] := by
  unfold f_law_amounts_l3
  have hc : tC2 cGt (eCall caLen (aCons (eVar 2) (aNil))) (eC (.int 0)) [x0, x1, .ol (L.map D.int), x3, .int kk, .int c, x6, x7] = .ok true := by
    have : 0 < L.length := List.length_pos_iff.mpr c0
    have h2 : (0 : Int) < (L.length : Int) := by omega
    have e : decide ((0 : Int) < (L.length : Int)) = true := decide_eq_true h2
    have : L ≠ [] := c0
    generalize hl : (L.length : Int) = ll at *
    simp [hl, e, h2]
  rw [sIf_, hc]
  simp [oa, ev, mx, xi, List.map_set]
theorem am_l3 (x0 x1 x3 x7 : D) : ∀ (cs : List Int) (k : Nat) (L : List Int) (y4 y5 y6 : D), k + cs.length ≤ 1000 → L.length ≤ 1000 →
    ∃ (L' : List Int) (z4 z5 z6 : D), L'.length = L.length ∧ forL (gtT 2 (gtCons (gtN 4) (gtCons (gtN 5) (gtNil)))) f_law_amounts_l3 (enm k (cs.map D.int)) [x0, x1, .ol (L.map D.int), x3, y4, y5, y6, x7] = .nx [x0, x1, .ol (L'.map D.int), x3, z4, z5, z6, x7] := by
  intro cs
  induction cs with
  | nil => exact fun k L y4 y5 y6 _ hL => ⟨L, y4, y5, y6, rfl, rfl⟩
  | cons c cs IH =>
    intro k L y4 y5 y6 hk hL
    simp only [List.length_cons] at hk
    by_cases c0 : L = []
    · subst c0
      obtain ⟨L', z4, z5, z6, i1, i2⟩ := IH (k + 1) [] (.int (k : Int)) (.int c) y6 (by omega) (by simp)
      refine ⟨L', z4, z5, z6, i1, ?_⟩
      rw [List.map_cons]
      refine (forL_step (g1 := [x0, x1, .ol (([] : List Int).map D.int), x3, .int (k : Int), .int c, y6, x7]) rfl ?_).trans i2
      generalize (k : Int) = kk
      simp [f_law_amounts_l3]
    · have lp : 0 < L.length := List.length_pos_iff.mpr c0
      have lp' : (0 : Int) < (L.length : Int) := by omega
      have a0 := Int.emod_nonneg (k : Int) (b := (L.length : Int)) (by omega)
      have a1 := Int.emod_lt_of_pos (k : Int) lp'
      obtain ⟨v, ev, _⟩ := DL.atI_of (l := L) (i := (k : Int) % (L.length : Int)) a0 a1
      have xi : ixN L.length ((k : Int) % (L.length : Int)) = some ((k : Int) % (L.length : Int)).toNat := ixN_nat a0 a1
      have k0 := Int.emod_nonneg (k : Int) (by omega : (37 : Int) ≠ 0)
      have k1 := Int.emod_lt_of_pos (k : Int) (by omega : (0 : Int) < 37)
      have mx := mx_ok (v + c % e60) ((k : Int) % 37) k0 (by omega)
      obtain ⟨w, hw⟩ : ∃ w, mxF (v + c % e60) ((k : Int) % 37) = w := ⟨_, rfl⟩
      rw [hw] at mx
      clear hw
      obtain ⟨L', z4, z5, z6, i1, i2⟩ := IH (k + 1) (L.set ((k : Int) % (L.length : Int)).toNat w) (.int (k : Int)) (.int c) (.int ((k : Int) % (L.length : Int))) (by omega) (by rw [List.length_set]; exact hL)
      refine ⟨L', z4, z5, z6, by rw [i1, List.length_set], ?_⟩
      rw [List.map_cons]
      exact (forL_step (g1 := [x0, x1, .ol (L.map D.int), x3, .int (k : Int), .int c, y6, x7]) rfl (am_b L c k _ v w c0 (opMod_pos lp') ev mx xi _ _ _ _ _)).trans i2
def eBB : Int := e60 * e60
theorem eBB_pos : 0 < eBB := by unfold eBB; decide
theorem mul_BB : opMul (.int e60) (.int e60) = some (.int eBB) := opMul_500 (by decide) (by decide)
theorem am_rawA {s L : List Int} {c0 c1 cs r r' nn : Int} {n : Nat} {z4 : D} (e0 : g_law_at [.sc (s.map D.int), .int 0] = .ok (.int c0)) (e1 : g_law_at [.sc (s.map D.int), .int 1] = .ok (.int c1)) (es : g_law_at [.sc (s.map D.int), .int 2] = .ok (.int cs)) (cw : c1 % 2 = 0) (hm : c0 % e60 % 25 = nn) (hr : rgOk nn) (hn : nn.toNat = n) (b : nn ≤ 1000000) (om : opMod (.int cs) (.int eBB) = some (.int r))
    (e : forL (gtN 4) f_law_amounts_l1 (rng 0 n) [.sc (s.map D.int), .int (c0 % e60), .ol [], .int r, .un, .un, .un, .un] = .nx [.sc (s.map D.int), .int (c0 % e60), .ol (L.map D.int), .int r', z4, .un, .un, .un]) : g_law_amounts [.sc (s.map D.int)] = .ok (.ol (L.map D.int)) := by
  have mb := mul_BB
  generalize eBB = bb at *
  simp [g_law_amounts, runF, f_law_amounts, e0, e1, es, cw, hm, hr, hn, b, om, e, mb]
theorem am_rawB {s S L0 L1 : List Int} {c0 c1 nn : Int} {n : Nat} {z4 z5 z6 : D} (e0 : g_law_at [.sc (s.map D.int), .int 0] = .ok (.int c0)) (e1 : g_law_at [.sc (s.map D.int), .int 1] = .ok (.int c1)) (cw : ¬ c1 % 2 = 0) (hm : c0 % e60 % 25 = nn) (hr : rgOk nn) (hn : nn.toNat = n) (b : nn ≤ 1000000)
    (lc2 : ∀ x2 x3 x5 x6 x7 : D, lcL (gtN 4) tYesG f_law_amounts_c2 [.sc (s.map D.int), .int (c0 % e60), x2, x3, .un, x5, x6, x7] (rng 0 n) = .ok (L0.map D.int)) (bn : (rng 0 n).length ≤ lim) (cf : cut s (some 2) none = S) (b3 : S.length ≤ lim) (b3' : s.length - 2 ≤ lim)
    (j2 : forL (gtT 2 (gtCons (gtN 4) (gtCons (gtN 5) (gtNil)))) f_law_amounts_l3 (enm 0 (S.map D.int)) [.sc (s.map D.int), .int (c0 % e60), .ol (L0.map D.int), .un, .un, .un, .un, .un] = .nx [.sc (s.map D.int), .int (c0 % e60), .ol (L1.map D.int), .un, z4, z5, z6, .un])
    (lc4 : ∀ x0 x1 x2 x3 x4 x5 x6 : D, lcL (gtN 7) tYesG f_law_amounts_c4 [x0, x1, x2, x3, x4, x5, x6, .un] (L1.map D.int) = .ok ((L1.map fun m => m / 8 % 20000).map D.int)) (bl1 : L1.length ≤ lim) : g_law_amounts [.sc (s.map D.int)] = .ok (.ol ((L1.map fun m => m / 8 % 20000).map D.int)) := by
  have hn' : n ≤ lim := by rw [rng_len] at bn; exact bn
  simp [g_law_amounts, runF, f_law_amounts, e0, e1, cw, hm, hr, hn, b, lc2, bn, hn', cf, b3, b3', j2, lc4, bl1, frzAt, -List.map_map]
theorem amounts_ok (s : List Int) (hs : s.length ≤ 63) : ∃ L : List Int, L.length ≤ 24 ∧ g_law_amounts [.sc (s.map D.int)] = .ok (.ol (L.map D.int)) := by
  obtain ⟨c0, e0⟩ := at_ok s 0 (by omega)
  obtain ⟨c1, e1⟩ := at_ok s 1 (by omega)
  obtain ⟨cs, es⟩ := at_ok s 2 (by omega)
  obtain ⟨nn, hm⟩ : ∃ nn, c0 % e60 % 25 = nn := ⟨_, rfl⟩
  have n0 := Int.emod_nonneg (c0 % e60) (by decide : (25 : Int) ≠ 0)
  have n1 := Int.emod_lt_of_pos (c0 % e60) (by decide : (0 : Int) < 25)
  rw [hm] at n0 n1
  have hr : rgOk nn := rgOk_of (by omega) (by omega)
  by_cases cw : c1 % 2 = 0
  · obtain ⟨r', L, z4, i1, i3⟩ := am_l1 s cs es (.int (c0 % e60)) .un .un .un nn.toNat 0 (cs % eBB) [] .un (by omega) (by simp; omega)
    rw [show ((0 : Nat) : Int) = 0 from rfl, List.map_nil] at i3
    simp only [List.length_nil] at i1
    exact ⟨L, by omega, am_rawA e0 e1 es cw hm hr rfl (by omega) (opMod_pos eBB_pos) i3⟩
  · obtain ⟨L0, hL0, lc2⟩ : ∃ L0 : List Int, L0.length = nn.toNat ∧ ∀ x2 x3 x5 x6 x7 : D, lcL (gtN 4) tYesG f_law_amounts_c2 [.sc (s.map D.int), .int (c0 % e60), x2, x3, .un, x5, x6, x7] (rng 0 nn.toNat) = .ok (L0.map D.int) := by
      refine ⟨(List.range nn.toNat).map fun k : Nat => mxF (c0 % e60 + (0 + (k : Int))) 40, by rw [List.length_map, List.length_range], fun x2 x3 x5 x6 x7 => ?_⟩
      rw [List.map_map]
      unfold rng
      refine lcL_mapN _ fun k hk => ?_
      have mx := mx_ok (c0 % e60 + (k : Int)) 40 (by omega) (by omega)
      simp [f_law_amounts_c2, mx]
    have cf : cut s (some 2) none = s.drop 2 := by rw [cut_from s 2 (by omega)]; rfl
    obtain ⟨L1, z4, z5, z6, j1, j2⟩ := am_l3 (.sc (s.map D.int)) (.int (c0 % e60)) .un .un (s.drop 2) 0 L0 .un .un .un (by rw [List.length_drop]; omega) (by omega)
    have lc4 : ∀ x0 x1 x2 x3 x4 x5 x6 : D, lcL (gtN 7) tYesG f_law_amounts_c4 [x0, x1, x2, x3, x4, x5, x6, .un] (L1.map D.int) = .ok ((L1.map fun m => m / 8 % 20000).map D.int) := fun x0 x1 x2 x3 x4 x5 x6 => by
      rw [← map_int]
      exact lcL_mapN _ fun m _ => by simp [f_law_amounts_c4]
    exact ⟨L1.map fun m => m / 8 % 20000, by rw [List.length_map]; omega, am_rawB e0 e1 cw hm hr rfl (by omega) lc2 (by rw [rng_len, lim_eq]; omega) cf (by rw [List.length_drop, lim_eq]; omega) (by rw [lim_eq]; omega) j2 lc4 (by rw [lim_eq]; omega)⟩
theorem corner_ok {T : List (List Int)} (m : Int) (hl : T.length ≤ 1000) (hne : full T ≠ []) : ∃ R ∈ T, ∃ d ∈ R, g_law_corner [.ls (T.map dR), .int m] = .ok (.int d) := by
  have lp : 0 < (full T).length := List.length_pos_iff.mpr hne
  have lp' : (0 : Int) < ((full T).length : Int) := by omega
  have lf : (full T).length ≤ T.length := List.length_filter_le ..
  obtain ⟨R, eR, eR2⟩ := DL.atI_of (l := full T) (i := m % ((full T).length : Int)) (Int.emod_nonneg _ (by omega)) (Int.emod_lt_of_pos _ lp')
  have hR := full_mem.mp (List.mem_of_getElem? eR2)
  have rp : 0 < R.length := List.length_pos_iff.mpr hR.2
  have rp' : (0 : Int) < (R.length : Int) := by omega
  obtain ⟨d, ed, ed2⟩ := DL.atI_of (l := R) (i := m / 13 % (R.length : Int)) (Int.emod_nonneg _ (by omega)) (Int.emod_lt_of_pos _ rp')
  refine ⟨R, hR.1, d, List.mem_of_getElem? ed2, ?_⟩
  have lc : lcL (gtN 3) f_law_corner_c1t f_law_corner_c1 [.ls (T.map dR), .int m, .un, .un] (T.map dR) = .ok ((full T).map dR) := by
    unfold full
    refine lcL_filterN _ fun R _ => ?_
    refine ⟨?_, fun _ => by simp [f_law_corner_c1, dR]⟩
    by_cases c : R = []
    · subst c; simp [f_law_corner_c1t, dR]
    · have : 0 < R.length := List.length_pos_iff.mpr c
      simp [f_law_corner_c1t, dR, c, this]
  have bl : T.length ≤ lim := by rw [lim_eq]; omega
  obtain ⟨f1, f2, f3, f4, f5, f6⟩ := dulls dull_L (full T)
  have ln : ((full T).map dR).length = (full T).length := List.length_map ..
  have om1 : opMod (.int m) (.int ((full T).length : Int)) = some (.int (m % ((full T).length : Int))) := opMod_pos lp'
  have om2 : opMod (.int (m / 13)) (.int (R.length : Int)) = some (.int (m / 13 % (R.length : Int))) := opMod_pos rp'
  have at1 : atI ((full T).map dR) (m % ((full T).length : Int)) = some (dR R) := by rw [atI_map, eR]; rfl
  have f2' : frzs ((full T).map dR) = (full T).map dR := f2
  have f4' : nods ((full T).map dR) = true := f4
  generalize hF : (full T).map dR = FF at *
  generalize (full T).length = fl at *
  have od : opDiv (.int m) (.int 13) = some (.int (m / 13)) := opDiv_pos (by decide) (by decide)
  simp [g_law_corner, runF, f_law_corner, lc, bl, f2', f4', ln, om1, at1, dR, od, om2, ed]
def putP (one : Int) (other : Option Int) (a b : Int) (d : Int) : List Int := (if d = one then [a] else []) ++ (if some d = other then [b] else [])
def putR (one : Int) (other : Option Int) (a b : Int) (R : List Int) : List Int := R.flatMap fun d => putP one other a b d ++ [d]
def dOp : Option Int → D
  | none => .non
  | some x => .int x
theorem put_l1 (x0 x4 x5 : D) (one : Int) (other : Option Int) (a b : Int) : ∀ (R A : List Int) (y7 : D), A.length + 3 * R.length ≤ 5000 →
    ∃ z7, forL (gtN 7) f_law_put_l1 (R.map D.int) [x0, .int one, dOp other, .ls [.int a, .int b], x4, x5, .ol (A.map D.int), y7] = .nx [x0, .int one, dOp other, .ls [.int a, .int b], x4, x5, .ol ((A ++ putR one other a b R).map D.int), z7]
  | [], A, y7, _ => ⟨y7, by simp [forL, putR]⟩
  | d :: R, A, y7, h => by
    rw [List.length_cons] at h
    have pl : (putP one other a b d ++ [d]).length ≤ 3 := by
      have h1 : (if d = one then [a] else []).length ≤ 1 := by split <;> simp
      have h2 : (if some d = other then [b] else []).length ≤ 1 := by split <;> simp
      unfold putP
      rw [List.length_append, List.length_append, List.length_singleton]
      omega
    obtain ⟨z7, ih⟩ := put_l1 x0 x4 x5 one other a b R (A ++ (putP one other a b d ++ [d])) (.int d) (by rw [List.length_append]; omega)
    refine ⟨z7, ?_⟩
    have e : A ++ putR one other a b (d :: R) = A ++ (putP one other a b d ++ [d]) ++ putR one other a b R := by
      unfold putR
      rw [List.flatMap_cons]
      simp only [List.append_assoc]
    rw [e, ← ih, List.map_cons]
    refine forL_step (g1 := [x0, .int one, dOp other, .ls [.int a, .int b], x4, x5, .ol (A.map D.int), .int d]) rfl ?_
    have b0 : A.length < lim := by rw [lim_eq]; omega
    have b1 : A.length + 1 < lim := by rw [lim_eq]; omega
    have b2 : A.length + 1 + 1 < lim := by rw [lim_eq]; omega
    unfold f_law_put_l1 putP
    cases other with
    | none =>
      have cn : cEq (.int d) .non = some false := rfl
      by_cases c : d = one <;> simp [c, dOp, b0, b1, b2, cEq]
    | some o =>
      by_cases c : d = one
      · subst c
        by_cases c2 : d = o
        · subst c2; simp [dOp, b0, b1, b2]
        · simp [c2, dOp, b0, b1, b2]
      · by_cases c2 : d = o
        · subst c2; simp [c, dOp, b0, b1, b2]
        · simp [c, c2, dOp, b0, b1, b2]
end Lw
end

noncomputable section
namespace Lw
open DL L2 TL Mp
theorem put_l2 (x0 : D) (one : Int) (other : Option Int) (a b : Int) : ∀ (T A : List (List Int)) (y5 y6 y7 : D), (∀ R ∈ T, R.length ≤ 1000) → A.length + T.length ≤ 1000 →
    ∃ z5 z6 z7, forL (gtN 5) f_law_put_l2 (T.map dR) [x0, .int one, dOp other, .ls [.int a, .int b], .ol (A.map dR), y5, y6, y7] = .nx [x0, .int one, dOp other, .ls [.int a, .int b], .ol ((A ++ T.map (putR one other a b)).map dR), z5, z6, z7]
  | [], A, y5, y6, y7, _, _ => ⟨y5, y6, y7, by simp [forL]⟩
  | R :: T, A, y5, y6, y7, hR, hA => by
    rw [List.length_cons] at hA
    have rl := hR R (List.mem_cons_self ..)
    obtain ⟨w7, e1⟩ := put_l1 x0 (.ol (A.map dR)) (dR R) one other a b R [] y7 (by simp; omega)
    rw [List.nil_append, List.map_nil] at e1
    obtain ⟨z5, z6, z7, ih⟩ := put_l2 x0 one other a b T (A ++ [putR one other a b R]) (dR R) (dR (putR one other a b R)) w7 (fun Q hQ => hR Q (List.mem_cons_of_mem _ hQ)) (by rw [List.length_append, List.length_singleton]; omega)
    refine ⟨z5, z6, z7, ?_⟩
    rw [show A ++ (R :: T).map (putR one other a b) = A ++ [putR one other a b R] ++ T.map (putR one other a b) by simp, ← ih, List.map_cons]
    refine forL_step (g1 := [x0, .int one, dOp other, .ls [.int a, .int b], .ol (A.map dR), dR R, y6, y7]) rfl ?_
    have bA : A.length < lim := by rw [lim_eq]; omega
    have kO : ∀ g, gv g 2 = .ok (dOp other) → True := fun _ _ => trivial
    unfold f_law_put_l2
    refine seq_to (g1 := [x0, .int one, dOp other, .ls [.int a, .int b], .ol (A.map dR), dR R, .ol [], y7]) (by simp) (seq_to (g1 := [x0, .int one, dOp other, .ls [.int a, .int b], .ol (A.map dR), dR R, .ol ((putR one other a b R).map D.int), w7]) ?_ ?_)
    · rw [sFor_, iSeq_]
      have : gv [x0, .int one, dOp other, .ls [.int a, .int b], .ol (A.map dR), dR R, .ol [], y7] 5 = .ok (dR R) := rfl
      rw [eVar_, this]
      simp only [Res.bind_ok, dR, opd_ls, sqS, Res.of, Res.st_ok]
      exact e1
    · generalize dOp other = oo at *
      generalize putR one other a b R = Q at *
      simp [bA, dR, frzAt]
theorem put_ok' (T : List (List Int)) (one : Int) (other : Option Int) (a b : Int) (hR : ∀ R ∈ T, R.length ≤ 1000) (hT : T.length ≤ 1000) : g_law_put [.ls (T.map dR), .int one, dOp other, .ls [.int a, .int b]] = .ok (.ol ((T.map (putR one other a b)).map dR)) := by
  obtain ⟨z5, z6, z7, e⟩ := put_l2 (.ls (T.map dR)) one other a b T [] .un .un .un hR (by simp; omega)
  rw [List.nil_append, List.map_nil] at e
  refine runF_rt ?_
  show f_law_put [.ls (T.map dR), .int one, dOp other, .ls [.int a, .int b], .un, .un, .un, .un] = _
  unfold f_law_put
  generalize dOp other = oo at *
  refine seq_to (g1 := [.ls (T.map dR), .int one, oo, .ls [.int a, .int b], .ol [], .un, .un, .un]) (by simp) (seq_to (g1 := [.ls (T.map dR), .int one, oo, .ls [.int a, .int b], .ol ((T.map (putR one other a b)).map dR), z5, z6, z7]) (by simp [e, -List.map_map]) (by simp [-List.map_map]))
theorem flat_app {p q : Int → List Int} : ∀ {L : List Int}, (L.flatMap fun d => p d ++ q d).Perm (L.flatMap p ++ L.flatMap q)
  | [] => List.Perm.refl _
  | d :: L => by
    rw [List.flatMap_cons, List.flatMap_cons, List.flatMap_cons]
    have ih := flat_app (p := p) (q := q) (L := L)
    have h1 : ((p d ++ q d) ++ L.flatMap fun d => p d ++ q d).Perm ((p d ++ q d) ++ (L.flatMap p ++ L.flatMap q)) := List.Perm.append_left _ ih
    refine h1.trans ?_
    rw [List.append_assoc, List.append_assoc]
    refine List.Perm.append_left _ ?_
    rw [← List.append_assoc, ← List.append_assoc]
    exact List.Perm.append_right _ List.perm_append_comm
theorem flat_one {one : Int} {q : List Int} : ∀ {L : List Int}, L.Nodup → one ∈ L → (L.flatMap fun d => if d = one then q else []) = q
  | [], _, h => nomatch h
  | d :: L, nd, h => by
    rw [List.nodup_cons] at nd
    rw [List.flatMap_cons]
    have no : ∀ {M : List Int}, one ∉ M → (M.flatMap fun d => if d = one then q else []) = [] := fun {M} hM => by
      induction M with
      | nil => rfl
      | cons y M ih => rw [List.flatMap_cons, ih (fun z => hM (List.mem_cons_of_mem _ z)), if_neg (fun z => hM (by rw [z]; simp))]; rfl
    by_cases e : d = one
    · subst e
      rw [if_pos rfl, no nd.1, List.append_nil]
    · rw [if_neg e, List.nil_append]
      rcases List.mem_cons.mp h with q | q
      · exact absurd q.symm e
      · exact flat_one nd.2 q
theorem flat_self : ∀ L : List Int, (L.flatMap fun d => [d]) = L
  | [] => rfl
  | d :: L => by rw [List.flatMap_cons, flat_self L]; rfl
theorem put_flat (one : Int) (other : Option Int) (a b : Int) (T : List (List Int)) : (T.map (putR one other a b)).flatten = T.flatten.flatMap fun d => putP one other a b d ++ [d] := map_flat _ T
theorem put_perm1 {one a b : Int} {L : List Int} (nd : L.Nodup) (h1 : one ∈ L) : (L.flatMap fun d => putP one none a b d ++ [d]).Perm (a :: L) := by
  refine (flat_app (p := putP one none a b) (q := fun d => [d])).trans ?_
  rw [flat_self]
  have : (L.flatMap (putP one none a b)) = [a] := by
    have e : putP one none a b = fun d => if d = one then [a] else [] := by
      funext d
      unfold putP
      simp
    rw [e, flat_one nd h1]
  rw [this]
  exact List.Perm.refl _
theorem put_perm2 {one o a b : Int} {L : List Int} (nd : L.Nodup) (h1 : one ∈ L) (h2 : o ∈ L) : (L.flatMap fun d => putP one (some o) a b d ++ [d]).Perm (a :: b :: L) := by
  refine (flat_app (p := putP one (some o) a b) (q := fun d => [d])).trans ?_
  rw [flat_self]
  have h : (L.flatMap (putP one (some o) a b)).Perm ([a] ++ [b]) := by
    have e : putP one (some o) a b = fun d => (if d = one then [a] else []) ++ (if d = o then [b] else []) := by
      funext d
      unfold putP
      simp
    rw [e]
    refine (flat_app (p := fun d => if d = one then [a] else []) (q := fun d => if d = o then [b] else [])).trans ?_
    rw [flat_one nd h1, flat_one nd h2]
  exact List.Perm.append_right L h
structure Flat (p : Nat) (ts : List (Int × Int)) (T : List (List Int)) : Prop where
  p1 : 1 ≤ p
  ends : EndsOk p ts
  turns : Turns p ts T
  conn : ∀ i j : Int, 0 ≤ i → i < p → 0 ≤ j → j < p → Conn ts i j
  euler : (rF (rnds ts.length T)).length + p = ts.length + 2
theorem tieAt_app {ts : List (Int × Int)} {e : Int × Int} {t : Int} (h : 0 ≤ t ∧ t < ts.length) : tieAt (ts ++ [e]) t = tieAt ts t := by
  unfold tieAt
  rw [List.getD_eq_getElem?_getD, List.getD_eq_getElem?_getD, List.getElem?_append_left (by omega)]
theorem tieAt_last {ts : List (Int × Int)} {e : Int × Int} : tieAt (ts ++ [e]) (ts.length : Int) = e := by
  unfold tieAt
  rw [List.getD_eq_getElem?_getD, Int.toNat_natCast, List.getElem?_append_right (Nat.le_refl _), Nat.sub_self]
  rfl
theorem dpl_app {ts : List (Int × Int)} {e : Int × Int} {d : Int} (h : 0 ≤ d ∧ d < 2 * (ts.length : Int)) : dpl (ts ++ [e]) d = dpl ts d := by
  unfold dpl
  rw [tieAt_app (by omega)]
theorem gd_app {ts : List (Int × Int)} {e : Int × Int} {k d : Int} (h : gdD ts k d) : gdD (ts ++ [e]) k d := by
  obtain ⟨⟨h0, h1⟩, h2⟩ := h
  refine ⟨⟨h0, by rw [List.length_append, List.length_singleton]; omega⟩, ?_⟩
  rw [dpl_app ⟨h0, h1⟩]
  exact h2
structure New (ts : List (Int × Int)) (e : Int × Int) (a b u v : Int) : Prop where
  ab : (a = 2 * (ts.length : Int) ∧ b = 2 * (ts.length : Int) + 1 ∧ e = (u, v)) ∨ (a = 2 * (ts.length : Int) + 1 ∧ b = 2 * (ts.length : Int) ∧ e = (v, u))
theorem New.xr {ts : List (Int × Int)} {e : Int × Int} {a b u v : Int} (h : New ts e a b u v) : xr1 a = b ∧ xr1 b = a ∧ a ≠ b ∧ ¬ inR (2 * ts.length) a ∧ ¬ inR (2 * ts.length) b := by
  rcases h.ab with ⟨rfl, rfl, _⟩ | ⟨rfl, rfl, _⟩
  · exact ⟨(xr1_b _).1, (xr1_b _).2, by omega, fun q => by have := q.2; omega, fun q => by have := q.2; omega⟩
  · exact ⟨(xr1_b _).2, (xr1_b _).1, by omega, fun q => by have := q.2; omega, fun q => by have := q.2; omega⟩
theorem New.gd {ts : List (Int × Int)} {e : Int × Int} {a b u v : Int} (h : New ts e a b u v) : gdD (ts ++ [e]) u a ∧ gdD (ts ++ [e]) v b := by
  have l : ((ts ++ [e]).length : Int) = ts.length + 1 := by simp
  have d0 : 2 * (ts.length : Int) / 2 = ts.length := by omega
  have d1 : (2 * (ts.length : Int) + 1) / 2 = ts.length := by omega
  have m0 : 2 * (ts.length : Int) % 2 = 0 := by omega
  have m1 : ¬ (2 * (ts.length : Int) + 1) % 2 = 0 := by omega
  rcases h.ab with ⟨rfl, rfl, rfl⟩ | ⟨rfl, rfl, rfl⟩
  · refine ⟨⟨⟨by omega, by omega⟩, ?_⟩, ⟨⟨by omega, by omega⟩, ?_⟩⟩
    · unfold dpl; rw [if_pos m0, d0, tieAt_last]
    · unfold dpl; rw [if_neg m1, d1, tieAt_last]
  · refine ⟨⟨⟨by omega, by omega⟩, ?_⟩, ⟨⟨by omega, by omega⟩, ?_⟩⟩
    · unfold dpl; rw [if_neg m1, d1, tieAt_last]
    · unfold dpl; rw [if_pos m0, d0, tieAt_last]
theorem New.set {ts : List (Int × Int)} {e : Int × Int} {a b u v : Int} (h : New ts e a b u v) (d : Int) : with2 (inR (2 * ts.length)) a b d ↔ inR (2 * (ts ++ [e]).length) d := by
  have l : (ts ++ [e]).length = ts.length + 1 := by simp
  unfold with2 inR
  rw [l]
  rcases h.ab with ⟨rfl, rfl, _⟩ | ⟨rfl, rfl, _⟩ <;> omega
theorem rows_map {ts ts' : List (Int × Int)} {h : List Int → List Int} : ∀ {T : List (List Int)} {k : Nat}, RowsGd ts k T → (∀ (i : Nat) (R : List Int), (∀ d ∈ R, gdD ts (i : Int) d) → R ∈ T → ∀ d ∈ h R, gdD ts' (i : Int) d) → RowsGd ts' k (T.map h)
  | [], _, _, _ => trivial
  | R :: T, k, hr, hm => ⟨hm k R hr.1 (List.mem_cons_self ..), rows_map hr.2 fun i Q hQ hq => hm i Q hQ (List.mem_cons_of_mem _ hq)⟩
theorem rows_snoc {ts : List (Int × Int)} {R : List Int} : ∀ {T : List (List Int)} {k : Nat}, RowsGd ts k T → (∀ d ∈ R, gdD ts ((k + T.length : Nat) : Int) d) → RowsGd ts k (T ++ [R])
  | [], k, _, h => ⟨by simpa using h, trivial⟩
  | Q :: T, k, hr, h => ⟨hr.1, rows_snoc hr.2 (by
      rw [List.length_cons] at h
      rw [show k + 1 + T.length = k + (T.length + 1) by omega]
      exact h)⟩
theorem putR_mem {one : Int} {other : Option Int} {a b d : Int} {R : List Int} : d ∈ putR one other a b R ↔ d ∈ R ∨ (d = a ∧ one ∈ R) ∨ (d = b ∧ ∃ o, other = some o ∧ o ∈ R) := by
  unfold putR putP
  rw [List.mem_flatMap]
  constructor
  · rintro ⟨x, hx, h⟩
    rcases List.mem_append.mp h with h | h
    · rcases List.mem_append.mp h with h | h
      · by_cases c : x = one
        · rw [if_pos c] at h
          exact .inr (.inl ⟨by simpa using h, c ▸ hx⟩)
        · rw [if_neg c] at h; exact absurd h (by simp)
      · by_cases c : some x = other
        · rw [if_pos c] at h
          exact .inr (.inr ⟨by simpa using h, x, c.symm, hx⟩)
        · rw [if_neg c] at h; exact absurd h (by simp)
    · exact .inl (by rw [List.mem_singleton.mp h]; exact hx)
  · rintro (h | ⟨rfl, h⟩ | ⟨rfl, o, rfl, h⟩)
    · exact ⟨d, h, List.mem_append_right _ (by simp)⟩
    · exact ⟨one, h, List.mem_append_left _ (List.mem_append_left _ (by simp))⟩
    · exact ⟨o, h, List.mem_append_left _ (List.mem_append_right _ (by simp))⟩
theorem rF_len {f : Int → Int} {K : Nat} {C : List (List Int)} (h : Dec f (inR K) C) (hK : 0 < K) : (rF C).length = C.length := by
  unfold rF
  rw [if_neg]
  intro e
  subst e
  have := (h.mem 0).mpr ⟨by omega, by omega⟩
  simp at this
theorem put_steps {p : Int} {ts : List (Int × Int)} {T T' : List (List Int)} (hT : Turns p ts T) (nd : T'.flatten.Nodup) {one : Int} {other : Option Int} {a b : Int} (hm : ∀ R ∈ T, putR one other a b R ∈ T') {x : Int} (hx : inR (2 * ts.length) x) : Pth (sT T') x (putP one other a b (sT T x) ++ [sT T x]) := by
  obtain ⟨R, hR, hxR⟩ := List.mem_flatten.mp ((hT.mem x).mpr hx)
  have ne : R ≠ [] := fun e => by rw [e] at hxR; exact nomatch hxR
  have c0 := cyc_rows hT.nd hR ne
  have ne' : putR one other a b R ≠ [] := fun e => by
    have : x ∈ putR one other a b R := putR_mem.mpr (.inl hxR)
    rw [e] at this; exact nomatch this
  have c1 := cyc_rows nd (hm R hR) ne'
  exact (cyc_put (p := putP one other a b) c0).mp c1 x hxR
theorem conn_old {ts : List (Int × Int)} {e : Int × Int} {i j : Int} (h : Conn ts i j) : Conn (ts ++ [e]) i j := h.mono fun x hx => List.mem_append_left _ hx
theorem flat_fresh {p : Nat} {ts : List (Int × Int)} {T : List (List Int)} (h : Flat p ts T) (hm : 0 < ts.length) {one a b : Int} (ho : one ∈ T.flatten) {e : Int × Int} (hn : New ts e a b (dpl ts one) p) : Flat (p + 1) (ts ++ [e]) (T.map (putR one none a b) ++ [[b]]) := by
  obtain ⟨x1, x2, ab, na, nb⟩ := hn.xr
  obtain ⟨g1, g2⟩ := hn.gd
  have io := (h.turns.mem one).mp ho
  obtain ⟨u0, u1⟩ := dpl_in h.ends io
  have pm : (T.map (putR one none a b) ++ [[b]]).flatten.Perm (a :: b :: T.flatten) := by
    rw [List.flatten_append, put_flat]
    refine (List.Perm.append_right _ (put_perm1 h.turns.nd ho)).trans ?_
    show (a :: (T.flatten ++ [b])).Perm _
    exact List.Perm.cons a List.perm_append_comm
  obtain ⟨nd', mm'⟩ := dec_perm pm h.turns.nd h.turns.mem na nb ab
  have eE : EndsOk ((p + 1 : Nat) : Int) (ts ++ [e]) := by
    intro q hq
    rcases List.mem_append.mp hq with z | z
    · have := h.ends q z; omega
    · rw [List.mem_singleton.mp z]
      rcases hn.ab with ⟨_, _, rfl⟩ | ⟨_, _, rfl⟩
      · exact ⟨⟨u0, by show dpl ts one < _; omega⟩, by show (0 : Int) ≤ p; omega, by show (p : Int) < _; omega⟩
      · exact ⟨⟨by show (0 : Int) ≤ p; omega, by show (p : Int) < _; omega⟩, u0, by show dpl ts one < _; omega⟩
  have hTl := h.turns.len
  have tu : Turns ((p + 1 : Nat) : Int) (ts ++ [e]) (T.map (putR one none a b) ++ [[b]]) := by
    refine ⟨by simp; omega, ?_, nd', ?_⟩
    · refine rows_snoc (rows_map h.turns.rows fun i R hR hRT d hd => ?_) fun d hd => ?_
      · rcases putR_mem.mp hd with q | ⟨rfl, q⟩ | ⟨_, o, q, _⟩
        · exact gd_app (hR d q)
        · have := (hR one q).2
          rw [← this]
          exact g1
        · cases q
      · rw [List.mem_singleton.mp hd, List.length_map, Nat.zero_add, hTl]
        exact g2
    · rw [pm.length_eq, List.length_cons, List.length_cons, h.turns.all]
      simp; omega
  refine ⟨by omega, eE, tu, ?_, ?_⟩
  · have last : Conn (ts ++ [e]) (dpl ts one) p := by
      have t1 : Conn (ts ++ [e]) e.1 e.2 := .tie (List.mem_append_right _ (by simp))
      rcases hn.ab with ⟨_, _, rfl⟩ | ⟨_, _, rfl⟩
      · exact t1
      · exact t1.symm
    have toU : ∀ i : Int, 0 ≤ i → i < ((p + 1 : Nat) : Int) → Conn (ts ++ [e]) i (dpl ts one) := fun i i0 i1 => by
      by_cases c : i < p
      · exact conn_old (h.conn i _ i0 c u0 u1)
      · rw [show i = (p : Int) by omega]; exact last.symm
    intro i j i0 i1 j0 j1
    exact (toU i i0 i1).trans (toU j j0 j1).symm
  · obtain ⟨C', d1, d2⟩ := grow_fresh (s := sT T) (s' := sT (T.map (putR one none a b) ++ [[b]])) (g := fT (T.map (putR one none a b) ++ [[b]])) (r := xr1) h.turns.rdec fT_sT fT_sT (fun x hx => xr_in hx) x1 x2 na nb ab io (fun x hx => by
        have := put_steps h.turns nd' (one := one) (other := none) (a := a) (b := b) (fun R hR => List.mem_append_left _ (List.mem_map.mpr ⟨R, hR, rfl⟩)) hx
        unfold putP at this
        rw [if_neg (by simp : ¬ some (sT T x) = none), List.append_nil] at this
        exact this) (by
        obtain ⟨y, q1, q2⟩ := h.turns.dec.from io
        exact ⟨y, q1, q2⟩) (by
        have c := cyc_rows nd' (R := [b]) (List.mem_append_right _ (by simp)) (by simp)
        exact c.1)
    have d3 := d1.congr hn.set
    have l1 := d3.len tu.rdec
    rw [rF_len tu.rdec (by simp), ← l1, d2]
    have := h.euler
    rw [rF_len h.turns.rdec (by omega)] at this
    simp; omega
theorem flat_split {p : Nat} {ts : List (Int × Int)} {T : List (List Int)} (h : Flat p ts T) (hm : 0 < ts.length) {one other a b : Int} {c : List Int} (hc : c ∈ rnds ts.length T) (ho : one ∈ c) (ho2 : other ∈ c) {e : Int × Int} (hn : New ts e a b (dpl ts one) (dpl ts other)) : Flat p (ts ++ [e]) (T.map (putR one (some other) a b)) := by
  obtain ⟨x1, x2, ab, na, nb⟩ := hn.xr
  obtain ⟨g1, g2⟩ := hn.gd
  have io := h.turns.rdec.in hc ho
  have io2 := h.turns.rdec.in hc ho2
  have fo := (h.turns.mem one).mpr io
  have fo2 := (h.turns.mem other).mpr io2
  obtain ⟨u0, u1⟩ := dpl_in h.ends io
  obtain ⟨v0, v1⟩ := dpl_in h.ends io2
  have pm : (T.map (putR one (some other) a b)).flatten.Perm (a :: b :: T.flatten) := by
    rw [put_flat]
    exact put_perm2 h.turns.nd fo fo2
  obtain ⟨nd', mm'⟩ := dec_perm pm h.turns.nd h.turns.mem na nb ab
  have eE : EndsOk (p : Int) (ts ++ [e]) := by
    intro q hq
    rcases List.mem_append.mp hq with z | z
    · exact h.ends q z
    · rw [List.mem_singleton.mp z]
      rcases hn.ab with ⟨_, _, rfl⟩ | ⟨_, _, rfl⟩
      · exact ⟨⟨u0, u1⟩, v0, v1⟩
      · exact ⟨⟨v0, v1⟩, u0, u1⟩
  have tu : Turns (p : Int) (ts ++ [e]) (T.map (putR one (some other) a b)) := by
    refine ⟨by rw [List.length_map]; exact h.turns.len, rows_map h.turns.rows fun i R hR hRT d hd => ?_, nd', ?_⟩
    · rcases putR_mem.mp hd with q | ⟨rfl, q⟩ | ⟨rfl, o, q, q2⟩
      · exact gd_app (hR d q)
      · rw [← (hR one q).2]
        exact g1
      · cases q
        rw [← (hR other q2).2]
        exact g2
    · rw [pm.length_eq, List.length_cons, List.length_cons, h.turns.all]
      simp; omega
  refine ⟨h.p1, eE, tu, fun i j i0 i1 j0 j1 => conn_old (h.conn i j i0 i1 j0 j1), ?_⟩
  obtain ⟨C', d1, d2⟩ := grow_split (s := sT T) (s' := sT (T.map (putR one (some other) a b))) (g := fT (T.map (putR one (some other) a b))) (r := xr1) h.turns.rdec fT_sT fT_sT (fun x hx => xr_in hx) (fun x _ => xr1_xr1 x) x1 x2 na nb ab (one := one) (other := other) (fun x hx => by
      have := put_steps h.turns nd' (one := one) (other := some other) (a := a) (b := b) (fun R hR => List.mem_map.mpr ⟨R, hR, rfl⟩) hx
      unfold putP at this
      rw [List.append_assoc] at this
      simpa using this) hc ho ho2
  have d3 := d1.congr hn.set
  have l1 := d3.len tu.rdec
  rw [rF_len tu.rdec (by simp), ← l1, d2]
  have := h.euler
  rw [rF_len h.turns.rdec (by omega)] at this
  simp; omega
end Lw
end

noncomputable section
namespace Lw
open DL L2 TL Mp
theorem seq_rt {f u : Env → Out} {g : Env} {d : D} (h : f g = .rt d) : sSeq f u g = .rt d := by rw [sSeq_, h]
theorem pl_l1 {s7 : Nat} (hs : s7 = 7) (x0 x1 x2 x3 x4 x5 x6 x9 x11 x12 x13 x14 x15 : D) (k : Int) : ∀ (R : List Int) (M : List (Int × Int)) (y10 : D), M.length + R.length ≤ 5000 →
    ∃ M' z10, M'.length ≤ M.length + R.length ∧ (∀ j, valG M' j = if j ∈ R then some k else valG M j) ∧ forL (gtN 10) f_law_grown_v3_l1 (R.map D.int) [x0, x1, x2, x3, x4, x5, x6, dMp M, .int k, x9, y10, x11, x12, x13, x14, x15] = .nx [x0, x1, x2, x3, x4, x5, x6, dMp M', .int k, x9, z10, x11, x12, x13, x14, x15]
  | [], M, y10, _ => ⟨M, y10, by simp, fun j => by simp, by simp [forL]⟩
  | d :: R, M, y10, h => by
    rw [List.length_cons] at h
    have pl := putI_len M d k
    obtain ⟨M', z10, i1, i2, i3⟩ := pl_l1 hs x0 x1 x2 x3 x4 x5 x6 x9 x11 x12 x13 x14 x15 k R (putG M d k) (.int d) (by omega)
    refine ⟨M', z10, by rw [List.length_cons]; omega, fun j => ?_, ?_⟩
    · rw [i2, valG_putI]
      by_cases c : j ∈ R
      · rw [if_pos c, if_pos (List.mem_cons_of_mem _ c)]
      · rw [if_neg c]
        by_cases c2 : j = d
        · rw [if_pos c2, if_pos (by rw [c2]; exact List.mem_cons_self ..)]
        · rw [if_neg c2, if_neg (by simp [c, c2])]
    · rw [← i3, List.map_cons]
      refine forL_step (g1 := [x0, x1, x2, x3, x4, x5, x6, dMp M, .int k, x9, .int d, x11, x12, x13, x14, x15]) rfl ?_
      unfold f_law_grown_v3_l1
      exact dset_int (M := M) rfl (by simp) (by simp) (by rw [lim_eq]; omega)
theorem pl_l2 {ts : List (Int × Int)} (x0 x1 x2 x3 x4 x5 x6 x11 x12 x13 x14 x15 : D) : ∀ (T : List (List Int)) (k : Nat) (M : List (Int × Int)) (y8 y9 y10 : D), RowsGd ts k T → M.length + T.flatten.length ≤ 5000 →
    ∃ M' z8 z9 z10, (∀ j, valG M' j = if j ∈ T.flatten then some (dpl ts j) else valG M j) ∧ forL (gtT 2 (gtCons (gtN 8) (gtCons (gtN 9) (gtNil)))) f_law_grown_v3_l2 (enm k (T.map dR)) [x0, x1, x2, x3, x4, x5, x6, dMp M, y8, y9, y10, x11, x12, x13, x14, x15] = .nx [x0, x1, x2, x3, x4, x5, x6, dMp M', z8, z9, z10, x11, x12, x13, x14, x15]
  | [], k, M, y8, y9, y10, _, _ => ⟨M, y8, y9, y10, fun j => by simp, by simp [forL, enm]⟩
  | R :: T, k, M, y8, y9, y10, h, hl => by
    rw [List.flatten_cons, List.length_append] at hl
    obtain ⟨M1, w10, j1, j2, j3⟩ := pl_l1 rfl x0 x1 x2 x3 x4 x5 x6 (dR R) x11 x12 x13 x14 x15 (k : Int) R M y10 (by omega)
    obtain ⟨M', z8, z9, z10, i1, i2⟩ := pl_l2 x0 x1 x2 x3 x4 x5 x6 x11 x12 x13 x14 x15 T (k + 1) M1 (.int k) (dR R) w10 h.2 (by omega)
    refine ⟨M', z8, z9, z10, fun j => ?_, ?_⟩
    · rw [i1, j2, List.flatten_cons]
      by_cases c : j ∈ T.flatten
      · rw [if_pos c, if_pos (List.mem_append_right _ c)]
      · rw [if_neg c]
        by_cases c2 : j ∈ R
        · rw [if_pos c2, if_pos (List.mem_append_left _ c2), (h.1 j c2).2]
        · rw [if_neg c2, if_neg (by rw [List.mem_append]; exact fun q => q.elim c2 c)]
    · rw [← i2]
      have ec : enm k ((R :: T).map dR) = .tp [.int (k : Int), dR R] :: enm (k + 1) (T.map dR) := rfl
      rw [ec]
      refine forL_step (g1 := [x0, x1, x2, x3, x4, x5, x6, dMp M, .int k, dR R, y10, x11, x12, x13, x14, x15]) ?_ ?_
      · generalize dMp M = dm
        simp [dR]
      · unfold f_law_grown_v3_l2
        rw [sFor_]
        have e : iSeq (eVar 9) [x0, x1, x2, x3, x4, x5, x6, dMp M, .int k, dR R, y10, x11, x12, x13, x14, x15] = .ok (R.map D.int) := by
          rw [iSeq_, eVar_]
          rfl
        rw [e]
        exact j3
theorem beh_l3 {ts : List (Int × Int)} {p : Int} {T : List (List Int)} (hT : Turns p ts T) (x0 x1 x2 x3 x4 x5 x6 x7 x8 x9 x10 x11 x12 : D) : ∀ (n : Nat) (lo : Int) (o : Int) (y15 : D), inR (2 * ts.length) o →
    ∃ (o' : Int) (z15 : D), inR (2 * ts.length) o' ∧ (∀ c, Cyc (fT T) c → o ∈ c → o' ∈ c) ∧ forL (gtN 15) f_law_grown_v3_l3 (rng lo n) [x0, x1, x2, x3, x4, x5, x6, x7, x8, x9, x10, x11, x12, .int o, dMp (dbM T []), y15] = .nx [x0, x1, x2, x3, x4, x5, x6, x7, x8, x9, x10, x11, x12, .int o', dMp (dbM T []), z15]
  | 0, lo, o, y15, h => ⟨o, y15, h, fun _ _ q => q, by rw [rng_zero]; simp [forL]⟩
  | n + 1, lo, o, y15, h => by
    obtain ⟨o', z15, i1, i2, i3⟩ := beh_l3 hT x0 x1 x2 x3 x4 x5 x6 x7 x8 x9 x10 x11 x12 n (lo + 1) (fT T o) (.int lo) (hT.fin h)
    refine ⟨o', z15, i1, fun c hc ho => i2 c hc (hc.to ho), ?_⟩
    rw [rng_succ, ← i3]
    refine forL_step (g1 := [x0, x1, x2, x3, x4, x5, x6, x7, x8, x9, x10, x11, x12, .int o, dMp (dbM T []), .int lo]) rfl ?_
    obtain ⟨e1, _⟩ := hT.nx.at h.1 h.2
    have e : gv [x0, x1, x2, x3, x4, x5, x6, x7, x8, x9, x10, x11, x12, .int o, dMp (dbM T []), .int lo] 14 = .ok (bMp (dbM T [])) := by
      rw [← brw_dMp]; rfl
    have og := opDG_int (dbM T []) o
    rw [e1] at og
    have ob : opd (bMp (dbM T [])) = bMp (dbM T []) := rfl
    have ef : nxD (dbM T []) o = fT T o := rfl
    rw [ef] at og
    generalize fT T o = fo at *
    generalize bMp (dbM T []) = bm at *
    generalize dMp (dbM T []) = dm at *
    unfold f_law_grown_v3_l3
    rw [sAsgF_, eBin_, eVar_, eVar_, e]
    simp [ob, og]
abbrev dM3 (p : Nat) (ts : List (Int × Int)) (T : List (List Int)) : D := .tp [.int p, .ls (ts.map dP), .ls (T.map dR)]
theorem gr_head {p : Nat} {ts : List (Int × Int)} {T : List (List Int)} {m N a b : Int} {r : Env → Out} {o : Out} (hN : N = 2 * (ts.length : Int)) (hab : (m % 2 = 0 ∧ a = N ∧ b = N + 1) ∨ (m % 2 = 1 ∧ a = N + 1 ∧ b = N)) {fr : Bool} (hf : fr = (decide (m / 2 % 2 = 0) && decide ((p : Int) < 13)))
    (h : r [.int p, .ls (ts.map dP), .ls (T.map dR), .int m, .int N, .ls [.int a, .int b], .bl fr, .un, .un, .un, .un, .un, .un, .un, .un, .un] = o) :
    sSeq (sAsgF 4 (eBin opMul (eC (.int 2)) (eCall caLen (aCons (eVar 1) (aNil))))) (sSeq (sAsgF 5 (eBin opIx (eLst (aConsO (eLst (aConsO (eVar 4) (aConsO (eBin opAdd (eVar 4) (eC (.int 1))) (aNil)))) (aConsO (eLst (aConsO (eBin opAdd (eVar 4) (eC (.int 1))) (aConsO (eVar 4) (aNil)))) (aNil)))) (eBin opMod (eVar 3) (eC (.int 2))))) (sSeq (sAsgF 6 (eB (tAn (tC2 cEq (eBin opMod (eBin opDiv (eVar 3) (eC (.int 2))) (eC (.int 2))) (eC (.int 0))) (tC2 cLt (eVar 0) (eC (.int 13)))))) r)) [.int p, .ls (ts.map dP), .ls (T.map dR), .int m, .un, .un, .un, .un, .un, .un, .un, .un, .un, .un, .un, .un] = o := by
  have l2 : 2 ≤ lim := by rw [lim_eq]; omega
  have om : opMul (.int 2) (.int (ts.length : Int)) = some (.int N) := by rw [hN]; exact opMul_l (by decide) (by decide)
  refine seq_to (g1 := [.int p, .ls (ts.map dP), .ls (T.map dR), .int m, .int N, .un, .un, .un, .un, .un, .un, .un, .un, .un, .un, .un]) (by simp [om]) (seq_to (g1 := [.int p, .ls (ts.map dP), .ls (T.map dR), .int m, .int N, .ls [.int a, .int b], .un, .un, .un, .un, .un, .un, .un, .un, .un, .un]) ?_ (seq_to (g1 := [.int p, .ls (ts.map dP), .ls (T.map dR), .int m, .int N, .ls [.int a, .int b], .bl fr, .un, .un, .un, .un, .un, .un, .un, .un, .un]) ?_ h))
  · rcases hab with ⟨q, rfl, rfl⟩ | ⟨q, rfl, rfl⟩ <;> simp [q, l2]
  · subst hf
    by_cases c : m / 2 % 2 = 0 <;> simp [c]
theorem gr_small {p : Nat} {ts : List (Int × Int)} {T : List (List Int)} {m N a b : Int} (hN : N = 2 * (ts.length : Int)) (hab : (m % 2 = 0 ∧ a = N ∧ b = N + 1) ∨ (m % 2 = 1 ∧ a = N + 1 ∧ b = N)) {fr : Bool} (hf : fr = (decide (m / 2 % 2 = 0) && decide ((p : Int) < 13))) :
    ((fr = false ∧ 10 < (ts.length : Int) - p) → g_law_grown_v3 [.int p, .ls (ts.map dP), .ls (T.map dR), .int m] = .ok (dM3 p ts T)) ∧
    (¬ (fr = false ∧ 10 < (ts.length : Int) - p) → ts = [] → fr = true → g_law_grown_v3 [.int p, .ls (ts.map dP), .ls (T.map dR), .int m] = .ok (dM3 2 [if m % 2 = 0 then (0, 1) else (1, 0)] [[a], [b]])) ∧
    (¬ (fr = false ∧ 10 < (ts.length : Int) - p) → ts = [] → fr = false → g_law_grown_v3 [.int p, .ls (ts.map dP), .ls (T.map dR), .int m] = .ok (dM3 1 [(0, 0)] [[a, b]])) := by
  have l1 : 1 ≤ lim := by rw [lim_eq]; omega
  have l2 : 2 ≤ lim := by rw [lim_eq]; omega
  have l3 : 3 ≤ lim := by rw [lim_eq]; omega
  have mm : m % 2 = 0 ∨ m % 2 = 1 := Int.emod_two_eq m
  refine ⟨fun h => ?_, fun h h0 h1 => ?_, fun h h0 h1 => ?_⟩
  · refine runF_rt ?_
    show f_law_grown_v3 [.int p, .ls (ts.map dP), .ls (T.map dR), .int m, .un, .un, .un, .un, .un, .un, .un, .un, .un, .un, .un, .un] = _
    unfold f_law_grown_v3
    refine gr_head hN hab hf ?_
    obtain ⟨rfl, h2⟩ := h
    simp [h2, l3]
  · subst h0 h1
    refine runF_rt ?_
    show f_law_grown_v3 [.int p, .ls (([] : List (Int × Int)).map dP), .ls (T.map dR), .int m, .un, .un, .un, .un, .un, .un, .un, .un, .un, .un, .un, .un] = _
    unfold f_law_grown_v3
    refine gr_head hN hab hf ?_
    rcases mm with q | q <;> simp [l1, l2, l3, q, dR]
  · subst h0 h1
    refine runF_rt ?_
    show f_law_grown_v3 [.int p, .ls (([] : List (Int × Int)).map dP), .ls (T.map dR), .int m, .un, .un, .un, .un, .un, .un, .un, .un, .un, .un, .un, .un] = _
    unfold f_law_grown_v3
    refine gr_head hN hab hf ?_
    have h' : ¬ (10 < (0 : Int) - p) := by simpa using h
    have h2 : decide (10 < -(p : Int)) = false := decide_eq_false (by omega)
    rcases mm with q | q <;> simp [l1, l2, l3, q, dR, h2]
theorem gr_big {p : Nat} {ts : List (Int × Int)} {T : List (List Int)} (hF : Flat p ts T) (hp : p ≤ 100) (hm : 0 < ts.length) (hl : ts.length ≤ 40) {m N a b : Int} (hN : N = 2 * (ts.length : Int)) (hab : (m % 2 = 0 ∧ a = N ∧ b = N + 1) ∨ (m % 2 = 1 ∧ a = N + 1 ∧ b = N)) {fr : Bool} (hf : fr = (decide (m / 2 % 2 = 0) && decide ((p : Int) < 13)))
    (hc : ¬ (fr = false ∧ 10 < (ts.length : Int) - p)) : ∃ (p' : Nat) (e : Int × Int) (T' : List (List Int)), Flat p' (ts ++ [e]) T' ∧ ((fr = true ∧ p' = p + 1) ∨ (fr = false ∧ p' = p)) ∧ g_law_grown_v3 [.int p, .ls (ts.map dP), .ls (T.map dR), .int m] = .ok (dM3 p' (ts ++ [e]) T') := by
  have l1 : 1 ≤ lim := by rw [lim_eq]; omega
  have l2 : 2 ≤ lim := by rw [lim_eq]; omega
  have l3 : 3 ≤ lim := by rw [lim_eq]; omega
  have hTl := hF.turns.len
  have fl := hF.turns.all
  have fne : full T ≠ [] := fun e => by
    have : T.flatten = [] := by rw [← full_flat, e]; rfl
    rw [this] at fl
    simp at fl
    omega
  obtain ⟨R, hR, one, h1, ec⟩ := corner_ok (T := T) (m / 4) (by omega) fne
  have fo : one ∈ T.flatten := List.mem_flatten.mpr ⟨R, hR, h1⟩
  have io := (hF.turns.mem one).mp fo
  obtain ⟨M', w8, w9, w10, v1, v2⟩ := pl_l2 (ts := ts) (.int p) (.ls (ts.map dP)) (.ls (T.map dR)) (.int m) (.int N) (.ls [.int a, .int b]) (.bl fr) .un .un .un .un .un T 0 [] .un .un .un hF.turns.rows (by rw [fl]; simp; omega)
  have rl : ∀ R ∈ T, R.length ≤ 1000 := fun R hR => by have := (hF.turns.row hR).1; omega
  have t0 : ts ≠ [] := fun e => by rw [e] at hm; simp at hm
  have mm : m % 2 = 0 ∨ m % 2 = 1 := Int.emod_two_eq m
  -- up to the corner
  have head : ∀ {r : Env → Out} {o : Out}, r [.int p, .ls (ts.map dP), .ls (T.map dR), .int m, .int N, .ls [.int a, .int b], .bl fr, dMp M', w8, w9, w10, .int one, .un, .un, .un, .un] = o →
      sSeq (sIf (tAn (tNo (tTr (eVar 6))) (tC2 cGt (eBin opSub (eCall caLen (aCons (eVar 1) (aNil))) (eVar 0)) (eC (.int 10)))) (sRet (eTup (aConsO (eVar 0) (aConsO (eVar 1) (aConsO (eVar 2) (aNil)))))) (sNil)) (sSeq (sIf (tC2 cEq (eCall caLen (aCons (eVar 1) (aNil))) (eC (.int 0))) (sSeq (sIf (tTr (eVar 6)) (sRet (eTup (aConsO (eC (.int 2)) (aConsO (eLst (aConsO (eBin opIx (eLst (aConsO (eTup (aConsO (eC (.int 0)) (aConsO (eC (.int 1)) (aNil)))) (aConsO (eTup (aConsO (eC (.int 1)) (aConsO (eC (.int 0)) (aNil)))) (aNil)))) (eBin opMod (eVar 3) (eC (.int 2)))) (aNil))) (aConsO (eLst (aConsO (eLst (aConsO (eBin opIx (eVar 5) (eC (.int 0))) (aNil))) (aConsO (eLst (aConsO (eBin opIx (eVar 5) (eC (.int 1))) (aNil))) (aNil)))) (aNil)))))) (sNil)) (sRet (eTup (aConsO (eC (.int 1)) (aConsO (eLst (aConsO (eTup (aConsO (eC (.int 0)) (aConsO (eC (.int 0)) (aNil)))) (aNil))) (aConsO (eLst (aConsO (eVar 5) (aNil))) (aNil))))))) (sNil)) (sSeq (sAsg 7 (eDic)) (sSeq (sFor (iEnm3 (aCons (eVar 2) (aNil))) (gtT 2 (gtCons (gtN 8) (gtCons (gtN 9) (gtNil)))) f_law_grown_v3_l2) (sSeq (sAsgF 11 (eOwn g_law_corner (aCons (eVar 2) (aCons (eBin opDiv (eVar 3) (eC (.int 4))) (aNil))))) r)))) [.int p, .ls (ts.map dP), .ls (T.map dR), .int m, .int N, .ls [.int a, .int b], .bl fr, .un, .un, .un, .un, .un, .un, .un, .un, .un] = o := by
    intro r o h
    have z0 : dMp [] = .od [] [] := rfl
    refine seq_to (g1 := [.int p, .ls (ts.map dP), .ls (T.map dR), .int m, .int N, .ls [.int a, .int b], .bl fr, .un, .un, .un, .un, .un, .un, .un, .un, .un]) ?_ (seq_to (g1 := [.int p, .ls (ts.map dP), .ls (T.map dR), .int m, .int N, .ls [.int a, .int b], .bl fr, .un, .un, .un, .un, .un, .un, .un, .un, .un]) ?_ (seq_to (g1 := [.int p, .ls (ts.map dP), .ls (T.map dR), .int m, .int N, .ls [.int a, .int b], .bl fr, dMp [], .un, .un, .un, .un, .un, .un, .un, .un]) ?_ (seq_to (g1 := [.int p, .ls (ts.map dP), .ls (T.map dR), .int m, .int N, .ls [.int a, .int b], .bl fr, dMp M', w8, w9, w10, .un, .un, .un, .un, .un]) ?_ (seq_to (g1 := [.int p, .ls (ts.map dP), .ls (T.map dR), .int m, .int N, .ls [.int a, .int b], .bl fr, dMp M', w8, w9, w10, .int one, .un, .un, .un, .un]) ?_ h))))
    · cases fr with
      | true => simp
      | false =>
        have : ¬ (10 < (ts.length : Int) - p) := fun q => hc ⟨rfl, q⟩
        simp [this]
    · simp [t0]
    · rw [z0]; simp
    · rw [sFor_]
      have ie : iEnm3 (aCons (eVar 2) (aNil)) [.int p, .ls (ts.map dP), .ls (T.map dR), .int m, .int N, .ls [.int a, .int b], .bl fr, dMp [], .un, .un, .un, .un, .un, .un, .un, .un] = .ok (enm 0 (T.map dR)) := by
        generalize dMp [] = dm
        simp
      rw [ie]
      exact v2
    · have od : opDiv (.int m) (.int 4) = some (.int (m / 4)) := opDiv_pos (by decide) (by decide)
      generalize dMp M' = dm at *
      simp [od, ec, -List.map_map]
  have gp : ∀ (y11 y12 y13 y14 y15 : D), gv [.int p, .ls (ts.map dP), .ls (T.map dR), .int m, .int N, .ls [.int a, .int b], .bl fr, dMp M', w8, w9, w10, y11, y12, y13, y14, y15] 7 = .ok (bMp M') := fun y11 y12 y13 y14 y15 => by rw [← brw_dMp]; rfl
  have ob : opd (bMp M') = bMp M' := rfl
  have og1 : opDG (bMp M') (.int one) = some (.int (dpl ts one)) := by rw [opDG_int, v1, if_pos fo]; rfl
  have bt : ts.length + 1 ≤ lim := by rw [lim_eq]; omega
  have bT : T.length + 1 ≤ lim := by rw [lim_eq]; omega
  cases hfr : fr with
  | true =>
    subst hfr
    obtain ⟨e, he⟩ : ∃ e : Int × Int, e = if m % 2 = 0 then (dpl ts one, (p : Int)) else ((p : Int), dpl ts one) := ⟨_, rfl⟩
    have hn : New ts e a b (dpl ts one) p := by
      refine ⟨?_⟩
      rcases hab with ⟨q, rfl, rfl⟩ | ⟨q, rfl, rfl⟩
      · left; rw [if_pos q] at he; exact ⟨hN, by rw [hN], he⟩
      · right; rw [if_neg (by omega)] at he; exact ⟨by rw [hN], hN, he⟩
    refine ⟨p + 1, e, _, flat_fresh hF hm fo hn, .inl ⟨rfl, rfl⟩, ?_⟩
    have pt := put_ok' T one none a b rl (by omega)
    simp only [dOp] at pt
    refine runF_rt ?_
    show f_law_grown_v3 [.int p, .ls (ts.map dP), .ls (T.map dR), .int m, .un, .un, .un, .un, .un, .un, .un, .un, .un, .un, .un, .un] = _
    unfold f_law_grown_v3
    refine gr_head hN hab hf (head ?_)
    have ex1 : eBin opDG (eVar 7) (eVar 11) [.int p, .ls (ts.map dP), .ls (T.map dR), .int m, .int N, .ls [.int a, .int b], .bl true, dMp M', w8, w9, w10, .int one, .un, .un, .un, .un] = .ok (.int (dpl ts one)) := by
      rw [eBin_, eVar_, eVar_, gp]
      generalize bMp M' = bm at *
      generalize dMp M' = dm at *
      simp [ob, og1]
    have s1 : sAsgF 12 (eBin opIx (eLst (aConsO (eTup (aConsO (eBin opDG (eVar 7) (eVar 11)) (aConsO (eVar 0) (aNil)))) (aConsO (eTup (aConsO (eVar 0) (aConsO (eBin opDG (eVar 7) (eVar 11)) (aNil)))) (aNil)))) (eBin opMod (eVar 3) (eC (.int 2)))) [.int p, .ls (ts.map dP), .ls (T.map dR), .int m, .int N, .ls [.int a, .int b], .bl true, dMp M', w8, w9, w10, .int one, .un, .un, .un, .un] = .nx [.int p, .ls (ts.map dP), .ls (T.map dR), .int m, .int N, .ls [.int a, .int b], .bl true, dMp M', w8, w9, w10, .int one, dP e, .un, .un, .un] := by
      generalize dpl ts one = u at *
      generalize dMp M' = dm at *
      have t1 : eTup (aConsO (eBin opDG (eVar 7) (eVar 11)) (aConsO (eVar 0) (aNil))) [.int p, .ls (ts.map dP), .ls (T.map dR), .int m, .int N, .ls [.int a, .int b], .bl true, dm, w8, w9, w10, .int one, .un, .un, .un, .un] = .ok (.tp [.int u, .int p]) := by simp [-eBin_, ex1, l2]
      have t2 : eTup (aConsO (eVar 0) (aConsO (eBin opDG (eVar 7) (eVar 11)) (aNil))) [.int p, .ls (ts.map dP), .ls (T.map dR), .int m, .int N, .ls [.int a, .int b], .bl true, dm, w8, w9, w10, .int one, .un, .un, .un, .un] = .ok (.tp [.int p, .int u]) := by simp [-eBin_, ex1, l2]
      rcases mm with q | q
      · rw [if_pos q] at he
        subst he
        simp [-eTup_, t1, t2, q, l2]
      · rw [if_neg (by omega)] at he
        subst he
        simp [-eTup_, t1, t2, q, l2]
    have tt : tTr (eVar 6) [.int p, .ls (ts.map dP), .ls (T.map dR), .int m, .int N, .ls [.int a, .int b], .bl true, dMp M', w8, w9, w10, .int one, .un, .un, .un, .un] = .ok true := by
      generalize dMp M' = dm
      simp
    have s2 : sRet (eTup (aConsO (eBin opAdd (eVar 0) (eC (.int 1))) (aConsO (eBin opAdd (eVar 1) (eLst (aConsO (eVar 12) (aNil)))) (aConsO (eBin opAdd (eOwn g_law_put (aCons (eVar 2) (aCons (eVar 11) (aCons (eC .non) (aCons (eVar 5) (aNil)))))) (eLst (aConsO (eLst (aConsO (eBin opIx (eVar 5) (eC (.int 1))) (aNil))) (aNil)))) (aNil))))) [.int p, .ls (ts.map dP), .ls (T.map dR), .int m, .int N, .ls [.int a, .int b], .bl true, dMp M', w8, w9, w10, .int one, dP e, .un, .un, .un] = .rt (dM3 (p + 1) (ts ++ [e]) (T.map (putR one none a b) ++ [[b]])) := by
      generalize dMp M' = dm at *
      have lT : (T.map (putR one none a b)).length = T.length := List.length_map ..
      generalize T.map (putR one none a b) = Q at *
      obtain ⟨b1, f1, _, n1, _, _⟩ := dulls dull_R Q
      have bQ : Q.length + 1 ≤ lim := by omega
      simp [pt, l1, l3, bt, bQ, dM3, dR, -List.map_map, b1, f1, n1]
    refine seq_rt ?_
    rw [sIf_, tt, Res.st_ok, if_pos rfl]
    exact seq_to s1 s2
  | false =>
    subst hfr
    obtain ⟨c, hcm, hoc⟩ := hF.turns.rdec.of io
    have n0 := Int.emod_nonneg (m / 1000) (by decide : (7 : Int) ≠ 0)
    have n1 := Int.emod_lt_of_pos (m / 1000) (by decide : (0 : Int) < 7)
    obtain ⟨o', z15, io', ic, fo3⟩ := beh_l3 hF.turns (.int p) (.ls (ts.map dP)) (.ls (T.map dR)) (.int m) (.int N) (.ls [.int a, .int b]) (.bl false) (dMp M') w8 w9 w10 (.int one) .un (m / 1000 % 7).toNat 0 one .un io
    have hoc' := ic c (hF.turns.rdec.cyc c hcm) hoc
    have fo' := (hF.turns.mem o').mpr io'
    have og2 : opDG (bMp M') (.int o') = some (.int (dpl ts o')) := by rw [opDG_int, v1, if_pos fo']; rfl
    obtain ⟨e, he⟩ : ∃ e : Int × Int, e = if m % 2 = 0 then (dpl ts one, dpl ts o') else (dpl ts o', dpl ts one) := ⟨_, rfl⟩
    have hn : New ts e a b (dpl ts one) (dpl ts o') := by
      refine ⟨?_⟩
      rcases hab with ⟨q, rfl, rfl⟩ | ⟨q, rfl, rfl⟩
      · left; rw [if_pos q] at he; exact ⟨hN, by rw [hN], he⟩
      · right; rw [if_neg (by omega)] at he; exact ⟨by rw [hN], hN, he⟩
    refine ⟨p, e, _, flat_split hF hm hcm hoc hoc' hn, .inr ⟨rfl, rfl⟩, ?_⟩
    have pt := put_ok' T one (some o') a b rl (by omega)
    simp only [dOp] at pt
    have bh : g_law_behind_v2 [.ls (T.map dR)] = .ok (dMp (dbM T [])) := behind_ok (h := dR) ⟨fun R => .inl rfl, .inl rfl⟩ (fun R hR => ⟨by have := (hF.turns.row hR).1; omega, (hF.turns.row hR).2⟩) (by rw [fl]; omega)
    refine runF_rt ?_
    show f_law_grown_v3 [.int p, .ls (ts.map dP), .ls (T.map dR), .int m, .un, .un, .un, .un, .un, .un, .un, .un, .un, .un, .un, .un] = _
    unfold f_law_grown_v3
    refine gr_head hN hab hf (head ?_)
    have ff : sIf (tTr (eVar 6)) (sSeq (sAsgF 12 (eBin opIx (eLst (aConsO (eTup (aConsO (eBin opDG (eVar 7) (eVar 11)) (aConsO (eVar 0) (aNil)))) (aConsO (eTup (aConsO (eVar 0) (aConsO (eBin opDG (eVar 7) (eVar 11)) (aNil)))) (aNil)))) (eBin opMod (eVar 3) (eC (.int 2))))) (sRet (eTup (aConsO (eBin opAdd (eVar 0) (eC (.int 1))) (aConsO (eBin opAdd (eVar 1) (eLst (aConsO (eVar 12) (aNil)))) (aConsO (eBin opAdd (eOwn g_law_put (aCons (eVar 2) (aCons (eVar 11) (aCons (eC .non) (aCons (eVar 5) (aNil)))))) (eLst (aConsO (eLst (aConsO (eBin opIx (eVar 5) (eC (.int 1))) (aNil))) (aNil)))) (aNil))))))) (sNil) [.int p, .ls (ts.map dP), .ls (T.map dR), .int m, .int N, .ls [.int a, .int b], .bl false, dMp M', w8, w9, w10, .int one, .un, .un, .un, .un] = .nx [.int p, .ls (ts.map dP), .ls (T.map dR), .int m, .int N, .ls [.int a, .int b], .bl false, dMp M', w8, w9, w10, .int one, .un, .un, .un, .un] := by
      have tt : tTr (eVar 6) [.int p, .ls (ts.map dP), .ls (T.map dR), .int m, .int N, .ls [.int a, .int b], .bl false, dMp M', w8, w9, w10, .int one, .un, .un, .un, .un] = .ok false := by
        generalize dMp M' = dm
        simp
      rw [sIf_, tt, Res.st_ok, if_neg (by decide)]
      rfl
    have s1 : sAsgF 13 (eVar 11) [.int p, .ls (ts.map dP), .ls (T.map dR), .int m, .int N, .ls [.int a, .int b], .bl false, dMp M', w8, w9, w10, .int one, .un, .un, .un, .un] = .nx [.int p, .ls (ts.map dP), .ls (T.map dR), .int m, .int N, .ls [.int a, .int b], .bl false, dMp M', w8, w9, w10, .int one, .un, .int one, .un, .un] := by
      generalize dMp M' = dm
      simp
    have s2 : sAsg 14 (eOwn g_law_behind_v2 (aCons (eVar 2) (aNil))) [.int p, .ls (ts.map dP), .ls (T.map dR), .int m, .int N, .ls [.int a, .int b], .bl false, dMp M', w8, w9, w10, .int one, .un, .int one, .un, .un] = .nx [.int p, .ls (ts.map dP), .ls (T.map dR), .int m, .int N, .ls [.int a, .int b], .bl false, dMp M', w8, w9, w10, .int one, .un, .int one, dMp (dbM T []), .un] := by
      have kk : kp (dMp (dbM T [])) = .ok (dMp (dbM T [])) := rfl
      generalize dMp (dbM T []) = dd at *
      generalize dMp M' = dm at *
      simp [-kp, bh, kk, -List.map_map]
    have s3 : sFor (iRg1 (aCons (eBin opMod (eBin opDiv (eVar 3) (eC (.int 1000))) (eC (.int 7))) (aNil))) (gtN 15) f_law_grown_v3_l3 [.int p, .ls (ts.map dP), .ls (T.map dR), .int m, .int N, .ls [.int a, .int b], .bl false, dMp M', w8, w9, w10, .int one, .un, .int one, dMp (dbM T []), .un] = .nx [.int p, .ls (ts.map dP), .ls (T.map dR), .int m, .int N, .ls [.int a, .int b], .bl false, dMp M', w8, w9, w10, .int one, .un, .int o', dMp (dbM T []), z15] := by
      have od : opDiv (.int m) (.int 1000) = some (.int (m / 1000)) := opDiv_pos (by decide) (by decide)
      have om : opMod (.int (m / 1000)) (.int 7) = some (.int (m / 1000 % 7)) := opMod_pos (by decide)
      have hr : rgOk (m / 1000 % 7) := rgOk_of (by omega) (by omega)
      have hn' : m / 1000 % 7 ≤ 1000000 := by omega
      rw [sFor_, iRg1_]
      generalize m / 1000 % 7 = q7 at *
      generalize dMp (dbM T []) = dd at *
      generalize dMp M' = dm at *
      simp [od, om, hr, hn', fo3]
    have ex1 : eBin opDG (eVar 7) (eVar 11) [.int p, .ls (ts.map dP), .ls (T.map dR), .int m, .int N, .ls [.int a, .int b], .bl false, dMp M', w8, w9, w10, .int one, .un, .int o', dMp (dbM T []), z15] = .ok (.int (dpl ts one)) := by
      rw [eBin_, eVar_, eVar_, gp]
      generalize bMp M' = bm at *
      generalize dMp M' = dm at *
      simp [ob, og1]
    have ex2 : eBin opDG (eVar 7) (eVar 13) [.int p, .ls (ts.map dP), .ls (T.map dR), .int m, .int N, .ls [.int a, .int b], .bl false, dMp M', w8, w9, w10, .int one, .un, .int o', dMp (dbM T []), z15] = .ok (.int (dpl ts o')) := by
      rw [eBin_, eVar_, eVar_, gp]
      generalize bMp M' = bm at *
      generalize dMp M' = dm at *
      simp [ob, og2]
    have s4 : sAsgF 12 (eBin opIx (eLst (aConsO (eTup (aConsO (eBin opDG (eVar 7) (eVar 11)) (aConsO (eBin opDG (eVar 7) (eVar 13)) (aNil)))) (aConsO (eTup (aConsO (eBin opDG (eVar 7) (eVar 13)) (aConsO (eBin opDG (eVar 7) (eVar 11)) (aNil)))) (aNil)))) (eBin opMod (eVar 3) (eC (.int 2)))) [.int p, .ls (ts.map dP), .ls (T.map dR), .int m, .int N, .ls [.int a, .int b], .bl false, dMp M', w8, w9, w10, .int one, .un, .int o', dMp (dbM T []), z15] = .nx [.int p, .ls (ts.map dP), .ls (T.map dR), .int m, .int N, .ls [.int a, .int b], .bl false, dMp M', w8, w9, w10, .int one, dP e, .int o', dMp (dbM T []), z15] := by
      generalize dpl ts one = u at *
      generalize dpl ts o' = v at *
      generalize dMp (dbM T []) = dd at *
      generalize dMp M' = dm at *
      have t1 : eTup (aConsO (eBin opDG (eVar 7) (eVar 11)) (aConsO (eBin opDG (eVar 7) (eVar 13)) (aNil))) [.int p, .ls (ts.map dP), .ls (T.map dR), .int m, .int N, .ls [.int a, .int b], .bl false, dm, w8, w9, w10, .int one, .un, .int o', dd, z15] = .ok (.tp [.int u, .int v]) := by simp [-eBin_, ex1, ex2, l2]
      have t2 : eTup (aConsO (eBin opDG (eVar 7) (eVar 13)) (aConsO (eBin opDG (eVar 7) (eVar 11)) (aNil))) [.int p, .ls (ts.map dP), .ls (T.map dR), .int m, .int N, .ls [.int a, .int b], .bl false, dm, w8, w9, w10, .int one, .un, .int o', dd, z15] = .ok (.tp [.int v, .int u]) := by simp [-eBin_, ex1, ex2, l2]
      rcases mm with q | q
      · rw [if_pos q] at he
        subst he
        simp [-eTup_, t1, t2, q, l2]
      · rw [if_neg (by omega)] at he
        subst he
        simp [-eTup_, t1, t2, q, l2]
    have s5 : sRet (eTup (aConsO (eVar 0) (aConsO (eBin opAdd (eVar 1) (eLst (aConsO (eVar 12) (aNil)))) (aConsO (eOwn g_law_put (aCons (eVar 2) (aCons (eVar 11) (aCons (eVar 13) (aCons (eVar 5) (aNil)))))) (aNil))))) [.int p, .ls (ts.map dP), .ls (T.map dR), .int m, .int N, .ls [.int a, .int b], .bl false, dMp M', w8, w9, w10, .int one, dP e, .int o', dMp (dbM T []), z15] = .rt (dM3 p (ts ++ [e]) (T.map (putR one (some o') a b))) := by
      generalize dMp (dbM T []) = dd at *
      generalize dMp M' = dm at *
      generalize T.map (putR one (some o') a b) = Q at *
      obtain ⟨b1, f1, _, n1, _, _⟩ := dulls dull_R Q
      simp [pt, l1, l3, bt, dM3, -List.map_map, b1, f1, n1]
    exact seq_to ff (seq_to s1 (seq_to s2 (seq_to s3 (seq_to s4 s5))))
theorem flat_start : Flat 1 [] [[]] where
  p1 := Nat.le_refl _
  ends := fun _ h => nomatch h
  turns := ⟨rfl, ⟨fun _ h => (nomatch h), trivial⟩, by simp, rfl⟩
  conn := fun i j i0 i1 j0 j1 => by rw [show i = j by omega]; exact .refl _
  euler := rfl
theorem flat_one_tie {e : Int × Int} {a b : Int} (h : (e = (0, 1) ∧ a = 0 ∧ b = 1) ∨ (e = (1, 0) ∧ a = 1 ∧ b = 0)) : Flat 2 [e] [[a], [b]] := by
  rcases h with ⟨rfl, rfl, rfl⟩ | ⟨rfl, rfl, rfl⟩
  · refine ⟨by omega, by unfold EndsOk; decide, ⟨rfl, ⟨?_, ?_, trivial⟩, by decide, rfl⟩, fun i j i0 i1 j0 j1 => ?_, by decide⟩
    · decide
    · decide
    · have t : Conn [((0 : Int), (1 : Int))] 0 1 := .tie (by simp)
      have hi : i = 0 ∨ i = 1 := by omega
      have hj : j = 0 ∨ j = 1 := by omega
      rcases hi with rfl | rfl <;> rcases hj with rfl | rfl
      · exact .refl _
      · exact t
      · exact t.symm
      · exact .refl _
  · refine ⟨by omega, by unfold EndsOk; decide, ⟨rfl, ⟨?_, ?_, trivial⟩, by decide, rfl⟩, fun i j i0 i1 j0 j1 => ?_, by decide⟩
    · decide
    · decide
    · have t : Conn [((1 : Int), (0 : Int))] 1 0 := .tie (by simp)
      have hi : i = 0 ∨ i = 1 := by omega
      have hj : j = 0 ∨ j = 1 := by omega
      rcases hi with rfl | rfl <;> rcases hj with rfl | rfl
      · exact .refl _
      · exact t.symm
      · exact t
      · exact .refl _
theorem flat_one_loop {a b : Int} (h : (a = 0 ∧ b = 1) ∨ (a = 1 ∧ b = 0)) : Flat 1 [(0, 0)] [[a, b]] := by
  rcases h with ⟨rfl, rfl⟩ | ⟨rfl, rfl⟩
  · exact ⟨by omega, by unfold EndsOk; decide, ⟨rfl, ⟨by decide, trivial⟩, by decide, rfl⟩, fun i j i0 i1 j0 j1 => by rw [show i = j by omega]; exact .refl _, by decide⟩
  · exact ⟨by omega, by unfold EndsOk; decide, ⟨rfl, ⟨by decide, trivial⟩, by decide, rfl⟩, fun i j i0 i1 j0 j1 => by rw [show i = j by omega]; exact .refl _, by decide⟩
theorem grown_ok {p : Nat} {ts : List (Int × Int)} {T : List (List Int)} (hF : Flat p ts T) (hp : p ≤ 13) (hl : ts.length ≤ p + 11) (m : Int) :
    ∃ (p' : Nat) (ts' : List (Int × Int)) (T' : List (List Int)), Flat p' ts' T' ∧ p' ≤ 13 ∧ ts'.length ≤ p' + 11 ∧ g_law_grown_v3 [.int p, .ls (ts.map dP), .ls (T.map dR), .int m] = .ok (dM3 p' ts' T') := by
  obtain ⟨N, hN⟩ : ∃ N : Int, N = 2 * (ts.length : Int) := ⟨_, rfl⟩
  obtain ⟨a, b, hab⟩ : ∃ a b : Int, (m % 2 = 0 ∧ a = N ∧ b = N + 1) ∨ (m % 2 = 1 ∧ a = N + 1 ∧ b = N) := by
    rcases Int.emod_two_eq m with q | q
    · exact ⟨N, N + 1, .inl ⟨q, rfl, rfl⟩⟩
    · exact ⟨N + 1, N, .inr ⟨q, rfl, rfl⟩⟩
  obtain ⟨fr, hf⟩ : ∃ fr : Bool, fr = (decide (m / 2 % 2 = 0) && decide ((p : Int) < 13)) := ⟨_, rfl⟩
  obtain ⟨g1, g2, g3⟩ := gr_small (T := T) hN hab hf
  by_cases c : fr = false ∧ 10 < (ts.length : Int) - p
  · exact ⟨p, ts, T, hF, hp, hl, g1 c⟩
  · by_cases c0 : ts = []
    · subst c0
      have n0 : N = 0 := by rw [hN]; rfl
      cases hfr : fr with
      | true =>
        refine ⟨2, [if m % 2 = 0 then (0, 1) else (1, 0)], [[a], [b]], flat_one_tie ?_, by omega, by simp, g2 c rfl hfr⟩
        rcases hab with ⟨q, rfl, rfl⟩ | ⟨q, rfl, rfl⟩
        · left; rw [if_pos q]; exact ⟨rfl, n0, by omega⟩
        · right; rw [if_neg (by omega)]; exact ⟨rfl, by omega, n0⟩
      | false =>
        refine ⟨1, [(0, 0)], [[a, b]], flat_one_loop ?_, by omega, by simp, g3 c rfl hfr⟩
        rcases hab with ⟨q, rfl, rfl⟩ | ⟨q, rfl, rfl⟩
        · left; omega
        · right; omega
    · obtain ⟨p', e, T', h1, h2, h3⟩ := gr_big hF (by omega) (List.length_pos_iff.mpr c0) (by omega) hN hab hf c
      refine ⟨p', ts ++ [e], T', h1, ?_, ?_, h3⟩
      · rcases h2 with ⟨q, rfl⟩ | ⟨_, rfl⟩
        · rw [q] at hf
          have := hf.symm
          simp at this
          omega
        · exact hp
      · rw [List.length_append, List.length_singleton]
        rcases h2 with ⟨_, rfl⟩ | ⟨q, rfl⟩
        · omega
        · have : ¬ (10 < (ts.length : Int) - p') := fun z => c ⟨q, z⟩
          omega
theorem map_l1 (x0 : D) : ∀ (L : List Int) (p : Nat) (ts : List (Int × Int)) (T : List (List Int)) (y4 : D), Flat p ts T → p ≤ 13 → ts.length ≤ p + 11 →
    ∃ (p' : Nat) (ts' : List (Int × Int)) (T' : List (List Int)) (z4 : D), Flat p' ts' T' ∧ p' ≤ 13 ∧ ts'.length ≤ p' + 11 ∧ forL (gtN 4) f_law_map_l1 (L.map D.int) [x0, .int p, .ls (ts.map dP), .ls (T.map dR), y4] = .nx [x0, .int p', .ls (ts'.map dP), .ls (T'.map dR), z4]
  | [], p, ts, T, y4, h, h2, h3 => ⟨p, ts, T, y4, h, h2, h3, by simp [forL]⟩
  | m :: L, p, ts, T, y4, h, h2, h3 => by
    obtain ⟨p1, ts1, T1, i1, i2, i3, i4⟩ := grown_ok h h2 h3 m
    obtain ⟨p', ts', T', z4, j1, j2, j3, j4⟩ := map_l1 x0 L p1 ts1 T1 (.int m) i1 i2 i3
    refine ⟨p', ts', T', z4, j1, j2, j3, ?_⟩
    rw [← j4, List.map_cons]
    refine forL_step (g1 := [x0, .int p, .ls (ts.map dP), .ls (T.map dR), .int m]) rfl ?_
    simp [f_law_map_l1, i4, dM3, -List.map_map]
theorem map_ok (s : List Int) (hs : s.length ≤ 63) : ∃ (p : Nat) (ts : List (Int × Int)) (T : List (List Int)), Flat p ts T ∧ p ≤ 13 ∧ ts.length ≤ p + 11 ∧ g_law_map [.sc (s.map D.int)] = .ok (dM3 p ts T) := by
  obtain ⟨L, hL, eL⟩ := amounts_ok s hs
  obtain ⟨p, ts, T, z4, h1, h2, h3, h4⟩ := map_l1 (.sc (s.map D.int)) L 1 [] [[]] .un flat_start (by omega) (by simp)
  refine ⟨p, ts, T, h1, h2, h3, ?_⟩
  have l1 : 1 ≤ lim := by rw [lim_eq]; omega
  have l3 : 3 ≤ lim := by rw [lim_eq]; omega
  have h4 : forL (gtN 4) f_law_map_l1 (L.map D.int) [.sc (s.map D.int), .int 1, .ls [], .ls [.ls []], .un] = .nx [.sc (s.map D.int), .int p, .ls (ts.map dP), .ls (T.map dR), z4] := h4
  obtain ⟨b1, f1, _, n1, _, _⟩ := dulls dull_R T
  simp [g_law_map, runF, f_law_map, eL, h4, l1, l3, dM3, -List.map_map, b1, f1, n1]
end Lw
end

noncomputable section
namespace Lw
open DL
end Lw
end

namespace Lw
open DL L2 TL
def but (n : Nat) (t : Int) : List Int := (iota n).filter fun x => !decide (x = t)
end Lw

noncomputable section
namespace Lw
open DL L2 TL Mp
variable {p : Nat} {ts : List (Int × Int)} {T : List (List Int)}
theorem lies_no {h : List Int → D} {o : D} (ho : TTb h o T) (hl : ts.length ≤ 50) (hT : ¬ Turns p ts T) : g_lies_flat [.ob 14 [.int p, .ls (ts.map dP)], o] = .xc 10 := by
  have r1 := rounds_no (p := p) ho hl hT
  have go : ∀ x2 x3 : D, gv [.ob 14 [.int p, .ls (ts.map dP)], o, x2, x3] 1 = .ok o := fun x2 x3 => by rcases ho.2 with rfl | rfl <;> rfl
  have so : shd1 o = true ∧ opd o = o := by rcases ho.2 with rfl | rfl <;> exact ⟨rfl, rfl⟩
  refine runF_xc (g := [.ob 14 [.int p, .ls (ts.map dP)], o, .un, .un]) ?_
  show f_lies_flat [.ob 14 [.int p, .ls (ts.map dP)], o, .un, .un] = _
  unfold f_lies_flat
  rw [sSeq_, sAsgF_, eOwn_, aCons_, aCons_, eVar_, eVar_, go]
  simp [so.1, so.2, r1]
def rix : List (List Int) → Nat → Int → Int
  | [], _, _ => 0
  | c :: C, k, d => if d ∈ c then (k : Int) else rix C (k + 1) d
theorem rix_b : ∀ {C : List (List Int)} {k : Nat} {d : Int}, d ∈ C.flatten → (k : Int) ≤ rix C k d ∧ rix C k d < k + C.length
  | [], _, _, h => by simp at h
  | c :: C, k, d, h => by
    unfold rix
    rw [List.length_cons]
    split
    · omega
    · rename_i n
      rw [List.flatten_cons] at h
      have h : d ∈ C.flatten := (List.mem_append.mp h).resolve_left n
      have := rix_b (k := k + 1) h
      omega
def dual (m : Nat) (C : List (List Int)) : List (Int × Int) := (iota m).map fun t => (rix C 0 (2 * t), rix C 0 (2 * t + 1))
theorem dual_len (m : Nat) (C : List (List Int)) : (dual m C).length = m := by unfold dual; rw [List.length_map, iota_len]
theorem rF_flat (C : List (List Int)) : (rF C).flatten = C.flatten := by
  unfold rF
  split
  · rename_i h; subst h; rfl
  · rfl
theorem rF_pos (C : List (List Int)) : 1 ≤ (rF C).length := by
  unfold rF
  split
  · simp
  · rename_i h; exact List.length_pos_iff.mpr h
theorem Turns.rmem {q : Int} (hT : Turns q ts T) (d : Int) : d ∈ (rF (rnds ts.length T)).flatten ↔ inR (2 * ts.length) d := by rw [rF_flat]; exact hT.rdec.mem d
theorem Turns.rnd' {q : Int} (hT : Turns q ts T) : (rF (rnds ts.length T)).flatten.Nodup := by rw [rF_flat]; exact hT.rdec.nd
theorem dual_ends {q : Int} (hT : Turns q ts T) : EndsOk ((rF (rnds ts.length T)).length : Nat) (dual ts.length (rF (rnds ts.length T))) := by
  intro e he
  obtain ⟨t, ht, rfl⟩ := List.mem_map.mp he
  obtain ⟨t0, t1⟩ := iota_mem.mp ht
  have a := rix_b (k := 0) ((hT.rmem (2 * t)).mpr ⟨by omega, by omega⟩)
  have b := rix_b (k := 0) ((hT.rmem (2 * t + 1)).mpr ⟨by omega, by omega⟩)
  simp only [Int.natCast_zero, Int.zero_add] at a b
  exact ⟨a, b⟩
theorem other_no {h : List Int → D} {o : D} (ho : TTb h o T) (hl : ts.length ≤ 30) (hT : ¬ Turns p ts T) : g_other_web [.ob 14 [.int p, .ls (ts.map dP)], o] = .xc 10 := by
  have lf := lies_no (p := p) ho (by omega) hT
  have go : ∀ x2 x3 x4 x5 x6 x7 : D, gv [.ob 14 [.int p, .ls (ts.map dP)], o, x2, x3, x4, x5, x6, x7] 1 = .ok o := fun x2 x3 x4 x5 x6 x7 => by rcases ho.2 with rfl | rfl <;> rfl
  have so : shd1 o = true ∧ opd o = o := by rcases ho.2 with rfl | rfl <;> exact ⟨rfl, rfl⟩
  refine runF_xc (g := [.ob 14 [.int p, .ls (ts.map dP)], o, .un, .un, .un, .un, .un, .un]) ?_
  show f_other_web [.ob 14 [.int p, .ls (ts.map dP)], o, .un, .un, .un, .un, .un, .un] = _
  unfold f_other_web
  rw [sSeq_, sIf_]
  have lf' : eOwn g_lies_flat (aCons (eVar 0) (aCons (eVar 1) (aNil))) [.ob 14 [.int p, .ls (ts.map dP)], o, .un, .un, .un, .un, .un, .un] = .xc 10 := by
    rw [eOwn_, aCons_, aCons_, eVar_, eVar_, go]
    simp [so.1, so.2, lf]
  simp [-eOwn_, lf']
end Lw
end

noncomputable section
namespace Lw
open DL
end Lw
end

namespace Lw
open DL L2
def dTo (x low high : Int) : Int := if x = high then low else if high < x then x - 1 else x
end Lw

namespace Lw
open DL L2 TL
def unl (p : Nat) (ts : List (Int × Int)) (k : Nat) (s : List Int) : Bool := !decide (nth (marksL p ts s) (tieAt ts k).1 = nth (marksL p ts s) (tieAt ts k).2)
def fo (p : Nat) (ts : List (Int × Int)) : Nat → List (List Int)
  | 0 => [[]]
  | k + 1 => fo p ts k ++ ((fo p ts k).filter (unl p ts k)).map (· ++ [(k : Int)])
end Lw

namespace Lw
open DL L2 TL
def upn (t x : Int) : Int := x + (if t ≤ x then 1 else 0)
section
variable {p : Nat} {ts : List (Int × Int)}
def bk (t : Int) (b : Bool) (l : List Int) : List Int := srt (l.map (upn t) ++ if b = true then [t] else [])
def d2 (lo hi : Int) (e : Int × Int) : Int × Int := (dTo e.1 lo hi, dTo e.2 lo hi)
end
end Lw

noncomputable section
namespace Lw
open DL L2 TL Mp
theorem dts_mem {l : List Int} {d : Int} : d ∈ dts l ↔ d / 2 ∈ l := by
  unfold dts
  rw [List.mem_flatMap]
  constructor
  · rintro ⟨t, ht, hd⟩
    have : d = 2 * t ∨ d = 2 * t + 1 := by simpa using hd
    rw [show d / 2 = t by omega]
    exact ht
  · intro h
    refine ⟨d / 2, h, ?_⟩
    have : d = 2 * (d / 2) ∨ d = 2 * (d / 2) + 1 := by omega
    simpa using this
theorem dts_nd : ∀ {l : List Int}, l.Nodup → (dts l).Nodup
  | [], _ => by simp [dts]
  | t :: l, nd => by
    rw [List.nodup_cons] at nd
    have ih := dts_nd nd.2
    have e : dts (t :: l) = [2 * t, 2 * t + 1] ++ dts l := by unfold dts; rw [List.flatMap_cons]
    rw [e, List.nodup_append]
    refine ⟨by simp; omega, ih, fun x hx y hy q => ?_⟩
    subst q
    have h1 := dts_mem.mp hy
    have : x = 2 * t ∨ x = 2 * t + 1 := by simpa using hx
    rw [show x / 2 = t by omega] at h1
    exact nd.1 h1
theorem dpl_two (ts : List (Int × Int)) (t : Int) : dpl ts (2 * t) = (tieAt ts t).1 ∧ dpl ts (2 * t + 1) = (tieAt ts t).2 := by
  unfold dpl
  rw [if_pos (by omega), if_neg (by omega), show 2 * t / 2 = t by omega, show (2 * t + 1) / 2 = t by omega]
  exact ⟨rfl, rfl⟩
theorem conn_cross {es : List (Int × Int)} {P : Int → Prop} {a b : Int} (h : Conn es a b) : (P a ↔ P b) ∨ ∃ e ∈ es, ¬ (P e.1 ↔ P e.2) := by
  induction h with
  | refl a => exact .inl Iff.rfl
  | @tie a b h =>
    apply Classical.byContradiction
    intro c
    rw [not_or] at c
    exact c.2 ⟨(a, b), h, c.1⟩
  | symm _ ih => exact ih.imp (fun q => q.symm) id
  | trans _ _ i1 i2 =>
    rcases i1 with i1 | i1
    · rcases i2 with i2 | i2
      · exact .inl (i1.trans i2)
      · exact .inr i2
    · exact .inr i1
section
open Classical
theorem comp_conn {p : Nat} {ts us : List (Int × Int)} {s : Int → Int} {C : List (List Int)} (hm : us.length = ts.length) (hE : EndsOk p ts) (hs : Dec s (inR (2 * ts.length)) C) (hw : ∀ x, inR (2 * ts.length) x → dpl ts (s x) = dpl ts x) (hu : ∀ x, inR (2 * ts.length) x → dpl us (s x) = dpl us (xr1 x))
    {S : List Int} (hS : Ind p ts S) {i j : Int} (hc : Conn us i j) : Conn (tiesAt us (othL ts.length S)) i j := by
  apply Classical.byContradiction
  intro no
  -- the set of what hangs together with i
  let P : Int → Prop := fun x => Conn (tiesAt us (othL ts.length S)) i x
  rcases conn_cross (P := P) hc with q | ⟨e, he, q⟩
  · exact no (q.mp (.refl i))
  · obtain ⟨t0, h0, h1, rfl⟩ : ∃ t : Int, 0 ≤ t ∧ t < ts.length ∧ tieAt us t = e := by
      obtain ⟨k, hk, rfl⟩ := List.mem_iff_getElem.mp he
      refine ⟨k, by omega, by omega, ?_⟩
      unfold tieAt
      rw [List.getD_eq_getElem?_getD, Int.toNat_natCast, List.getElem?_eq_getElem hk]
      rfl
    -- ties left out do not cross
    have keep : ∀ t : Int, 0 ≤ t → t < ts.length → t ∉ S → (P (tieAt us t).1 ↔ P (tieAt us t).2) := fun t a b n => by
      have hh : Conn (tiesAt us (othL ts.length S)) (tieAt us t).1 (tieAt us t).2 := conn_at (List.mem_filter.mpr ⟨iota_mem.mpr ⟨a, by exact b⟩, by simpa using n⟩)
      exact ⟨fun z => z.trans hh, fun z => z.trans hh.symm⟩
    have tS : t0 ∈ S := Classical.byContradiction fun n => q (keep t0 h0 h1 n)
    let Q : Int → Prop := fun x => Conn (tiesAt ts (wo S t0)) (tieAt ts t0).1 x
    have cutn := hS.cuts hE tS
    have keep2 : ∀ t : Int, t ∈ S → t ≠ t0 → (Q (tieAt ts t).1 ↔ Q (tieAt ts t).2) := fun t a n => by
      have hh : Conn (tiesAt ts (wo S t0)) (tieAt ts t).1 (tieAt ts t).2 := conn_at (List.mem_filter.mpr ⟨a, by simpa using n⟩)
      exact ⟨fun z => z.trans hh, fun z => z.trans hh.symm⟩
    have od := ortho hs (L := dts (iota ts.length)) (dts_nd (iota_nodup _)) (r := xr1) (fun d => by
      rw [dts_mem, iota_mem]
      unfold inR
      omega) (w := fun x => decide (Q (dpl ts x))) (u := fun x => decide (P (dpl us x))) (fun x hx => by simp only [hw x hx]) (fun x hx => by simp only [hu x hx])
    rw [par_dts (r := fun _ => true) (fun t => xr1_b t)] at od
    have one := par_only (t := t0) (p := fun t => (decide (Q (dpl ts (2 * t))) ^^ decide (Q (dpl ts (2 * t + 1)))) && (decide (P (dpl us (2 * t))) ^^ decide (P (dpl us (2 * t + 1))))) (iota_nodup ts.length) (iota_mem.mpr ⟨h0, by exact h1⟩) (by
        rw [(dpl_two ts t0).1, (dpl_two ts t0).2, (dpl_two us t0).1, (dpl_two us t0).2]
        have a1 : decide (Q (tieAt ts t0).1) = true := decide_eq_true (Conn.refl _)
        have a2 : decide (Q (tieAt ts t0).2) = false := decide_eq_false cutn
        have a3 : (decide (P (tieAt us t0).1) ^^ decide (P (tieAt us t0).2)) = true := by
          by_cases c1 : P (tieAt us t0).1 <;> by_cases c2 : P (tieAt us t0).2
          · exact absurd ⟨fun _ => c2, fun _ => c1⟩ q
          · simp [c1, c2]
          · simp [c1, c2]
          · exact absurd ⟨fun z => absurd z c1, fun z => absurd z c2⟩ q
        rw [a1, a2, a3]
        rfl) (fun t ht n => by
        obtain ⟨t0', t1'⟩ := iota_mem.mp ht
        rw [(dpl_two ts t).1, (dpl_two ts t).2, (dpl_two us t).1, (dpl_two us t).2]
        by_cases c : t ∈ S
        · have k := keep2 t c n
          have : decide (Q (tieAt ts t).1) = decide (Q (tieAt ts t).2) := by rw [decide_eq_decide]; exact k
          rw [this]
          simp
        · have k := keep t t0' (by exact t1') c
          have : decide (P (tieAt us t).1) = decide (P (tieAt us t).2) := by rw [decide_eq_decide]; exact k
          rw [this]
          simp)
    rw [one] at od
    cases od
end
theorem oth_oth {n : Nat} {S : List Int} (h : goodB n S = true) : othL n (othL n S) = S := by
  have g := good_iff.mp h
  refine rise_uniq (((iota_sorted n).filter _)) g.2 fun x => ?_
  unfold othL
  rw [List.mem_filter, iota_mem]
  constructor
  · rintro ⟨q1, q2⟩
    apply Classical.byContradiction
    intro c
    have : x ∈ (iota n).filter fun x => !decide (x ∈ S) := List.mem_filter.mpr ⟨iota_mem.mpr q1, by simpa using c⟩
    simp only [Bool.not_eq_true', decide_eq_false_iff_not] at q2
    exact q2 this
  · intro q
    refine ⟨g.1 x q, ?_⟩
    simp only [Bool.not_eq_true', decide_eq_false_iff_not]
    intro c
    have := (List.mem_filter.mp c).2
    simp only [Bool.not_eq_true', decide_eq_false_iff_not] at this
    exact this q
theorem oth_good (n : Nat) (S : List Int) : goodB n (othL n S) = true := good_of (fun x hx => iota_mem.mp (List.mem_filter.mp hx).1) ((iota_sorted n).filter _)
theorem oth_len {n : Nat} {S : List Int} (h : goodB n S = true) : (othL n S).length + S.length = n := by
  have g := good_iff.mp h
  have p1 : ((iota n).filter fun x => decide (x ∈ S)).Perm S := (List.perm_ext_iff_of_nodup ((iota_nodup n).filter _) (rise_nodup g.2)).mpr fun x => by
    rw [List.mem_filter, iota_mem, decide_eq_true_eq]
    exact ⟨fun q => q.2, fun q => ⟨g.1 x q, q⟩⟩
  have p2 : (((iota n).filter fun x => decide (x ∈ S)) ++ ((iota n).filter fun x => !decide (x ∈ S))).Perm (iota n) := List.filter_append_perm (fun x => decide (x ∈ S)) (iota n)
  have := p2.length_eq
  rw [List.length_append, p1.length_eq, iota_len] at this
  unfold othL
  omega
variable {p : Nat} {ts : List (Int × Int)} {T : List (List Int)}
def rds (ts : List (Int × Int)) (T : List (List Int)) : List (List Int) := rF (rnds ts.length T)
def dualT (ts : List (Int × Int)) (T : List (List Int)) : List (Int × Int) := dual ts.length (rds ts T)
theorem dual_at {m : Nat} {C : List (List Int)} {t : Int} (h : 0 ≤ t ∧ t < m) : tieAt (dual m C) t = (rix C 0 (2 * t), rix C 0 (2 * t + 1)) := by
  unfold tieAt dual iota
  rw [List.map_map, List.getD_eq_getElem?_getD, List.getElem?_map, List.getElem?_range (by omega)]
  simp only [Option.map_some, Function.comp, Option.getD_some]
  rw [show ((t.toNat : Nat) : Int) = t by omega]
theorem dpl_dual {m : Nat} {C : List (List Int)} {x : Int} (h : inR (2 * m) x) : dpl (dual m C) x = rix C 0 x := by
  obtain ⟨h0, h1⟩ := h
  unfold dpl
  rw [dual_at (by omega)]
  split
  · rw [show 2 * (x / 2) = x by omega]
  · rw [show 2 * (x / 2) + 1 = x by omega]
theorem rix_eq : ∀ {C : List (List Int)} {k : Nat} {c : List Int} {x y : Int}, C.flatten.Nodup → c ∈ C → x ∈ c → y ∈ c → rix C k x = rix C k y
  | [], _, _, _, _, _, h, _, _ => nomatch h
  | d :: C, k, c, x, y, nd, h, hx, hy => by
    rw [List.flatten_cons, List.nodup_append] at nd
    unfold rix
    rcases List.mem_cons.mp h with rfl | h
    · rw [if_pos hx, if_pos hy]
    · rw [if_neg fun q => nd.2.2 x q x (List.mem_flatten.mpr ⟨c, h, hx⟩) rfl, if_neg fun q => nd.2.2 y q y (List.mem_flatten.mpr ⟨c, h, hy⟩) rfl]
      exact rix_eq nd.2.1 h hx hy
theorem Turns.face {q : Int} (h : Turns q ts T) {x : Int} (hx : inR (2 * ts.length) x) : rix (rds ts T) 0 (fT T x) = rix (rds ts T) 0 x := by
  obtain ⟨c, hc, hxc⟩ := h.rdec.of hx
  have hc' : c ∈ rds ts T := by
    unfold rds rF
    rw [if_neg fun e => by rw [e] at hc; exact nomatch hc]
    exact hc
  exact rix_eq h.rnd' hc' ((h.rdec.cyc c hc).to hxc) hxc
theorem Turns.place {q : Int} (h : Turns q ts T) {x : Int} (hx : inR (2 * ts.length) x) : dpl ts (sT T x) = dpl ts x := by
  obtain ⟨R, hR, hxR⟩ := List.mem_flatten.mp ((h.mem x).mpr hx)
  have ne : R ≠ [] := fun e => by rw [e] at hxR; exact nomatch hxR
  have c := cyc_rows h.nd hR ne
  obtain ⟨i, hi, rfl⟩ := List.mem_iff_getElem.mp hR
  have r := rowsGd_at h.rows i _ (List.getElem?_eq_getElem hi)
  rw [(r x hxR).2, (r _ (c.to hxR)).2]
theorem Turns.same {q : Int} (h : Turns q ts T) {x y : Int} (hx : inR (2 * ts.length) x) (hy : inR (2 * ts.length) y) (e : dpl ts x = dpl ts y) {P : Int → Prop} (hP : ∀ z, inR (2 * ts.length) z → P z → P (sT T z)) (px : P x) : P y := by
  obtain ⟨R, hR, hxR⟩ := List.mem_flatten.mp ((h.mem x).mpr hx)
  obtain ⟨R2, hR2, hyR⟩ := List.mem_flatten.mp ((h.mem y).mpr hy)
  obtain ⟨i, hi, rfl⟩ := List.mem_iff_getElem.mp hR
  obtain ⟨j, hj, rfl⟩ := List.mem_iff_getElem.mp hR2
  have r1 := rowsGd_at h.rows i _ (List.getElem?_eq_getElem hi)
  have r2 := rowsGd_at h.rows j _ (List.getElem?_eq_getElem hj)
  have a := (r1 x hxR).2
  have b := (r2 y hyR).2
  have ij : i = j := by rw [a, b] at e; omega
  subst ij
  have ne : T[i] ≠ [] := fun e => by rw [e] at hxR; exact nomatch hxR
  have c := cyc_rows h.nd hR ne
  have := c.all (P := fun z => inR (2 * ts.length) z ∧ P z) (fun z q => ⟨h.dec.to q.1, hP z q.1 q.2⟩) hxR ⟨hx, px⟩ y hyR
  exact this.2
theorem dual_tie {q : Int} (h : Turns q ts T) {x : Int} (hx : inR (2 * ts.length) x) : Conn (dualT ts T) (rix (rds ts T) 0 x) (rix (rds ts T) 0 (xr1 x)) := by
  obtain ⟨h0, h1⟩ := hx
  have hm : tieAt (dualT ts T) (x / 2) ∈ dualT ts T := (tie_at (by omega) (by unfold dualT; rw [dual_len]; omega)).2
  have e := dual_at (m := ts.length) (C := rds ts T) (t := x / 2) (by omega)
  have hm : (rix (rds ts T) 0 (2 * (x / 2)), rix (rds ts T) 0 (2 * (x / 2) + 1)) ∈ dualT ts T := by rw [← e]; exact hm
  unfold xr1
  split
  · rw [show 2 * (x / 2) = x by omega] at hm
    exact .tie hm
  · rw [show 2 * (x / 2) + 1 = x by omega, show 2 * (x / 2) = x - 1 by omega] at hm
    exact (Conn.tie hm).symm
theorem Flat.dual_conn (h : Flat p ts T) (i j : Int) (i0 : 0 ≤ i) (i1 : i < ((rds ts T).length : Int)) (j0 : 0 ≤ j) (j1 : j < ((rds ts T).length : Int)) : Conn (dualT ts T) i j := by
  by_cases m0 : ts.length = 0
  · have : (rds ts T).length = 1 := by
      have := h.euler
      have hp : p = 1 := by
        apply Classical.byContradiction
        intro c
        have := h.p1
        have cc := h.conn 0 1 (by omega) (by omega) (by omega) (by omega)
        have : ts = [] := List.length_eq_zero_iff.mp m0
        rw [this] at cc
        exact absurd (conn_nil cc) (by decide)
      unfold rds
      omega
    rw [show i = j by omega]
    exact .refl j
  · have ft := h.turns
    -- two darts
    have step : ∀ z, inR (2 * ts.length) z → Conn (dualT ts T) (rix (rds ts T) 0 z) (rix (rds ts T) 0 (sT T z)) := fun z hz => by
      have e : rix (rds ts T) 0 (sT T z) = rix (rds ts T) 0 (xr1 z) := ft.face (xr_in hz)
      rw [e]
      exact dual_tie ft hz
    have loc : ∀ x y, inR (2 * ts.length) x → inR (2 * ts.length) y → dpl ts x = dpl ts y → Conn (dualT ts T) (rix (rds ts T) 0 x) (rix (rds ts T) 0 y) := fun x y hx hy e =>
      ft.same hx hy e (P := fun z => Conn (dualT ts T) (rix (rds ts T) 0 x) (rix (rds ts T) 0 z)) (fun z hz q => q.trans (step z hz)) (.refl _)
    have glob : ∀ a b, Conn ts a b → (∀ x, inR (2 * ts.length) x → dpl ts x = a → (∃ y, inR (2 * ts.length) y ∧ dpl ts y = b) ∧ ∀ y, inR (2 * ts.length) y → dpl ts y = b → Conn (dualT ts T) (rix (rds ts T) 0 x) (rix (rds ts T) 0 y)) ∧ (∀ x, inR (2 * ts.length) x → dpl ts x = b → (∃ y, inR (2 * ts.length) y ∧ dpl ts y = a) ∧ ∀ y, inR (2 * ts.length) y → dpl ts y = a → Conn (dualT ts T) (rix (rds ts T) 0 x) (rix (rds ts T) 0 y)) := fun a b hab => by
      induction hab with
      | refl a => exact ⟨fun x hx e => ⟨⟨x, hx, e⟩, fun y hy e2 => loc x y hx hy (e.trans e2.symm)⟩, fun x hx e => ⟨⟨x, hx, e⟩, fun y hy e2 => loc x y hx hy (e.trans e2.symm)⟩⟩
      | @tie a b hm =>
        obtain ⟨k, hk, ek⟩ := List.mem_iff_getElem.mp hm
        have et : tieAt ts (k : Int) = (a, b) := by
          unfold tieAt
          rw [List.getD_eq_getElem?_getD, Int.toNat_natCast, List.getElem?_eq_getElem hk]
          exact ek
        have d0 : inR (2 * ts.length) (2 * (k : Int)) := ⟨by omega, by omega⟩
        have d1 : inR (2 * ts.length) (2 * (k : Int) + 1) := ⟨by omega, by omega⟩
        have p0 : dpl ts (2 * (k : Int)) = a := by rw [(dpl_two ts k).1, et]
        have p1 : dpl ts (2 * (k : Int) + 1) = b := by rw [(dpl_two ts k).2, et]
        have tt := dual_tie ft d0
        rw [(xr1_b _).1] at tt
        exact ⟨fun x hx e => ⟨⟨_, d1, p1⟩, fun y hy e2 => ((loc x _ hx d0 (e.trans p0.symm)).trans tt).trans (loc _ y d1 hy (p1.trans e2.symm))⟩, fun x hx e => ⟨⟨_, d0, p0⟩, fun y hy e2 => ((loc x _ hx d1 (e.trans p1.symm)).trans tt.symm).trans (loc _ y d0 hy (p0.trans e2.symm))⟩⟩
      | symm _ ih => exact ⟨ih.2, ih.1⟩
      | trans _ _ i1 i2 =>
        refine ⟨fun x hx e => ?_, fun x hx e => ?_⟩
        · obtain ⟨⟨y, hy, ey⟩, k1⟩ := i1.1 x hx e
          obtain ⟨⟨z, hz, ez⟩, k2⟩ := i2.1 y hy ey
          exact ⟨⟨z, hz, ez⟩, fun w hw ew => (k1 y hy ey).trans (k2 w hw ew)⟩
        · obtain ⟨⟨y, hy, ey⟩, k1⟩ := i2.2 x hx e
          obtain ⟨⟨z, hz, ez⟩, k2⟩ := i1.2 y hy ey
          exact ⟨⟨z, hz, ez⟩, fun w hw ew => (k1 y hy ey).trans (k2 w hw ew)⟩
    -- each round has a dart
    have has : ∀ i : Int, 0 ≤ i → i < ((rds ts T).length : Int) → ∃ x, inR (2 * ts.length) x ∧ rix (rds ts T) 0 x = i := fun i i0 i1 => by
      have hi : i.toNat < (rds ts T).length := by omega
      have e : rds ts T = rnds ts.length T := by
        unfold rds rF
        rw [if_neg]
        intro e
        have := (ft.rdec.mem 0).mpr ⟨by omega, by omega⟩
        rw [e] at this
        simp at this
      have gen : ∀ (C : List (List Int)) (k n : Nat) (hn : n < C.length), C.flatten.Nodup → ∀ x ∈ C[n], rix C k x = ((k + n : Nat) : Int) := by
        intro C
        induction C with
        | nil => intro k n hn; exact absurd hn (by simp)
        | cons c C ih =>
          intro k n hn nd x hx
          rw [List.flatten_cons, List.nodup_append] at nd
          unfold rix
          cases n with
          | zero => rw [if_pos (by simpa using hx)]; simp
          | succ n =>
            have hx : x ∈ C[n]'(by simpa using hn) := by simpa using hx
            rw [if_neg fun q => nd.2.2 x q x (List.mem_flatten.mpr ⟨_, List.getElem_mem _, hx⟩) rfl, ih (k + 1) n (by simpa using hn) nd.2.1 x hx]
            congr 1; omega
      have hc : (rds ts T)[i.toNat] ∈ rnds ts.length T := by rw [← e]; exact List.getElem_mem hi
      obtain ⟨x, hx⟩ := List.exists_mem_of_ne_nil _ (ft.rdec.cyc _ hc).ne
      refine ⟨x, ft.rdec.in hc hx, ?_⟩
      rw [gen (rds ts T) 0 i.toNat hi ft.rnd' x hx]
      omega
    obtain ⟨x, hx, rfl⟩ := has i i0 i1
    obtain ⟨y, hy, rfl⟩ := has j j0 j1
    obtain ⟨a0, a1⟩ := dpl_in h.ends hx
    obtain ⟨b0, b1⟩ := dpl_in h.ends hy
    exact ((glob _ _ (h.conn _ _ a0 a1 b0 b1)).1 x hx rfl).2 y hy rfl
theorem Flat.dual_ends (h : Flat p ts T) : EndsOk ((rds ts T).length : Nat) (dualT ts T) := Lw.dual_ends h.turns
theorem Flat.tree (h : Flat p ts T) {S : List Int} (hg : goodB ts.length S = true) : treeB p ts S = treeB (rds ts T).length (dualT ts T) (othL ts.length S) := by
  have dl : (dualT ts T).length = ts.length := dual_len _ _
  have eu := h.euler
  have ft := h.turns
  have q1 : 1 ≤ (rds ts T).length := rF_pos _
  have ol := oth_len hg
  have dE := h.dual_ends
  have eu' : (rds ts T).length + p = ts.length + 2 := eu
  have p1 := h.p1
  rw [Bool.eq_iff_iff]
  constructor
  · intro ht
    have tp := treeB_nat.mp ht
    refine treeB_nat.mpr ⟨by omega, by rw [dl]; exact oth_good _ _, (cnt_one q1 (tiesAt_ok dE (fun x hx => by
      have := (good_iff.mp (oth_good ts.length S)).1 x hx
      rw [dl]; exact this))).mpr fun i j i0 i1 j0 j1 => ?_⟩
    exact comp_conn (us := dualT ts T) (s := sT T) dl h.ends ft.dec (fun x hx => ft.place hx) (fun x hx => by
      rw [show dualT ts T = dual ts.length (rds ts T) from rfl, dpl_dual (ft.dec.to hx), dpl_dual (xr_in hx)]
      exact ft.face (xr_in hx)) (tree_ind ht p1) (h.dual_conn i j i0 i1 j0 j1)
  · intro ht
    have tp := treeB_nat.mp ht
    refine treeB_nat.mpr ⟨by omega, hg, (cnt_one p1 (tiesAt_ok h.ends (good_iff.mp hg).1)).mpr fun i j i0 i1 j0 j1 => ?_⟩
    have := comp_conn (us := ts) (ts := dualT ts T) (s := fT T) (C := rnds ts.length T) dl.symm dE (by rw [dl]; exact ft.rdec) (fun x hx => by
      rw [dl] at hx
      rw [show dualT ts T = dual ts.length (rds ts T) from rfl, dpl_dual (ft.fin hx), dpl_dual hx]
      exact ft.face hx) (fun x hx => by
      rw [dl] at hx
      rw [fT_sT]
      exact ft.place (xr_in hx)) (tree_ind ht q1) (h.conn i j i0 i1 j0 j1)
    rw [dl, oth_oth hg] at this
    exact this
theorem Flat.count (h : Flat p ts T) : (trees (rds ts T).length (dualT ts T)).length = (trees p ts).length := by
  have dl : (dualT ts T).length = ts.length := dual_len _ _
  have q1 : 1 ≤ (rds ts T).length := rF_pos _
  have p1 := h.p1
  have le : ∀ {A B : List (List Int)}, A.Nodup → (∀ S ∈ A, goodB ts.length S = true ∧ othL ts.length S ∈ B) → A.length ≤ B.length := fun {A B} nd hA => by
    have := nodup_leG2 (l := A.map (othL ts.length)) (m := B) (by
      refine List.nodup_iff_pairwise_ne.mpr ?_
      rw [List.pairwise_map]
      exact nd.imp_of_mem fun {x y} hx hy ne e => ne (by rw [← oth_oth (hA x hx).1, e, oth_oth (hA y hy).1])) (fun x hx => by
      obtain ⟨S, hS, rfl⟩ := List.mem_map.mp hx
      exact (hA S hS).2)
    rwa [List.length_map] at this
  refine Nat.le_antisymm (le (trees_nodup _ _) fun S hS => ?_) (le (trees_nodup _ _) fun S hS => ?_)
  · have ht := (trees_mem q1).mp hS
    have hg : goodB ts.length S = true := by have := (treeB_nat.mp ht).2.1; rw [dl] at this; exact this
    refine ⟨hg, (trees_mem p1).mpr ?_⟩
    rw [h.tree (oth_good _ _), oth_oth hg]
    exact ht
  · have ht := (trees_mem p1).mp hS
    have hg := (treeB_nat.mp ht).2.1
    refine ⟨hg, (trees_mem q1).mpr ?_⟩
    rw [← h.tree hg]
    exact ht
end Lw
end

namespace Lw
open DL L2 TL
section
variable {p : Nat} {ts : List (Int × Int)}
abbrev cE (ts : List (Int × Int)) (J : List Int) (t : Int) : Prop := Conn (tiesAt ts J) (tieAt ts t).1 (tieAt ts t).2
def SameC (ts : List (Int × Int)) (J J' : List Int) : Prop := ∀ a b, Conn (tiesAt ts J) a b ↔ Conn (tiesAt ts J') a b
theorem SameC.snoc {J J' : List Int} (h : SameC ts J J') (t : Int) : SameC ts (J ++ [t]) (J' ++ [t]) := fun a b => by
  rw [conn_snoc', conn_snoc', h, h, h, h, h]
theorem same_of_mem {J J' : List Int} (h : ∀ x, x ∈ J ↔ x ∈ J') : SameC ts J J' := fun a b => ⟨conn_sub fun x hx => (h x).mp hx, conn_sub fun x hx => (h x).mpr hx⟩
theorem gr_same (hE : EndsOk p ts) : ∀ (s J J' : List Int), InT ts.length J → InT ts.length J' → InT ts.length s → SameC ts J J' → ∃ B, gr p ts s J = J ++ B ∧ gr p ts s J' = J' ++ B ∧ B.Sublist s
  | [], J, J', _, _, _, _ => ⟨[], by simp [gr], by simp [gr], .refl _⟩
  | t :: s, J, J', hJ, hJ', hs, h => by
    have ht := hs t (List.mem_cons_self ..)
    have hs' : InT ts.length s := fun x hx => hs x (List.mem_cons_of_mem _ hx)
    have snoc : ∀ {L : List Int}, InT ts.length L → InT ts.length (L ++ [t]) := fun hL x hx => by
      rcases List.mem_append.mp hx with h | h
      · exact hL x h
      · rw [List.mem_singleton.mp h]; exact ht
    have e := (gr_test hE hJ ht).trans ((h _ _).trans (gr_test hE hJ' ht).symm)
    simp only [gr]
    by_cases c : nth (marksM p ts (srt J)) (tieAt ts t).1 = nth (marksM p ts (srt J)) (tieAt ts t).2
    · rw [if_pos c, if_pos (e.mp c)]
      obtain ⟨B, b1, b2, b3⟩ := gr_same hE s J J' hJ hJ' hs' h
      exact ⟨B, b1, b2, b3.cons t⟩
    · rw [if_neg c, if_neg fun z => c (e.mpr z)]
      obtain ⟨B, b1, b2, b3⟩ := gr_same hE s (J ++ [t]) (J' ++ [t]) (snoc hJ) (snoc hJ') hs' (h.snoc t)
      exact ⟨t :: B, by rw [b1]; simp, by rw [b2]; simp, b3.cons₂ t⟩
theorem gr_miss (hE : EndsOk p ts) {e : Int} : ∀ (s J : List Int), Ind p ts J → InT ts.length s → e ∉ gr p ts s J → gr p ts s J = gr p ts (wo s e) J
  | [], J, _, _, _ => rfl
  | t :: s, J, hJ, hs, he => by
    have ht := hs t (List.mem_cons_self ..)
    have hs' : InT ts.length s := fun x hx => hs x (List.mem_cons_of_mem _ hx)
    by_cases q : t = e
    · have w : wo (t :: s) e = wo s e := by unfold wo; rw [List.filter_cons_of_neg (by simp [q])]
      rw [w]
      simp only [gr] at he ⊢
      by_cases c : nth (marksM p ts (srt J)) (tieAt ts t).1 = nth (marksM p ts (srt J)) (tieAt ts t).2
      · rw [if_pos c] at he ⊢
        exact gr_miss hE s J hJ hs' he
      · rw [if_neg c] at he
        obtain ⟨_, ⟨K, k1, _⟩, _⟩ := gr_ok hE s (J ++ [t]) (hJ.snoc hE ht fun z => c ((gr_test hE hJ.inn ht).mpr z)) hs'
        exact absurd (by rw [k1, q]; simp) he
    · have w : wo (t :: s) e = t :: wo s e := by unfold wo; rw [List.filter_cons_of_pos (by simp [q])]
      rw [w]
      simp only [gr] at he ⊢
      by_cases c : nth (marksM p ts (srt J)) (tieAt ts t).1 = nth (marksM p ts (srt J)) (tieAt ts t).2
      · rw [if_pos c] at he ⊢
        rw [if_pos c]
        exact gr_miss hE s J hJ hs' he
      · rw [if_neg c] at he ⊢
        rw [if_neg c]
        exact gr_miss hE s (J ++ [t]) (hJ.snoc hE ht fun z => c ((gr_test hE hJ.inn ht).mpr z)) hs' he
theorem gr_run (hE : EndsOk p ts) {e : Int} (he : 0 ≤ e ∧ e < ts.length) : ∀ (s J J' : List Int), Ind p ts J → Ind p ts J' → (∀ x, x ∈ J' ↔ x ∈ J ∨ x = e) → InT ts.length s → cE ts (gr p ts s J) e → ¬ cE ts J e →
    ∃ A m B, gr p ts s J = J ++ (A ++ m :: B) ∧ gr p ts s J' = J' ++ (A ++ B) ∧ (A ++ m :: B).Sublist s ∧ ¬ cE ts (J ++ A) e ∧ cE ts (J ++ A ++ [m]) e
  | [], J, J', _, _, _, _, h, n => absurd h n
  | t :: s, J, J', hJ, hJ', hx, hs, h, n => by
    have ht := hs t (List.mem_cons_self ..)
    have hs' : InT ts.length s := fun x hx => hs x (List.mem_cons_of_mem _ hx)
    have sm : SameC ts (J ++ [e]) J' := same_of_mem fun x => by rw [hx]; simp
    simp only [gr] at h ⊢
    by_cases c : nth (marksM p ts (srt J)) (tieAt ts t).1 = nth (marksM p ts (srt J)) (tieAt ts t).2
    · have cJ := (gr_test hE hJ.inn ht).mp c
      have c' := (gr_test hE hJ'.inn ht).mpr (conn_sub (fun x hx' => (hx x).mpr (.inl hx')) cJ)
      rw [if_pos c] at h ⊢
      rw [if_pos c']
      obtain ⟨A, m, B, a1, a2, a3, a4, a5⟩ := gr_run hE he s J J' hJ hJ' hx hs' h n
      exact ⟨A, m, B, a1, a2, a3.cons t, a4, a5⟩
    · have nJ : ¬ cE ts J t := fun z => c ((gr_test hE hJ.inn ht).mpr z)
      rw [if_neg c] at h ⊢
      by_cases c' : nth (marksM p ts (srt J')) (tieAt ts t).1 = nth (marksM p ts (srt J')) (tieAt ts t).2
      · have cJ' := (sm _ _).mpr ((gr_test hE hJ'.inn ht).mp c')
        rw [if_pos c']
        have ce : cE ts (J ++ [t]) e := by
          have up : ∀ {a b}, Conn (tiesAt ts J) a b → Conn (tiesAt ts (J ++ [t])) a b := fun z => conn_sub (fun x hx => List.mem_append_left _ hx) z
          have tt : Conn (tiesAt ts (J ++ [t])) (tieAt ts t).1 (tieAt ts t).2 := conn_at (by simp)
          rcases conn_snoc'.mp cJ' with z | ⟨z1, z2⟩ | ⟨z1, z2⟩
          · exact absurd z nJ
          · exact (up z1).symm.trans (tt.trans (up z2).symm)
          · exact (up z2).trans (tt.symm.trans (up z1))
        have sm2 : SameC ts (J ++ [t]) J' := fun a b => by
          rw [← sm]
          refine ⟨Conn.le fun q hq => ?_, Conn.le fun q hq => ?_⟩
          · obtain ⟨x, hx, rfl⟩ := List.mem_map.mp hq
            rcases List.mem_append.mp hx with z | z
            · exact conn_at (List.mem_append_left _ z)
            · rw [List.mem_singleton.mp z]; exact cJ'
          · obtain ⟨x, hx, rfl⟩ := List.mem_map.mp hq
            rcases List.mem_append.mp hx with z | z
            · exact conn_at (List.mem_append_left _ z)
            · rw [List.mem_singleton.mp z]; exact ce
        obtain ⟨B, b1, b2, b3⟩ := gr_same hE s (J ++ [t]) J' (fun x hx => by
          rcases List.mem_append.mp hx with z | z
          · exact hJ.inn x z
          · rw [List.mem_singleton.mp z]; exact ht) hJ'.inn hs' sm2
        exact ⟨[], t, B, by rw [b1]; simp, by rw [b2]; simp, b3.cons₂ t, by simpa using n, by simpa using ce⟩
      · rw [if_neg c']
        have nt : ¬ cE ts (J ++ [t]) e := fun z => by
          refine (fun w => c' ((gr_test hE hJ'.inn ht).mpr ((sm _ _).mp w))) ?_
          have up : ∀ {a b}, Conn (tiesAt ts J) a b → Conn (tiesAt ts (J ++ [e])) a b := fun z => conn_sub (fun x hx => List.mem_append_left _ hx) z
          have tt : Conn (tiesAt ts (J ++ [e])) (tieAt ts e).1 (tieAt ts e).2 := conn_at (by simp)
          rcases conn_snoc'.mp z with z | ⟨z1, z2⟩ | ⟨z1, z2⟩
          · exact absurd z n
          · exact (up z1).symm.trans (tt.trans (up z2).symm)
          · exact (up z2).trans (tt.symm.trans (up z1))
        obtain ⟨A, m, B, a1, a2, a3, a4, a5⟩ := gr_run hE he s (J ++ [t]) (J' ++ [t]) (hJ.snoc hE ht nJ) (hJ'.snoc hE ht fun z => c' ((gr_test hE hJ'.inn ht).mpr z)) (fun x => by simp [hx]; constructor <;> (intro z; rcases z with (z | z) | z <;> simp [z])) hs' h nt
        exact ⟨t :: A, m, B, by rw [a1]; simp, by rw [a2]; simp, a3.cons₂ t, by simpa using a4, by simpa using a5⟩
theorem gs (hp : 1 ≤ p) (hE : EndsOk p ts) {ins outs base : List Int} {lead : Int} (hi : InT ts.length ins) (hn : ins.Nodup) (hd : ∀ x ∈ ins, x ∉ outs) (hb : (wth p ts ins outs).head? = some base) (hl : 0 ≤ lead ∧ lead < ts.length) (nb : lead ∉ base) (no : lead ∉ outs) (nc : ¬ cE ts ins lead) :
    ∃ m, m ∈ base ∧ m ∉ ins ∧ ¬ cE ts (wo base m) lead ∧ (∀ x ∈ base, x ∉ ins → ¬ cE ts (wo base x) lead → x ≤ m) ∧ (wth p ts (ins ++ [lead]) outs).head? = some (swap base m lead) := by
  rw [← least_law hp hE hi hn hd] at hb
  rcases grow_ok hp hE hi hn (.refl _) hd with ⟨h1, h2⟩ | ⟨J, h0, h1, h2, h3, h4⟩
  · rw [h1] at hb; cases hb
  rw [h2] at hb
  obtain rfl := Option.some.inj hb
  obtain ⟨t1, t2, t3⟩ := (wth_mem hp).mp h3
  obtain ⟨_, u2, u3⟩ := treeB_nat.mp t1
  have lin : lead ∉ ins := fun z => nb (t2 lead z)
  have nJ : lead ∉ J := fun z => nb (srt_mem.mpr z)
  have hs : InT ts.length ((iota ts.length).filter fun t => !decide (t ∈ ins) && !decide (t ∈ outs)) := fun x hx => iota_mem.mp (List.mem_filter.mp hx).1
  have span : cE ts J lead := by
    obtain ⟨_, e2⟩ := tie_at hl.1 hl.2
    obtain ⟨a, b⟩ := hE _ e2
    exact conn_srt.mp ((cnt_one hp (tiesAt_ok hE (good_in u2))).mp u3 _ _ a.1 a.2 b.1 b.2)
  have hI' : Ind p ts (ins ++ [lead]) := h0.snoc hE hl nc
  generalize hs0 : ((iota ts.length).filter fun t => !decide (t ∈ ins) && !decide (t ∈ outs)) = s at hs h1
  have hs' : InT ts.length (wo s lead) := wo_in hs lead
  have e1 : J = gr p ts (wo s lead) ins := by rw [h1]; exact gr_miss hE s ins h0 hs (by rw [← h1]; exact nJ)
  obtain ⟨A, m, B, a1, a2, a3, a4, a5⟩ := gr_run hE hl (wo s lead) ins (ins ++ [lead]) h0 hI' (fun x => by simp) hs' (by rw [← e1]; exact span) nc
  rw [← e1] at a1
  have rise : (A ++ m :: B).Pairwise (· < ·) := List.Pairwise.sublist a3 (((by rw [← hs0]; exact (iota_rise _).filter _ : s.Pairwise (· < ·))).filter _)
  have nd := h4.nd
  rw [a1] at nd
  obtain ⟨d1, d2, d3⟩ := List.nodup_append.mp nd
  have mJ : m ∈ J := by rw [a1]; simp
  have mi : m ∉ ins := fun z => d3 m z m (by simp) rfl
  have cut : ¬ cE ts (wo (srt J) m) lead := fun z => by
    have z' : Conn (tiesAt ts (wo J m)) (tieAt ts lead).1 (tieAt ts lead).2 := conn_sub (fun x hx => wo_mem.mpr ⟨srt_mem.mp (wo_mem.mp hx).1, (wo_mem.mp hx).2⟩) z
    have := h4.meet hE mJ (K := ins ++ A ++ [m]) (fun x hx => by rw [a1]; simp at hx ⊢; rcases hx with h | h | h <;> simp [h]) a5 z'
    refine a4 (conn_sub (fun x hx => ?_) this)
    obtain ⟨w1, w2⟩ := wo_mem.mp hx
    simp at w1 ⊢
    rcases w1 with h | h | h
    · exact .inl h
    · exact .inr h
    · exact absurd h w2
  have htr := (swap_tree hp hE t1 (srt_mem.mpr mJ) nb hl).mpr cut
  have mem' : swap (srt J) m lead ∈ wth p ts (ins ++ [lead]) outs := (wth_mem hp).mpr ⟨htr, fun t ht => by
    rcases List.mem_append.mp ht with z | z
    · exact swap_mem.mpr (.inl ⟨t2 t z, fun q => mi (q ▸ z)⟩)
    · exact swap_mem.mpr (.inr (List.mem_singleton.mp z)), fun t ht z => by
    rcases swap_mem.mp z with z | z
    · exact t3 t ht z.1
    · exact no (z ▸ ht)⟩
  refine ⟨m, srt_mem.mpr mJ, mi, cut, fun x hx hxi hc => ?_, ?_⟩
  · have hx := srt_mem.mp hx
    rw [a1] at hx
    obtain ⟨r1, r2, r3⟩ := List.pairwise_append.mp rise
    rcases List.mem_append.mp hx with z | z
    · exact absurd z hxi
    · rcases List.mem_append.mp z with z | z
      · exact Int.le_of_lt (r3 x z m (List.mem_cons_self ..))
      · rcases List.mem_cons.mp z with z | z
        · omega
        · exfalso
          refine hc (conn_sub (fun y hy => wo_mem.mpr ⟨srt_mem.mpr ?_, fun q => ?_⟩) a5)
          · rw [a1]; simp at hy ⊢; rcases hy with h | h | h <;> simp [h]
          · rw [q] at hy
            simp only [List.mem_append, List.mem_singleton] at hy
            rcases hy with (h | h) | h
            · exact hxi h
            · have := r3 x h x (List.mem_cons_of_mem _ z); omega
            · have := (List.pairwise_cons.mp r2).1 x z; omega
  · have hi' : InT ts.length (ins ++ [lead]) := hI'.inn
    have hd' : ∀ x ∈ ins ++ [lead], x ∉ outs := fun x hx => by
      rcases List.mem_append.mp hx with z | z
      · exact hd x z
      · rw [List.mem_singleton.mp z]; exact no
    rw [← least_law hp hE hi' hI'.nd hd']
    rcases grow_ok hp hE hi' hI'.nd (.refl _) hd' with ⟨g1, g2⟩ | ⟨J', g0, g1, g2, g3, g4⟩
    · rw [g2] at mem'; exact nomatch mem'
    · rw [g2, g1]
      have es : ((iota ts.length).filter fun t => !decide (t ∈ ins ++ [lead]) && !decide (t ∈ outs)) = wo s lead := by
        rw [← hs0]
        unfold wo
        rw [List.filter_filter]
        refine List.filter_congr fun x _ => ?_
        by_cases q : x = lead <;> by_cases r : x ∈ ins <;> simp [q, r]
      rw [es, a2]
      congr 1
      unfold swap
      refine rise_uniq (srt_lt ?_) (srt_lt ?_) fun x => ?_
      · rw [← a2, ← es, ← g1]; exact g4.nd
      · rw [List.nodup_append]
        refine ⟨wo_nodup (rise_nodup (srt_lt h4.nd)) m, by simp, fun a ha b hb q => ?_⟩
        rw [List.mem_singleton.mp hb] at q
        exact nb (q ▸ (wo_mem.mp ha).1)
      · rw [srt_mem, srt_mem, List.mem_append (s := ins ++ [lead]), List.mem_append (s := ins), List.mem_append (s := wo (srt J) m), wo_mem, srt_mem, a1]
        have : x = m → ¬ (x ∈ ins ∨ x ∈ A ∨ x ∈ B) := fun q z => by
          subst q
          obtain ⟨r1, r2, r3⟩ := List.pairwise_append.mp rise
          rcases z with z | z | z
          · exact mi z
          · have := r3 x z x (List.mem_cons_self ..); omega
          · have := (List.pairwise_cons.mp r2).1 x z; omega
        simp only [List.mem_append, List.mem_cons, List.mem_singleton, List.not_mem_nil, or_false]
        constructor
        · rintro ((h | h) | h | h)
          · exact .inl ⟨.inl h, fun q => this q (.inl h)⟩
          · exact .inr h
          · exact .inl ⟨.inr (.inl h), fun q => this q (.inr (.inl h))⟩
          · exact .inl ⟨.inr (.inr (.inr h)), fun q => this q (.inr (.inr h))⟩
        · rintro (⟨h | h | h | h, q⟩ | h)
          · exact .inl (.inl h)
          · exact .inr (.inl h)
          · exact absurd h q
          · exact .inr (.inr h)
          · exact .inl (.inr h)
end
end Lw

namespace Lw
open DL L2 TL
section
variable (p : Nat) (ts : List (Int × Int))
def mkK (kept : List Int) (a : Int) : Int := nth (marksM p ts kept) a
def opnB (kept shut base : List Int) (t : Int) : Bool := !decide (t ∈ kept) && (!decide (t ∈ shut) && (!decide (t ∈ base) && !decide (mkK p ts kept (tieAt ts t).1 = mkK p ts kept (tieAt ts t).2)))
def opn (kept shut base : List Int) : List Int := (iota ts.length).filter (opnB p ts kept shut base)
def twinB (kept : List Int) (s t : Int) : Bool :=
  decide (mkK p ts kept (tieAt ts s).1 = mkK p ts kept (tieAt ts t).1 ∧ mkK p ts kept (tieAt ts s).2 = mkK p ts kept (tieAt ts t).2) || decide (mkK p ts kept (tieAt ts s).1 = mkK p ts kept (tieAt ts t).2 ∧ mkK p ts kept (tieAt ts s).2 = mkK p ts kept (tieAt ts t).1)
def nextL (kept shut base : List Int) (lead : Int) : Option Int := (opn p ts kept shut base).find? fun t => !twinB p ts kept lead t
def looseL (kept base : List Int) (lead : Int) : List Int := base.filter fun x => onR p ts base lead x && !decide (x ∈ kept)
def mxl (kept base : List Int) (lead : Int) : Int := (looseL p ts kept base lead).getLastD 0
def outsL (loose : List Int) (k : Nat) : List Int := if k % 2 = 1 then loose.reverse else loose
def blk (loose base : List Int) : List Int → List (List Int)
  | [] => []
  | t :: r => (outsL loose r.length).map (fun o => swap base o t) ++ blk loose base r
end
def Stp (A B : List Int) : Prop := ∃ o i, (o ∈ A ∧ o ∉ B) ∧ (i ∈ B ∧ i ∉ A) ∧ B = swap A o i ∧ A = swap B i o
theorem Stp.symm {A B : List Int} (h : Stp A B) : Stp B A := by
  obtain ⟨o, i, h1, h2, h3, h4⟩ := h
  exact ⟨i, o, h2, h1, h4, h3⟩
def Ch : List (List Int) → Prop
  | [] => True
  | a :: l => (∀ b ∈ l.head?, Stp a b) ∧ Ch l
theorem Ch.app : ∀ {l m : List (List Int)}, Ch l → Ch m → (∀ a ∈ l.getLast?, ∀ b ∈ m.head?, Stp a b) → Ch (l ++ m)
  | [], m, _, hm, _ => hm
  | [a], m, _, hm, h => ⟨fun b hb => h a rfl b hb, hm⟩
  | a :: b :: l, m, hl, hm, h => ⟨hl.1, Ch.app hl.2 hm fun x hx y hy => h x (by rw [List.getLast?_cons_cons]; exact hx) y hy⟩
section
variable {p : Nat} {ts : List (Int × Int)}
theorem mkK_conn (hE : EndsOk p ts) {kept : List Int} (hk : InT ts.length kept) {a b : Int} (ha : 0 ≤ a ∧ a < p) (hb : 0 ≤ b ∧ b < p) : mkK p ts kept a = mkK p ts kept b ↔ Conn (tiesAt ts kept) a b := nthM p ts hE kept hk a b ha.1 ha.2 hb.1 hb.2
theorem ends_of (hE : EndsOk p ts) {t : Int} (ht : 0 ≤ t ∧ t < ts.length) : (0 ≤ (tieAt ts t).1 ∧ (tieAt ts t).1 < p) ∧ 0 ≤ (tieAt ts t).2 ∧ (tieAt ts t).2 < p := hE _ (tie_at ht.1 ht.2).2
theorem opn_mem (hE : EndsOk p ts) {kept shut base : List Int} (hk : InT ts.length kept) {t : Int} : t ∈ opn p ts kept shut base ↔ (0 ≤ t ∧ t < ts.length) ∧ t ∉ kept ∧ t ∉ shut ∧ t ∉ base ∧ ¬ cE ts kept t := by
  unfold opn
  rw [List.mem_filter, iota_mem]
  constructor
  · rintro ⟨h1, h2⟩
    obtain ⟨e1, e2⟩ := ends_of hE h1
    simp only [opnB, Bool.and_eq_true, Bool.not_eq_true', decide_eq_false_iff_not, mkK_conn hE hk e1 e2] at h2
    exact ⟨h1, h2⟩
  · rintro ⟨h1, h2⟩
    obtain ⟨e1, e2⟩ := ends_of hE h1
    refine ⟨h1, ?_⟩
    simp only [opnB, Bool.and_eq_true, Bool.not_eq_true', decide_eq_false_iff_not, mkK_conn hE hk e1 e2]
    exact h2
theorem twin_self (kept : List Int) (s : Int) : twinB p ts kept s s = true := by simp [twinB]
theorem loose_mem (hE : EndsOk p ts) {kept base : List Int} {lead x : Int} (hb : InT ts.length base) (hl : 0 ≤ lead ∧ lead < ts.length) : x ∈ looseL p ts kept base lead ↔ x ∈ base ∧ x ∉ kept ∧ ¬ cE ts (wo base x) lead := by
  obtain ⟨e1, e2⟩ := ends_of hE hl
  unfold looseL onR
  rw [List.mem_filter]
  simp only [Bool.and_eq_true, Bool.not_eq_true', decide_eq_false_iff_not, nthM p ts hE (wo base x) (wo_in hb x) _ _ e1.1 e1.2 e2.1 e2.2]
  exact ⟨fun ⟨a, b, c⟩ => ⟨a, c, b⟩, fun ⟨a, c, b⟩ => ⟨a, b, c⟩⟩
structure SS (p : Nat) (ts : List (Int × Int)) (kept shut base : List Int) (lead : Int) : Prop where
  kg : goodB ts.length kept = true
  sg : goodB ts.length shut = true
  hd : (wth p ts kept shut).head? = some base
  li : 0 ≤ lead ∧ lead < ts.length
  lb : lead ∉ base
  ls : lead ∉ shut
  lc : ¬ cE ts kept lead
theorem head_mem {α : Type} {l : List α} {a : α} (h : l.head? = some a) : a ∈ l := by
  cases l with
  | nil => cases h
  | cons b l => cases h; exact List.mem_cons_self ..
variable {kept shut base : List Int} {lead : Int}
theorem SS.mem (s : SS p ts kept shut base lead) (hp : 1 ≤ p) : treeB p ts base = true ∧ (∀ t ∈ kept, t ∈ base) ∧ ∀ t ∈ shut, t ∉ base := (wth_mem hp).mp (head_mem s.hd)
theorem SS.disj (s : SS p ts kept shut base lead) (hp : 1 ≤ p) : ∀ x ∈ kept, x ∉ shut := fun x hx hs => (s.mem hp).2.2 x hs ((s.mem hp).2.1 x hx)
theorem SS.rise (s : SS p ts kept shut base lead) (hp : 1 ≤ p) : base.Pairwise (· < ·) := (good_iff.mp (treeB_nat.mp (s.mem hp).1).2.1).2
theorem last_max20 : ∀ {l : List Int} {m : Int}, l.Pairwise (· < ·) → m ∈ l → (∀ x ∈ l, x ≤ m) → l.getLastD 0 = m ∧ l.getLast? = some m := fun {l m} h hm hx => by
  have ne : l ≠ [] := List.ne_nil_of_mem hm
  have e := List.dropLast_concat_getLast ne
  have : l.getLast ne = m := by
    have h1 := hx _ (List.getLast_mem ne)
    rw [← e] at hm h
    rcases List.mem_append.mp hm with z | z
    · have := (List.pairwise_append.mp h).2.2 m z (l.getLast ne) (by simp)
      omega
    · exact (List.mem_singleton.mp z).symm
  rw [List.getLastD_eq_getLast?, List.getLast?_eq_some_getLast ne, this]
  exact ⟨rfl, rfl⟩
theorem loose_rise (h : base.Pairwise (· < ·)) : (looseL p ts kept base lead).Pairwise (· < ·) := h.filter _
theorem SS.max (s : SS p ts kept shut base lead) (hp : 1 ≤ p) (hE : EndsOk p ts) : (looseL p ts kept base lead).getLast? = some (mxl p ts kept base lead) ∧ mxl p ts kept base lead ∈ base ∧ mxl p ts kept base lead ∉ kept ∧ mxl p ts kept base lead ∈ looseL p ts kept base lead ∧ (∀ x ∈ looseL p ts kept base lead, x ≤ mxl p ts kept base lead) ∧
    (wth p ts (kept ++ [lead]) shut).head? = some (swap base (mxl p ts kept base lead) lead) := by
  obtain ⟨m, m1, m2, m3, m4, m5⟩ := gs hp hE (good_in s.kg) (rise_nodup (good_iff.mp s.kg).2) (s.disj hp) s.hd s.li s.lb s.ls s.lc
  have hb := good_in (treeB_nat.mp (s.mem hp).1).2.1
  have lm : m ∈ looseL p ts kept base lead := (loose_mem hE hb s.li).mpr ⟨m1, m2, m3⟩
  have lx : ∀ x ∈ looseL p ts kept base lead, x ≤ m := fun x hx => by
    obtain ⟨a, b, c⟩ := (loose_mem hE hb s.li).mp hx
    exact m4 x a b c
  obtain ⟨e1, e2⟩ := last_max20 (loose_rise (s.rise hp)) lm lx
  have e : mxl p ts kept base lead = m := e1
  rw [e]
  exact ⟨e2, m1, m2, lm, lx, m5⟩
theorem wth_ext {S S' U U' : List Int} (h : ∀ x, x ∈ S ↔ x ∈ S') (h2 : ∀ x, x ∈ U ↔ x ∈ U') : wth p ts S U = wth p ts S' U' := by
  unfold wth
  refine List.filter_congr fun T _ => ?_
  congr 1
  · rw [Bool.eq_iff_iff, List.all_eq_true, List.all_eq_true]
    exact ⟨fun z x hx => z x ((h x).mpr hx), fun z x hx => z x ((h x).mp hx)⟩
  · congr 1
    rw [Bool.eq_iff_iff, List.any_eq_true, List.any_eq_true]
    exact ⟨fun ⟨x, a, b⟩ => ⟨x, (h2 x).mp a, b⟩, fun ⟨x, a, b⟩ => ⟨x, (h2 x).mpr a, b⟩⟩
theorem good_snoc {l : List Int} {t : Int} (h : goodB ts.length l = true) (ht : 0 ≤ t ∧ t < ts.length) (n : t ∉ l) : goodB ts.length (srt (l ++ [t])) = true := by
  refine srt_good (fun x hx => ?_) ?_
  · rcases List.mem_append.mp hx with z | z
    · exact good_in h x z
    · rw [List.mem_singleton.mp z]; exact ht
  · rw [List.nodup_append]
    exact ⟨rise_nodup (good_iff.mp h).2, by simp, fun a ha b hb q => by rw [List.mem_singleton.mp hb] at q; exact n (q ▸ ha)⟩
theorem SS.kl (s : SS p ts kept shut base lead) (hp : 1 ≤ p) : lead ∉ kept := fun z => s.lb ((s.mem hp).2.1 lead z)
theorem next_some (hE : EndsOk p ts) (hk : InT ts.length kept) {l2 : Int} (h : nextL p ts kept shut base lead = some l2) : ((0 ≤ l2 ∧ l2 < ts.length) ∧ l2 ∉ kept ∧ l2 ∉ shut ∧ l2 ∉ base ∧ ¬ cE ts kept l2) ∧ twinB p ts kept lead l2 = false ∧ l2 ≠ lead := by
  have h1 := List.find?_some h
  have h2 := List.mem_of_find?_eq_some h
  have h3 : twinB p ts kept lead l2 = false := by simpa using h1
  exact ⟨(opn_mem hE hk).mp h2, h3, fun z => by rw [z, twin_self] at h3; cases h3⟩
theorem SS.first (s : SS p ts kept shut base lead) (hp : 1 ≤ p) (hE : EndsOk p ts) {l2 : Int} (h : nextL p ts kept shut base lead = some l2) : SS p ts kept (srt (shut ++ [lead])) base l2 := by
  obtain ⟨⟨h1, h2, h3, h4, h5⟩, h6, h7⟩ := next_some hE (good_in s.kg) h
  refine ⟨s.kg, good_snoc s.sg s.li s.ls, ?_, h1, h4, fun z => ?_, h5⟩
  · have e : wth p ts kept (srt (shut ++ [lead])) = (wth p ts kept shut).filter fun T => !decide (lead ∈ T) := by
      rw [wth_ext (S' := kept) (U' := shut ++ [lead]) (fun _ => .rfl) (fun x => srt_mem)]
      unfold wth
      rw [List.filter_filter]
      refine List.filter_congr fun T _ => ?_
      rw [List.any_append]
      simp only [List.any_cons, List.any_nil, Bool.or_false]
      cases kept.all (fun t => decide (t ∈ T)) <;> cases shut.any (fun t => decide (t ∈ T)) <;> cases decide (lead ∈ T) <;> rfl
    rw [e]
    have hh := s.hd
    revert hh
    cases wth p ts kept shut with
    | nil => intro z; cases z
    | cons a l =>
      intro z
      cases z
      rw [List.filter_cons_of_pos (by simp [s.lb])]
      rfl
  · rcases List.mem_append.mp (srt_mem.mp z) with z | z
    · exact h3 z
    · exact h7 (List.mem_singleton.mp z)
end
end Lw

namespace Lw
open DL L2 TL
section
variable {p : Nat} {ts : List (Int × Int)} {kept shut base : List Int} {lead : Int}
structure RowOk (p : Nat) (ts : List (Int × Int)) (kept shut base : List Int) (lead : Int) (R : List (List Int)) : Prop where
  mem : ∀ T, T ∈ R ↔ T ∈ wth p ts kept shut
  nd : R.Nodup
  hd : R.head? = some base
  lst : R.getLast? = some (swap base (mxl p ts kept base lead) lead)
  ch : Ch R
theorem RowOk.len {R : List (List Int)} (h : RowOk p ts kept shut base lead R) : R.length = (wth p ts kept shut).length :=
  ((List.perm_ext_iff_of_nodup h.nd (wth_nodup kept shut)).mpr h.mem).length_eq
end
end Lw

noncomputable section
namespace Lw
open DL
end Lw
end

namespace Lw
open DL L2
structure Canon (p : Nat) (m : List Int) : Prop where
  len : m.length = p
  le : ∀ i : Int, 0 ≤ i → i < p → 0 ≤ nth m i ∧ nth m i ≤ i ∧ nth m (nth m i) = nth m i
section
variable (L : List (List Int))
@[simp] theorem brws_OO : brws (L.map fun l => D.ol (l.map D.int)) = L.map fun l => .bo (l.map D.int) := by induction L <;> simp [*]
@[simp] theorem frzs_OO : frzs (L.map fun l => D.ol (l.map D.int)) = L.map fun l => .ls (l.map D.int) := by induction L <;> simp [*]
@[simp] theorem nods_OO : nods (L.map fun l => D.ol (l.map D.int)) = true := by induction L <;> simp [*]
@[simp] theorem shd_LL : shd (L.map fun l => D.ls (l.map D.int)) = true := by induction L <;> simp [*]
@[simp] theorem brws_LL : brws (L.map fun l => D.ls (l.map D.int)) = L.map fun l => .ls (l.map D.int) := by induction L <;> simp [*]
@[simp] theorem frzs_LL : frzs (L.map fun l => D.ls (l.map D.int)) = L.map fun l => .ls (l.map D.int) := by induction L <;> simp [*]
@[simp] theorem nods_LL : nods (L.map fun l => D.ls (l.map D.int)) = true := by induction L <;> simp [*]
theorem toPys_BB : toPys (L.map fun l => D.bo (l.map D.int)) = toPys (L.map fun l => D.ls (l.map D.int)) := by
  induction L with
  | nil => rfl
  | cons a L ih => simp [toPys, toPy_bo, ih]
end
@[simp] theorem pyEq_LL (L M : List (List Int)) : pyEq (.ls (L.map fun l => .ls (l.map D.int))) (.ls (M.map fun l => .ls (l.map D.int))) = some (decide (L = M)) := enc_int.ls.ls.eq (by omega) L M
@[simp] theorem pyEq_BL (L M : List (List Int)) : pyEq (.ls (L.map fun l => .bo (l.map D.int))) (.ls (M.map fun l => .ls (l.map D.int))) = some (decide (L = M)) := by
  rw [← pyEq_LL]
  simp [pyEq, toPy, toPys_BB]
end Lw

noncomputable section
namespace Lw
open DL
end Lw
end

namespace Lw
open DL L2 TL
def IntD (A : List (Int × D)) : Prop := ∀ x ∈ A, ∃ n : Int, x.2 = .int n
theorem IntD.put {A : List (Int × D)} (h : IntD A) (k n : Int) : IntD (putG A k (.int n)) := fun x hx => by
  unfold putG at hx
  split at hx
  · obtain ⟨y, hy, rfl⟩ := List.mem_map.mp hx
    by_cases q : y.1 = k
    · rw [if_pos q]; exact ⟨n, rfl⟩
    · rw [if_neg q]; exact h y hy
  · rcases List.mem_append.mp hx with hx | hx
    · exact h x hx
    · rw [List.mem_singleton.mp hx]; exact ⟨n, rfl⟩
theorem IntD.all {A : List (Int × D)} (h : IntD A) : ((ddV A).all fun d => !own1 d) = true ∧ brws (ddV A) = ddV A := by
  induction A with
  | nil => exact ⟨rfl, rfl⟩
  | cons a A ih =>
    obtain ⟨n, e⟩ := h a (List.mem_cons_self ..)
    obtain ⟨i1, i2⟩ := ih fun x hx => h x (List.mem_cons_of_mem _ hx)
    unfold ddV at *
    simp only [List.map_cons, List.all_cons, e, i1, brws_cons, i2]
    exact ⟨rfl, rfl⟩
end Lw

noncomputable section
namespace Lw
open DL
end Lw
end

noncomputable section
namespace Lw
open DL L2 TL
section
variable {p : Nat} {ts : List (Int × Int)}
end
end Lw
end

noncomputable section
namespace Lw
open DL L2 TL
section
variable {p : Nat} {ts : List (Int × Int)} {kept shut base : List Int} {lead size : Int}
end
end Lw
end

noncomputable section
namespace Lw
open DL L2 TL
section
variable {p : Nat} {ts : List (Int × Int)} {kept shut base : List Int} {lead size : Int}
end
end Lw
end

noncomputable section
namespace Lw
open DL L2 TL
def LO (o : D) (X : List (List Int)) : Prop := o = .ol (X.map dT) ∨ o = .ls (X.map dT)
theorem LO.frz {o : D} {X : List (List Int)} (h : LO o X) : nod o = true ∧ DL.frz o = .ls (X.map dT) := by
  obtain ⟨d1, d2, d3, d4, d5, d6⟩ := dulls dull_T X
  rcases h with rfl | rfl <;> simp [d2, d4, nod]
section
variable {p : Nat} {ts : List (Int × Int)} {kept shut base : List Int} {lead size : Int} {gr : List D → Res D}
end
end Lw
end

noncomputable section
namespace Lw
open DL
end Lw
end

noncomputable section
namespace Lw
open DL L2 TL
section
variable {p : Nat} {ts : List (Int × Int)} {kept shut base : List Int} {lead size : Int} {gr : List D → Res D}
end
section
variable {p : Nat} {ts : List (Int × Int)}
end
end Lw
end

noncomputable section
namespace Lw
open DL L2 TL
section
variable {p : Nat} {ts : List (Int × Int)}
variable (hp : 1 ≤ p) (hp2 : p ≤ 14) (hE : EndsOk p ts) (ht : ts.length ≤ 30)
end
end Lw
end

noncomputable section
namespace Lw
open DL L2 TL
section
variable {p : Nat} {ts : List (Int × Int)}
end
end Lw
end

noncomputable section
namespace Lw
open DL
end Lw
end

namespace Lw
open DL L2 TL
section
variable {p : Nat} {ts : List (Int × Int)} {T : List Int}
end
section
variable {p : Nat} {ts : List (Int × Int)} {T : List Int}
end
end Lw

noncomputable section
namespace Lw
open DL
end Lw
end

noncomputable section
namespace Lw
open DL
end Lw
end

noncomputable section
namespace Lw
open DL L2 TL Mp
section
variable {p : Nat} {ts : List (Int × Int)}
end
end Lw
end

noncomputable section
namespace Lw
open DL
end Lw
end

noncomputable section
namespace Lw
open DL L2 TL Mp
variable {p : Nat} {ts : List (Int × Int)} {T : List (List Int)}
theorem lc_rows {s : Nat} {te : Env → Res D} {g : Env} (h : ∀ R ∈ T, (te (g.set s (dR R))).bind kp = .ok (dO' R)) : lcL (gtN s) tYesG te g (T.map dR) = .ok (T.map dO') := lcL_mapN T h
theorem any_web (ns : List Int) (h : ns.length ≤ 63) : ∃ (p : Nat) (ts : List (Int × Int)) (T : List (List Int)) (c0 c3 : Int), 1 ≤ p ∧ p ≤ 6 ∧ ts.length ≤ 10 ∧ EndsOk p ts ∧ Turns p ts T ∧ g_law_at [.sc (ns.map D.int), .int 0] = .ok (.int c0) ∧ 1 + c0 % 6 = (p : Int) ∧ g_law_at [.sc (ns.map D.int), .int 3] = .ok (.int c3) ∧ g_law_ties_v2 [.sc (ns.map D.int), .int p, .int 10] = .ok (.ol (ts.map dP)) ∧
    g_law_mixed_v2 [.int (c3 % e60 + (ns.length : Int)), .int 51] = .ok (.int (mxF (c3 % e60 + (ns.length : Int)) 51)) ∧ g_law_any_turns [.int p, .ls (ts.map dP), .int (mxF (c3 % e60 + (ns.length : Int)) 51)] = .ok (.ol (T.map dR)) := by
  obtain ⟨c, ec⟩ := at_ok ns 0 (by omega)
  obtain ⟨c3, ec3⟩ := at_ok ns 3 (by omega)
  have q0 := Int.emod_nonneg c (show (6 : Int) ≠ 0 by omega)
  have q1 := Int.emod_lt_of_pos c (show (0 : Int) < 6 by omega)
  obtain ⟨p, hp⟩ : ∃ p : Nat, 1 + c % 6 = (p : Int) := ⟨(1 + c % 6).toNat, by omega⟩
  obtain ⟨ts, t1, t2, t3⟩ := ties2_ok ns (by omega) p 10 (by omega) (by omega) (by omega) (by omega)
  obtain ⟨T, a1, a2⟩ := any_ok (q := p) (by omega) (by omega) t2 (by omega) (mxF (c3 % e60 + (ns.length : Int)) 51)
  exact ⟨p, ts, T, c, c3, by omega, by omega, by omega, t2, a1, ec, hp, ec3, t3, mx_ok _ 51 (by omega) (by omega), a2⟩
end Lw
end

noncomputable section
namespace Lw
open DL
end Lw
end

noncomputable section
namespace Lw
open DL L2 TL Mp
variable {p : Nat} {ts : List (Int × Int)} {T : List (List Int)}
end Lw
end

noncomputable section
namespace Lw
open DL
end Lw
end

noncomputable section
namespace Lw
open DL L2 TL Mp
variable {p : Nat} {ts : List (Int × Int)} {T : List (List Int)}
end Lw
end

noncomputable section
namespace Lw
open DL L2 TL Mp
variable {p : Nat} {ts : List (Int × Int)} {T : List (List Int)}
theorem row_iff77 (hT : Turns p ts T) {i : Nat} {R : List Int} (h : T[i]? = some R) : R.Nodup ∧ ∀ d, d ∈ R ↔ gdD ts (i : Int) d := by
  have hm := List.mem_of_getElem? h
  refine ⟨nd_mem hT.nd hm, fun d => ⟨fun hd => by have := rowsGd_at hT.rows i R h d hd; rwa [Nat.zero_add] at this, fun hg => ?_⟩⟩
  have hf := (hT.mem d).mpr ⟨hg.1.1, by have := hg.1.2; omega⟩
  obtain ⟨R', hR', hd⟩ := List.mem_flatten.mp hf
  obtain ⟨i', hi'⟩ := List.getElem?_of_mem hR'
  have g := rowsGd_at hT.rows i' R' hi' d hd
  rw [Nat.zero_add] at g
  have : i' = i := by have := g.2; have := hg.2; omega
  subst this
  rw [h] at hi'
  cases hi'
  exact hd
end Lw
end

noncomputable section
namespace Lw
open DL L2 TL Mp
variable {p : Nat} {ts : List (Int × Int)} {T : List (List Int)}
@[simp] theorem intR_int (z : Int) : intR (.ok (.int z)) = some z := rfl
@[simp] theorem blR_b (b : Bool) : blR (.ok b) = some b := rfl
end Lw
end

noncomputable section
namespace Lw
open DL
def f_law_refused_v12_h (ci : Nat) (ad : PySem.Addr) : Env → Out := match ci with
  | 1 => sSeq (sAsg 3 (eLst (aConsO (eIs 4 ad true) (aConsO (eIs 4 ad false) (aConsO (eIs 4 ad false) (aConsO (eIs 4 ad true) (aNil))))))) (sApp 3 (eIs 4 ad false))
  | 2 => sSeq (sAsg 3 (eLst (aConsO (eIs 4 ad true) (aConsO (eIs 4 ad false) (aConsO (eIs 4 ad false) (aConsO (eIs 4 ad false) (aNil))))))) (sApp 3 (eIs 4 ad true))
  | 10 => sSeq (sAsg 3 (eLst (aConsO (eIs 4 ad true) (aConsO (eIs 4 ad true) (aConsO (eIs 4 ad false) (aConsO (eIs 4 ad false) (aNil))))))) (sApp 3 (eIs 4 ad false))
  | 11 => sSeq (sAsg 3 (eLst (aConsO (eIs 4 ad true) (aConsO (eIs 4 ad false) (aConsO (eIs 4 ad true) (aConsO (eIs 4 ad false) (aNil))))))) (sApp 3 (eIs 4 ad false))
  | _ => sNever
def f_law_refused_v12_hh (ci : Nat) : Env → Out := fun g => if g.length = 5 then unO 4 (f_law_refused_v12_h ci 0 (g.set 4 (.rf 0))) else .bad
def f_law_refused_v12 : Env → Out := sSeq (sAsg 3 (eLst (aNil))) (sSeq (sTry (sIf (tC2 cEq (eVar 0) (eC (.int 0))) (sExp (eOwn g_rounds_of (aCons (eVar 1) (aCons (eVar 2) (aNil))))) (sIf (tC2 cEq (eVar 0) (eC (.int 1))) (sExp (eOwn g_lies_flat (aCons (eVar 1) (aCons (eVar 2) (aNil))))) (sExp (eOwn g_other_web (aCons (eVar 1) (aCons (eVar 2) (aNil))))))) f_law_refused_v12_hh) (sSeq (sIf (tC2 cEq (eVar 3) (eLst (aNil))) (sRet (eC (.str "told"))) (sNil)) (sRet (eBin opIx (eLst (aConsO (eC (.str "other")) (aConsO (eC (.str "turns")) (aNil)))) (eCall caInt (aCons (eB (tC2 cEq (eVar 3) (eLst (aConsO (eC (.bl true)) (aConsO (eC (.bl true)) (aConsO (eC (.bl false)) (aConsO (eC (.bl false)) (aConsO (eC (.bl false)) (aNil))))))))) (aNil)))))))
def g_law_refused_v12 : List D → Res D := runF f_law_refused_v12 5
theorem heq_law_refused_v12 : ∀ c a g, f_law_refused_v12_hh c g = .bad ∨ unO 4 (f_law_refused_v12_h c a (g.set 4 (.rf a))) = f_law_refused_v12_hh c g := by
  intro c a g
  unfold f_law_refused_v12_hh
  by_cases h : g.length = 5
  · right
    rw [if_pos h]
    match g, h with
    | [x0, x1, x2, x3, x4], _ =>
      match c with
      | 1 => simp [f_law_refused_v12_h, unO, lim, frz, frzs]
      | 2 => simp [f_law_refused_v12_h, unO, lim, frz, frzs]
      | 10 => simp [f_law_refused_v12_h, unO, lim, frz, frzs]
      | 11 => simp [f_law_refused_v12_h, unO, lim, frz, frzs]
      | 0 => rfl
      | 3 => rfl
      | 4 => rfl
      | 5 => rfl
      | 6 => rfl
      | 7 => rfl
      | 8 => rfl
      | 9 => rfl
      | z + 12 => rfl
  · left; rw [if_neg h]
def f_law_spoilt_v5_c1 : Env → Res D := eCall caList (aCons (eVar 5) (aNil))
def f_law_spoilt_v5 : Env → Out := sSeq (sAsg 3 (eLc (iSeq (eVar 0)) [5] (gtN 5) (tYesG) f_law_spoilt_v5_c1)) (sSeq (sAsgF 4 (eBin opMod (eBin opDiv (eVar 2) (eC (.int 8))) (eCall caLen (aCons (eVar 3) (aNil))))) (sOpn 3 5 (eVar 4) (sSeq (sAsgF 6 (eBin opIx (eLst (aConsO (eBin opMul (eC (.int 2)) (eVar 1)) (aConsO (eUn opNeg (eC (.int 1))) (aConsO (eBin opAdd (eBin opMul (eC (.int 2)) (eVar 1)) (eC (.int 5))) (aConsO (eBin opSub (eBin opMul (eUn opNeg (eC (.int 2))) (eVar 1)) (eC (.int 2))) (aNil)))))) (eBin opMod (eBin opDiv (eVar 2) (eC (.int 1000))) (eC (.int 4))))) (sSeq (sAsgF 7 (eBin opMod (eVar 2) (eC (.int 8)))) (sSeq (sIf (tOr_ (tC2 cLt (eVar 7) (eC (.int 2))) (tC2 cEq (eCall caLen (aCons (eVar 5) (aNil))) (eC (.int 0)))) (sIns2 5 (aCons (eBin opMod (eBin opDiv (eVar 2) (eC (.int 5000))) (eBin opAdd (eCall caLen (aCons (eVar 5) (aNil))) (eC (.int 1)))) (aCons (eVar 6) (aNil)))) (sIf (tC2 cEq (eVar 7) (eC (.int 2))) (sDel 5 (eBin opMod (eBin opDiv (eVar 2) (eC (.int 5000))) (eCall caLen (aCons (eVar 5) (aNil))))) (sIf (tC2 cEq (eVar 7) (eC (.int 3))) (sIns2 5 (aCons (eBin opMod (eBin opDiv (eVar 2) (eC (.int 5000))) (eBin opAdd (eCall caLen (aCons (eVar 5) (aNil))) (eC (.int 1)))) (aCons (eBin opIx (eVar 5) (eBin opMod (eBin opDiv (eVar 2) (eBin opPow (eC (.int 10)) (eC (.int 6)))) (eCall caLen (aCons (eVar 5) (aNil))))) (aNil)))) (sIf (tC2 cEq (eVar 7) (eC (.int 4))) (sSet 5 (eBin opMod (eBin opDiv (eVar 2) (eC (.int 5000))) (eCall caLen (aCons (eVar 5) (aNil)))) (eVar 6)) (sIf (tAn (tC2 cEq (eVar 7) (eC (.int 5))) (tC2 cGt (eCall caLen (aCons (eVar 3) (aNil))) (eC (.int 1)))) (sAppIxPop 3 5 (eBin opMod (eBin opAdd (eVar 4) (eC (.int 1))) (eCall caLen (aCons (eVar 3) (aNil)))) (eBin opMod (eBin opDiv (eVar 2) (eC (.int 5000))) (eCall caLen (aCons (eVar 5) (aNil))))) (sIf (tC2 cEq (eVar 7) (eC (.int 6))) (sApp 3 (eLst (aNil))) (sDel 3 (eVar 4)))))))) (sNil))))))
def g_law_spoilt_v5 : List D → Res D := runF f_law_spoilt_v5 8
def f_law_good_v12_c1 : Env → Res D := eCall caList (aCons (eVar 8) (aNil))
def f_law_good_v12_l2 : Env → Out := sIf (tC2 cNe (eOwn g_law_refused_v12 (aCons (eVar 7) (aCons (eVar 4) (aCons (eLc (iSeq (eVar 6)) [8] (gtN 8) (tYesG) f_law_good_v12_c1) (aNil))))) (eC (.str "turns"))) (sRet (eC (.bl false))) (sNil)
def f_law_good_v12_l3 : Env → Out := sSeq (sAsgF 3 (eOwn g_law_mixed_v2 (aCons (eVar 3) (aCons (eC (.int 52)) (aNil))))) (sSeq (sAsgF 6 (eOwn g_law_spoilt_v5 (aCons (eVar 2) (aCons (eCall caLen (aCons (eVar 1) (aNil))) (aCons (eVar 3) (aNil)))))) (sFor (iRg1 (aCons (eC (.int 3)) (aNil))) (gtN 7) f_law_good_v12_l2))
def f_law_good_v12 : Env → Out := sSeq (sAsgF 4 (eMkF 14 g_Web_init (aCons (eVar 0) (aCons (eVar 1) (aNil))))) (sSeq (sIf (tC2 cNe (eOwn g_law_refused_v12 (aCons (eC (.int 0)) (aCons (eVar 4) (aCons (eVar 2) (aNil))))) (eC (.str "told"))) (sRet (eC (.bl false))) (sNil)) (sSeq (sFor (iRg1 (aCons (eC (.int 8)) (aNil))) (gtN 5) f_law_good_v12_l3) (sRet (eC (.bl true)))))
def g_law_good_v12 : List D → Res D := runF f_law_good_v12 9
def f_law_k76 : Env → Out := sSeq (sAsgF 1 (eOwn g_law_mixed_v2 (aCons (eBin opAdd (eBin opMod (eOwn g_law_at (aCons (eVar 0) (aCons (eC (.int 3)) (aNil)))) (eBin opPow (eC (.int 10)) (eC (.int 60)))) (eCall caLen (aCons (eVar 0) (aNil)))) (aCons (eC (.int 51)) (aNil))))) (sSeq (sAsgF 2 (eBin opAdd (eC (.int 1)) (eBin opMod (eOwn g_law_at (aCons (eVar 0) (aCons (eC (.int 0)) (aNil)))) (eC (.int 6))))) (sSeq (sAsgF 3 (eOwn g_law_ties_v2 (aCons (eVar 0) (aCons (eVar 2) (aCons (eC (.int 10)) (aNil)))))) (sSeq (sIf (tNo (tTr (eOwn g_law_good_v12 (aCons (eVar 2) (aCons (eVar 3) (aCons (eOwn g_law_any_turns (aCons (eVar 2) (aCons (eVar 3) (aCons (eVar 1) (aNil))))) (aCons (eVar 1) (aNil)))))))) (sRet (eC (.bl false))) (sNil)) (sSeq (sAsgT (gtT 3 (gtCons (gtN 2) (gtCons (gtN 3) (gtCons (gtN 4) (gtNil))))) (eOwn g_law_map (aCons (eVar 0) (aNil)))) (sRet (eOwn g_law_good_v12 (aCons (eVar 2) (aCons (eVar 3) (aCons (eVar 4) (aCons (eBin opAdd (eVar 1) (eC (.int 1))) (aNil)))))))))))
def g_law_k76 : List D → Res D := runF f_law_k76 5
end Lw
end

noncomputable section
namespace Lw
open DL L2 TL Mp
variable {p : Nat} {ts : List (Int × Int)} {T : List (List Int)}
theorem flat_set76 : ∀ {T : List (List Int)} {z : Nat} {R R' : List Int}, T[z]? = some R → (T.set z R').flatten.length + R.length = T.flatten.length + R'.length
  | [], z, R, R', h => by simp at h
  | a :: T, 0, R, R', h => by
    have h : a = R := by simpa using h
    subst h
    simp only [List.set_cons_zero, List.flatten_cons, List.length_append]
    omega
  | a :: T, z + 1, R, R', h => by
    have := flat_set76 (T := T) (z := z) (R := R) (R' := R') (by simpa using h)
    simp only [List.set_cons_succ, List.flatten_cons, List.length_append]
    omega
theorem no_len76 (hT : Turns p ts T) {z : Nat} {R R' : List Int} (h : T[z]? = some R) (n : R'.length ≠ R.length) : ¬ Turns p ts (T.set z R') := fun hU => by
  have := flat_set76 (R' := R') h
  have := hT.all
  have := hU.all
  omega
theorem no_odd76 {z : Nat} {R' : List Int} (hz : z < T.length) {d : Int} (hd : d ∈ R') (h : d < 0 ∨ 2 * (ts.length : Int) ≤ d) : ¬ Turns p ts (T.set z R') := fun hU => by
  have g := (row_iff77 hU (i := z) (R := R') (List.getElem?_set_self hz)).2 d |>.mp hd
  have := g.1
  omega
theorem no_move76 (hT : Turns p ts T) {U : List (List Int)} {z j : Nat} {R Q : List Int} (h : T[z]? = some R) (hq : U[j]? = some Q) {d : Int} (h1 : d ∈ R) (h2 : d ∈ Q) (n : j ≠ z) : ¬ Turns p ts U := fun hU => by
  have g := (row_iff77 hT h).2 d |>.mp h1
  have g' := (row_iff77 hU hq).2 d |>.mp h2
  have := g.2
  have := g'.2
  omega
theorem no_more76 (hT : Turns p ts T) : ¬ Turns p ts (T ++ [[]]) := fun hU => by
  have := hT.len
  have := hU.len
  rw [List.length_append, List.length_singleton] at this
  omega
theorem no_less76 (hT : Turns p ts T) {z : Nat} (hz : z < T.length) : ¬ Turns p ts (T.eraseIdx z) := fun hU => by
  have := hT.len
  have := hU.len
  rw [List.length_eraseIdx_of_lt hz] at this
  omega
theorem q1_76 : pyEq (D.bo []) (D.ls []) = some true := by rfl
theorem q2_76 : pyEq (D.bo [D.bl true, D.bl true, D.bl false, D.bl false, D.bl false]) (D.ls []) = some false := by rfl
theorem q3_76 : pyEq (D.bo [D.bl true, D.bl true, D.bl false, D.bl false, D.bl false]) (D.ls [D.bl true, D.bl true, D.bl false, D.bl false, D.bl false]) = some true := by rfl
theorem ref76_no (hl : ts.length ≤ 30) (hT : ¬ Turns p ts T) {k : Int} (k0 : 0 ≤ k) (k1 : k < 3) : g_law_refused_v12 [.int k, .ob 14 [.int p, .ls (ts.map dP)], .ls (T.map dR)] = .ok (.str "turns") := by
  have r1 := rounds_no (h := dR) (o := .ls (T.map dR)) ⟨fun R => .inl rfl, .inl rfl⟩ (by omega) hT
  have r2 := lies_no (h := dR) (o := .ls (T.map dR)) ⟨fun R => .inl rfl, .inl rfl⟩ (by omega) hT
  have r3 := other_no (h := dR) (o := .ls (T.map dR)) ⟨fun R => .inl rfl, .inl rfl⟩ (by omega) hT
  generalize T.map dR = TT at *
  generalize ts.map dP = PP at *
  have l1 : 1 ≤ lim := by rw [lim_eq]; omega
  have l2 : 2 ≤ lim := by rw [lim_eq]; omega
  have l4 : 4 ≤ lim := by rw [lim_eq]; omega
  have l5 : 5 ≤ lim := by rw [lim_eq]; omega
  have l45 : 4 < lim := by rw [lim_eq]; omega
  have hk : k = 0 ∨ k = 1 ∨ k = 2 := by omega
  rcases hk with rfl | rfl | rfl <;> simp [g_law_refused_v12, runF, f_law_refused_v12, f_law_refused_v12_hh, f_law_refused_v12_h, r1, r2, r3, unO, cEq, caInt, l1, l2, l4, l5, l45, q1_76, q2_76, q3_76]
theorem ref76_ok (hl : ts.length ≤ 30) (hT : Turns p ts T) : g_law_refused_v12 [.int 0, .ob 14 [.int p, .ls (ts.map dP)], .ls (T.map dR)] = .ok (.str "told") := by
  have r1 := rounds_ok (h := dR) (o := .ls (T.map dR)) ⟨fun R => .inl rfl, .inl rfl⟩ (by omega) hT
  have f1 := rO'_frz (rnds ts.length T)
  generalize rO' (rnds ts.length T) = RR at *
  generalize T.map dR = TT at *
  generalize ts.map dP = PP at *
  simp [g_law_refused_v12, runF, f_law_refused_v12, r1, cEq, q1_76]
end Lw
end

noncomputable section
namespace Lw
open DL L2 TL Mp
variable {p : Nat} {ts : List (Int × Int)} {T : List (List Int)}
def f_if76 : Env → Out := sIf (tOr_ (tC2 cLt (eVar 7) (eC (.int 2))) (tC2 cEq (eCall caLen (aCons (eVar 5) (aNil))) (eC (.int 0)))) (sIns2 5 (aCons (eBin opMod (eBin opDiv (eVar 2) (eC (.int 5000))) (eBin opAdd (eCall caLen (aCons (eVar 5) (aNil))) (eC (.int 1)))) (aCons (eVar 6) (aNil)))) (sIf (tC2 cEq (eVar 7) (eC (.int 2))) (sDel 5 (eBin opMod (eBin opDiv (eVar 2) (eC (.int 5000))) (eCall caLen (aCons (eVar 5) (aNil))))) (sIf (tC2 cEq (eVar 7) (eC (.int 3))) (sIns2 5 (aCons (eBin opMod (eBin opDiv (eVar 2) (eC (.int 5000))) (eBin opAdd (eCall caLen (aCons (eVar 5) (aNil))) (eC (.int 1)))) (aCons (eBin opIx (eVar 5) (eBin opMod (eBin opDiv (eVar 2) (eBin opPow (eC (.int 10)) (eC (.int 6)))) (eCall caLen (aCons (eVar 5) (aNil))))) (aNil)))) (sIf (tC2 cEq (eVar 7) (eC (.int 4))) (sSet 5 (eBin opMod (eBin opDiv (eVar 2) (eC (.int 5000))) (eCall caLen (aCons (eVar 5) (aNil)))) (eVar 6)) (sIf (tAn (tC2 cEq (eVar 7) (eC (.int 5))) (tC2 cGt (eCall caLen (aCons (eVar 3) (aNil))) (eC (.int 1)))) (sAppIxPop 3 5 (eBin opMod (eBin opAdd (eVar 4) (eC (.int 1))) (eCall caLen (aCons (eVar 3) (aNil)))) (eBin opMod (eBin opDiv (eVar 2) (eC (.int 5000))) (eCall caLen (aCons (eVar 5) (aNil))))) (sIf (tC2 cEq (eVar 7) (eC (.int 6))) (sApp 3 (eLst (aNil))) (sDel 3 (eVar 4)))))))
theorem spoil_eq76 : f_law_spoilt_v5 = sSeq (sAsg 3 (eLc (iSeq (eVar 0)) [5] (gtN 5) (tYesG) f_law_spoilt_v5_c1)) (sSeq (sAsgF 4 (eBin opMod (eBin opDiv (eVar 2) (eC (.int 8))) (eCall caLen (aCons (eVar 3) (aNil))))) (sOpn 3 5 (eVar 4) (sSeq (sAsgF 6 (eBin opIx (eLst (aConsO (eBin opMul (eC (.int 2)) (eVar 1)) (aConsO (eUn opNeg (eC (.int 1))) (aConsO (eBin opAdd (eBin opMul (eC (.int 2)) (eVar 1)) (eC (.int 5))) (aConsO (eBin opSub (eBin opMul (eUn opNeg (eC (.int 2))) (eVar 1)) (eC (.int 2))) (aNil)))))) (eBin opMod (eBin opDiv (eVar 2) (eC (.int 1000))) (eC (.int 4))))) (sSeq (sAsgF 7 (eBin opMod (eVar 2) (eC (.int 8)))) (sSeq f_if76 sNil))))) := rfl
theorem plug_set76 {r : PySem.Addr} {d : D} : ∀ {l : List D} {z : Nat}, (∀ x ∈ l, isRf r x = false) → z < l.length → plug r d (l.set z (.rf r)) = some (l.set z d)
  | [], z, _, h => by simp at h
  | a :: l, 0, _, h => by simp [plug]
  | a :: l, z + 1, h, hz => by
    have := plug_set76 (r := r) (d := d) (l := l) (z := z) (fun x hx => h x (List.mem_cons_of_mem _ hx)) (by simpa using hz)
    have ha := h a (List.mem_cons_self ..)
    simp [plug, ha, this]
theorem plug_none76 {r : PySem.Addr} {d : D} : ∀ {l : List D}, (∀ x ∈ l, isRf r x = false) → plug r d l = none
  | [], _ => rfl
  | a :: l, h => by
    have ha := h a (List.mem_cons_self ..)
    simp [plug, ha, plug_none76 fun x hx => h x (List.mem_cons_of_mem _ hx)]
theorem noRf76 (T : List (List Int)) (r : PySem.Addr) : ∀ x ∈ T.map dO', isRf r x = false := fun x hx => by
  obtain ⟨R, _, rfl⟩ := List.mem_map.mp hx
  rfl
theorem fin76 {g : Env} {r : PySem.Addr} {z : Nat} {R' : List Int} {U : List (List Int)} (h3 : g[3]? = some (.ol ((U.map dO').set z (.rf r)))) (h5 : g[5]? = some (.ol (R'.map D.int))) (hz : z < U.length) : closes 3 5 r (.nx g) = some (.ol ((U.set z R').map dO')) := by
  unfold closes
  simp only [h3, h5]
  rw [plug_set76 (noRf76 U r) (by rw [List.length_map]; exact hz), List.map_set]
  rfl
theorem fin76n {g : Env} {r : PySem.Addr} {xs : List D} {U : List (List Int)} (h3 : g[3]? = some (.ol (U.map dO'))) (h5 : g[5]? = some (.ol xs)) : closes 3 5 r (.nx g) = some (.ol (U.map dO')) := by
  unfold closes
  simp only [h3, h5]
  rw [plug_none76 (noRf76 U r)]
  rfl
theorem odd76 (n : Nat) (m : Int) : ∃ d : Int, (d < 0 ∨ 2 * (n : Int) ≤ d) ∧ ∀ x0 x3 x4 x5 x7 : D, (sAsgF 6 (eBin opIx (eLst (aConsO (eBin opMul (eC (.int 2)) (eVar 1)) (aConsO (eUn opNeg (eC (.int 1))) (aConsO (eBin opAdd (eBin opMul (eC (.int 2)) (eVar 1)) (eC (.int 5))) (aConsO (eBin opSub (eBin opMul (eUn opNeg (eC (.int 2))) (eVar 1)) (eC (.int 2))) (aNil)))))) (eBin opMod (eBin opDiv (eVar 2) (eC (.int 1000))) (eC (.int 4))))) [x0, .int n, .int m, x3, x4, x5, .un, x7] = .nx [x0, .int n, .int m, x3, x4, x5, .int d, x7] := by
  have l4 : 4 ≤ lim := by rw [lim_eq]; omega
  have s0 := Int.emod_nonneg (m / 1000) (by decide : (4 : Int) ≠ 0)
  have s1 := Int.emod_lt_of_pos (m / 1000) (by decide : (0 : Int) < 4)
  have hs : m / 1000 % 4 = 0 ∨ m / 1000 % 4 = 1 ∨ m / 1000 % 4 = 2 ∨ m / 1000 % 4 = 3 := by omega
  have a0 : ∀ a b c d : D, atI [a, b, c, d] 0 = some a := fun _ _ _ _ => rfl
  have a1 : ∀ a b c d : D, atI [a, b, c, d] 1 = some b := fun _ _ _ _ => rfl
  have a2 : ∀ a b c d : D, atI [a, b, c, d] 2 = some c := fun _ _ _ _ => rfl
  have a3 : ∀ a b c d : D, atI [a, b, c, d] 3 = some d := fun _ _ _ _ => rfl
  rcases hs with s | s | s | s
  · exact ⟨2 * n, by omega, fun x0 x3 x4 x5 x7 => by simp [s, l4, a0]⟩
  · exact ⟨-1, by omega, fun x0 x3 x4 x5 x7 => by simp [s, l4, a1]⟩
  · exact ⟨2 * n + 5, by omega, fun x0 x3 x4 x5 x7 => by simp [s, l4, a2]⟩
  · exact ⟨-2 * n - 2, by omega, fun x0 x3 x4 x5 x7 => by simp [s, l4, a3]⟩
end Lw
end

noncomputable section
namespace Lw
open DL L2 TL Mp
variable {p : Nat} {ts : List (Int × Int)} {T : List (List Int)}
theorem brws_len76 : ∀ L : List D, (brws L).length = L.length
  | [] => rfl
  | a :: L => by rw [brws_cons, List.length_cons, brws_len76 L, List.length_cons]
theorem erase_map76 : ∀ (R : List Int) (k : Nat), (R.map D.int).eraseIdx k = (R.eraseIdx k).map D.int
  | [], k => by simp
  | a :: R, 0 => by simp
  | a :: R, k + 1 => by simp [erase_map76 R k]
theorem ifA76 {x0 : D} {n m z d w k : Int} {L : List D} {R : List Int} (rl : R.length < lim) (hc : w < 2 ∨ R.length = 0) (k0 : 0 ≤ k) (k1 : k < (R.length : Int) + 1) (om : opMod (.int (m / 5000)) (.int ((R.length : Int) + 1)) = some (.int k)) :
    f_if76 [x0, .int n, .int m, .ol L, .int z, .ol (R.map D.int), .int d, .int w] = .nx [x0, .int n, .int m, .ol L, .int z, .ol ((R.take k.toNat ++ [d] ++ R.drop k.toNat).map D.int), .int d, .int w] := by
  have kb : k ≤ 1000000000 := by rw [lim_eq] at rl; omega
  have al : ∀ x ∈ R, own1 (D.int x) = false := fun _ _ => rfl
  by_cases c : w < 2
  · simp [f_if76, c, om, k0, kb, rl]
  · have h0 : R.length = 0 := hc.resolve_left c
    have hR : R = [] := List.length_eq_zero_iff.mp h0
    subst hR
    have hk : k = 0 := by simp at k1; omega
    subst hk
    have om' : opMod (.int (m / 5000)) (.int 1) = some (.int 0) := by simpa using om
    have l0 : 0 < lim := by rw [lim_eq]; omega
    simp [f_if76, c, om', l0]
theorem ifB76 {x0 : D} {n m z d k u : Int} {L : List D} {R : List Int} (rl : R.length ≤ lim) (h0 : ¬ R.length = 0) (k0 : 0 ≤ k) (k1 : k < (R.length : Int)) (om : opMod (.int (m / 5000)) (.int (R.length : Int)) = some (.int k)) (hu : R[k.toNat]? = some u) :
    f_if76 [x0, .int n, .int m, .ol L, .int z, .ol (R.map D.int), .int d, .int 2] = .nx [x0, .int n, .int m, .ol L, .int z, .ol ((R.eraseIdx k.toNat).map D.int), .int d, .int 2] := by
  have ek : ixN R.length k = some k.toNat := ixN_nat k0 k1
  have em : (R.map D.int).eraseIdx k.toNat = (R.eraseIdx k.toNat).map D.int := erase_map76 R k.toNat
  have hn : ¬ R = [] := fun h => h0 (by rw [h]; rfl)
  simp [f_if76, h0, hn, om, ek, hu, rl, em]
theorem ifC76 {x0 : D} {n m z d k q6 y b v : Int} {L : List D} {R : List Int} (rl : R.length < lim) (h0 : ¬ R.length = 0) (k0 : 0 ≤ k) (k1 : k < (R.length : Int) + 1) (om : opMod (.int (m / 5000)) (.int ((R.length : Int) + 1)) = some (.int k))
    (p6 : opPow (.int 10) (.int 6) = some (.int q6)) (d6 : opDiv (.int m) (.int q6) = some (.int y)) (oc : opMod (.int y) (.int (R.length : Int)) = some (.int b)) (eb : atI R b = some v) :
    f_if76 [x0, .int n, .int m, .ol L, .int z, .ol (R.map D.int), .int d, .int 3] = .nx [x0, .int n, .int m, .ol L, .int z, .ol ((R.take k.toNat ++ [v] ++ R.drop k.toNat).map D.int), .int d, .int 3] := by
  have kb : k ≤ 1000000000 := by rw [lim_eq] at rl; omega
  have hn : ¬ R = [] := fun h => h0 (by rw [h]; rfl)
  simp [f_if76, h0, hn, om, p6, d6, oc, eb, k0, kb, rl]
theorem ifD76 {x0 : D} {n m z d k : Int} {L : List D} {R : List Int} (h0 : ¬ R.length = 0) (k0 : 0 ≤ k) (k1 : k < (R.length : Int)) (om : opMod (.int (m / 5000)) (.int (R.length : Int)) = some (.int k)) :
    f_if76 [x0, .int n, .int m, .ol L, .int z, .ol (R.map D.int), .int d, .int 4] = .nx [x0, .int n, .int m, .ol L, .int z, .ol ((R.set k.toNat d).map D.int), .int d, .int 4] := by
  have ek : ixN R.length k = some k.toNat := ixN_nat k0 k1
  have hn : ¬ R = [] := fun h => h0 (by rw [h]; rfl)
  simp [f_if76, h0, hn, om, ek]
theorem ifE76 {x0 : D} {n m z d k u j : Int} {L : List D} {R Q : List Int} (rl : R.length ≤ lim) (ql : Q.length < lim) (h0 : ¬ R.length = 0) (hL : 1 < (L.length : Int)) (k0 : 0 ≤ k) (k1 : k < (R.length : Int)) (om : opMod (.int (m / 5000)) (.int (R.length : Int)) = some (.int k)) (hu : R[k.toNat]? = some u)
    (oj : opMod (.int (z + 1)) (.int (L.length : Int)) = some (.int j)) (j0 : 0 ≤ j) (j1 : j < (L.length : Int)) (hQ : L[j.toNat]? = some (.ol (Q.map D.int))) :
    f_if76 [x0, .int n, .int m, .ol L, .int z, .ol (R.map D.int), .int d, .int 5] = .nx [x0, .int n, .int m, .ol (L.set j.toNat (.ol ((Q ++ [u]).map D.int))), .int z, .ol ((R.eraseIdx k.toNat).map D.int), .int d, .int 5] := by
  have hn : ¬ R = [] := fun h => h0 (by rw [h]; rfl)
  have em : (R.map D.int).eraseIdx k.toNat = (R.eraseIdx k.toNat).map D.int := erase_map76 R k.toNat
  have hL' : ¬ ((L.length : Int) ≤ 1) := by omega
  have f1 : (eBin opMod (eBin opAdd (eVar 4) (eC (.int 1))) (eCall caLen (aCons (eVar 3) (aNil)))) [x0, .int n, .int m, .ol L, .int z, .ol (R.map D.int), .int d, .int 5] = .ok (.int j) := by simp [brws_len76, oj]
  have f2 : (eBin opMod (eBin opDiv (eVar 2) (eC (.int 5000))) (eCall caLen (aCons (eVar 5) (aNil)))) [x0, .int n, .int m, .ol L, .int z, .ol (R.map D.int), .int d, .int 5] = .ok (.int k) := by simp [om]
  have mv : sAppIxPop 3 5 (eBin opMod (eBin opAdd (eVar 4) (eC (.int 1))) (eCall caLen (aCons (eVar 3) (aNil)))) (eBin opMod (eBin opDiv (eVar 2) (eC (.int 5000))) (eCall caLen (aCons (eVar 5) (aNil)))) [x0, .int n, .int m, .ol L, .int z, .ol (R.map D.int), .int d, .int 5] = .nx [x0, .int n, .int m, .ol (L.set j.toNat (.ol ((Q ++ [u]).map D.int))), .int z, .ol ((R.eraseIdx k.toNat).map D.int), .int d, .int 5] := by
    unfold sAppIxPop
    have hu' : (R.map D.int)[k.toNat]? = some (.int u) := by rw [List.getElem?_map, hu]; rfl
    simp only [f1, f2, intR_int, List.getElem?_cons_succ, List.getElem?_cons_zero, List.length_map, hQ, hu']
    rw [if_pos ⟨j0, j1, k0, k1, rl, by decide⟩, if_pos ⟨rfl, ql⟩, em]
    simp
  simp [f_if76, hn, mv, brws_len76, hL', -sAppIxPop]
theorem ifF76 {x0 : D} {n m z d : Int} {L : List D} {R : List Int} (h0 : ¬ R.length = 0) (ll : L.length < lim) :
    f_if76 [x0, .int n, .int m, .ol L, .int z, .ol (R.map D.int), .int d, .int 6] = .nx [x0, .int n, .int m, .ol (L ++ [.ol []]), .int z, .ol (R.map D.int), .int d, .int 6] := by
  have hn : ¬ R = [] := fun h => h0 (by rw [h]; rfl)
  simp [f_if76, hn, ll]
theorem ifG76 {x0 : D} {n m d w : Int} {z : Nat} {L : List D} {R : List Int} {r : PySem.Addr} (h0 : ¬ R.length = 0) (hw : w = 7 ∨ w = 5 ∧ L.length ≤ 1) (ll : L.length ≤ lim) (hz : z < L.length) (hr : L[z]? = some (.rf r)) :
    f_if76 [x0, .int n, .int m, .ol L, .int z, .ol (R.map D.int), .int d, .int w] = .nx [x0, .int n, .int m, .ol (L.eraseIdx z), .int z, .ol (R.map D.int), .int d, .int w] := by
  have hn : ¬ R = [] := fun h => h0 (by rw [h]; rfl)
  have ek : ixN L.length (z : Int) = some z := by
    have := ixN_nat (n := L.length) (i := (z : Int)) (by omega) (by omega)
    simpa using this
  have o1 : own1 (.rf r) = false := rfl
  rcases hw with rfl | ⟨rfl, h1⟩
  · simp [f_if76, hn, ek, hr, o1, ll]
  · have h1' : ¬ 1 < (L.length : Int) := by omega
    simp [f_if76, hn, ek, hr, o1, ll, brws_len76, h1']
end Lw
end

noncomputable section
namespace Lw
open DL L2 TL Mp
variable {p : Nat} {ts : List (Int × Int)} {T : List (List Int)}
def Small76 (T : List (List Int)) : Prop := T.length ≤ 1000 ∧ ∀ R ∈ T, R.length ≤ 1000
theorem small_set76 (h : T.length ≤ 999 ∧ ∀ R ∈ T, R.length ≤ 999) {z : Nat} {R' : List Int} (hr : R'.length ≤ 1000) : Small76 (T.set z R') := by
  refine ⟨by rw [List.length_set]; have := h.1; omega, fun R hR => ?_⟩
  rcases List.mem_or_eq_of_mem_set hR with q | q
  · have := h.2 R q; omega
  · rw [q]; exact hr
theorem run76 {n m d w : Int} {z : Nat} {R : List Int} {U : List (List Int)} (hz : (T.map dO')[z]? = some (.ol (R.map D.int))) (od : ∀ x0 x3 x4 x5 x7 : D, (sAsgF 6 (eBin opIx (eLst (aConsO (eBin opMul (eC (.int 2)) (eVar 1)) (aConsO (eUn opNeg (eC (.int 1))) (aConsO (eBin opAdd (eBin opMul (eC (.int 2)) (eVar 1)) (eC (.int 5))) (aConsO (eBin opSub (eBin opMul (eUn opNeg (eC (.int 2))) (eVar 1)) (eC (.int 2))) (aNil)))))) (eBin opMod (eBin opDiv (eVar 2) (eC (.int 1000))) (eC (.int 4))))) [x0, .int n, .int m, x3, x4, x5, .un, x7] = .nx [x0, .int n, .int m, x3, x4, x5, .int d, x7]) (hw : m % 8 = w)
    (s1 : (sAsg 3 (eLc (iSeq (eVar 0)) [5] (gtN 5) (tYesG) f_law_spoilt_v5_c1)) [.ls (T.map dR), .int n, .int m, .un, .un, .un, .un, .un] = .nx [.ls (T.map dR), .int n, .int m, .ol (T.map dO'), .un, .un, .un, .un]) (s2 : (sAsgF 4 (eBin opMod (eBin opDiv (eVar 2) (eC (.int 8))) (eCall caLen (aCons (eVar 3) (aNil))))) [.ls (T.map dR), .int n, .int m, .ol (T.map dO'), .un, .un, .un, .un] = .nx [.ls (T.map dR), .int n, .int m, .ol (T.map dO'), .int z, .un, .un, .un])
    (h : ∀ r : PySem.Addr, ∃ g, f_if76 [.ls (T.map dR), .int n, .int m, .ol ((T.map dO').set z (.rf r)), .int z, .ol (R.map D.int), .int d, .int w] = .nx g ∧ closes 3 5 r (.nx g) = some (.ol (U.map dO'))) : g_law_spoilt_v5 [.ls (T.map dR), .int n, .int m] = .ok (.ol (U.map dO')) := by
  refine runF_rt ?_
  show f_law_spoilt_v5 [.ls (T.map dR), .int n, .int m, .un, .un, .un, .un, .un] = _
  rw [spoil_eq76]
  refine seq_to s1 (seq_to s2 ?_)
  generalize D.ls (T.map dR) = TT at *
  generalize T.map dO' = TO at *
  unfold sOpn
  rw [if_pos (by simp)]
  refine sOpen_eq (xs := TO) (ys := R.map D.int) (z := (z : Int)) rfl (by simp) (by omega) hz fun r => ?_
  obtain ⟨g, h1, h2⟩ := h r
  have e : (sSeq (sAsgF 6 (eBin opIx (eLst (aConsO (eBin opMul (eC (.int 2)) (eVar 1)) (aConsO (eUn opNeg (eC (.int 1))) (aConsO (eBin opAdd (eBin opMul (eC (.int 2)) (eVar 1)) (eC (.int 5))) (aConsO (eBin opSub (eBin opMul (eUn opNeg (eC (.int 2))) (eVar 1)) (eC (.int 2))) (aNil)))))) (eBin opMod (eBin opDiv (eVar 2) (eC (.int 1000))) (eC (.int 4))))) (sSeq (sAsgF 7 (eBin opMod (eVar 2) (eC (.int 8)))) (sSeq f_if76 sNil))) [TT, .int n, .int m, .ol (TO.set z (.rf r)), .int z, .ol (R.map D.int), .un, .un] = .nx g :=
    seq_to (od ..) (seq_to (g1 := [TT, .int n, .int m, .ol (TO.set z (.rf r)), .int z, .ol (R.map D.int), .int d, .int w]) (by simp [hw]) (seq_to h1 rfl))
  show closes 3 5 r ((sSeq (sAsgF 6 (eBin opIx (eLst (aConsO (eBin opMul (eC (.int 2)) (eVar 1)) (aConsO (eUn opNeg (eC (.int 1))) (aConsO (eBin opAdd (eBin opMul (eC (.int 2)) (eVar 1)) (eC (.int 5))) (aConsO (eBin opSub (eBin opMul (eUn opNeg (eC (.int 2))) (eVar 1)) (eC (.int 2))) (aNil)))))) (eBin opMod (eBin opDiv (eVar 2) (eC (.int 1000))) (eC (.int 4))))) (sSeq (sAsgF 7 (eBin opMod (eVar 2) (eC (.int 8)))) (sSeq f_if76 sNil))) [TT, .int n, .int m, .ol (TO.set z (.rf r)), .int z, .ol (R.map D.int), .un, .un]) = _
  rw [e]
  exact h2
theorem spoil76 (p1 : 1 ≤ p) (p2 : p ≤ 100) (hl : ts.length ≤ 50) (hT : Turns p ts T) (m : Int) : ∃ U, ¬ Turns p ts U ∧ Small76 U ∧ g_law_spoilt_v5 [.ls (T.map dR), .int ts.length, .int m] = .ok (.ol (U.map dO')) := by
  have hlen := hT.len
  have rl : ∀ R ∈ T, R.length ≤ 2 * ts.length := fun R hR => by have := (hT.row hR).1; omega
  have sm : T.length ≤ 999 ∧ ∀ R ∈ T, R.length ≤ 999 := ⟨by omega, fun R hR => by have := rl R hR; omega⟩
  have lm : (1000000 : Nat) = lim := by rw [lim_eq]
  have lc1 : lcL (gtN 5) tYesG f_law_spoilt_v5_c1 [.ls (T.map dR), .int ts.length, .int m, .un, .un, .un, .un, .un] (T.map dR) = .ok (T.map dO') := lc_rows fun R hR => by
    have : R.length ≤ lim := by have := rl R hR; omega
    simp [f_law_spoilt_v5_c1, dR, dO', this]
  have bT : (T.map dR).length ≤ lim := by rw [List.length_map]; omega
  have ob : (brws (T.map dO')).length = (T.map dO').length := brws_len76 _
  have lx : ((T.map dO').length : Int) = (p : Int) := by rw [List.length_map]; exact hlen
  have z0 := Int.emod_nonneg (m / 8) (by omega : (p : Int) ≠ 0)
  have z1 := Int.emod_lt_of_pos (m / 8) (by omega : (0 : Int) < p)
  have om : opMod (.int (m / 8)) (.int (p : Int)) = some (.int (m / 8 % (p : Int))) := opMod_pos (by omega)
  obtain ⟨z, hz⟩ : ∃ z : Nat, (z : Int) = m / 8 % (p : Int) := ⟨(m / 8 % (p : Int)).toNat, by omega⟩
  rw [← hz] at om z0 z1
  have zl : z < T.length := by omega
  obtain ⟨R, hR⟩ : ∃ R, T[z]? = some R := ⟨_, List.getElem?_eq_getElem zl⟩
  have hRm := List.mem_of_getElem? hR
  have hRl := rl R hRm
  have hR' : (T.map dO')[z]? = some (.ol (R.map D.int)) := by rw [List.getElem?_map, hR]; rfl
  obtain ⟨d, hd, od⟩ := odd76 ts.length m
  have w0 := Int.emod_nonneg m (by decide : (8 : Int) ≠ 0)
  have w1 := Int.emod_lt_of_pos m (by decide : (0 : Int) < 8)
  obtain ⟨w, hw⟩ : ∃ w, m % 8 = w := ⟨_, rfl⟩
  rw [hw] at w0 w1
  have goal : ∀ U : List (List Int), (∀ r : PySem.Addr, ∃ g, f_if76 [.ls (T.map dR), .int ts.length, .int m, .ol ((T.map dO').set z (.rf r)), .int z, .ol (R.map D.int), .int d, .int w] = .nx g ∧ closes 3 5 r (.nx g) = some (.ol (U.map dO'))) → g_law_spoilt_v5 [.ls (T.map dR), .int ts.length, .int m] = .ok (.ol (U.map dO')) := fun U h => by
    refine run76 hR' od hw ?_ ?_ h
    · generalize T.map dO' = TO at *
      generalize T.map dR = TT at *
      simp [lc1, bT]
    · generalize T.map dO' = TO at *
      generalize T.map dR = TT at *
      simp [ob, lx, om]
  generalize D.ls (T.map dR) = x0 at goal
  have k0 := Int.emod_nonneg (m / 5000) (by omega : (R.length : Int) + 1 ≠ 0)
  have k1 := Int.emod_lt_of_pos (m / 5000) (by omega : (0 : Int) < (R.length : Int) + 1)
  have ok1 : opMod (.int (m / 5000)) (.int ((R.length : Int) + 1)) = some (.int (m / 5000 % ((R.length : Int) + 1))) := opMod_pos (by omega)
  generalize m / 5000 % ((R.length : Int) + 1) = k at *
  have insl : ∀ v : Int, (R.take k.toNat ++ [v] ++ R.drop k.toNat).length = R.length + 1 := fun v => by
    rw [List.length_append, List.length_append, List.length_take, List.length_drop, List.length_singleton]; omega
  by_cases c1 : w < 2 ∨ R.length = 0
  · refine ⟨T.set z (R.take k.toNat ++ [d] ++ R.drop k.toNat), no_odd76 zl (d := d) (by simp) hd, small_set76 sm (by rw [insl]; omega), goal _ fun r => ⟨_, ifA76 (by omega) c1 k0 k1 ok1, fin76 (U := T) rfl rfl zl⟩⟩
  have w2 : ¬ w < 2 := fun h => c1 (.inl h)
  have hn : ¬ R.length = 0 := fun h => c1 (.inr h)
  have b0 := Int.emod_nonneg (m / 5000) (by omega : (R.length : Int) ≠ 0)
  have b1 := Int.emod_lt_of_pos (m / 5000) (by omega : (0 : Int) < (R.length : Int))
  have ok2 : opMod (.int (m / 5000)) (.int (R.length : Int)) = some (.int (m / 5000 % (R.length : Int))) := opMod_pos (by omega)
  generalize m / 5000 % (R.length : Int) = b at *
  have bl : b.toNat < R.length := by omega
  obtain ⟨u, hu⟩ : ∃ u, R[b.toNat]? = some u := ⟨_, List.getElem?_eq_getElem bl⟩
  have hcase : w = 2 ∨ w = 3 ∨ w = 4 ∨ (w = 5 ∧ 1 < p) ∨ (w = 7 ∨ w = 5 ∧ p ≤ 1) ∨ w = 6 := by omega
  have el : (R.eraseIdx b.toNat).length = R.length - 1 := List.length_eraseIdx_of_lt bl
  have tl : (T.map dO').length = p := by omega
  rcases hcase with rfl | rfl | rfl | ⟨rfl, hp⟩ | hw7 | rfl
  · refine ⟨T.set z (R.eraseIdx b.toNat), no_len76 hT hR (by omega), small_set76 sm (by omega), goal _ fun r => ⟨_, ifB76 (by omega) hn b0 b1 ok2 hu, fin76 (U := T) rfl rfl zl⟩⟩
  · obtain ⟨q6, hq6⟩ : ∃ q : Int, q = 10 ^ 6 := ⟨_, rfl⟩
    have p6 : opPow (.int 10) (.int 6) = some (.int q6) := by rw [hq6, opPow_eq, if_pos (by unfold CPow; decide)]; rfl
    have q60 : 0 < q6 := by rw [hq6]; decide
    have d6 : opDiv (.int m) (.int q6) = some (.int (m / q6)) := opDiv_pos q60 (by omega)
    have a0 := Int.emod_nonneg (m / q6) (by omega : (R.length : Int) ≠ 0)
    have a1 := Int.emod_lt_of_pos (m / q6) (by omega : (0 : Int) < R.length)
    have oc : opMod (.int (m / q6)) (.int (R.length : Int)) = some (.int (m / q6 % (R.length : Int))) := opMod_pos (by omega)
    generalize m / q6 % (R.length : Int) = a at *
    have al : a.toNat < R.length := by omega
    have ea : atI R a = some R[a.toNat] := by rw [DL.atI_natG (j := a.toNat) (by omega) al, List.getElem?_eq_getElem al]
    refine ⟨T.set z (R.take k.toNat ++ [R[a.toNat]] ++ R.drop k.toNat), no_len76 hT hR (by rw [insl]; omega), small_set76 sm (by rw [insl]; omega), goal _ fun r => ⟨_, ifC76 (by omega) hn k0 k1 ok1 p6 d6 oc ea, fin76 (U := T) rfl rfl zl⟩⟩
  · refine ⟨T.set z (R.set b.toNat d), no_odd76 zl (d := d) (List.mem_set bl d) hd, small_set76 sm (by rw [List.length_set]; omega), goal _ fun r => ⟨_, ifD76 hn b0 b1 ok2, fin76 (U := T) rfl rfl zl⟩⟩
  · have j0 := Int.emod_nonneg ((z : Int) + 1) (by omega : (p : Int) ≠ 0)
    have j1 := Int.emod_lt_of_pos ((z : Int) + 1) (by omega : (0 : Int) < p)
    have oj : opMod (.int ((z : Int) + 1)) (.int (p : Int)) = some (.int (((z : Int) + 1) % (p : Int))) := opMod_pos (by omega)
    have jz : ((z : Int) + 1) % (p : Int) ≠ z := by
      by_cases c : (z : Int) + 1 = p
      · rw [c, Int.emod_self]; omega
      · rw [Int.emod_eq_of_lt (by omega) (by omega)]; omega
    obtain ⟨j, hj⟩ : ∃ j : Nat, (j : Int) = ((z : Int) + 1) % (p : Int) := ⟨(((z : Int) + 1) % (p : Int)).toNat, by omega⟩
    rw [← hj] at j0 j1 oj jz
    have jz' : j ≠ z := by omega
    have jl : j < T.length := by omega
    obtain ⟨Q, hQ⟩ : ∃ Q, T[j]? = some Q := ⟨_, List.getElem?_eq_getElem jl⟩
    have hQl := rl Q (List.mem_of_getElem? hQ)
    refine ⟨(T.set j (Q ++ [u])).set z (R.eraseIdx b.toNat), no_move76 hT hR (j := j) (Q := Q ++ [u]) (d := u) (by rw [List.getElem?_set_ne jz'.symm, List.getElem?_set_self jl]) (List.mem_of_getElem? hu) (by simp) jz', ?_, goal _ fun r => ?_⟩
    · refine small_set76 ⟨by rw [List.length_set]; omega, fun W hW => ?_⟩ (by omega)
      rcases List.mem_or_eq_of_mem_set hW with q | q
      · exact sm.2 W q
      · rw [q, List.length_append, List.length_singleton]; omega
    · have e := ifE76 (x0 := x0) (n := ts.length) (m := m) (z := (z : Int)) (d := d) (k := b) (u := u) (j := (j : Int)) (L := (T.map dO').set z (.rf r)) (R := R) (Q := Q) (by omega) (by omega) hn (by rw [List.length_set]; omega) b0 b1 ok2 hu (by rw [List.length_set, lx]; exact oj) j0 (by rw [List.length_set]; omega) (by
        rw [Int.toNat_natCast, List.getElem?_set_ne jz'.symm, List.getElem?_map, hQ]; rfl)
      refine ⟨_, e, fin76 (U := T.set j (Q ++ [u])) ?_ rfl (by rw [List.length_set]; exact zl)⟩
      rw [Int.toNat_natCast, List.map_set, List.set_comm _ _ jz'.symm]
      rfl
  · have nr : ∀ r : PySem.Addr, (((T.map dO').set z (.rf r)).eraseIdx z) = (T.eraseIdx z).map dO' := fun r => by
      have ge : ∀ (l : List (List Int)) (z : Nat) (x : D), ((l.map dO').set z x).eraseIdx z = (l.eraseIdx z).map dO' := fun l => by
        induction l with
        | nil => intro z x; simp
        | cons a l ih =>
          intro z x
          cases z with
          | zero => simp
          | succ z => simpa using ih z x
      exact ge T z _
    refine ⟨T.eraseIdx z, no_less76 hT zl, ⟨by rw [List.length_eraseIdx_of_lt zl]; omega, fun W hW => by have := sm.2 W (List.mem_of_mem_eraseIdx hW); omega⟩, goal _ fun r => ⟨_, ifG76 (r := r) hn (by rw [List.length_set]; omega) (by rw [List.length_set]; omega) (by rw [List.length_set]; omega) (List.getElem?_set_self (by omega)), ?_⟩⟩
    rw [nr]
    exact fin76n rfl rfl
  · refine ⟨T ++ [[]], no_more76 hT, ⟨by rw [List.length_append, List.length_singleton]; omega, fun W hW => by
      rcases List.mem_append.mp hW with q | q
      · have := sm.2 W q; omega
      · rw [List.mem_singleton.mp q]; simp⟩, goal _ fun r => ⟨_, ifF76 hn (by rw [List.length_set]; omega), ?_⟩⟩
    have e2 : (T ++ [[]]).map dO' = T.map dO' ++ [.ol []] := by rw [List.map_append]; rfl
    have e3 : (T.map dO').set z (.rf r) ++ [.ol []] = (T.map dO' ++ [D.ol []]).set z (.rf r) := (List.set_append_left _ _ (by omega)).symm
    rw [e3, ← e2]
    have := fin76 (g := [x0, .int ts.length, .int m, .ol (((T ++ [[]]).map dO').set z (.rf r)), .int z, .ol (R.map D.int), .int d, .int 6]) (r := r) (z := z) (R' := R) (U := T ++ [[]]) rfl rfl (by rw [List.length_append]; omega)
    rw [this]
    congr 4
    have e4 : (T ++ [[]])[z]? = some R := by rw [List.getElem?_append_left zl]; exact hR
    obtain ⟨h1, h2⟩ := List.getElem?_eq_some_iff.mp e4
    rw [← h2, List.set_getElem_self]
end Lw
end

noncomputable section
namespace Lw
open DL L2 TL Mp
variable {p : Nat} {ts : List (Int × Int)} {T U : List (List Int)}
theorem deed76 {x2 x3 x5 : D} (hl : ts.length ≤ 30) (hU : ¬ Turns p ts U) (sm : Small76 U) {k : Int} (k0 : 0 ≤ k) (k1 : k < 3) :
    f_law_good_v12_l2 [.int p, .ls (ts.map dP), x2, x3, .ob 14 [.int p, .ls (ts.map dP)], x5, .ls (U.map dR), .int k, .un] = .nx [.int p, .ls (ts.map dP), x2, x3, .ob 14 [.int p, .ls (ts.map dP)], x5, .ls (U.map dR), .int k, .un] := by
  have rf := ref76_no hl hU k0 k1
  have lm : lim = 1000000 := lim_eq
  have lc1 : lcL (gtN 8) tYesG f_law_good_v12_c1 [.int p, .ls (ts.map dP), x2, x3, .ob 14 [.int p, .ls (ts.map dP)], x5, .ls (U.map dR), .int k, .un] (U.map dR) = .ok (U.map dO') := lc_rows fun R hR => by
    have : R.length ≤ lim := by have := sm.2 R hR; omega
    simp [f_law_good_v12_c1, dR, dO', this]
  have bT : (U.map dR).length ≤ lim := by rw [List.length_map]; have := sm.1; omega
  obtain ⟨f1, f2⟩ := fO U
  generalize U.map dO' = TO at *
  generalize U.map dR = TT at *
  generalize ts.map dP = PP at *
  have q : cEq (.str "turns") (.str "turns") = some true := rfl
  simp [f_law_good_v12_l2, lc1, bT, f1, f2, rf, cNe, cEq]
theorem deeds76 {x2 x3 x5 x7 : D} (hl : ts.length ≤ 30) (hU : ¬ Turns p ts U) (sm : Small76 U) :
    sFor (iRg1 (aCons (eC (.int 3)) (aNil))) (gtN 7) f_law_good_v12_l2 [.int p, .ls (ts.map dP), x2, x3, .ob 14 [.int p, .ls (ts.map dP)], x5, .ls (U.map dR), x7, .un] = .nx [.int p, .ls (ts.map dP), x2, x3, .ob 14 [.int p, .ls (ts.map dP)], x5, .ls (U.map dR), .int 2, .un] := by
  have hr : rgOk 3 := rgOk_of (by omega) (by omega)
  have r3 : rng 0 3 = [.int 0, .int 1, .int 2] := rfl
  have d0 := deed76 (x2 := x2) (x3 := x3) (x5 := x5) hl hU sm (k := 0) (by omega) (by omega)
  have d1 := deed76 (x2 := x2) (x3 := x3) (x5 := x5) hl hU sm (k := 1) (by omega) (by omega)
  have d2 := deed76 (x2 := x2) (x3 := x3) (x5 := x5) hl hU sm (k := 2) (by omega) (by omega)
  generalize U.map dR = TT at *
  generalize ts.map dP = PP at *
  simp [hr, r3, forL, d0, d1, d2]
theorem turn76 (p1 : 1 ≤ p) (p2 : p ≤ 100) (hl : ts.length ≤ 30) (hT : Turns p ts T) (m : Int) (x5 x6 x7 : D) : ∃ z6 z7 : D, f_law_good_v12_l3 [.int p, .ls (ts.map dP), .ls (T.map dR), .int m, .ob 14 [.int p, .ls (ts.map dP)], x5, x6, x7, .un] = .nx [.int p, .ls (ts.map dP), .ls (T.map dR), .int (mxF m 52), .ob 14 [.int p, .ls (ts.map dP)], x5, z6, z7, .un] := by
  have mx := mx_ok m 52 (by omega) (by omega)
  obtain ⟨U, hU, sm, sp⟩ := spoil76 p1 p2 (by omega) hT (mxF m 52)
  have ds := deeds76 (x2 := .ls (T.map dR)) (x3 := .int (mxF m 52)) (x5 := x5) (x7 := x7) hl hU sm
  refine ⟨.ls (U.map dR), .int 2, ?_⟩
  obtain ⟨f1, f2⟩ := fO U
  obtain ⟨bT, f3, _, n3, _, _⟩ := dulls dull_R T
  have lp : (ts.map dP).length = ts.length := List.length_map ..
  generalize mxF m 52 = m2 at *
  generalize U.map dO' = TO at *
  generalize U.map dR = TU at *
  generalize T.map dR = TT at *
  generalize ts.map dP = PP at *
  unfold f_law_good_v12_l3
  refine seq_to (g1 := [.int p, .ls PP, .ls TT, .int m2, .ob 14 [.int p, .ls PP], x5, x6, x7, .un]) (by simp [mx]) (seq_to (g1 := [.int p, .ls PP, .ls TT, .int m2, .ob 14 [.int p, .ls PP], x5, .ls TU, x7, .un]) ?_ ds)
  simp [lp, sp, f1, f2, f3, n3, bT]
theorem turns76 (p1 : 1 ≤ p) (p2 : p ≤ 100) (hl : ts.length ≤ 30) (hT : Turns p ts T) : ∀ (L : List D) (m : Int) (x5 x6 x7 : D), ∃ (m' : Int) (z5 z6 z7 : D), forL (gtN 5) f_law_good_v12_l3 L [.int p, .ls (ts.map dP), .ls (T.map dR), .int m, .ob 14 [.int p, .ls (ts.map dP)], x5, x6, x7, .un] = .nx [.int p, .ls (ts.map dP), .ls (T.map dR), .int m', .ob 14 [.int p, .ls (ts.map dP)], z5, z6, z7, .un]
  | [], m, x5, x6, x7 => ⟨m, x5, x6, x7, rfl⟩
  | d :: L, m, x5, x6, x7 => by
    obtain ⟨y6, y7, h⟩ := turn76 p1 p2 hl hT m d x6 x7
    obtain ⟨m', z5, z6, z7, ih⟩ := turns76 p1 p2 hl hT L (mxF m 52) d y6 y7
    refine ⟨m', z5, z6, z7, ?_⟩
    rw [← ih]
    exact forL_step (g1 := [.int p, .ls (ts.map dP), .ls (T.map dR), .int m, .ob 14 [.int p, .ls (ts.map dP)], d, x6, x7, .un]) rfl h
theorem good76 (hT : Turns p ts T) (p1 : 1 ≤ p) (p2 : p ≤ 14) (hl : ts.length ≤ 30) (hE : EndsOk p ts) (m : Int) : g_law_good_v12 [.int p, .ls (ts.map dP), .ls (T.map dR), .int m] = .ok (.bl true) := by
  have ei := web_init_ok p ts (by omega) (by omega) (by omega) hE
  have rk := ref76_ok hl hT
  obtain ⟨m', z5, z6, z7, lp⟩ := turns76 p1 (by omega) hl hT (rng 0 8) m .un .un .un
  have hr : rgOk 8 := rgOk_of (by omega) (by omega)
  obtain ⟨_, fP, _, nP, _, _⟩ := dulls dull_P ts
  obtain ⟨bT, f3, _, n3, _, _⟩ := dulls dull_R T
  generalize T.map dR = TT at *
  generalize ts.map dP = PP at *
  simp [g_law_good_v12, runF, f_law_good_v12, ei, rk, hr, lp, cNe, cEq, fP, nP, bT, f3, n3]
theorem true_law_k76 (ns : List Int) (h : ns.length ≤ 63) : g_law_k76 [.sc (ns.map D.int)] = .ok (.bl true) := by
  obtain ⟨p, ts, T, c0, c3, p1, p2, t1, hE, hT, e0, hp, e3, et, em, ea⟩ := any_web ns h
  obtain ⟨q, us, U, hF, q2, u1, eM⟩ := map_ok ns h
  have g1 := fun m => good76 hT p1 (by omega) (by omega) hE m
  have g2 := fun m => good76 hF.turns hF.p1 (by omega) (by omega) hF.ends m
  obtain ⟨b1, f1, _, n1, _, _⟩ := dulls dull_R T
  obtain ⟨b2, f2, _, n2, _, _⟩ := dulls dull_R U
  generalize mxF (c3 % e60 + (ns.length : Int)) 51 = m at *
  simp only [dM3] at eM
  simp [g_law_k76, runF, f_law_k76, e0, hp, et, e3, em, ea, g1, eM, g2, f1, n1, f2, n2, -List.map_map]
end Lw
end

namespace Lw
open PySem L2 DL
def top (i : Nat) : Stmt := PySem.Challenge.pw_spanrow_k76_turns_refused.main.body.getD i (.Pass ⟨0, 0, 0, 0⟩)
abbrev s_Web_init : Stmt := inClass (top 9) 0
abbrev s_made_set : Stmt := top 10
abbrev s_marks_over : Stmt := top 11
abbrev s_is_joined : Stmt := top 12
abbrev s_place_from : Stmt := top 14
abbrev s_look_at_turns : Stmt := top 15
abbrev s_darts_behind : Stmt := top 16
abbrev s_rounds_of : Stmt := top 17
abbrev s_lies_flat : Stmt := top 18
abbrev s_other_web : Stmt := top 19
abbrev s_law_at : Stmt := top 21
abbrev s_law_mixed_v2 : Stmt := top 22
abbrev s_law_ties_v2 : Stmt := top 23
abbrev s_law_amounts : Stmt := top 24
abbrev s_law_behind_v2 : Stmt := top 25
abbrev s_law_put : Stmt := top 27
abbrev s_law_corner : Stmt := top 28
abbrev s_law_grown_v3 : Stmt := top 29
abbrev s_law_map : Stmt := top 30
abbrev s_law_any_turns : Stmt := top 31
abbrev s_law_refused_v12 : Stmt := top 32
abbrev s_law_spoilt_v5 : Stmt := top 33
abbrev s_law_good_v12 : Stmt := top 34
abbrev s_law_k76 : Stmt := top 35
abbrev N_Web_init : List Str := ["self", "places", "ties", "one", "other"]
abbrev N_made_set : List Str := ["web", "ties", "ahead", "tie"]
abbrev N_marks_over : List Str := ["web", "ties", "marks", "tie", "one", "other", "low", "high", "mark"]
abbrev N_is_joined : List Str := ["web", "ties"]
abbrev N_place_from : List Str := ["web", "dart"]
abbrev N_look_at_turns : List Str := ["web", "turns", "met", "place", "row", "dart"]
abbrev N_darts_behind : List Str := ["turns", "told", "row", "k", "dart"]
abbrev N_rounds_of : List Str := ["web", "turns", "behind", "met", "told", "dart", "row", "at"]
abbrev N_lies_flat : List Str := ["web", "turns", "rounds", "everything"]
abbrev N_other_web : List Str := ["web", "turns", "rounds", "place", "k", "row", "dart", "tie"]
abbrev N_law_at : List Str := ["script", "k"]
abbrev N_law_mixed_v2 : List Str := ["cell", "k", "big"]
abbrev N_law_ties_v2 : List Str := ["script", "count", "most", "told", "rest", "amount", "k", "digit", "cell", "m", "at"]
abbrev N_law_amounts : List Str := ["script", "head", "told", "rest", "k", "cell", "at", "m"]
abbrev N_law_behind_v2 : List Str := ["turns", "told", "row", "k", "dart"]
abbrev N_law_put : List Str := ["turns", "one", "other", "darts", "told", "row", "made", "dart"]
abbrev N_law_corner : List Str := ["turns", "m", "rows", "row"]
abbrev N_law_grown_v3 : List Str := ["count", "ties", "turns", "m", "number", "darts", "fresh", "place", "k", "row", "dart", "one", "ends", "other", "behind_it", "step"]
abbrev N_law_map : List Str := ["script", "count", "ties", "turns", "m"]
abbrev N_law_any_turns : List Str := ["count", "ties", "m", "told", "place", "darts", "tie", "pair", "row"]
abbrev N_law_refused_v12 : List Str := ["deed", "web", "turns", "kinds", "e"]
abbrev N_law_spoilt_v5 : List Str := ["turns", "size", "m", "told", "at", "row", "odd", "way"]
abbrev N_law_good_v12 : List Str := ["count", "ties", "turns", "m", "web", "turn", "spoilt", "deed", "row"]
abbrev N_law_k76 : List Str := ["script", "m", "count", "ties", "turns"]
theorem sc_Web_init : FnScope ["self", "places", "ties", "one", "other"] ["self", "places", "ties"] (defScope s_Web_init) := ⟨rfl, rfl, rfl, by decide +kernel, rfl, by decide +kernel, by decide +kernel⟩
theorem sc_made_set : FnScope ["web", "ties", "ahead", "tie"] ["web", "ties"] (defScope s_made_set) := ⟨rfl, rfl, rfl, by decide +kernel, rfl, by decide +kernel, by decide +kernel⟩
theorem sc_marks_over : FnScope ["web", "ties", "marks", "tie", "one", "other", "low", "high", "mark"] ["web", "ties"] (defScope s_marks_over) := ⟨rfl, rfl, rfl, by decide +kernel, rfl, by decide +kernel, by decide +kernel⟩
theorem sc_is_joined : FnScope ["web", "ties"] ["web", "ties"] (defScope s_is_joined) := ⟨rfl, rfl, rfl, by decide +kernel, rfl, by decide +kernel, by decide +kernel⟩
theorem sc_place_from : FnScope ["web", "dart"] ["web", "dart"] (defScope s_place_from) := ⟨rfl, rfl, rfl, by decide +kernel, rfl, by decide +kernel, by decide +kernel⟩
theorem sc_look_at_turns : FnScope ["web", "turns", "met", "place", "row", "dart"] ["web", "turns"] (defScope s_look_at_turns) := ⟨rfl, rfl, rfl, by decide +kernel, rfl, by decide +kernel, by decide +kernel⟩
theorem sc_darts_behind : FnScope ["turns", "told", "row", "k", "dart"] ["turns"] (defScope s_darts_behind) := ⟨rfl, rfl, rfl, by decide +kernel, rfl, by decide +kernel, by decide +kernel⟩
theorem sc_rounds_of : FnScope ["web", "turns", "behind", "met", "told", "dart", "row", "at"] ["web", "turns"] (defScope s_rounds_of) := ⟨rfl, rfl, rfl, by decide +kernel, rfl, by decide +kernel, by decide +kernel⟩
theorem sc_lies_flat : FnScope ["web", "turns", "rounds", "everything"] ["web", "turns"] (defScope s_lies_flat) := ⟨rfl, rfl, rfl, by decide +kernel, rfl, by decide +kernel, by decide +kernel⟩
theorem sc_other_web : FnScope ["web", "turns", "rounds", "place", "k", "row", "dart", "tie"] ["web", "turns"] (defScope s_other_web) := ⟨rfl, rfl, rfl, by decide +kernel, rfl, by decide +kernel, by decide +kernel⟩
theorem sc_law_at : FnScope ["script", "k"] ["script", "k"] (defScope s_law_at) := ⟨rfl, rfl, rfl, by decide +kernel, rfl, by decide +kernel, by decide +kernel⟩
theorem sc_law_mixed_v2 : FnScope ["cell", "k", "big"] ["cell", "k"] (defScope s_law_mixed_v2) := ⟨rfl, rfl, rfl, by decide +kernel, rfl, by decide +kernel, by decide +kernel⟩
theorem sc_law_ties_v2 : FnScope ["script", "count", "most", "told", "rest", "amount", "k", "digit", "cell", "m", "at"] ["script", "count", "most"] (defScope s_law_ties_v2) := ⟨rfl, rfl, rfl, by decide +kernel, rfl, by decide +kernel, by decide +kernel⟩
theorem sc_law_amounts : FnScope ["script", "head", "told", "rest", "k", "cell", "at", "m"] ["script"] (defScope s_law_amounts) := ⟨rfl, rfl, rfl, by decide +kernel, rfl, by decide +kernel, by decide +kernel⟩
theorem sc_law_behind_v2 : FnScope ["turns", "told", "row", "k", "dart"] ["turns"] (defScope s_law_behind_v2) := ⟨rfl, rfl, rfl, by decide +kernel, rfl, by decide +kernel, by decide +kernel⟩
theorem sc_law_put : FnScope ["turns", "one", "other", "darts", "told", "row", "made", "dart"] ["turns", "one", "other", "darts"] (defScope s_law_put) := ⟨rfl, rfl, rfl, by decide +kernel, rfl, by decide +kernel, by decide +kernel⟩
theorem sc_law_corner : FnScope ["turns", "m", "rows", "row"] ["turns", "m"] (defScope s_law_corner) := ⟨rfl, rfl, rfl, by decide +kernel, rfl, by decide +kernel, by decide +kernel⟩
theorem sc_law_grown_v3 : FnScope ["count", "ties", "turns", "m", "number", "darts", "fresh", "place", "k", "row", "dart", "one", "ends", "other", "behind_it", "step"] ["count", "ties", "turns", "m"] (defScope s_law_grown_v3) := ⟨rfl, rfl, rfl, by decide +kernel, rfl, by decide +kernel, by decide +kernel⟩
theorem sc_law_map : FnScope ["script", "count", "ties", "turns", "m"] ["script"] (defScope s_law_map) := ⟨rfl, rfl, rfl, by decide +kernel, rfl, by decide +kernel, by decide +kernel⟩
theorem sc_law_any_turns : FnScope ["count", "ties", "m", "told", "place", "darts", "tie", "pair", "row"] ["count", "ties", "m"] (defScope s_law_any_turns) := ⟨rfl, rfl, rfl, by decide +kernel, rfl, by decide +kernel, by decide +kernel⟩
theorem sc_law_refused_v12 : FnScope ["deed", "web", "turns", "kinds", "e"] ["deed", "web", "turns"] (defScope s_law_refused_v12) := ⟨rfl, rfl, rfl, by decide +kernel, rfl, by decide +kernel, by decide +kernel⟩
theorem sc_law_spoilt_v5 : FnScope ["turns", "size", "m", "told", "at", "row", "odd", "way"] ["turns", "size", "m"] (defScope s_law_spoilt_v5) := ⟨rfl, rfl, rfl, by decide +kernel, rfl, by decide +kernel, by decide +kernel⟩
theorem sc_law_good_v12 : FnScope ["count", "ties", "turns", "m", "web", "turn", "spoilt", "deed", "row"] ["count", "ties", "turns", "m"] (defScope s_law_good_v12) := ⟨rfl, rfl, rfl, by decide +kernel, rfl, by decide +kernel, by decide +kernel⟩
theorem sc_law_k76 : FnScope ["script", "m", "count", "ties", "turns"] ["script"] (defScope s_law_k76) := ⟨rfl, rfl, rfl, by decide +kernel, rfl, by decide +kernel, by decide +kernel⟩
set_option genInjectivity false in
set_option genSizeOfSpec false in
set_option maxHeartbeats 8000000 in
structure Tx (K : PySem.W.Frag) (mg : Str → Option Value) : Type where
  C_WebError : Addr
  C_BadWeb : Addr
  C_BadSet : Addr
  C_BadTurns : Addr
  C_NotFlat : Addr
  C_Web : Addr
  a_Web_init : Addr
  d_Web_init : FuncData
  a_made_set : Addr
  d_made_set : FuncData
  a_marks_over : Addr
  d_marks_over : FuncData
  a_is_joined : Addr
  d_is_joined : FuncData
  a_place_from : Addr
  d_place_from : FuncData
  a_look_at_turns : Addr
  d_look_at_turns : FuncData
  a_darts_behind : Addr
  d_darts_behind : FuncData
  a_rounds_of : Addr
  d_rounds_of : FuncData
  a_lies_flat : Addr
  d_lies_flat : FuncData
  a_other_web : Addr
  d_other_web : FuncData
  a_law_at : Addr
  d_law_at : FuncData
  a_law_mixed_v2 : Addr
  d_law_mixed_v2 : FuncData
  a_law_ties_v2 : Addr
  d_law_ties_v2 : FuncData
  a_law_amounts : Addr
  d_law_amounts : FuncData
  a_law_behind_v2 : Addr
  d_law_behind_v2 : FuncData
  a_law_put : Addr
  d_law_put : FuncData
  a_law_corner : Addr
  d_law_corner : FuncData
  a_law_grown_v3 : Addr
  d_law_grown_v3 : FuncData
  a_law_map : Addr
  d_law_map : FuncData
  a_law_any_turns : Addr
  d_law_any_turns : FuncData
  a_law_refused_v12 : Addr
  d_law_refused_v12 : FuncData
  a_law_spoilt_v5 : Addr
  d_law_spoilt_v5 : FuncData
  a_law_good_v12 : Addr
  d_law_good_v12 : FuncData
  a_law_k76 : Addr
  d_law_k76 : FuncData
  t_MOST_PLACES : Tok
  t_MOST_TIES : Tok
  m_WebError : mg "WebError" = some (.ref C_WebError)
  x_WebError : PySem.W.excIn K C_WebError [.type "ValueError", .type "Exception", .type "BaseException", .type "object"] "ValueError.__new__" = true
  kx_WebError : PySem.W.keepIn K (.ref C_WebError) = true
  bx_WebError : PySem.W.subIn K (.ref C_WebError) (.type "BaseException") = some true
  tx_WebError : PySem.W.typeIn K (.ref C_WebError) = some (.type "type")
  m_BadWeb : mg "BadWeb" = some (.ref C_BadWeb)
  x_BadWeb : PySem.W.excIn K C_BadWeb [.type "ValueError", .type "Exception", .type "BaseException", .type "object"] "ValueError.__new__" = true
  kx_BadWeb : PySem.W.keepIn K (.ref C_BadWeb) = true
  bx_BadWeb : PySem.W.subIn K (.ref C_BadWeb) (.type "BaseException") = some true
  tx_BadWeb : PySem.W.typeIn K (.ref C_BadWeb) = some (.type "type")
  m_BadSet : mg "BadSet" = some (.ref C_BadSet)
  x_BadSet : PySem.W.excIn K C_BadSet [.type "ValueError", .type "Exception", .type "BaseException", .type "object"] "ValueError.__new__" = true
  kx_BadSet : PySem.W.keepIn K (.ref C_BadSet) = true
  bx_BadSet : PySem.W.subIn K (.ref C_BadSet) (.type "BaseException") = some true
  tx_BadSet : PySem.W.typeIn K (.ref C_BadSet) = some (.type "type")
  m_BadTurns : mg "BadTurns" = some (.ref C_BadTurns)
  x_BadTurns : PySem.W.excIn K C_BadTurns [.type "ValueError", .type "Exception", .type "BaseException", .type "object"] "ValueError.__new__" = true
  kx_BadTurns : PySem.W.keepIn K (.ref C_BadTurns) = true
  bx_BadTurns : PySem.W.subIn K (.ref C_BadTurns) (.type "BaseException") = some true
  tx_BadTurns : PySem.W.typeIn K (.ref C_BadTurns) = some (.type "type")
  m_NotFlat : mg "NotFlat" = some (.ref C_NotFlat)
  x_NotFlat : PySem.W.excIn K C_NotFlat [.type "ValueError", .type "Exception", .type "BaseException", .type "object"] "ValueError.__new__" = true
  kx_NotFlat : PySem.W.keepIn K (.ref C_NotFlat) = true
  bx_NotFlat : PySem.W.subIn K (.ref C_NotFlat) (.type "BaseException") = some true
  tx_NotFlat : PySem.W.typeIn K (.ref C_NotFlat) = some (.type "type")
  ct_BadWeb_WebError : PySem.W.exmOne K (.ref C_BadWeb) (.ref C_WebError) = some true
  ct_BadSet_WebError : PySem.W.exmOne K (.ref C_BadSet) (.ref C_WebError) = some true
  ct_BadTurns_WebError : PySem.W.exmOne K (.ref C_BadTurns) (.ref C_WebError) = some true
  ct_NotFlat_WebError : PySem.W.exmOne K (.ref C_NotFlat) (.ref C_WebError) = some true
  xc_BadWeb : ExcC K C_BadWeb
  xc_BadSet : ExcC K C_BadSet
  xc_BadTurns : ExcC K C_BadTurns
  xc_NotFlat : ExcC K C_NotFlat
  is_BadWeb_ValueError : PySem.W.kitOne K (.ref C_BadWeb) (.type "ValueError") = some true
  is_BadSet_ValueError : PySem.W.kitOne K (.ref C_BadSet) (.type "ValueError") = some true
  is_BadTurns_ValueError : PySem.W.kitOne K (.ref C_BadTurns) (.type "ValueError") = some true
  is_NotFlat_ValueError : PySem.W.kitOne K (.ref C_NotFlat) (.type "ValueError") = some true
  is_BadWeb_BadTurns : PySem.W.kitOne K (.ref C_BadWeb) (.ref C_BadTurns) = some false
  is_BadSet_BadTurns : PySem.W.kitOne K (.ref C_BadSet) (.ref C_BadTurns) = some false
  is_BadTurns_BadTurns : PySem.W.kitOne K (.ref C_BadTurns) (.ref C_BadTurns) = some true
  is_NotFlat_BadTurns : PySem.W.kitOne K (.ref C_NotFlat) (.ref C_BadTurns) = some false
  is_BadWeb_NotFlat : PySem.W.kitOne K (.ref C_BadWeb) (.ref C_NotFlat) = some false
  is_BadSet_NotFlat : PySem.W.kitOne K (.ref C_BadSet) (.ref C_NotFlat) = some false
  is_BadTurns_NotFlat : PySem.W.kitOne K (.ref C_BadTurns) (.ref C_NotFlat) = some false
  is_NotFlat_NotFlat : PySem.W.kitOne K (.ref C_NotFlat) (.ref C_NotFlat) = some true
  is_BadWeb_BadWeb : PySem.W.kitOne K (.ref C_BadWeb) (.ref C_BadWeb) = some true
  is_BadSet_BadWeb : PySem.W.kitOne K (.ref C_BadSet) (.ref C_BadWeb) = some false
  is_BadTurns_BadWeb : PySem.W.kitOne K (.ref C_BadTurns) (.ref C_BadWeb) = some false
  is_NotFlat_BadWeb : PySem.W.kitOne K (.ref C_NotFlat) (.ref C_BadWeb) = some false
  is_BadWeb_BadSet : PySem.W.kitOne K (.ref C_BadWeb) (.ref C_BadSet) = some false
  is_BadSet_BadSet : PySem.W.kitOne K (.ref C_BadSet) (.ref C_BadSet) = some true
  is_BadTurns_BadSet : PySem.W.kitOne K (.ref C_BadTurns) (.ref C_BadSet) = some false
  is_NotFlat_BadSet : PySem.W.kitOne K (.ref C_NotFlat) (.ref C_BadSet) = some false
  m_Web : mg "Web" = some (.ref C_Web)
  cl_Web : L2.Cls K C_Web
  na_Web_places : NoAttr K C_Web "places"
  na_Web_ties : NoAttr K C_Web "ties"
  mk_Web : Mk K C_Web a_Web_init
  F_Web_init : Fun K "__init__" "Web.__init__" s_Web_init a_Web_init d_Web_init
  b_Web_init : Binds K d_Web_init ["self", "places", "ties"] []
  k_Web_init : PySem.W.keepIn K (.ref a_Web_init) = true
  F_made_set : Fun K "made_set" "made_set" s_made_set a_made_set d_made_set
  b_made_set : Binds K d_made_set ["web", "ties"] []
  m_made_set : mg "made_set" = some (.ref a_made_set)
  k_made_set : PySem.W.keepIn K (.ref a_made_set) = true
  F_marks_over : Fun K "marks_over" "marks_over" s_marks_over a_marks_over d_marks_over
  b_marks_over : Binds K d_marks_over ["web", "ties"] []
  m_marks_over : mg "marks_over" = some (.ref a_marks_over)
  k_marks_over : PySem.W.keepIn K (.ref a_marks_over) = true
  F_is_joined : Fun K "is_joined" "is_joined" s_is_joined a_is_joined d_is_joined
  b_is_joined : Binds K d_is_joined ["web", "ties"] []
  m_is_joined : mg "is_joined" = some (.ref a_is_joined)
  k_is_joined : PySem.W.keepIn K (.ref a_is_joined) = true
  F_place_from : Fun K "place_from" "place_from" s_place_from a_place_from d_place_from
  b_place_from : Binds K d_place_from ["web", "dart"] []
  m_place_from : mg "place_from" = some (.ref a_place_from)
  k_place_from : PySem.W.keepIn K (.ref a_place_from) = true
  F_look_at_turns : Fun K "look_at_turns" "look_at_turns" s_look_at_turns a_look_at_turns d_look_at_turns
  b_look_at_turns : Binds K d_look_at_turns ["web", "turns"] []
  m_look_at_turns : mg "look_at_turns" = some (.ref a_look_at_turns)
  k_look_at_turns : PySem.W.keepIn K (.ref a_look_at_turns) = true
  F_darts_behind : Fun K "darts_behind" "darts_behind" s_darts_behind a_darts_behind d_darts_behind
  b_darts_behind : Binds K d_darts_behind ["turns"] []
  m_darts_behind : mg "darts_behind" = some (.ref a_darts_behind)
  k_darts_behind : PySem.W.keepIn K (.ref a_darts_behind) = true
  F_rounds_of : Fun K "rounds_of" "rounds_of" s_rounds_of a_rounds_of d_rounds_of
  b_rounds_of : Binds K d_rounds_of ["web", "turns"] []
  m_rounds_of : mg "rounds_of" = some (.ref a_rounds_of)
  k_rounds_of : PySem.W.keepIn K (.ref a_rounds_of) = true
  F_lies_flat : Fun K "lies_flat" "lies_flat" s_lies_flat a_lies_flat d_lies_flat
  b_lies_flat : Binds K d_lies_flat ["web", "turns"] []
  m_lies_flat : mg "lies_flat" = some (.ref a_lies_flat)
  k_lies_flat : PySem.W.keepIn K (.ref a_lies_flat) = true
  F_other_web : Fun K "other_web" "other_web" s_other_web a_other_web d_other_web
  b_other_web : Binds K d_other_web ["web", "turns"] []
  m_other_web : mg "other_web" = some (.ref a_other_web)
  k_other_web : PySem.W.keepIn K (.ref a_other_web) = true
  F_law_at : Fun K "_law_at" "_law_at" s_law_at a_law_at d_law_at
  b_law_at : Binds K d_law_at ["script", "k"] []
  m_law_at : mg "_law_at" = some (.ref a_law_at)
  k_law_at : PySem.W.keepIn K (.ref a_law_at) = true
  F_law_mixed_v2 : Fun K "_law_mixed" "_law_mixed" s_law_mixed_v2 a_law_mixed_v2 d_law_mixed_v2
  b_law_mixed_v2 : Binds K d_law_mixed_v2 ["cell", "k"] []
  m_law_mixed_v2 : mg "_law_mixed" = some (.ref a_law_mixed_v2)
  k_law_mixed_v2 : PySem.W.keepIn K (.ref a_law_mixed_v2) = true
  F_law_ties_v2 : Fun K "_law_ties" "_law_ties" s_law_ties_v2 a_law_ties_v2 d_law_ties_v2
  b_law_ties_v2 : Binds K d_law_ties_v2 ["script", "count", "most"] []
  m_law_ties_v2 : mg "_law_ties" = some (.ref a_law_ties_v2)
  k_law_ties_v2 : PySem.W.keepIn K (.ref a_law_ties_v2) = true
  F_law_amounts : Fun K "_law_amounts" "_law_amounts" s_law_amounts a_law_amounts d_law_amounts
  b_law_amounts : Binds K d_law_amounts ["script"] []
  m_law_amounts : mg "_law_amounts" = some (.ref a_law_amounts)
  k_law_amounts : PySem.W.keepIn K (.ref a_law_amounts) = true
  F_law_behind_v2 : Fun K "_law_behind" "_law_behind" s_law_behind_v2 a_law_behind_v2 d_law_behind_v2
  b_law_behind_v2 : Binds K d_law_behind_v2 ["turns"] []
  m_law_behind_v2 : mg "_law_behind" = some (.ref a_law_behind_v2)
  k_law_behind_v2 : PySem.W.keepIn K (.ref a_law_behind_v2) = true
  F_law_put : Fun K "_law_put" "_law_put" s_law_put a_law_put d_law_put
  b_law_put : Binds K d_law_put ["turns", "one", "other", "darts"] []
  m_law_put : mg "_law_put" = some (.ref a_law_put)
  k_law_put : PySem.W.keepIn K (.ref a_law_put) = true
  F_law_corner : Fun K "_law_corner" "_law_corner" s_law_corner a_law_corner d_law_corner
  b_law_corner : Binds K d_law_corner ["turns", "m"] []
  m_law_corner : mg "_law_corner" = some (.ref a_law_corner)
  k_law_corner : PySem.W.keepIn K (.ref a_law_corner) = true
  F_law_grown_v3 : Fun K "_law_grown" "_law_grown" s_law_grown_v3 a_law_grown_v3 d_law_grown_v3
  b_law_grown_v3 : Binds K d_law_grown_v3 ["count", "ties", "turns", "m"] []
  m_law_grown_v3 : mg "_law_grown" = some (.ref a_law_grown_v3)
  k_law_grown_v3 : PySem.W.keepIn K (.ref a_law_grown_v3) = true
  F_law_map : Fun K "_law_map" "_law_map" s_law_map a_law_map d_law_map
  b_law_map : Binds K d_law_map ["script"] []
  m_law_map : mg "_law_map" = some (.ref a_law_map)
  k_law_map : PySem.W.keepIn K (.ref a_law_map) = true
  F_law_any_turns : Fun K "_law_any_turns" "_law_any_turns" s_law_any_turns a_law_any_turns d_law_any_turns
  b_law_any_turns : Binds K d_law_any_turns ["count", "ties", "m"] []
  m_law_any_turns : mg "_law_any_turns" = some (.ref a_law_any_turns)
  k_law_any_turns : PySem.W.keepIn K (.ref a_law_any_turns) = true
  F_law_refused_v12 : Fun K "_law_refused" "_law_refused" s_law_refused_v12 a_law_refused_v12 d_law_refused_v12
  b_law_refused_v12 : Binds K d_law_refused_v12 ["deed", "web", "turns"] []
  m_law_refused_v12 : mg "_law_refused" = some (.ref a_law_refused_v12)
  k_law_refused_v12 : PySem.W.keepIn K (.ref a_law_refused_v12) = true
  F_law_spoilt_v5 : Fun K "_law_spoilt" "_law_spoilt" s_law_spoilt_v5 a_law_spoilt_v5 d_law_spoilt_v5
  b_law_spoilt_v5 : Binds K d_law_spoilt_v5 ["turns", "size", "m"] []
  m_law_spoilt_v5 : mg "_law_spoilt" = some (.ref a_law_spoilt_v5)
  k_law_spoilt_v5 : PySem.W.keepIn K (.ref a_law_spoilt_v5) = true
  F_law_good_v12 : Fun K "_law_good" "_law_good" s_law_good_v12 a_law_good_v12 d_law_good_v12
  b_law_good_v12 : Binds K d_law_good_v12 ["count", "ties", "turns", "m"] []
  m_law_good_v12 : mg "_law_good" = some (.ref a_law_good_v12)
  k_law_good_v12 : PySem.W.keepIn K (.ref a_law_good_v12) = true
  F_law_k76 : Fun K "law" "law" s_law_k76 a_law_k76 d_law_k76
  b_law_k76 : Binds K d_law_k76 ["script"] []
  m_law_k76 : mg "law" = some (.ref a_law_k76)
  k_law_k76 : PySem.W.keepIn K (.ref a_law_k76) = true
  v_MOST_PLACES : mg "MOST_PLACES" = some (.int 14 t_MOST_PLACES)
  v_MOST_TIES : mg "MOST_TIES" = some (.int 30 t_MOST_TIES)
  z_ValueError : mg "ValueError" = none
  z_enumerate : mg "enumerate" = none
  z_int : mg "int" = none
  z_isinstance : mg "isinstance" = none
  z_len : mg "len" = none
  z_list : mg "list" = none
  z_max : mg "max" = none
  z_min : mg "min" = none
  z_range : mg "range" = none
  z_set : mg "set" = none
  z_tuple : mg "tuple" = none
section
variable {P : Program} {w : World} {K : PySem.W.Frag} {mg : Str → Option Value} {base : Heap}
def Tx.cls (T : Tx K mg) : DL.Cls := fun c => ([some (T.C_WebError, []), some (T.C_BadWeb, []), some (T.C_BadSet, []), none, none, none, none, none, none, none, some (T.C_BadTurns, []), some (T.C_NotFlat, []), none, none, some (T.C_Web, ["places", "ties"]), none, none] : List (Option (Addr × List Str))).getD c none
theorem Tx.e_WebError (T : Tx K mg) : ExOk K mg T.cls 0 "WebError" T.C_WebError := ⟨rfl, T.m_WebError, T.x_WebError, T.kx_WebError, T.bx_WebError, T.tx_WebError⟩
theorem Tx.e_BadWeb (T : Tx K mg) : ExOk K mg T.cls 1 "BadWeb" T.C_BadWeb := ⟨rfl, T.m_BadWeb, T.x_BadWeb, T.kx_BadWeb, T.bx_BadWeb, T.tx_BadWeb⟩
theorem Tx.e_BadSet (T : Tx K mg) : ExOk K mg T.cls 2 "BadSet" T.C_BadSet := ⟨rfl, T.m_BadSet, T.x_BadSet, T.kx_BadSet, T.bx_BadSet, T.tx_BadSet⟩
theorem Tx.e_BadTurns (T : Tx K mg) : ExOk K mg T.cls 10 "BadTurns" T.C_BadTurns := ⟨rfl, T.m_BadTurns, T.x_BadTurns, T.kx_BadTurns, T.bx_BadTurns, T.tx_BadTurns⟩
theorem Tx.e_NotFlat (T : Tx K mg) : ExOk K mg T.cls 11 "NotFlat" T.C_NotFlat := ⟨rfl, T.m_NotFlat, T.x_NotFlat, T.kx_NotFlat, T.bx_NotFlat, T.tx_NotFlat⟩
theorem Tx.o_Web (T : Tx K mg) : ClsOk K T.cls 14 T.C_Web ["places", "ties"] := ⟨rfl, by decide +kernel, T.cl_Web, fun f h => (by simp at h; rcases h with rfl | rfl <;> first | exact T.na_Web_places | exact T.na_Web_ties)⟩
set_option maxHeartbeats 4000000 in
theorem ok_Web_init (T : Tx K mg) : FnOk P w K mg base (L2.CX P w) 1 T.a_Web_init T.d_Web_init ["self", "places", "ties"] (spI K T.cls 14 2 g_Web_init) :=
  fnI_ok T.F_Web_init sc_Web_init rfl (fun cdv A outer s H E c => jss_cons (js_if (jt_w (jw_or (jt_not (jt_chain op_le op_le ok_le ok_le (je_int) (je_var 1) (je_gint T.v_MOST_PLACES))) (jw_or1 (jt_cmp op_gt ok_gt (je_callB call_len ok_len T.z_len (by decide +kernel) (ja_cons (je_var 2) (ja_nil))) (je_gint T.v_MOST_TIES) (nomark _))))) (jss_one (js_raise c T.e_BadWeb)) (jss_nil)) (jss_cons (js_for c (ji_seq (je_var 2)) (jg_tup c.calm (jgs_cons (jg_name (i := 3) c.nd rfl (by first | exact Or.inl rfl | exact Or.inr rfl)) (jgs_cons (jg_name (i := 4) c.nd rfl (by first | exact Or.inl rfl | exact Or.inr rfl)) (jgs_nil)))) (jss_one (js_if (jt_w (jw_or (jt_not (jt_chain op_le op_lt ok_le ok_lt (je_int) (je_var 3) (je_var 1))) (jw_or1 (jt_not (jt_chain op_le op_lt ok_le ok_lt (je_int) (je_var 4) (je_var 1)))))) (jss_one (js_raise c T.e_BadWeb)) (jss_nil)))) (jss_cons (js_fld (i := 0) T.o_Web (j := 0) rfl (by decide) rfl (by first | exact Or.inl rfl | exact Or.inr (Or.inl rfl) | exact Or.inr (Or.inr rfl)) (je_var 1)) (jss_one (js_fld (i := 0) T.o_Web (j := 1) rfl (by decide) rfl (by first | exact Or.inl rfl | exact Or.inr (Or.inl rfl) | exact Or.inr (Or.inr rfl)) (je_callTy call_list_of ok_list T.z_list (by decide +kernel) (ja_cons (je_var 2) (ja_nil)))))))) (mirI_ok)
set_option maxHeartbeats 4000000 in
theorem ok_made_set (T : Tx K mg) : FnOk P w K mg base (L2.CX P w) 1 T.a_made_set T.d_made_set ["web", "ties"] (spD K T.cls 2 g_made_set) :=
  fnD_ok T.F_made_set sc_made_set rfl (fun cdv A outer s H E c => jss_cons (js_setF (i := 2) c rfl (by first | exact Or.inl rfl | exact Or.inr rfl) (je_un un_neg ok_neg (je_int))) (jss_cons (js_for c (ji_seq (je_var 1)) (jg_name (i := 3) c.nd rfl (by first | exact Or.inl rfl | exact Or.inr rfl)) (jss_cons (js_if (jt_w (jw_or (jt_cmp op_le ok_le (je_var 3) (je_var 2) (nomark _)) (jw_or1 (jt_cmp op_ge ok_ge (je_var 3) (je_callB call_len ok_len T.z_len (by decide +kernel) (ja_cons (je_fld T.o_Web (i := 1) rfl (je_var 0)) (ja_nil))) (nomark _))))) (jss_one (js_raise c T.e_BadSet)) (jss_nil)) (jss_one (js_setF (i := 2) c rfl (by first | exact Or.inl rfl | exact Or.inr rfl) (je_var 3))))) (jss_one (js_ret (je_callTy call_tuple_of ok_tuple T.z_tuple (by decide +kernel) (ja_cons (je_var 1) (ja_nil))))))) (fun _ _ => .inr rfl)
set_option maxHeartbeats 4000000 in
theorem ok_marks_over (T : Tx K mg) : FnOk P w K mg base (L2.CX P w) 1 T.a_marks_over T.d_marks_over ["web", "ties"] (spD K T.cls 2 g_marks_over) :=
  fnD_ok T.F_marks_over sc_marks_over rfl (fun cdv A outer s H E c => jss_cons (js_setF (i := 2) c rfl (by first | exact Or.inl rfl | exact Or.inr rfl) (je_lr1 c T.z_list T.z_range (je_fld T.o_Web (i := 0) rfl (je_var 0)))) (jss_cons (js_for c (ji_seq (je_var 1)) (jg_name (i := 3) c.nd rfl (by first | exact Or.inl rfl | exact Or.inr rfl)) (jss_cons (js_asgT (je_ix (je_fld T.o_Web (i := 1) rfl (je_var 0)) (je_var 3)) (jg_tup c.calm (jgs_cons (jg_name (i := 4) c.nd rfl (by first | exact Or.inl rfl | exact Or.inr rfl)) (jgs_cons (jg_name (i := 5) c.nd rfl (by first | exact Or.inl rfl | exact Or.inr rfl)) (jgs_nil))))) (jss_cons (js_setF (i := 6) c rfl (by first | exact Or.inl rfl | exact Or.inr rfl) (je_callB (call_min2 c.calm) ok_min2 T.z_min (by decide +kernel) (ja_cons (je_ix (je_var 2) (je_var 4)) (ja_cons (je_ix (je_var 2) (je_var 5)) (ja_nil))))) (jss_cons (js_setF (i := 7) c rfl (by first | exact Or.inl rfl | exact Or.inr rfl) (je_callB (call_max2 c.calm) ok_max2 T.z_max (by decide +kernel) (ja_cons (je_ix (je_var 2) (je_var 4)) (ja_cons (je_ix (je_var 2) (je_var 5)) (ja_nil))))) (jss_one (js_setLcF (i := 2) [("mark", 8)] c rfl rfl (sw_true rfl rfl rfl (by decide +kernel)) (ji_seq (je_var 2)) (blkOk_by (N := N_marks_over) (sc := defScope s_marks_over) (by decide +kernel)) (fun _ _ _ _ _ => jg_name (i := 8) c.nd rfl (by first | exact Or.inl rfl | exact Or.inr rfl)) (fun _ _ _ _ _ c => jts_nil) (fun _ _ _ _ _ c => je_if (jt_cmp (op_eq4 c.eq) ok_eq (je_var 8) (je_var 7) (nomark _)) (je_var 6) (je_var 8)) (by decide))))))) (jss_one (js_retV 2)))) (fun _ _ => .inr rfl)
set_option maxHeartbeats 4000000 in
theorem ok_is_joined (T : Tx K mg) (G_marks_over : FnOk P w K mg base (L2.CX P w) 1 T.a_marks_over T.d_marks_over ["web", "ties"] (spD K T.cls 2 g_marks_over)) (G_made_set : FnOk P w K mg base (L2.CX P w) 1 T.a_made_set T.d_made_set ["web", "ties"] (spD K T.cls 2 g_made_set)) : FnOk P w K mg base (L2.CX P w) 2 T.a_is_joined T.d_is_joined ["web", "ties"] (spD K T.cls 2 g_is_joined) :=
  fnD_ok T.F_is_joined sc_is_joined rfl (fun cdv A outer s H E c => jss_one (js_ret (je_cmp (op_eq4 c.eq) ok_eq (je_lenset c T.z_len T.z_set (je_own (c.mono (by decide)) G_marks_over T.m_marks_over T.k_marks_over T.b_marks_over (ja_cons (je_var 0) (ja_cons (je_own (c.mono (by decide)) G_made_set T.m_made_set T.k_made_set T.b_made_set (ja_cons (je_var 0) (ja_cons (je_var 1) (ja_nil))) (alS (alS (al0)))) (ja_nil))) (alS (alS (al0))))) (je_int) (nomark _)))) (fun _ _ => .inr rfl)
set_option maxHeartbeats 4000000 in
theorem ok_place_from (T : Tx K mg) : FnOk P w K mg base (L2.CX P w) 1 T.a_place_from T.d_place_from ["web", "dart"] (spD K T.cls 2 g_place_from) :=
  fnD_ok T.F_place_from sc_place_from rfl (fun cdv A outer s H E c => jss_one (js_ret (je_ix (je_ix (je_fld T.o_Web (i := 1) rfl (je_var 0)) (je_bin op_divX ok_div (je_var 1) (je_int))) (je_bin op_modX ok_mod (je_var 1) (je_int))))) (fun _ _ => .inr rfl)
set_option maxHeartbeats 4000000 in
theorem ok_look_at_turns (T : Tx K mg) (G_place_from : FnOk P w K mg base (L2.CX P w) 1 T.a_place_from T.d_place_from ["web", "dart"] (spD K T.cls 2 g_place_from)) : FnOk P w K mg base (L2.CX P w) 2 T.a_look_at_turns T.d_look_at_turns ["web", "turns"] (spD K T.cls 2 g_look_at_turns) :=
  fnD_ok T.F_look_at_turns sc_look_at_turns rfl (fun cdv A outer s H E c => jss_cons (js_if (jt_cmp (op_ne4 c.eq) ok_ne (je_callB call_len ok_len T.z_len (by decide +kernel) (ja_cons (je_var 1) (ja_nil))) (je_fld T.o_Web (i := 0) rfl (je_var 0)) (nomark _)) (jss_one (js_raise c T.e_BadTurns)) (jss_nil)) (jss_cons (js_set (i := 2) c rfl (by first | exact Or.inl rfl | exact Or.inr rfl) (je_dic)) (jss_cons (js_for c (ji_enm3 T.z_enumerate (ja_cons (je_var 1) (ja_nil))) (jg_tup c.calm (jgs_cons (jg_name (i := 3) c.nd rfl (by first | exact Or.inl rfl | exact Or.inr rfl)) (jgs_cons (jg_name (i := 4) c.nd rfl (by first | exact Or.inl rfl | exact Or.inr rfl)) (jgs_nil)))) (jss_one (js_for c (ji_seq (je_var 4)) (jg_name (i := 5) c.nd rfl (by first | exact Or.inl rfl | exact Or.inr rfl)) (jss_cons (js_if (jt_w (jw_or (jt_cmp op_lt ok_lt (je_var 5) (je_int) (nomark _)) (jw_or (jt_cmp op_ge ok_ge (je_var 5) (je_bin op_mul4 ok_mul (je_int) (je_callB call_len ok_len T.z_len (by decide +kernel) (ja_cons (je_fld T.o_Web (i := 1) rfl (je_var 0)) (ja_nil)))) (nomark _)) (jw_or (jt_cmp (op_di c.eq1) ok_di (je_var 5) (je_var 2) (by rfl)) (jw_or1 (jt_cmp (op_ne4 c.eq) ok_ne (je_own (c.mono (by decide)) G_place_from T.m_place_from T.k_place_from T.b_place_from (ja_cons (je_var 0) (ja_cons (je_var 5) (ja_nil))) (alS (alS (al0)))) (je_var 3) (nomark _))))))) (jss_one (js_raise c T.e_BadTurns)) (jss_nil)) (jss_one (js_dset (i := 2) c rfl (by first | exact Or.inl rfl | exact Or.inr (Or.inl rfl) | exact Or.inr (Or.inr rfl)) (je_var 3) (je_var 5))))))) (jss_one (js_if (jt_cmp (op_ne4 c.eq) ok_ne (je_callB call_lenD ok_lenD T.z_len (by decide +kernel) (ja_cons (je_var 2) (ja_nil))) (je_bin op_mul4 ok_mul (je_int) (je_callB call_len ok_len T.z_len (by decide +kernel) (ja_cons (je_fld T.o_Web (i := 1) rfl (je_var 0)) (ja_nil)))) (nomark _)) (jss_one (js_raise c T.e_BadTurns)) (jss_nil)))))) (fun _ _ => .inr rfl)
set_option maxHeartbeats 4000000 in
theorem ok_darts_behind (T : Tx K mg) : FnOk P w K mg base (L2.CX P w) 1 T.a_darts_behind T.d_darts_behind ["turns"] (spD K T.cls 1 g_darts_behind) :=
  fnD_ok T.F_darts_behind sc_darts_behind rfl (fun cdv A outer s H E c => jss_cons (js_set (i := 1) c rfl (by first | exact Or.inl rfl | exact Or.inr rfl) (je_dic)) (jss_cons (js_for c (ji_seq (je_var 0)) (jg_name (i := 2) c.nd rfl (by first | exact Or.inl rfl | exact Or.inr rfl)) (jss_one (js_for c (ji_enm3 T.z_enumerate (ja_cons (je_var 2) (ja_nil))) (jg_tup c.calm (jgs_cons (jg_name (i := 3) c.nd rfl (by first | exact Or.inl rfl | exact Or.inr rfl)) (jgs_cons (jg_name (i := 4) c.nd rfl (by first | exact Or.inl rfl | exact Or.inr rfl)) (jgs_nil)))) (jss_one (js_dset (i := 1) c rfl (by first | exact Or.inl rfl | exact Or.inr (Or.inl rfl) | exact Or.inr (Or.inr rfl)) (je_ix (je_var 2) (je_bin op_modX ok_mod (je_bin op_add4 ok_add (je_var 3) (je_int)) (je_callB call_len ok_len T.z_len (by decide +kernel) (ja_cons (je_var 2) (ja_nil))))) (je_bin op_xor ok_xor (je_var 4) (je_int))))))) (jss_one (js_retV 1)))) (fun _ _ => .inr rfl)
set_option maxHeartbeats 4000000 in
theorem ok_rounds_of (T : Tx K mg) (G_look_at_turns : FnOk P w K mg base (L2.CX P w) 2 T.a_look_at_turns T.d_look_at_turns ["web", "turns"] (spD K T.cls 2 g_look_at_turns)) (G_darts_behind : FnOk P w K mg base (L2.CX P w) 1 T.a_darts_behind T.d_darts_behind ["turns"] (spD K T.cls 1 g_darts_behind)) : FnOk P w K mg base (L2.CX P w) 3 T.a_rounds_of T.d_rounds_of ["web", "turns"] (spD K T.cls 2 g_rounds_of) :=
  fnD_ok T.F_rounds_of sc_rounds_of rfl (fun cdv A outer s H E c => jss_cons (js_exp (je_own (c.mono (by decide)) G_look_at_turns T.m_look_at_turns T.k_look_at_turns T.b_look_at_turns (ja_cons (je_var 0) (ja_cons (je_var 1) (ja_nil))) (alS (alS (al0))))) (jss_cons (js_set (i := 2) c rfl (by first | exact Or.inl rfl | exact Or.inr rfl) (je_own (c.mono (by decide)) G_darts_behind T.m_darts_behind T.k_darts_behind T.b_darts_behind (ja_cons (je_var 1) (ja_nil)) (alS (al0)))) (jss_cons (js_set (i := 3) c rfl (by first | exact Or.inl rfl | exact Or.inr rfl) (je_dic)) (jss_cons (js_set (i := 4) c rfl (by first | exact Or.inl rfl | exact Or.inr rfl) (je_lst (jao_nil))) (jss_cons (js_for c (ji_rg1 T.z_range (ja_cons (je_bin op_mul4 ok_mul (je_int) (je_callB call_len ok_len T.z_len (by decide +kernel) (ja_cons (je_fld T.o_Web (i := 1) rfl (je_var 0)) (ja_nil)))) (ja_nil))) (jg_name (i := 5) c.nd rfl (by first | exact Or.inl rfl | exact Or.inr rfl)) (jss_one (js_if (jt_cmp (op_dn c.eq1) ok_dn (je_var 5) (je_var 3) (by rfl)) (jss_cons (js_set (i := 6) c rfl (by first | exact Or.inl rfl | exact Or.inr rfl) (je_lst (jao_nil))) (jss_cons (js_setF (i := 7) c rfl (by first | exact Or.inl rfl | exact Or.inr rfl) (je_var 5)) (jss_cons (js_while c (jt_cmp (op_dn c.eq1) ok_dn (je_var 7) (je_var 3) (by rfl)) (jss_cons (js_dset (i := 3) c rfl (by first | exact Or.inl rfl | exact Or.inr (Or.inl rfl) | exact Or.inr (Or.inr rfl)) (je_bl) (je_var 7)) (jss_cons (js_app (i := 6) rfl (by first | exact Or.inl rfl | exact Or.inr (Or.inl rfl) | exact Or.inr (Or.inr rfl)) (je_var 7)) (jss_one (js_setF (i := 7) c rfl (by first | exact Or.inl rfl | exact Or.inr rfl) (je_dget c (je_var 2) (je_var 7))))))) (jss_one (js_appMv (i := 4) (j := 6) rfl (by first | exact Or.inl rfl | exact Or.inr (Or.inl rfl) | exact Or.inr (Or.inr rfl)) rfl (by first | exact Or.inl rfl | exact Or.inr (Or.inl rfl) | exact Or.inr (Or.inr rfl))))))) (jss_nil)))) (jss_cons (js_if (jt_cmp (op_eq4 c.eq) ok_eq (je_callB call_len ok_len T.z_len (by decide +kernel) (ja_cons (je_var 4) (ja_nil))) (je_int) (nomark _)) (jss_one (js_ret (je_lst (jao_cons (je_lst (jao_nil)) (jao_nil))))) (jss_nil)) (jss_one (js_retV 4)))))))) (fun _ _ => .inr rfl)
set_option maxHeartbeats 4000000 in
theorem ok_lies_flat (T : Tx K mg) (G_rounds_of : FnOk P w K mg base (L2.CX P w) 3 T.a_rounds_of T.d_rounds_of ["web", "turns"] (spD K T.cls 2 g_rounds_of)) (G_is_joined : FnOk P w K mg base (L2.CX P w) 2 T.a_is_joined T.d_is_joined ["web", "ties"] (spD K T.cls 2 g_is_joined)) : FnOk P w K mg base (L2.CX P w) 4 T.a_lies_flat T.d_lies_flat ["web", "turns"] (spD K T.cls 2 g_lies_flat) :=
  fnD_ok T.F_lies_flat sc_lies_flat rfl (fun cdv A outer s H E c => jss_cons (js_setF (i := 2) c rfl (by first | exact Or.inl rfl | exact Or.inr rfl) (je_own (c.mono (by decide)) G_rounds_of T.m_rounds_of T.k_rounds_of T.b_rounds_of (ja_cons (je_var 0) (ja_cons (je_var 1) (ja_nil))) (alS (alS (al0))))) (jss_cons (js_setF (i := 3) c rfl (by first | exact Or.inl rfl | exact Or.inr rfl) (je_tr1 c T.z_tuple T.z_range (je_callB call_len ok_len T.z_len (by decide +kernel) (ja_cons (je_fld T.o_Web (i := 1) rfl (je_var 0)) (ja_nil))))) (jss_one (js_ret (je_and (je_tV (je_own (c.mono (by decide)) G_is_joined T.m_is_joined T.k_is_joined T.b_is_joined (ja_cons (je_var 0) (ja_cons (je_var 3) (ja_nil))) (alS (alS (al0))))) (je_one (je_cmp (op_eq4 c.eq) ok_eq (je_bin op_add4 ok_add (je_bin op_sub ok_sub (je_fld T.o_Web (i := 0) rfl (je_var 0)) (je_callB call_len ok_len T.z_len (by decide +kernel) (ja_cons (je_fld T.o_Web (i := 1) rfl (je_var 0)) (ja_nil)))) (je_callB call_len ok_len T.z_len (by decide +kernel) (ja_cons (je_var 2) (ja_nil)))) (je_int) (nomark _)))))))) (fun _ _ => .inr rfl)
set_option maxHeartbeats 4000000 in
theorem ok_other_web (T : Tx K mg) (G_lies_flat : FnOk P w K mg base (L2.CX P w) 4 T.a_lies_flat T.d_lies_flat ["web", "turns"] (spD K T.cls 2 g_lies_flat)) (G_rounds_of : FnOk P w K mg base (L2.CX P w) 3 T.a_rounds_of T.d_rounds_of ["web", "turns"] (spD K T.cls 2 g_rounds_of)) (G_Web_init : FnOk P w K mg base (L2.CX P w) 1 T.a_Web_init T.d_Web_init ["self", "places", "ties"] (spI K T.cls 14 2 g_Web_init)) : FnOk P w K mg base (L2.CX P w) 5 T.a_other_web T.d_other_web ["web", "turns"] (spD K T.cls 2 g_other_web) :=
  fnD_ok T.F_other_web sc_other_web rfl (fun cdv A outer s H E c => jss_cons (js_if (jt_not (jt_truth (je_own (c.mono (by decide)) G_lies_flat T.m_lies_flat T.k_lies_flat T.b_lies_flat (ja_cons (je_var 0) (ja_cons (je_var 1) (ja_nil))) (alS (alS (al0)))))) (jss_one (js_raise c T.e_NotFlat)) (jss_nil)) (jss_cons (js_setF (i := 2) c rfl (by first | exact Or.inl rfl | exact Or.inr rfl) (je_own (c.mono (by decide)) G_rounds_of T.m_rounds_of T.k_rounds_of T.b_rounds_of (ja_cons (je_var 0) (ja_cons (je_var 1) (ja_nil))) (alS (alS (al0))))) (jss_cons (js_set (i := 3) c rfl (by first | exact Or.inl rfl | exact Or.inr rfl) (je_dic)) (jss_cons (js_for c (ji_enm T.z_enumerate (ja_cons (je_var 2) (ja_nil))) (jg_tup c.calm (jgs_cons (jg_name (i := 4) c.nd rfl (by first | exact Or.inl rfl | exact Or.inr rfl)) (jgs_cons (jg_name (i := 5) c.nd rfl (by first | exact Or.inl rfl | exact Or.inr rfl)) (jgs_nil)))) (jss_one (js_for c (ji_seq (je_var 5)) (jg_name (i := 6) c.nd rfl (by first | exact Or.inl rfl | exact Or.inr rfl)) (jss_one (js_dset (i := 3) c rfl (by first | exact Or.inl rfl | exact Or.inr (Or.inl rfl) | exact Or.inr (Or.inr rfl)) (je_var 4) (je_var 6)))))) (jss_one (js_ret (je_make (c.mono (by decide)) T.o_Web.e T.mk_Web G_Web_init T.m_Web T.b_Web_init (ja_cons (je_callB call_len ok_len T.z_len (by decide +kernel) (ja_cons (je_var 2) (ja_nil))) (ja_cons (je_lc [("tie", 7)] c (ji_rg1 T.z_range (ja_cons (je_callB call_len ok_len T.z_len (by decide +kernel) (ja_cons (je_fld T.o_Web (i := 1) rfl (je_var 0)) (ja_nil))) (ja_nil))) (blkOk_by (N := N_other_web) (sc := defScope s_other_web) (by decide +kernel)) (fun _ _ _ _ _ => jg_name (i := 7) c.nd rfl (by first | exact Or.inl rfl | exact Or.inr rfl)) (fun _ _ _ _ _ c => jts_nil) (fun _ _ _ _ _ c => je_tup (jao_cons (je_dget c (je_var 3) (je_bin op_mul4 ok_mul (je_int) (je_var 7))) (jao_cons (je_dget c (je_var 3) (je_bin op_add4 ok_add (je_bin op_mul4 ok_mul (je_int) (je_var 7)) (je_int))) (jao_nil)))) (by decide)) (ja_nil))) (alS (alS (al0)))))))))) (fun _ _ => .inr rfl)
set_option maxHeartbeats 4000000 in
theorem ok_law_at (T : Tx K mg) : FnOk P w K mg base (L2.CX P w) 1 T.a_law_at T.d_law_at ["script", "k"] (spD K T.cls 2 g_law_at) :=
  fnD_ok T.F_law_at sc_law_at rfl (fun cdv A outer s H E c => jss_cons (js_if (jt_cmp op_lt ok_lt (je_var 1) (je_callB call_len ok_len T.z_len (by decide +kernel) (ja_cons (je_var 0) (ja_nil))) (nomark _)) (jss_one (js_ret (je_ix (je_var 0) (je_var 1)))) (jss_nil)) (jss_one (js_ret (je_int)))) (fun _ _ => .inr rfl)
set_option maxHeartbeats 4000000 in
theorem ok_law_mixed_v2 (T : Tx K mg) : FnOk P w K mg base (L2.CX P w) 1 T.a_law_mixed_v2 T.d_law_mixed_v2 ["cell", "k"] (spD K T.cls 2 g_law_mixed_v2) :=
  fnD_ok T.F_law_mixed_v2 sc_law_mixed_v2 rfl (fun cdv A outer s H E c => jss_cons (js_setF (i := 2) c rfl (by first | exact Or.inl rfl | exact Or.inr rfl) (je_bin op_mul4 ok_mul (je_bin op_add4 ok_add (je_bin op_modX ok_mod (je_var 0) (je_bin op_pow ok_pow (je_int) (je_int))) (je_int)) (je_bin op_add4 ok_add (je_int) (je_bin op_mul4 ok_mul (je_bin op_mul4 ok_mul (je_int) (je_var 1)) (je_var 1))))) (jss_cons (js_setF (i := 2) c rfl (by first | exact Or.inl rfl | exact Or.inr rfl) (je_bin op_add4 ok_add (je_var 2) (je_bin op_mul4 ok_mul (je_int) (je_var 1)))) (jss_one (js_ret (je_bin op_modX ok_mod (je_bin op_mul4 ok_mul (je_var 2) (je_var 2)) (je_bin op_add4 ok_add (je_bin op_pow ok_pow (je_int) (je_int)) (je_int))))))) (fun _ _ => .inr rfl)
set_option maxHeartbeats 4000000 in
theorem ok_law_ties_v2 (T : Tx K mg) (G_law_at : FnOk P w K mg base (L2.CX P w) 1 T.a_law_at T.d_law_at ["script", "k"] (spD K T.cls 2 g_law_at)) (G_law_mixed_v2 : FnOk P w K mg base (L2.CX P w) 1 T.a_law_mixed_v2 T.d_law_mixed_v2 ["cell", "k"] (spD K T.cls 2 g_law_mixed_v2)) : FnOk P w K mg base (L2.CX P w) 2 T.a_law_ties_v2 T.d_law_ties_v2 ["script", "count", "most"] (spD K T.cls 3 g_law_ties_v2) :=
  fnD_ok T.F_law_ties_v2 sc_law_ties_v2 rfl (fun cdv A outer s H E c => jss_cons (js_set (i := 3) c rfl (by first | exact Or.inl rfl | exact Or.inr rfl) (je_lst (jao_nil))) (jss_cons (js_if (jt_cmp (op_eq4 c.eq) ok_eq (je_bin op_modX ok_mod (je_own (c.mono (by decide)) G_law_at T.m_law_at T.k_law_at T.b_law_at (ja_cons (je_var 0) (ja_cons (je_int) (ja_nil))) (alS (alS (al0)))) (je_int)) (je_int) (nomark _)) (jss_cons (js_setF (i := 4) c rfl (by first | exact Or.inl rfl | exact Or.inr rfl) (je_bin op_modX ok_mod (je_own (c.mono (by decide)) G_law_at T.m_law_at T.k_law_at T.b_law_at (ja_cons (je_var 0) (ja_cons (je_int) (ja_nil))) (alS (alS (al0)))) (je_bin op_pow ok_pow (je_int) (je_int)))) (jss_cons (js_setF (i := 5) c rfl (by first | exact Or.inl rfl | exact Or.inr rfl) (je_bin op_modX ok_mod (je_var 4) (je_bin op_add4 ok_add (je_var 2) (je_int)))) (jss_cons (js_setF (i := 4) c rfl (by first | exact Or.inl rfl | exact Or.inr rfl) (je_bin op_divX ok_div (je_var 4) (je_bin op_add4 ok_add (je_var 2) (je_int)))) (jss_cons (js_for c (ji_rg1 T.z_range (ja_cons (je_var 5) (ja_nil))) (jg_name (i := 6) c.nd rfl (by first | exact Or.inl rfl | exact Or.inr rfl)) (jss_cons (js_if (jt_cmp (op_eq4 c.eq) ok_eq (je_var 4) (je_int) (nomark _)) (jss_one (js_setF (i := 4) c rfl (by first | exact Or.inl rfl | exact Or.inr rfl) (je_own (c.mono (by decide)) G_law_mixed_v2 T.m_law_mixed_v2 T.k_law_mixed_v2 T.b_law_mixed_v2 (ja_cons (je_own (c.mono (by decide)) G_law_at T.m_law_at T.k_law_at T.b_law_at (ja_cons (je_var 0) (ja_cons (je_int) (ja_nil))) (alS (alS (al0)))) (ja_cons (je_var 6) (ja_nil))) (alS (alS (al0)))))) (jss_nil)) (jss_cons (js_setF (i := 7) c rfl (by first | exact Or.inl rfl | exact Or.inr rfl) (je_bin op_modX ok_mod (je_var 4) (je_bin op_add4 ok_add (je_bin op_mul4 ok_mul (je_var 1) (je_var 1)) (je_int)))) (jss_cons (js_app (i := 3) rfl (by first | exact Or.inl rfl | exact Or.inr (Or.inl rfl) | exact Or.inr (Or.inr rfl)) (je_tup (jao_cons (je_bin op_modX ok_mod (je_var 7) (je_var 1)) (jao_cons (je_bin op_modX ok_mod (je_bin op_divX ok_div (je_var 7) (je_var 1)) (je_var 1)) (jao_nil))))) (jss_one (js_setF (i := 4) c rfl (by first | exact Or.inl rfl | exact Or.inr rfl) (je_bin op_divX ok_div (je_var 4) (je_bin op_add4 ok_add (je_bin op_mul4 ok_mul (je_var 1) (je_var 1)) (je_int))))))))) (jss_one (js_retV 3)))))) (jss_nil)) (jss_cons (js_for c (ji_enm T.z_enumerate (ja_cons (je_sl (je_var 0) (jp_some (je_int)) (jp_none)) (ja_nil))) (jg_tup c.calm (jgs_cons (jg_name (i := 6) c.nd rfl (by first | exact Or.inl rfl | exact Or.inr rfl)) (jgs_cons (jg_name (i := 8) c.nd rfl (by first | exact Or.inl rfl | exact Or.inr rfl)) (jgs_nil)))) (jss_cons (js_setF (i := 9) c rfl (by first | exact Or.inl rfl | exact Or.inr rfl) (je_own (c.mono (by decide)) G_law_mixed_v2 T.m_law_mixed_v2 T.k_law_mixed_v2 T.b_law_mixed_v2 (ja_cons (je_var 8) (ja_cons (je_bin op_modX ok_mod (je_var 6) (je_int)) (ja_nil))) (alS (alS (al0))))) (jss_one (js_if (jt_cmp op_lt ok_lt (je_var 6) (je_var 2) (nomark _)) (jss_one (js_app (i := 3) rfl (by first | exact Or.inl rfl | exact Or.inr (Or.inl rfl) | exact Or.inr (Or.inr rfl)) (je_tup (jao_cons (je_bin op_modX ok_mod (je_bin op_divX ok_div (je_var 9) (je_int)) (je_var 1)) (jao_cons (je_bin op_modX ok_mod (je_bin op_divX ok_div (je_var 9) (je_int)) (je_var 1)) (jao_nil)))))) (jss_cons (js_setF (i := 10) c rfl (by first | exact Or.inl rfl | exact Or.inr rfl) (je_bin op_modX ok_mod (je_var 6) (je_var 2))) (jss_cons (js_setF (i := 9) c rfl (by first | exact Or.inl rfl | exact Or.inr rfl) (je_own (c.mono (by decide)) G_law_mixed_v2 T.m_law_mixed_v2 T.k_law_mixed_v2 T.b_law_mixed_v2 (ja_cons (je_bin op_add4 ok_add (je_bin op_add4 ok_add (je_var 9) (je_ix (je_ix (je_var 3) (je_var 10)) (je_int))) (je_bin op_mul4 ok_mul (je_int) (je_ix (je_ix (je_var 3) (je_var 10)) (je_int)))) (ja_cons (je_int) (ja_nil))) (alS (alS (al0))))) (jss_one (js_setIx (i := 3) rfl (by first | exact Or.inl rfl | exact Or.inr (Or.inl rfl) | exact Or.inr (Or.inr rfl)) (je_tup (jao_cons (je_bin op_modX ok_mod (je_bin op_divX ok_div (je_var 9) (je_int)) (je_var 1)) (jao_cons (je_bin op_modX ok_mod (je_bin op_divX ok_div (je_var 9) (je_int)) (je_var 1)) (jao_nil)))) (je_var 10))))))))) (jss_one (js_retV 3))))) (fun _ _ => .inr rfl)
set_option maxHeartbeats 4000000 in
theorem ok_law_amounts (T : Tx K mg) (G_law_at : FnOk P w K mg base (L2.CX P w) 1 T.a_law_at T.d_law_at ["script", "k"] (spD K T.cls 2 g_law_at)) (G_law_mixed_v2 : FnOk P w K mg base (L2.CX P w) 1 T.a_law_mixed_v2 T.d_law_mixed_v2 ["cell", "k"] (spD K T.cls 2 g_law_mixed_v2)) : FnOk P w K mg base (L2.CX P w) 2 T.a_law_amounts T.d_law_amounts ["script"] (spD K T.cls 1 g_law_amounts) :=
  fnD_ok T.F_law_amounts sc_law_amounts rfl (fun cdv A outer s H E c => jss_cons (js_setF (i := 1) c rfl (by first | exact Or.inl rfl | exact Or.inr rfl) (je_bin op_modX ok_mod (je_own (c.mono (by decide)) G_law_at T.m_law_at T.k_law_at T.b_law_at (ja_cons (je_var 0) (ja_cons (je_int) (ja_nil))) (alS (alS (al0)))) (je_bin op_pow ok_pow (je_int) (je_int)))) (jss_cons (js_set (i := 2) c rfl (by first | exact Or.inl rfl | exact Or.inr rfl) (je_lst (jao_nil))) (jss_cons (js_if (jt_cmp (op_eq4 c.eq) ok_eq (je_bin op_modX ok_mod (je_own (c.mono (by decide)) G_law_at T.m_law_at T.k_law_at T.b_law_at (ja_cons (je_var 0) (ja_cons (je_int) (ja_nil))) (alS (alS (al0)))) (je_int)) (je_int) (nomark _)) (jss_cons (js_setF (i := 3) c rfl (by first | exact Or.inl rfl | exact Or.inr rfl) (je_bin op_modX ok_mod (je_own (c.mono (by decide)) G_law_at T.m_law_at T.k_law_at T.b_law_at (ja_cons (je_var 0) (ja_cons (je_int) (ja_nil))) (alS (alS (al0)))) (je_bin op_mul4 ok_mul (je_bin op_pow ok_pow (je_int) (je_int)) (je_bin op_pow ok_pow (je_int) (je_int))))) (jss_cons (js_for c (ji_rg1 T.z_range (ja_cons (je_bin op_modX ok_mod (je_var 1) (je_int)) (ja_nil))) (jg_name (i := 4) c.nd rfl (by first | exact Or.inl rfl | exact Or.inr rfl)) (jss_cons (js_if (jt_cmp (op_eq4 c.eq) ok_eq (je_var 3) (je_int) (nomark _)) (jss_one (js_setF (i := 3) c rfl (by first | exact Or.inl rfl | exact Or.inr rfl) (je_own (c.mono (by decide)) G_law_mixed_v2 T.m_law_mixed_v2 T.k_law_mixed_v2 T.b_law_mixed_v2 (ja_cons (je_own (c.mono (by decide)) G_law_at T.m_law_at T.k_law_at T.b_law_at (ja_cons (je_var 0) (ja_cons (je_int) (ja_nil))) (alS (alS (al0)))) (ja_cons (je_var 4) (ja_nil))) (alS (alS (al0)))))) (jss_nil)) (jss_cons (js_app (i := 2) rfl (by first | exact Or.inl rfl | exact Or.inr (Or.inl rfl) | exact Or.inr (Or.inr rfl)) (je_bin op_modX ok_mod (je_var 3) (je_int))) (jss_one (js_setF (i := 3) c rfl (by first | exact Or.inl rfl | exact Or.inr rfl) (je_bin op_divX ok_div (je_var 3) (je_int))))))) (jss_one (js_retV 2)))) (jss_nil)) (jss_cons (js_setLc (i := 2) [("k", 4)] c rfl rfl (sw_true rfl rfl rfl (by decide +kernel)) (ji_rg1 T.z_range (ja_cons (je_bin op_modX ok_mod (je_var 1) (je_int)) (ja_nil))) (blkOk_by (N := N_law_amounts) (sc := defScope s_law_amounts) (by decide +kernel)) (fun _ _ _ _ _ => jg_name (i := 4) c.nd rfl (by first | exact Or.inl rfl | exact Or.inr rfl)) (fun _ _ _ _ _ c => jts_nil) (fun _ _ _ _ _ c => je_own (c.mono (by decide)) G_law_mixed_v2 T.m_law_mixed_v2 T.k_law_mixed_v2 T.b_law_mixed_v2 (ja_cons (je_bin op_add4 ok_add (je_var 1) (je_var 4)) (ja_cons (je_int) (ja_nil))) (alS (alS (al0)))) (by decide)) (jss_cons (js_for c (ji_enm T.z_enumerate (ja_cons (je_sl (je_var 0) (jp_some (je_int)) (jp_none)) (ja_nil))) (jg_tup c.calm (jgs_cons (jg_name (i := 4) c.nd rfl (by first | exact Or.inl rfl | exact Or.inr rfl)) (jgs_cons (jg_name (i := 5) c.nd rfl (by first | exact Or.inl rfl | exact Or.inr rfl)) (jgs_nil)))) (jss_one (js_if (jt_cmp op_gt ok_gt (je_callB call_len ok_len T.z_len (by decide +kernel) (ja_cons (je_var 2) (ja_nil))) (je_int) (nomark _)) (jss_cons (js_setF (i := 6) c rfl (by first | exact Or.inl rfl | exact Or.inr rfl) (je_bin op_modX ok_mod (je_var 4) (je_callB call_len ok_len T.z_len (by decide +kernel) (ja_cons (je_var 2) (ja_nil))))) (jss_one (js_setIx (i := 2) rfl (by first | exact Or.inl rfl | exact Or.inr (Or.inl rfl) | exact Or.inr (Or.inr rfl)) (je_own (c.mono (by decide)) G_law_mixed_v2 T.m_law_mixed_v2 T.k_law_mixed_v2 T.b_law_mixed_v2 (ja_cons (je_bin op_add4 ok_add (je_ix (je_var 2) (je_var 6)) (je_bin op_modX ok_mod (je_var 5) (je_bin op_pow ok_pow (je_int) (je_int)))) (ja_cons (je_bin op_modX ok_mod (je_var 4) (je_int)) (ja_nil))) (alS (alS (al0)))) (je_var 6)))) (jss_nil)))) (jss_one (js_frz 2 (js_ret (je_lc [("m", 7)] c (ji_seq (je_var 2)) (blkOk_by (N := N_law_amounts) (sc := defScope s_law_amounts) (by decide +kernel)) (fun _ _ _ _ _ => jg_name (i := 7) c.nd rfl (by first | exact Or.inl rfl | exact Or.inr rfl)) (fun _ _ _ _ _ c => jts_nil) (fun _ _ _ _ _ c => je_bin op_modX ok_mod (je_bin op_divX ok_div (je_var 7) (je_int)) (je_int)) (by decide)))))))))) (fun _ _ => .inr rfl)
set_option maxHeartbeats 4000000 in
theorem ok_law_behind_v2 (T : Tx K mg) : FnOk P w K mg base (L2.CX P w) 1 T.a_law_behind_v2 T.d_law_behind_v2 ["turns"] (spD K T.cls 1 g_law_behind_v2) :=
  fnD_ok T.F_law_behind_v2 sc_law_behind_v2 rfl (fun cdv A outer s H E c => jss_cons (js_set (i := 1) c rfl (by first | exact Or.inl rfl | exact Or.inr rfl) (je_dic)) (jss_cons (js_for c (ji_seq (je_var 0)) (jg_name (i := 2) c.nd rfl (by first | exact Or.inl rfl | exact Or.inr rfl)) (jss_one (js_for c (ji_enm3 T.z_enumerate (ja_cons (je_var 2) (ja_nil))) (jg_tup c.calm (jgs_cons (jg_name (i := 3) c.nd rfl (by first | exact Or.inl rfl | exact Or.inr rfl)) (jgs_cons (jg_name (i := 4) c.nd rfl (by first | exact Or.inl rfl | exact Or.inr rfl)) (jgs_nil)))) (jss_one (js_dset (i := 1) c rfl (by first | exact Or.inl rfl | exact Or.inr (Or.inl rfl) | exact Or.inr (Or.inr rfl)) (je_ix (je_var 2) (je_bin op_modX ok_mod (je_bin op_add4 ok_add (je_var 3) (je_int)) (je_callB call_len ok_len T.z_len (by decide +kernel) (ja_cons (je_var 2) (ja_nil))))) (je_bin op_xor ok_xor (je_var 4) (je_int))))))) (jss_one (js_retV 1)))) (fun _ _ => .inr rfl)
set_option maxHeartbeats 4000000 in
theorem ok_law_put (T : Tx K mg) : FnOk P w K mg base (L2.CX P w) 1 T.a_law_put T.d_law_put ["turns", "one", "other", "darts"] (spD K T.cls 4 g_law_put) :=
  fnD_ok T.F_law_put sc_law_put rfl (fun cdv A outer s H E c => jss_cons (js_set (i := 4) c rfl (by first | exact Or.inl rfl | exact Or.inr rfl) (je_lst (jao_nil))) (jss_cons (js_for c (ji_seq (je_var 0)) (jg_name (i := 5) c.nd rfl (by first | exact Or.inl rfl | exact Or.inr rfl)) (jss_cons (js_set (i := 6) c rfl (by first | exact Or.inl rfl | exact Or.inr rfl) (je_lst (jao_nil))) (jss_cons (js_for c (ji_seq (je_var 5)) (jg_name (i := 7) c.nd rfl (by first | exact Or.inl rfl | exact Or.inr rfl)) (jss_cons (js_if (jt_cmp (op_eq4 c.eq) ok_eq (je_var 7) (je_var 1) (nomark _)) (jss_one (js_app (i := 6) rfl (by first | exact Or.inl rfl | exact Or.inr (Or.inl rfl) | exact Or.inr (Or.inr rfl)) (je_ix (je_var 3) (je_int)))) (jss_nil)) (jss_cons (js_if (jt_cmp (op_eq4 c.eq) ok_eq (je_var 7) (je_var 2) (nomark _)) (jss_one (js_app (i := 6) rfl (by first | exact Or.inl rfl | exact Or.inr (Or.inl rfl) | exact Or.inr (Or.inr rfl)) (je_ix (je_var 3) (je_int)))) (jss_nil)) (jss_one (js_app (i := 6) rfl (by first | exact Or.inl rfl | exact Or.inr (Or.inl rfl) | exact Or.inr (Or.inr rfl)) (je_var 7)))))) (jss_one (js_frz 6 (js_app (i := 4) rfl (by first | exact Or.inl rfl | exact Or.inr (Or.inl rfl) | exact Or.inr (Or.inr rfl)) (je_var 6))))))) (jss_one (js_retV 4)))) (fun _ _ => .inr rfl)
set_option maxHeartbeats 4000000 in
theorem ok_law_corner (T : Tx K mg) : FnOk P w K mg base (L2.CX P w) 1 T.a_law_corner T.d_law_corner ["turns", "m"] (spD K T.cls 2 g_law_corner) :=
  fnD_ok T.F_law_corner sc_law_corner rfl (fun cdv A outer s H E c => jss_cons (js_setLcF (i := 2) [("row", 3)] c rfl rfl (sw_true rfl rfl rfl (by decide +kernel)) (ji_seq (je_var 0)) (blkOk_by (N := N_law_corner) (sc := defScope s_law_corner) (by decide +kernel)) (fun _ _ _ _ _ => jg_name (i := 3) c.nd rfl (by first | exact Or.inl rfl | exact Or.inr rfl)) (fun _ _ _ _ _ c => jts_one (jt_cmp op_gt ok_gt (je_callB call_len ok_len T.z_len (by decide +kernel) (ja_cons (je_var 3) (ja_nil))) (je_int) (nomark _))) (fun _ _ _ _ _ c => je_var 3) (by decide)) (jss_cons (js_setF (i := 3) c rfl (by first | exact Or.inl rfl | exact Or.inr rfl) (je_ix (je_var 2) (je_bin op_modX ok_mod (je_var 1) (je_callB call_len ok_len T.z_len (by decide +kernel) (ja_cons (je_var 2) (ja_nil)))))) (jss_one (js_ret (je_ix (je_var 3) (je_bin op_modX ok_mod (je_bin op_divX ok_div (je_var 1) (je_int)) (je_callB call_len ok_len T.z_len (by decide +kernel) (ja_cons (je_var 3) (ja_nil))))))))) (fun _ _ => .inr rfl)
set_option maxHeartbeats 4000000 in
theorem ok_law_grown_v3 (T : Tx K mg) (G_law_corner : FnOk P w K mg base (L2.CX P w) 1 T.a_law_corner T.d_law_corner ["turns", "m"] (spD K T.cls 2 g_law_corner)) (G_law_put : FnOk P w K mg base (L2.CX P w) 1 T.a_law_put T.d_law_put ["turns", "one", "other", "darts"] (spD K T.cls 4 g_law_put)) (G_law_behind_v2 : FnOk P w K mg base (L2.CX P w) 1 T.a_law_behind_v2 T.d_law_behind_v2 ["turns"] (spD K T.cls 1 g_law_behind_v2)) : FnOk P w K mg base (L2.CX P w) 2 T.a_law_grown_v3 T.d_law_grown_v3 ["count", "ties", "turns", "m"] (spD K T.cls 4 g_law_grown_v3) :=
  fnD_ok T.F_law_grown_v3 sc_law_grown_v3 rfl (fun cdv A outer s H E c => jss_cons (js_setF (i := 4) c rfl (by first | exact Or.inl rfl | exact Or.inr rfl) (je_bin op_mul4 ok_mul (je_int) (je_callB call_len ok_len T.z_len (by decide +kernel) (ja_cons (je_var 1) (ja_nil))))) (jss_cons (js_setF (i := 5) c rfl (by first | exact Or.inl rfl | exact Or.inr rfl) (je_ix (je_lst (jao_cons (je_lst (jao_cons (je_var 4) (jao_cons (je_bin op_add4 ok_add (je_var 4) (je_int)) (jao_nil)))) (jao_cons (je_lst (jao_cons (je_bin op_add4 ok_add (je_var 4) (je_int)) (jao_cons (je_var 4) (jao_nil)))) (jao_nil)))) (je_bin op_modX ok_mod (je_var 3) (je_int)))) (jss_cons (js_setF (i := 6) c rfl (by first | exact Or.inl rfl | exact Or.inr rfl) (je_and (je_cmp (op_eq4 c.eq) ok_eq (je_bin op_modX ok_mod (je_bin op_divX ok_div (je_var 3) (je_int)) (je_int)) (je_int) (nomark _)) (je_one (je_cmp op_lt ok_lt (je_var 0) (je_int) (nomark _))))) (jss_cons (js_if (jt_w (jw_and (jt_not (jt_truth (je_var 6))) (jw_and1 (jt_cmp op_gt ok_gt (je_bin op_sub ok_sub (je_callB call_len ok_len T.z_len (by decide +kernel) (ja_cons (je_var 1) (ja_nil))) (je_var 0)) (je_int) (nomark _))))) (jss_one (js_ret (je_tup (jao_cons (je_var 0) (jao_cons (je_var 1) (jao_cons (je_var 2) (jao_nil))))))) (jss_nil)) (jss_cons (js_if (jt_cmp (op_eq4 c.eq) ok_eq (je_callB call_len ok_len T.z_len (by decide +kernel) (ja_cons (je_var 1) (ja_nil))) (je_int) (nomark _)) (jss_cons (js_if (jt_truth (je_var 6)) (jss_one (js_ret (je_tup (jao_cons (je_int) (jao_cons (je_lst (jao_cons (je_ix (je_lst (jao_cons (je_tup (jao_cons (je_int) (jao_cons (je_int) (jao_nil)))) (jao_cons (je_tup (jao_cons (je_int) (jao_cons (je_int) (jao_nil)))) (jao_nil)))) (je_bin op_modX ok_mod (je_var 3) (je_int))) (jao_nil))) (jao_cons (je_lst (jao_cons (je_lst (jao_cons (je_ix (je_var 5) (je_int)) (jao_nil))) (jao_cons (je_lst (jao_cons (je_ix (je_var 5) (je_int)) (jao_nil))) (jao_nil)))) (jao_nil))))))) (jss_nil)) (jss_one (js_ret (je_tup (jao_cons (je_int) (jao_cons (je_lst (jao_cons (je_tup (jao_cons (je_int) (jao_cons (je_int) (jao_nil)))) (jao_nil))) (jao_cons (je_lst (jao_cons (je_var 5) (jao_nil))) (jao_nil)))))))) (jss_nil)) (jss_cons (js_set (i := 7) c rfl (by first | exact Or.inl rfl | exact Or.inr rfl) (je_dic)) (jss_cons (js_for c (ji_enm3 T.z_enumerate (ja_cons (je_var 2) (ja_nil))) (jg_tup c.calm (jgs_cons (jg_name (i := 8) c.nd rfl (by first | exact Or.inl rfl | exact Or.inr rfl)) (jgs_cons (jg_name (i := 9) c.nd rfl (by first | exact Or.inl rfl | exact Or.inr rfl)) (jgs_nil)))) (jss_one (js_for c (ji_seq (je_var 9)) (jg_name (i := 10) c.nd rfl (by first | exact Or.inl rfl | exact Or.inr rfl)) (jss_one (js_dset (i := 7) c rfl (by first | exact Or.inl rfl | exact Or.inr (Or.inl rfl) | exact Or.inr (Or.inr rfl)) (je_var 8) (je_var 10)))))) (jss_cons (js_setF (i := 11) c rfl (by first | exact Or.inl rfl | exact Or.inr rfl) (je_own (c.mono (by decide)) G_law_corner T.m_law_corner T.k_law_corner T.b_law_corner (ja_cons (je_var 2) (ja_cons (je_bin op_divX ok_div (je_var 3) (je_int)) (ja_nil))) (alS (alS (al0))))) (jss_cons (js_if (jt_truth (je_var 6)) (jss_cons (js_setF (i := 12) c rfl (by first | exact Or.inl rfl | exact Or.inr rfl) (je_ix (je_lst (jao_cons (je_tup (jao_cons (je_dget c (je_var 7) (je_var 11)) (jao_cons (je_var 0) (jao_nil)))) (jao_cons (je_tup (jao_cons (je_var 0) (jao_cons (je_dget c (je_var 7) (je_var 11)) (jao_nil)))) (jao_nil)))) (je_bin op_modX ok_mod (je_var 3) (je_int)))) (jss_one (js_ret (je_tup (jao_cons (je_bin op_add4 ok_add (je_var 0) (je_int)) (jao_cons (je_bin op_add4 ok_add (je_var 1) (je_lst (jao_cons (je_var 12) (jao_nil)))) (jao_cons (je_bin op_add4 ok_add (je_own (c.mono (by decide)) G_law_put T.m_law_put T.k_law_put T.b_law_put (ja_cons (je_var 2) (ja_cons (je_var 11) (ja_cons (je_non) (ja_cons (je_var 5) (ja_nil))))) (alS (alS (alS (alS (al0)))))) (je_lst (jao_cons (je_lst (jao_cons (je_ix (je_var 5) (je_int)) (jao_nil))) (jao_nil)))) (jao_nil)))))))) (jss_nil)) (jss_cons (js_setF (i := 13) c rfl (by first | exact Or.inl rfl | exact Or.inr rfl) (je_var 11)) (jss_cons (js_set (i := 14) c rfl (by first | exact Or.inl rfl | exact Or.inr rfl) (je_own (c.mono (by decide)) G_law_behind_v2 T.m_law_behind_v2 T.k_law_behind_v2 T.b_law_behind_v2 (ja_cons (je_var 2) (ja_nil)) (alS (al0)))) (jss_cons (js_for c (ji_rg1 T.z_range (ja_cons (je_bin op_modX ok_mod (je_bin op_divX ok_div (je_var 3) (je_int)) (je_int)) (ja_nil))) (jg_name (i := 15) c.nd rfl (by first | exact Or.inl rfl | exact Or.inr rfl)) (jss_one (js_setF (i := 13) c rfl (by first | exact Or.inl rfl | exact Or.inr rfl) (je_dget c (je_var 14) (je_var 13))))) (jss_cons (js_setF (i := 12) c rfl (by first | exact Or.inl rfl | exact Or.inr rfl) (je_ix (je_lst (jao_cons (je_tup (jao_cons (je_dget c (je_var 7) (je_var 11)) (jao_cons (je_dget c (je_var 7) (je_var 13)) (jao_nil)))) (jao_cons (je_tup (jao_cons (je_dget c (je_var 7) (je_var 13)) (jao_cons (je_dget c (je_var 7) (je_var 11)) (jao_nil)))) (jao_nil)))) (je_bin op_modX ok_mod (je_var 3) (je_int)))) (jss_one (js_ret (je_tup (jao_cons (je_var 0) (jao_cons (je_bin op_add4 ok_add (je_var 1) (je_lst (jao_cons (je_var 12) (jao_nil)))) (jao_cons (je_own (c.mono (by decide)) G_law_put T.m_law_put T.k_law_put T.b_law_put (ja_cons (je_var 2) (ja_cons (je_var 11) (ja_cons (je_var 13) (ja_cons (je_var 5) (ja_nil))))) (alS (alS (alS (alS (al0)))))) (jao_nil)))))))))))))))))))) (fun _ _ => .inr rfl)
set_option maxHeartbeats 4000000 in
theorem ok_law_map (T : Tx K mg) (G_law_amounts : FnOk P w K mg base (L2.CX P w) 2 T.a_law_amounts T.d_law_amounts ["script"] (spD K T.cls 1 g_law_amounts)) (G_law_grown_v3 : FnOk P w K mg base (L2.CX P w) 2 T.a_law_grown_v3 T.d_law_grown_v3 ["count", "ties", "turns", "m"] (spD K T.cls 4 g_law_grown_v3)) : FnOk P w K mg base (L2.CX P w) 3 T.a_law_map T.d_law_map ["script"] (spD K T.cls 1 g_law_map) :=
  fnD_ok T.F_law_map sc_law_map rfl (fun cdv A outer s H E c => jss_cons (js_setF (i := 1) c rfl (by first | exact Or.inl rfl | exact Or.inr rfl) (je_int)) (jss_cons (js_setF (i := 2) c rfl (by first | exact Or.inl rfl | exact Or.inr rfl) (je_lst (jao_nil))) (jss_cons (js_setF (i := 3) c rfl (by first | exact Or.inl rfl | exact Or.inr rfl) (je_lst (jao_cons (je_lst (jao_nil)) (jao_nil)))) (jss_cons (js_for c (ji_seq (je_own (c.mono (by decide)) G_law_amounts T.m_law_amounts T.k_law_amounts T.b_law_amounts (ja_cons (je_var 0) (ja_nil)) (alS (al0)))) (jg_name (i := 4) c.nd rfl (by first | exact Or.inl rfl | exact Or.inr rfl)) (jss_one (js_asgT (je_own (c.mono (by decide)) G_law_grown_v3 T.m_law_grown_v3 T.k_law_grown_v3 T.b_law_grown_v3 (ja_cons (je_var 1) (ja_cons (je_var 2) (ja_cons (je_var 3) (ja_cons (je_var 4) (ja_nil))))) (alS (alS (alS (alS (al0)))))) (jg_tup c.calm (jgs_cons (jg_name (i := 1) c.nd rfl (by first | exact Or.inl rfl | exact Or.inr rfl)) (jgs_cons (jg_name (i := 2) c.nd rfl (by first | exact Or.inl rfl | exact Or.inr rfl)) (jgs_cons (jg_name (i := 3) c.nd rfl (by first | exact Or.inl rfl | exact Or.inr rfl)) (jgs_nil)))))))) (jss_one (js_ret (je_tup (jao_cons (je_var 1) (jao_cons (je_var 2) (jao_cons (je_var 3) (jao_nil))))))))))) (fun _ _ => .inr rfl)
set_option maxHeartbeats 4000000 in
theorem ok_law_any_turns (T : Tx K mg) (G_law_mixed_v2 : FnOk P w K mg base (L2.CX P w) 1 T.a_law_mixed_v2 T.d_law_mixed_v2 ["cell", "k"] (spD K T.cls 2 g_law_mixed_v2)) : FnOk P w K mg base (L2.CX P w) 2 T.a_law_any_turns T.d_law_any_turns ["count", "ties", "m"] (spD K T.cls 3 g_law_any_turns) :=
  fnD_ok T.F_law_any_turns sc_law_any_turns rfl (fun cdv A outer s H E c => jss_cons (js_set (i := 3) c rfl (by first | exact Or.inl rfl | exact Or.inr rfl) (je_lst (jao_nil))) (jss_cons (js_for c (ji_rg1 T.z_range (ja_cons (je_var 0) (ja_nil))) (jg_name (i := 4) c.nd rfl (by first | exact Or.inl rfl | exact Or.inr rfl)) (jss_cons (js_set (i := 5) c rfl (by first | exact Or.inl rfl | exact Or.inr rfl) (je_lst (jao_nil))) (jss_cons (js_for c (ji_enm T.z_enumerate (ja_cons (je_var 1) (ja_nil))) (jg_tup c.calm (jgs_cons (jg_name (i := 6) c.nd rfl (by first | exact Or.inl rfl | exact Or.inr rfl)) (jgs_cons (jg_name (i := 7) c.nd rfl (by first | exact Or.inl rfl | exact Or.inr rfl)) (jgs_nil)))) (jss_cons (js_if (jt_cmp (op_eq4 c.eq) ok_eq (je_ix (je_var 7) (je_int)) (je_var 4) (nomark _)) (jss_one (js_app (i := 5) rfl (by first | exact Or.inl rfl | exact Or.inr (Or.inl rfl) | exact Or.inr (Or.inr rfl)) (je_bin op_mul4 ok_mul (je_int) (je_var 6)))) (jss_nil)) (jss_one (js_if (jt_cmp (op_eq4 c.eq) ok_eq (je_ix (je_var 7) (je_int)) (je_var 4) (nomark _)) (jss_one (js_app (i := 5) rfl (by first | exact Or.inl rfl | exact Or.inr (Or.inl rfl) | exact Or.inr (Or.inr rfl)) (je_bin op_add4 ok_add (je_bin op_mul4 ok_mul (je_int) (je_var 6)) (je_int)))) (jss_nil))))) (jss_cons (js_set (i := 8) c rfl (by first | exact Or.inl rfl | exact Or.inr rfl) (je_lst (jao_nil))) (jss_cons (js_while c (jt_cmp op_gt ok_gt (je_callB call_len ok_len T.z_len (by decide +kernel) (ja_cons (je_var 5) (ja_nil))) (je_int) (nomark _)) (jss_cons (js_setF (i := 2) c rfl (by first | exact Or.inl rfl | exact Or.inr rfl) (je_own (c.mono (by decide)) G_law_mixed_v2 T.m_law_mixed_v2 T.k_law_mixed_v2 T.b_law_mixed_v2 (ja_cons (je_var 2) (ja_cons (je_int) (ja_nil))) (alS (alS (al0))))) (jss_one (js_appPop (m := 8) (i := 5) c rfl (by first | exact Or.inl rfl | exact Or.inr (Or.inl rfl) | exact Or.inr (Or.inr rfl)) rfl (by first | exact Or.inl rfl | exact Or.inr (Or.inl rfl) | exact Or.inr (Or.inr rfl)) (je_bin op_modX ok_mod (je_bin op_divX ok_div (je_var 2) (je_int)) (je_callB call_len ok_len T.z_len (by decide +kernel) (ja_cons (je_var 5) (ja_nil)))))))) (jss_one (js_frz 8 (js_app (i := 3) rfl (by first | exact Or.inl rfl | exact Or.inr (Or.inl rfl) | exact Or.inr (Or.inr rfl)) (je_var 8))))))))) (jss_one (js_retV 3)))) (fun _ _ => .inr rfl)
theorem catch_law_refused_v12 (T : Tx K mg) : ∀ c g, f_law_refused_v12_hh c g ≠ .bad → PySem.W.exmOne K (excV T.cls c) (.ref T.C_WebError) = some true := by
  intro c g h
  match c with
  | 1 => rw [T.e_BadWeb.v]; exact T.ct_BadWeb_WebError
  | 2 => rw [T.e_BadSet.v]; exact T.ct_BadSet_WebError
  | 10 => rw [T.e_BadTurns.v]; exact T.ct_BadTurns_WebError
  | 11 => rw [T.e_NotFlat.v]; exact T.ct_NotFlat_WebError
  | 0 => exact absurd (by simp [f_law_refused_v12_hh, f_law_refused_v12_h, unO]) h
  | 3 => exact absurd (by simp [f_law_refused_v12_hh, f_law_refused_v12_h, unO]) h
  | 4 => exact absurd (by simp [f_law_refused_v12_hh, f_law_refused_v12_h, unO]) h
  | 5 => exact absurd (by simp [f_law_refused_v12_hh, f_law_refused_v12_h, unO]) h
  | 6 => exact absurd (by simp [f_law_refused_v12_hh, f_law_refused_v12_h, unO]) h
  | 7 => exact absurd (by simp [f_law_refused_v12_hh, f_law_refused_v12_h, unO]) h
  | 8 => exact absurd (by simp [f_law_refused_v12_hh, f_law_refused_v12_h, unO]) h
  | 9 => exact absurd (by simp [f_law_refused_v12_hh, f_law_refused_v12_h, unO]) h
  | z + 12 => exact absurd (by simp [f_law_refused_v12_hh, f_law_refused_v12_h, unO]) h
set_option maxHeartbeats 4000000 in
theorem ok_law_refused_v12 (T : Tx K mg) (G_rounds_of : FnOk P w K mg base (L2.CX P w) 3 T.a_rounds_of T.d_rounds_of ["web", "turns"] (spD K T.cls 2 g_rounds_of)) (G_lies_flat : FnOk P w K mg base (L2.CX P w) 4 T.a_lies_flat T.d_lies_flat ["web", "turns"] (spD K T.cls 2 g_lies_flat)) (G_other_web : FnOk P w K mg base (L2.CX P w) 5 T.a_other_web T.d_other_web ["web", "turns"] (spD K T.cls 2 g_other_web)) : FnOk P w K mg base (L2.CX P w) 6 T.a_law_refused_v12 T.d_law_refused_v12 ["deed", "web", "turns"] (spD K T.cls 3 g_law_refused_v12) :=
  fnD_ok T.F_law_refused_v12 sc_law_refused_v12 rfl (fun cdv A outer s H E c => jss_cons (js_set (i := 3) c rfl (by first | exact Or.inl rfl | exact Or.inr rfl) (je_lst (jao_nil))) (jss_cons (js_try (i := 4) c rfl rfl rfl rfl T.m_WebError (catch_law_refused_v12 T) (fun W pn xe c => jss_one (js_if (jt_cmp (op_eq4 c.eq) ok_eq (je_var 0) (je_int) (nomark _)) (jss_one (js_exp (je_own (c.mono (by decide)) G_rounds_of T.m_rounds_of T.k_rounds_of T.b_rounds_of (ja_cons (je_var 1) (ja_cons (je_var 2) (ja_nil))) (alS (alS (al0)))))) (jss_one (js_if (jt_cmp (op_eq4 c.eq) ok_eq (je_var 0) (je_int) (nomark _)) (jss_one (js_exp (je_own (c.mono (by decide)) G_lies_flat T.m_lies_flat T.k_lies_flat T.b_lies_flat (ja_cons (je_var 1) (ja_cons (je_var 2) (ja_nil))) (alS (alS (al0)))))) (jss_one (js_exp (je_own (c.mono (by decide)) G_other_web T.m_other_web T.k_other_web T.b_other_web (ja_cons (je_var 1) (ja_cons (je_var 2) (ja_nil))) (alS (alS (al0)))))))))) (by have nd := c.nd; exact (fun ci ad oe pn hz hf => by
    match ci, hz with
    | 1, hz => (rw [T.e_BadWeb.v] at hz; exact jss_cons (js_setN (i := 3) nd rfl (by first | exact Or.inl rfl | exact Or.inr rfl) (je_lst (jao_cons (je_is T.xc_BadWeb hz hf T.z_isinstance (i := 4) rfl (Or.inl rfl) (by decide) (by decide) (pe_bltn (v := .ty "ValueError") (by rfl) T.z_ValueError (by decide +kernel) rfl) (fun _ h => h) T.is_BadWeb_ValueError) (jao_cons (je_is T.xc_BadWeb hz hf T.z_isinstance (i := 4) rfl (Or.inl rfl) (by decide) (by decide) (pe_glob (v := .ref T.C_BadTurns) (by rfl) T.m_BadTurns rfl) (fun _ h => h) T.is_BadWeb_BadTurns) (jao_cons (je_is T.xc_BadWeb hz hf T.z_isinstance (i := 4) rfl (Or.inl rfl) (by decide) (by decide) (pe_glob (v := .ref T.C_NotFlat) (by rfl) T.m_NotFlat rfl) (fun _ h => h) T.is_BadWeb_NotFlat) (jao_cons (je_is T.xc_BadWeb hz hf T.z_isinstance (i := 4) rfl (Or.inl rfl) (by decide) (by decide) (pe_glob (v := .ref T.C_BadWeb) (by rfl) T.m_BadWeb rfl) (fun _ h => h) T.is_BadWeb_BadWeb) (jao_nil))))))) (jss_one (js_app (i := 3) rfl (by first | exact Or.inl rfl | exact Or.inr (Or.inl rfl) | exact Or.inr (Or.inr rfl)) (je_is T.xc_BadWeb hz hf T.z_isinstance (i := 4) rfl (Or.inl rfl) (by decide) (by decide) (pe_glob (v := .ref T.C_BadSet) (by rfl) T.m_BadSet rfl) (fun _ h => h) T.is_BadWeb_BadSet))))
    | 2, hz => (rw [T.e_BadSet.v] at hz; exact jss_cons (js_setN (i := 3) nd rfl (by first | exact Or.inl rfl | exact Or.inr rfl) (je_lst (jao_cons (je_is T.xc_BadSet hz hf T.z_isinstance (i := 4) rfl (Or.inl rfl) (by decide) (by decide) (pe_bltn (v := .ty "ValueError") (by rfl) T.z_ValueError (by decide +kernel) rfl) (fun _ h => h) T.is_BadSet_ValueError) (jao_cons (je_is T.xc_BadSet hz hf T.z_isinstance (i := 4) rfl (Or.inl rfl) (by decide) (by decide) (pe_glob (v := .ref T.C_BadTurns) (by rfl) T.m_BadTurns rfl) (fun _ h => h) T.is_BadSet_BadTurns) (jao_cons (je_is T.xc_BadSet hz hf T.z_isinstance (i := 4) rfl (Or.inl rfl) (by decide) (by decide) (pe_glob (v := .ref T.C_NotFlat) (by rfl) T.m_NotFlat rfl) (fun _ h => h) T.is_BadSet_NotFlat) (jao_cons (je_is T.xc_BadSet hz hf T.z_isinstance (i := 4) rfl (Or.inl rfl) (by decide) (by decide) (pe_glob (v := .ref T.C_BadWeb) (by rfl) T.m_BadWeb rfl) (fun _ h => h) T.is_BadSet_BadWeb) (jao_nil))))))) (jss_one (js_app (i := 3) rfl (by first | exact Or.inl rfl | exact Or.inr (Or.inl rfl) | exact Or.inr (Or.inr rfl)) (je_is T.xc_BadSet hz hf T.z_isinstance (i := 4) rfl (Or.inl rfl) (by decide) (by decide) (pe_glob (v := .ref T.C_BadSet) (by rfl) T.m_BadSet rfl) (fun _ h => h) T.is_BadSet_BadSet))))
    | 10, hz => (rw [T.e_BadTurns.v] at hz; exact jss_cons (js_setN (i := 3) nd rfl (by first | exact Or.inl rfl | exact Or.inr rfl) (je_lst (jao_cons (je_is T.xc_BadTurns hz hf T.z_isinstance (i := 4) rfl (Or.inl rfl) (by decide) (by decide) (pe_bltn (v := .ty "ValueError") (by rfl) T.z_ValueError (by decide +kernel) rfl) (fun _ h => h) T.is_BadTurns_ValueError) (jao_cons (je_is T.xc_BadTurns hz hf T.z_isinstance (i := 4) rfl (Or.inl rfl) (by decide) (by decide) (pe_glob (v := .ref T.C_BadTurns) (by rfl) T.m_BadTurns rfl) (fun _ h => h) T.is_BadTurns_BadTurns) (jao_cons (je_is T.xc_BadTurns hz hf T.z_isinstance (i := 4) rfl (Or.inl rfl) (by decide) (by decide) (pe_glob (v := .ref T.C_NotFlat) (by rfl) T.m_NotFlat rfl) (fun _ h => h) T.is_BadTurns_NotFlat) (jao_cons (je_is T.xc_BadTurns hz hf T.z_isinstance (i := 4) rfl (Or.inl rfl) (by decide) (by decide) (pe_glob (v := .ref T.C_BadWeb) (by rfl) T.m_BadWeb rfl) (fun _ h => h) T.is_BadTurns_BadWeb) (jao_nil))))))) (jss_one (js_app (i := 3) rfl (by first | exact Or.inl rfl | exact Or.inr (Or.inl rfl) | exact Or.inr (Or.inr rfl)) (je_is T.xc_BadTurns hz hf T.z_isinstance (i := 4) rfl (Or.inl rfl) (by decide) (by decide) (pe_glob (v := .ref T.C_BadSet) (by rfl) T.m_BadSet rfl) (fun _ h => h) T.is_BadTurns_BadSet))))
    | 11, hz => (rw [T.e_NotFlat.v] at hz; exact jss_cons (js_setN (i := 3) nd rfl (by first | exact Or.inl rfl | exact Or.inr rfl) (je_lst (jao_cons (je_is T.xc_NotFlat hz hf T.z_isinstance (i := 4) rfl (Or.inl rfl) (by decide) (by decide) (pe_bltn (v := .ty "ValueError") (by rfl) T.z_ValueError (by decide +kernel) rfl) (fun _ h => h) T.is_NotFlat_ValueError) (jao_cons (je_is T.xc_NotFlat hz hf T.z_isinstance (i := 4) rfl (Or.inl rfl) (by decide) (by decide) (pe_glob (v := .ref T.C_BadTurns) (by rfl) T.m_BadTurns rfl) (fun _ h => h) T.is_NotFlat_BadTurns) (jao_cons (je_is T.xc_NotFlat hz hf T.z_isinstance (i := 4) rfl (Or.inl rfl) (by decide) (by decide) (pe_glob (v := .ref T.C_NotFlat) (by rfl) T.m_NotFlat rfl) (fun _ h => h) T.is_NotFlat_NotFlat) (jao_cons (je_is T.xc_NotFlat hz hf T.z_isinstance (i := 4) rfl (Or.inl rfl) (by decide) (by decide) (pe_glob (v := .ref T.C_BadWeb) (by rfl) T.m_BadWeb rfl) (fun _ h => h) T.is_NotFlat_BadWeb) (jao_nil))))))) (jss_one (js_app (i := 3) rfl (by first | exact Or.inl rfl | exact Or.inr (Or.inl rfl) | exact Or.inr (Or.inr rfl)) (je_is T.xc_NotFlat hz hf T.z_isinstance (i := 4) rfl (Or.inl rfl) (by decide) (by decide) (pe_glob (v := .ref T.C_BadSet) (by rfl) T.m_BadSet rfl) (fun _ h => h) T.is_NotFlat_BadSet))))
    | 0, _ => exact jss_never
    | 3, _ => exact jss_never
    | 4, _ => exact jss_never
    | 5, _ => exact jss_never
    | 6, _ => exact jss_never
    | 7, _ => exact jss_never
    | 8, _ => exact jss_never
    | 9, _ => exact jss_never
    | z + 12, _ => exact jss_never)) (heq_law_refused_v12)) (jss_cons (js_if (jt_cmp (op_eq4 c.eq) ok_eq (je_var 3) (je_lst (jao_nil)) (nomark _)) (jss_one (js_ret (je_str))) (jss_nil)) (jss_one (js_ret (je_ix (je_lst (jao_cons (je_str) (jao_cons (je_str) (jao_nil)))) (je_callTy call_int1 ok_int T.z_int (by decide +kernel) (ja_cons (je_cmp (op_eq4 c.eq) ok_eq (je_var 3) (je_lst (jao_cons (je_bl) (jao_cons (je_bl) (jao_cons (je_bl) (jao_cons (je_bl) (jao_cons (je_bl) (jao_nil))))))) (nomark _)) (ja_nil))))))))) (fun _ _ => .inr rfl)
set_option maxHeartbeats 4000000 in
theorem ok_law_spoilt_v5 (T : Tx K mg) : FnOk P w K mg base (L2.CX P w) 1 T.a_law_spoilt_v5 T.d_law_spoilt_v5 ["turns", "size", "m"] (spD K T.cls 3 g_law_spoilt_v5) :=
  fnD_ok T.F_law_spoilt_v5 sc_law_spoilt_v5 rfl (fun cdv A outer s H E c => jss_cons (js_setLc (i := 3) [("row", 5)] c rfl rfl (sw_true rfl rfl rfl (by decide +kernel)) (ji_seq (je_var 0)) (blkOk_by (N := N_law_spoilt_v5) (sc := defScope s_law_spoilt_v5) (by decide +kernel)) (fun _ _ _ _ _ => jg_name (i := 5) c.nd rfl (by first | exact Or.inl rfl | exact Or.inr rfl)) (fun _ _ _ _ _ c => jts_nil) (fun _ _ _ _ _ c => je_callTy call_list_of ok_list T.z_list (by decide +kernel) (ja_cons (je_var 5) (ja_nil))) (by decide)) (jss_cons (js_setF (i := 4) c rfl (by first | exact Or.inl rfl | exact Or.inr rfl) (je_bin op_modX ok_mod (je_bin op_divX ok_div (je_var 2) (je_int)) (je_callB call_len ok_len T.z_len (by decide +kernel) (ja_cons (je_var 3) (ja_nil))))) (jss_open (i := 3) (j := 5) c rfl rfl (by first | exact Or.inl rfl | exact Or.inr (Or.inl rfl) | exact Or.inr (Or.inr rfl)) (by first | exact Or.inl rfl | exact Or.inr rfl) (je_var 4) (by decide) (jop_cons (jk_setF (i := 6) (by decide) c rfl (by first | exact Or.inl rfl | exact Or.inr rfl) (je_ix (je_lst (jao_cons (je_bin op_mul4 ok_mul (je_int) (je_var 1)) (jao_cons (je_un un_neg ok_neg (je_int)) (jao_cons (je_bin op_add4 ok_add (je_bin op_mul4 ok_mul (je_int) (je_var 1)) (je_int)) (jao_cons (je_bin op_sub ok_sub (je_bin op_mul4 ok_mul (je_un un_neg ok_neg (je_int)) (je_var 1)) (je_int)) (jao_nil)))))) (je_bin op_modX ok_mod (je_bin op_divX ok_div (je_var 2) (je_int)) (je_int)))) (jop_cons (jk_setF (i := 7) (by decide) c rfl (by first | exact Or.inl rfl | exact Or.inr rfl) (je_bin op_modX ok_mod (je_var 2) (je_int))) (jop_cons (jk_if (jt_w (jw_or (jt_cmp op_lt ok_lt (je_var 7) (je_int) (nomark _)) (jw_or1 (jt_cmp (op_eq4 c.eq) ok_eq (je_callB call_len ok_len T.z_len (by decide +kernel) (ja_cons (je_var 5) (ja_nil))) (je_int) (nomark _))))) (jks_one (jk_insert2 (i := 5) rfl (by first | exact Or.inl rfl | exact Or.inr (Or.inl rfl) | exact Or.inr (Or.inr rfl)) (ja_cons (je_bin op_modX ok_mod (je_bin op_divX ok_div (je_var 2) (je_int)) (je_bin op_add4 ok_add (je_callB call_len ok_len T.z_len (by decide +kernel) (ja_cons (je_var 5) (ja_nil))) (je_int))) (ja_cons (je_var 6) (ja_nil))))) (jks_one (jk_if (jt_cmp (op_eq4 c.eq) ok_eq (je_var 7) (je_int) (nomark _)) (jks_one (jk_del (i := 5) rfl (by first | exact Or.inl rfl | exact Or.inr (Or.inl rfl) | exact Or.inr (Or.inr rfl)) (je_bin op_modX ok_mod (je_bin op_divX ok_div (je_var 2) (je_int)) (je_callB call_len ok_len T.z_len (by decide +kernel) (ja_cons (je_var 5) (ja_nil)))))) (jks_one (jk_if (jt_cmp (op_eq4 c.eq) ok_eq (je_var 7) (je_int) (nomark _)) (jks_one (jk_insert2 (i := 5) rfl (by first | exact Or.inl rfl | exact Or.inr (Or.inl rfl) | exact Or.inr (Or.inr rfl)) (ja_cons (je_bin op_modX ok_mod (je_bin op_divX ok_div (je_var 2) (je_int)) (je_bin op_add4 ok_add (je_callB call_len ok_len T.z_len (by decide +kernel) (ja_cons (je_var 5) (ja_nil))) (je_int))) (ja_cons (je_ix (je_var 5) (je_bin op_modX ok_mod (je_bin op_divX ok_div (je_var 2) (je_bin op_pow ok_pow (je_int) (je_int))) (je_callB call_len ok_len T.z_len (by decide +kernel) (ja_cons (je_var 5) (ja_nil))))) (ja_nil))))) (jks_one (jk_if (jt_cmp (op_eq4 c.eq) ok_eq (je_var 7) (je_int) (nomark _)) (jks_one (jk_setIx (i := 5) rfl (by first | exact Or.inl rfl | exact Or.inr (Or.inl rfl) | exact Or.inr (Or.inr rfl)) (je_var 6) (je_bin op_modX ok_mod (je_bin op_divX ok_div (je_var 2) (je_int)) (je_callB call_len ok_len T.z_len (by decide +kernel) (ja_cons (je_var 5) (ja_nil)))))) (jks_one (jk_if (jt_w (jw_and (jt_cmp (op_eq4 c.eq) ok_eq (je_var 7) (je_int) (nomark _)) (jw_and1 (jt_cmp op_gt ok_gt (je_callB call_len ok_len T.z_len (by decide +kernel) (ja_cons (je_var 3) (ja_nil))) (je_int) (nomark _))))) (jks_one (jk_appIxPop (i := 3) (j := 5) rfl (by first | exact Or.inl rfl | exact Or.inr (Or.inl rfl) | exact Or.inr (Or.inr rfl)) (je_bin op_modX ok_mod (je_bin op_add4 ok_add (je_var 4) (je_int)) (je_callB call_len ok_len T.z_len (by decide +kernel) (ja_cons (je_var 3) (ja_nil)))) rfl (by first | exact Or.inl rfl | exact Or.inr (Or.inl rfl) | exact Or.inr (Or.inr rfl)) (je_bin op_modX ok_mod (je_bin op_divX ok_div (je_var 2) (je_int)) (je_callB call_len ok_len T.z_len (by decide +kernel) (ja_cons (je_var 5) (ja_nil)))))) (jks_one (jk_if (jt_cmp (op_eq4 c.eq) ok_eq (je_var 7) (je_int) (nomark _)) (jks_one (jk_app (i := 3) rfl (by first | exact Or.inl rfl | exact Or.inr (Or.inl rfl) | exact Or.inr (Or.inr rfl)) (je_lst (jao_nil)))) (jks_one (jk_del (i := 3) rfl (by first | exact Or.inl rfl | exact Or.inr (Or.inl rfl) | exact Or.inr (Or.inr rfl)) (je_var 4)))))))))))))) (jop_ret (i := 3) (j := 5) (by decide) rfl (by first | exact Or.inl rfl | exact Or.inr (Or.inl rfl) | exact Or.inr (Or.inr rfl))))))))) (fun _ _ => .inr rfl)
set_option maxHeartbeats 4000000 in
theorem ok_law_good_v12 (T : Tx K mg) (G_Web_init : FnOk P w K mg base (L2.CX P w) 1 T.a_Web_init T.d_Web_init ["self", "places", "ties"] (spI K T.cls 14 2 g_Web_init)) (G_law_refused_v12 : FnOk P w K mg base (L2.CX P w) 6 T.a_law_refused_v12 T.d_law_refused_v12 ["deed", "web", "turns"] (spD K T.cls 3 g_law_refused_v12)) (G_law_mixed_v2 : FnOk P w K mg base (L2.CX P w) 1 T.a_law_mixed_v2 T.d_law_mixed_v2 ["cell", "k"] (spD K T.cls 2 g_law_mixed_v2)) (G_law_spoilt_v5 : FnOk P w K mg base (L2.CX P w) 1 T.a_law_spoilt_v5 T.d_law_spoilt_v5 ["turns", "size", "m"] (spD K T.cls 3 g_law_spoilt_v5)) : FnOk P w K mg base (L2.CX P w) 7 T.a_law_good_v12 T.d_law_good_v12 ["count", "ties", "turns", "m"] (spD K T.cls 4 g_law_good_v12) :=
  fnD_ok T.F_law_good_v12 sc_law_good_v12 rfl (fun cdv A outer s H E c => jss_cons (js_setF (i := 4) c rfl (by first | exact Or.inl rfl | exact Or.inr rfl) (je_make (c.mono (by decide)) T.o_Web.e T.mk_Web G_Web_init T.m_Web T.b_Web_init (ja_cons (je_var 0) (ja_cons (je_var 1) (ja_nil))) (alS (alS (al0))))) (jss_cons (js_if (jt_cmp (op_ne4 c.eq) ok_ne (je_own (c.mono (by decide)) G_law_refused_v12 T.m_law_refused_v12 T.k_law_refused_v12 T.b_law_refused_v12 (ja_cons (je_int) (ja_cons (je_var 4) (ja_cons (je_var 2) (ja_nil)))) (alS (alS (alS (al0))))) (je_str) (nomark _)) (jss_one (js_ret (je_bl))) (jss_nil)) (jss_cons (js_for c (ji_rg1 T.z_range (ja_cons (je_int) (ja_nil))) (jg_name (i := 5) c.nd rfl (by first | exact Or.inl rfl | exact Or.inr rfl)) (jss_cons (js_setF (i := 3) c rfl (by first | exact Or.inl rfl | exact Or.inr rfl) (je_own (c.mono (by decide)) G_law_mixed_v2 T.m_law_mixed_v2 T.k_law_mixed_v2 T.b_law_mixed_v2 (ja_cons (je_var 3) (ja_cons (je_int) (ja_nil))) (alS (alS (al0))))) (jss_cons (js_setF (i := 6) c rfl (by first | exact Or.inl rfl | exact Or.inr rfl) (je_own (c.mono (by decide)) G_law_spoilt_v5 T.m_law_spoilt_v5 T.k_law_spoilt_v5 T.b_law_spoilt_v5 (ja_cons (je_var 2) (ja_cons (je_callB call_len ok_len T.z_len (by decide +kernel) (ja_cons (je_var 1) (ja_nil))) (ja_cons (je_var 3) (ja_nil)))) (alS (alS (alS (al0)))))) (jss_one (js_for c (ji_rg1 T.z_range (ja_cons (je_int) (ja_nil))) (jg_name (i := 7) c.nd rfl (by first | exact Or.inl rfl | exact Or.inr rfl)) (jss_one (js_if (jt_cmp (op_ne4 c.eq) ok_ne (je_own (c.mono (by decide)) G_law_refused_v12 T.m_law_refused_v12 T.k_law_refused_v12 T.b_law_refused_v12 (ja_cons (je_var 7) (ja_cons (je_var 4) (ja_cons (je_lc [("row", 8)] c (ji_seq (je_var 6)) (blkOk_by (N := N_law_good_v12) (sc := defScope s_law_good_v12) (by decide +kernel)) (fun _ _ _ _ _ => jg_name (i := 8) c.nd rfl (by first | exact Or.inl rfl | exact Or.inr rfl)) (fun _ _ _ _ _ c => jts_nil) (fun _ _ _ _ _ c => je_callTy call_list_of ok_list T.z_list (by decide +kernel) (ja_cons (je_var 8) (ja_nil))) (by decide)) (ja_nil)))) (alS (alS (alS (al0))))) (je_str) (nomark _)) (jss_one (js_ret (je_bl))) (jss_nil)))))))) (jss_one (js_ret (je_bl)))))) (fun _ _ => .inr rfl)
set_option maxHeartbeats 4000000 in
theorem ok_law_k76 (T : Tx K mg) (G_law_mixed_v2 : FnOk P w K mg base (L2.CX P w) 1 T.a_law_mixed_v2 T.d_law_mixed_v2 ["cell", "k"] (spD K T.cls 2 g_law_mixed_v2)) (G_law_at : FnOk P w K mg base (L2.CX P w) 1 T.a_law_at T.d_law_at ["script", "k"] (spD K T.cls 2 g_law_at)) (G_law_ties_v2 : FnOk P w K mg base (L2.CX P w) 2 T.a_law_ties_v2 T.d_law_ties_v2 ["script", "count", "most"] (spD K T.cls 3 g_law_ties_v2)) (G_law_good_v12 : FnOk P w K mg base (L2.CX P w) 7 T.a_law_good_v12 T.d_law_good_v12 ["count", "ties", "turns", "m"] (spD K T.cls 4 g_law_good_v12)) (G_law_any_turns : FnOk P w K mg base (L2.CX P w) 2 T.a_law_any_turns T.d_law_any_turns ["count", "ties", "m"] (spD K T.cls 3 g_law_any_turns)) (G_law_map : FnOk P w K mg base (L2.CX P w) 3 T.a_law_map T.d_law_map ["script"] (spD K T.cls 1 g_law_map)) : FnOk P w K mg base (L2.CX P w) 8 T.a_law_k76 T.d_law_k76 ["script"] (spD K T.cls 1 g_law_k76) :=
  fnD_ok T.F_law_k76 sc_law_k76 rfl (fun cdv A outer s H E c => jss_cons (js_setF (i := 1) c rfl (by first | exact Or.inl rfl | exact Or.inr rfl) (je_own (c.mono (by decide)) G_law_mixed_v2 T.m_law_mixed_v2 T.k_law_mixed_v2 T.b_law_mixed_v2 (ja_cons (je_bin op_add4 ok_add (je_bin op_modX ok_mod (je_own (c.mono (by decide)) G_law_at T.m_law_at T.k_law_at T.b_law_at (ja_cons (je_var 0) (ja_cons (je_int) (ja_nil))) (alS (alS (al0)))) (je_bin op_pow ok_pow (je_int) (je_int))) (je_callB call_len ok_len T.z_len (by decide +kernel) (ja_cons (je_var 0) (ja_nil)))) (ja_cons (je_int) (ja_nil))) (alS (alS (al0))))) (jss_cons (js_setF (i := 2) c rfl (by first | exact Or.inl rfl | exact Or.inr rfl) (je_bin op_add4 ok_add (je_int) (je_bin op_modX ok_mod (je_own (c.mono (by decide)) G_law_at T.m_law_at T.k_law_at T.b_law_at (ja_cons (je_var 0) (ja_cons (je_int) (ja_nil))) (alS (alS (al0)))) (je_int)))) (jss_cons (js_setF (i := 3) c rfl (by first | exact Or.inl rfl | exact Or.inr rfl) (je_own (c.mono (by decide)) G_law_ties_v2 T.m_law_ties_v2 T.k_law_ties_v2 T.b_law_ties_v2 (ja_cons (je_var 0) (ja_cons (je_var 2) (ja_cons (je_int) (ja_nil)))) (alS (alS (alS (al0)))))) (jss_cons (js_if (jt_not (jt_truth (je_own (c.mono (by decide)) G_law_good_v12 T.m_law_good_v12 T.k_law_good_v12 T.b_law_good_v12 (ja_cons (je_var 2) (ja_cons (je_var 3) (ja_cons (je_own (c.mono (by decide)) G_law_any_turns T.m_law_any_turns T.k_law_any_turns T.b_law_any_turns (ja_cons (je_var 2) (ja_cons (je_var 3) (ja_cons (je_var 1) (ja_nil)))) (alS (alS (alS (al0))))) (ja_cons (je_var 1) (ja_nil))))) (alS (alS (alS (alS (al0)))))))) (jss_one (js_ret (je_bl))) (jss_nil)) (jss_cons (js_asgT (je_own (c.mono (by decide)) G_law_map T.m_law_map T.k_law_map T.b_law_map (ja_cons (je_var 0) (ja_nil)) (alS (al0))) (jg_tup c.calm (jgs_cons (jg_name (i := 2) c.nd rfl (by first | exact Or.inl rfl | exact Or.inr rfl)) (jgs_cons (jg_name (i := 3) c.nd rfl (by first | exact Or.inl rfl | exact Or.inr rfl)) (jgs_cons (jg_name (i := 4) c.nd rfl (by first | exact Or.inl rfl | exact Or.inr rfl)) (jgs_nil)))))) (jss_one (js_ret (je_own (c.mono (by decide)) G_law_good_v12 T.m_law_good_v12 T.k_law_good_v12 T.b_law_good_v12 (ja_cons (je_var 2) (ja_cons (je_var 3) (ja_cons (je_var 4) (ja_cons (je_bin op_add4 ok_add (je_var 1) (je_int)) (ja_nil))))) (alS (alS (alS (alS (al0))))))))))))) (fun _ _ => .inr rfl)
set_option maxHeartbeats 8000000 in
theorem all_mk {K : PySem.W.Frag} {h : Heap} {mg : Str → Option Value} (X : K.In h) (G : h.Ns mainGlobals mg) {C_WebError C_BadWeb C_BadSet C_BadTurns C_NotFlat C_Web a_Web_init a_made_set a_marks_over a_is_joined a_place_from a_look_at_turns a_darts_behind a_rounds_of a_lies_flat a_other_web a_law_at a_law_mixed_v2 a_law_ties_v2 a_law_amounts a_law_behind_v2 a_law_put a_law_corner a_law_grown_v3 a_law_map a_law_any_turns a_law_refused_v12 a_law_spoilt_v5 a_law_good_v12 a_law_k76 : Addr} {od_Web_init an_Web_init od_made_set an_made_set od_marks_over an_marks_over od_is_joined an_is_joined od_place_from an_place_from od_look_at_turns an_look_at_turns od_darts_behind an_darts_behind od_rounds_of an_rounds_of od_lies_flat an_lies_flat od_other_web an_other_web od_law_at an_law_at od_law_mixed_v2 an_law_mixed_v2 od_law_ties_v2 an_law_ties_v2 od_law_amounts an_law_amounts od_law_behind_v2 an_law_behind_v2 od_law_put an_law_put od_law_corner an_law_corner od_law_grown_v3 an_law_grown_v3 od_law_map an_law_map od_law_any_turns an_law_any_turns od_law_refused_v12 an_law_refused_v12 od_law_spoilt_v5 an_law_spoilt_v5 od_law_good_v12 an_law_good_v12 od_law_k76 an_law_k76 : Option Addr} {sl_Web_init sl_made_set sl_marks_over sl_is_joined sl_place_from sl_look_at_turns sl_darts_behind sl_rounds_of sl_lies_flat sl_other_web sl_law_at sl_law_mixed_v2 sl_law_ties_v2 sl_law_amounts sl_law_behind_v2 sl_law_put sl_law_corner sl_law_grown_v3 sl_law_map sl_law_any_turns sl_law_refused_v12 sl_law_spoilt_v5 sl_law_good_v12 sl_law_k76 : Array (Option Value)} {oc_Web_init kV_Web_init dc_Web_init pm_Web_init cd_Web_init ct_Web_init oc_made_set kV_made_set dc_made_set pm_made_set cd_made_set ct_made_set oc_marks_over kV_marks_over dc_marks_over pm_marks_over cd_marks_over ct_marks_over oc_is_joined kV_is_joined dc_is_joined pm_is_joined cd_is_joined ct_is_joined oc_place_from kV_place_from dc_place_from pm_place_from cd_place_from ct_place_from oc_look_at_turns kV_look_at_turns dc_look_at_turns pm_look_at_turns cd_look_at_turns ct_look_at_turns oc_darts_behind kV_darts_behind dc_darts_behind pm_darts_behind cd_darts_behind ct_darts_behind oc_rounds_of kV_rounds_of dc_rounds_of pm_rounds_of cd_rounds_of ct_rounds_of oc_lies_flat kV_lies_flat dc_lies_flat pm_lies_flat cd_lies_flat ct_lies_flat oc_other_web kV_other_web dc_other_web pm_other_web cd_other_web ct_other_web oc_law_at kV_law_at dc_law_at pm_law_at cd_law_at ct_law_at oc_law_mixed_v2 kV_law_mixed_v2 dc_law_mixed_v2 pm_law_mixed_v2 cd_law_mixed_v2 ct_law_mixed_v2 oc_law_ties_v2 kV_law_ties_v2 dc_law_ties_v2 pm_law_ties_v2 cd_law_ties_v2 ct_law_ties_v2 oc_law_amounts kV_law_amounts dc_law_amounts pm_law_amounts cd_law_amounts ct_law_amounts oc_law_behind_v2 kV_law_behind_v2 dc_law_behind_v2 pm_law_behind_v2 cd_law_behind_v2 ct_law_behind_v2 oc_law_put kV_law_put dc_law_put pm_law_put cd_law_put ct_law_put oc_law_corner kV_law_corner dc_law_corner pm_law_corner cd_law_corner ct_law_corner oc_law_grown_v3 kV_law_grown_v3 dc_law_grown_v3 pm_law_grown_v3 cd_law_grown_v3 ct_law_grown_v3 oc_law_map kV_law_map dc_law_map pm_law_map cd_law_map ct_law_map oc_law_any_turns kV_law_any_turns dc_law_any_turns pm_law_any_turns cd_law_any_turns ct_law_any_turns oc_law_refused_v12 kV_law_refused_v12 dc_law_refused_v12 pm_law_refused_v12 cd_law_refused_v12 ct_law_refused_v12 oc_law_spoilt_v5 kV_law_spoilt_v5 dc_law_spoilt_v5 pm_law_spoilt_v5 cd_law_spoilt_v5 ct_law_spoilt_v5 oc_law_good_v12 kV_law_good_v12 dc_law_good_v12 pm_law_good_v12 cd_law_good_v12 ct_law_good_v12 oc_law_k76 kV_law_k76 dc_law_k76 pm_law_k76 cd_law_k76 ct_law_k76 : Value} {t_MOST_PLACES t_MOST_TIES : Tok}
    (a_WebError : PySem.W.nsIn K mainGlobals "WebError" = some (some (.ref C_WebError)))
    (x_WebError : PySem.W.excIn K C_WebError [.type "ValueError", .type "Exception", .type "BaseException", .type "object"] "ValueError.__new__" = true)
    (kx_WebError : PySem.W.keepIn K (.ref C_WebError) = true)
    (bx_WebError : PySem.W.subIn K (.ref C_WebError) (.type "BaseException") = some true)
    (tx_WebError : PySem.W.typeIn K (.ref C_WebError) = some (.type "type"))
    (a_BadWeb : PySem.W.nsIn K mainGlobals "BadWeb" = some (some (.ref C_BadWeb)))
    (x_BadWeb : PySem.W.excIn K C_BadWeb [.type "ValueError", .type "Exception", .type "BaseException", .type "object"] "ValueError.__new__" = true)
    (kx_BadWeb : PySem.W.keepIn K (.ref C_BadWeb) = true)
    (bx_BadWeb : PySem.W.subIn K (.ref C_BadWeb) (.type "BaseException") = some true)
    (tx_BadWeb : PySem.W.typeIn K (.ref C_BadWeb) = some (.type "type"))
    (a_BadSet : PySem.W.nsIn K mainGlobals "BadSet" = some (some (.ref C_BadSet)))
    (x_BadSet : PySem.W.excIn K C_BadSet [.type "ValueError", .type "Exception", .type "BaseException", .type "object"] "ValueError.__new__" = true)
    (kx_BadSet : PySem.W.keepIn K (.ref C_BadSet) = true)
    (bx_BadSet : PySem.W.subIn K (.ref C_BadSet) (.type "BaseException") = some true)
    (tx_BadSet : PySem.W.typeIn K (.ref C_BadSet) = some (.type "type"))
    (a_BadTurns : PySem.W.nsIn K mainGlobals "BadTurns" = some (some (.ref C_BadTurns)))
    (x_BadTurns : PySem.W.excIn K C_BadTurns [.type "ValueError", .type "Exception", .type "BaseException", .type "object"] "ValueError.__new__" = true)
    (kx_BadTurns : PySem.W.keepIn K (.ref C_BadTurns) = true)
    (bx_BadTurns : PySem.W.subIn K (.ref C_BadTurns) (.type "BaseException") = some true)
    (tx_BadTurns : PySem.W.typeIn K (.ref C_BadTurns) = some (.type "type"))
    (a_NotFlat : PySem.W.nsIn K mainGlobals "NotFlat" = some (some (.ref C_NotFlat)))
    (x_NotFlat : PySem.W.excIn K C_NotFlat [.type "ValueError", .type "Exception", .type "BaseException", .type "object"] "ValueError.__new__" = true)
    (kx_NotFlat : PySem.W.keepIn K (.ref C_NotFlat) = true)
    (bx_NotFlat : PySem.W.subIn K (.ref C_NotFlat) (.type "BaseException") = some true)
    (tx_NotFlat : PySem.W.typeIn K (.ref C_NotFlat) = some (.type "type"))
    (su_BadWeb_WebError : PySem.W.subIn K (.ref C_BadWeb) (.ref C_WebError) = some true)
    (su_BadSet_WebError : PySem.W.subIn K (.ref C_BadSet) (.ref C_WebError) = some true)
    (su_BadTurns_WebError : PySem.W.subIn K (.ref C_BadTurns) (.ref C_WebError) = some true)
    (su_NotFlat_WebError : PySem.W.subIn K (.ref C_NotFlat) (.ref C_WebError) = some true)
    (hd_WebError : PySem.W.hasDictIn K C_WebError = true)
    (e6 : PySem.W.specialIn K (.builtin "object.__class__") "__get__" = some (some (.builtin "getset_descriptor.__get__")))
    (e7 : PySem.W.takesIn K (.builtin "object.__class__") = some true)
    (e0_BadWeb : PySem.W.findIn K (.ref C_BadWeb) "__getattribute__" = some (some (.builtin "BaseException.__getattribute__")))
    (e1_BadWeb : PySem.W.findIn K (.ref C_BadWeb) "__getattr__" = some none)
    (e3_BadWeb : PySem.W.hasDictIn K C_BadWeb = true)
    (e4_BadWeb : PySem.W.findIn K (.ref C_BadWeb) "__class__" = some (some (.builtin "object.__class__")))
    (e7_BadWeb : PySem.W.mroIn K C_BadWeb (.type "object") = some true)
    (e0_BadSet : PySem.W.findIn K (.ref C_BadSet) "__getattribute__" = some (some (.builtin "BaseException.__getattribute__")))
    (e1_BadSet : PySem.W.findIn K (.ref C_BadSet) "__getattr__" = some none)
    (e3_BadSet : PySem.W.hasDictIn K C_BadSet = true)
    (e4_BadSet : PySem.W.findIn K (.ref C_BadSet) "__class__" = some (some (.builtin "object.__class__")))
    (e7_BadSet : PySem.W.mroIn K C_BadSet (.type "object") = some true)
    (e0_BadTurns : PySem.W.findIn K (.ref C_BadTurns) "__getattribute__" = some (some (.builtin "BaseException.__getattribute__")))
    (e1_BadTurns : PySem.W.findIn K (.ref C_BadTurns) "__getattr__" = some none)
    (e3_BadTurns : PySem.W.hasDictIn K C_BadTurns = true)
    (e4_BadTurns : PySem.W.findIn K (.ref C_BadTurns) "__class__" = some (some (.builtin "object.__class__")))
    (e7_BadTurns : PySem.W.mroIn K C_BadTurns (.type "object") = some true)
    (e0_NotFlat : PySem.W.findIn K (.ref C_NotFlat) "__getattribute__" = some (some (.builtin "BaseException.__getattribute__")))
    (e1_NotFlat : PySem.W.findIn K (.ref C_NotFlat) "__getattr__" = some none)
    (e3_NotFlat : PySem.W.hasDictIn K C_NotFlat = true)
    (e4_NotFlat : PySem.W.findIn K (.ref C_NotFlat) "__class__" = some (some (.builtin "object.__class__")))
    (e7_NotFlat : PySem.W.mroIn K C_NotFlat (.type "object") = some true)
    (is_BadWeb_ValueError : PySem.W.kitOne K (.ref C_BadWeb) (.type "ValueError") = some true)
    (is_BadSet_ValueError : PySem.W.kitOne K (.ref C_BadSet) (.type "ValueError") = some true)
    (is_BadTurns_ValueError : PySem.W.kitOne K (.ref C_BadTurns) (.type "ValueError") = some true)
    (is_NotFlat_ValueError : PySem.W.kitOne K (.ref C_NotFlat) (.type "ValueError") = some true)
    (is_BadWeb_BadTurns : PySem.W.kitOne K (.ref C_BadWeb) (.ref C_BadTurns) = some false)
    (is_BadSet_BadTurns : PySem.W.kitOne K (.ref C_BadSet) (.ref C_BadTurns) = some false)
    (is_BadTurns_BadTurns : PySem.W.kitOne K (.ref C_BadTurns) (.ref C_BadTurns) = some true)
    (is_NotFlat_BadTurns : PySem.W.kitOne K (.ref C_NotFlat) (.ref C_BadTurns) = some false)
    (is_BadWeb_NotFlat : PySem.W.kitOne K (.ref C_BadWeb) (.ref C_NotFlat) = some false)
    (is_BadSet_NotFlat : PySem.W.kitOne K (.ref C_BadSet) (.ref C_NotFlat) = some false)
    (is_BadTurns_NotFlat : PySem.W.kitOne K (.ref C_BadTurns) (.ref C_NotFlat) = some false)
    (is_NotFlat_NotFlat : PySem.W.kitOne K (.ref C_NotFlat) (.ref C_NotFlat) = some true)
    (is_BadWeb_BadWeb : PySem.W.kitOne K (.ref C_BadWeb) (.ref C_BadWeb) = some true)
    (is_BadSet_BadWeb : PySem.W.kitOne K (.ref C_BadSet) (.ref C_BadWeb) = some false)
    (is_BadTurns_BadWeb : PySem.W.kitOne K (.ref C_BadTurns) (.ref C_BadWeb) = some false)
    (is_NotFlat_BadWeb : PySem.W.kitOne K (.ref C_NotFlat) (.ref C_BadWeb) = some false)
    (is_BadWeb_BadSet : PySem.W.kitOne K (.ref C_BadWeb) (.ref C_BadSet) = some false)
    (is_BadSet_BadSet : PySem.W.kitOne K (.ref C_BadSet) (.ref C_BadSet) = some true)
    (is_BadTurns_BadSet : PySem.W.kitOne K (.ref C_BadTurns) (.ref C_BadSet) = some false)
    (is_NotFlat_BadSet : PySem.W.kitOne K (.ref C_NotFlat) (.ref C_BadSet) = some false)
    (a_Web : PySem.W.nsIn K mainGlobals "Web" = some (some (.ref C_Web)))
    (pg_Web : PySem.W.plainGet K C_Web Str.empty = true)
    (hd_Web : PySem.W.hasDictIn K C_Web = true)
    (po_Web : PySem.W.plainOver K C_Web = true)
    (sa_Web : PySem.W.findIn K (.ref C_Web) "__setattr__" = some (some (.builtin "object.__setattr__")))
    (mk_Web : PySem.W.makesIn K C_Web = true)
    (kc_Web : PySem.W.keepIn K (.ref C_Web) = true)
    (na_Web_places : PySem.W.findIn K (.ref C_Web) "places" = some none)
    (na_Web_ties : PySem.W.findIn K (.ref C_Web) "ties" = some none)
    (n_Web_init : PySem.W.findIn K (.ref C_Web) "__init__" = some (some (.ref a_Web_init)))
    (i_Web_init : PySem.W.isFn K (.ref a_Web_init) = true)
    (l_Web_init : K.lookup a_Web_init = some ⟨oc_Web_init, od_Web_init, .func (PySem.W.fnOf "__init__" "Web.__init__" (defArgs s_Web_init) (defBody s_Web_init) (defScope s_Web_init) .none kV_Web_init dc_Web_init pm_Web_init an_Web_init cd_Web_init ct_Web_init), sl_Web_init⟩)
    (c_Web_init : PySem.W.codeIn K cd_Web_init "Web.__init__" = true)
    (k_Web_init : PySem.W.keepIn K (.ref a_Web_init) = true)
    (n_made_set : PySem.W.nsIn K mainGlobals "made_set" = some (some (.ref a_made_set)))
    (l_made_set : K.lookup a_made_set = some ⟨oc_made_set, od_made_set, .func (PySem.W.fnOf "made_set" "made_set" (defArgs s_made_set) (defBody s_made_set) (defScope s_made_set) .none kV_made_set dc_made_set pm_made_set an_made_set cd_made_set ct_made_set), sl_made_set⟩)
    (c_made_set : PySem.W.codeIn K cd_made_set "made_set" = true)
    (k_made_set : PySem.W.keepIn K (.ref a_made_set) = true)
    (n_marks_over : PySem.W.nsIn K mainGlobals "marks_over" = some (some (.ref a_marks_over)))
    (l_marks_over : K.lookup a_marks_over = some ⟨oc_marks_over, od_marks_over, .func (PySem.W.fnOf "marks_over" "marks_over" (defArgs s_marks_over) (defBody s_marks_over) (defScope s_marks_over) .none kV_marks_over dc_marks_over pm_marks_over an_marks_over cd_marks_over ct_marks_over), sl_marks_over⟩)
    (c_marks_over : PySem.W.codeIn K cd_marks_over "marks_over" = true)
    (k_marks_over : PySem.W.keepIn K (.ref a_marks_over) = true)
    (n_is_joined : PySem.W.nsIn K mainGlobals "is_joined" = some (some (.ref a_is_joined)))
    (l_is_joined : K.lookup a_is_joined = some ⟨oc_is_joined, od_is_joined, .func (PySem.W.fnOf "is_joined" "is_joined" (defArgs s_is_joined) (defBody s_is_joined) (defScope s_is_joined) .none kV_is_joined dc_is_joined pm_is_joined an_is_joined cd_is_joined ct_is_joined), sl_is_joined⟩)
    (c_is_joined : PySem.W.codeIn K cd_is_joined "is_joined" = true)
    (k_is_joined : PySem.W.keepIn K (.ref a_is_joined) = true)
    (n_place_from : PySem.W.nsIn K mainGlobals "place_from" = some (some (.ref a_place_from)))
    (l_place_from : K.lookup a_place_from = some ⟨oc_place_from, od_place_from, .func (PySem.W.fnOf "place_from" "place_from" (defArgs s_place_from) (defBody s_place_from) (defScope s_place_from) .none kV_place_from dc_place_from pm_place_from an_place_from cd_place_from ct_place_from), sl_place_from⟩)
    (c_place_from : PySem.W.codeIn K cd_place_from "place_from" = true)
    (k_place_from : PySem.W.keepIn K (.ref a_place_from) = true)
    (n_look_at_turns : PySem.W.nsIn K mainGlobals "look_at_turns" = some (some (.ref a_look_at_turns)))
    (l_look_at_turns : K.lookup a_look_at_turns = some ⟨oc_look_at_turns, od_look_at_turns, .func (PySem.W.fnOf "look_at_turns" "look_at_turns" (defArgs s_look_at_turns) (defBody s_look_at_turns) (defScope s_look_at_turns) .none kV_look_at_turns dc_look_at_turns pm_look_at_turns an_look_at_turns cd_look_at_turns ct_look_at_turns), sl_look_at_turns⟩)
    (c_look_at_turns : PySem.W.codeIn K cd_look_at_turns "look_at_turns" = true)
    (k_look_at_turns : PySem.W.keepIn K (.ref a_look_at_turns) = true)
    (n_darts_behind : PySem.W.nsIn K mainGlobals "darts_behind" = some (some (.ref a_darts_behind)))
    (l_darts_behind : K.lookup a_darts_behind = some ⟨oc_darts_behind, od_darts_behind, .func (PySem.W.fnOf "darts_behind" "darts_behind" (defArgs s_darts_behind) (defBody s_darts_behind) (defScope s_darts_behind) .none kV_darts_behind dc_darts_behind pm_darts_behind an_darts_behind cd_darts_behind ct_darts_behind), sl_darts_behind⟩)
    (c_darts_behind : PySem.W.codeIn K cd_darts_behind "darts_behind" = true)
    (k_darts_behind : PySem.W.keepIn K (.ref a_darts_behind) = true)
    (n_rounds_of : PySem.W.nsIn K mainGlobals "rounds_of" = some (some (.ref a_rounds_of)))
    (l_rounds_of : K.lookup a_rounds_of = some ⟨oc_rounds_of, od_rounds_of, .func (PySem.W.fnOf "rounds_of" "rounds_of" (defArgs s_rounds_of) (defBody s_rounds_of) (defScope s_rounds_of) .none kV_rounds_of dc_rounds_of pm_rounds_of an_rounds_of cd_rounds_of ct_rounds_of), sl_rounds_of⟩)
    (c_rounds_of : PySem.W.codeIn K cd_rounds_of "rounds_of" = true)
    (k_rounds_of : PySem.W.keepIn K (.ref a_rounds_of) = true)
    (n_lies_flat : PySem.W.nsIn K mainGlobals "lies_flat" = some (some (.ref a_lies_flat)))
    (l_lies_flat : K.lookup a_lies_flat = some ⟨oc_lies_flat, od_lies_flat, .func (PySem.W.fnOf "lies_flat" "lies_flat" (defArgs s_lies_flat) (defBody s_lies_flat) (defScope s_lies_flat) .none kV_lies_flat dc_lies_flat pm_lies_flat an_lies_flat cd_lies_flat ct_lies_flat), sl_lies_flat⟩)
    (c_lies_flat : PySem.W.codeIn K cd_lies_flat "lies_flat" = true)
    (k_lies_flat : PySem.W.keepIn K (.ref a_lies_flat) = true)
    (n_other_web : PySem.W.nsIn K mainGlobals "other_web" = some (some (.ref a_other_web)))
    (l_other_web : K.lookup a_other_web = some ⟨oc_other_web, od_other_web, .func (PySem.W.fnOf "other_web" "other_web" (defArgs s_other_web) (defBody s_other_web) (defScope s_other_web) .none kV_other_web dc_other_web pm_other_web an_other_web cd_other_web ct_other_web), sl_other_web⟩)
    (c_other_web : PySem.W.codeIn K cd_other_web "other_web" = true)
    (k_other_web : PySem.W.keepIn K (.ref a_other_web) = true)
    (n_law_at : PySem.W.nsIn K mainGlobals "_law_at" = some (some (.ref a_law_at)))
    (l_law_at : K.lookup a_law_at = some ⟨oc_law_at, od_law_at, .func (PySem.W.fnOf "_law_at" "_law_at" (defArgs s_law_at) (defBody s_law_at) (defScope s_law_at) .none kV_law_at dc_law_at pm_law_at an_law_at cd_law_at ct_law_at), sl_law_at⟩)
    (c_law_at : PySem.W.codeIn K cd_law_at "_law_at" = true)
    (k_law_at : PySem.W.keepIn K (.ref a_law_at) = true)
    (n_law_mixed_v2 : PySem.W.nsIn K mainGlobals "_law_mixed" = some (some (.ref a_law_mixed_v2)))
    (l_law_mixed_v2 : K.lookup a_law_mixed_v2 = some ⟨oc_law_mixed_v2, od_law_mixed_v2, .func (PySem.W.fnOf "_law_mixed" "_law_mixed" (defArgs s_law_mixed_v2) (defBody s_law_mixed_v2) (defScope s_law_mixed_v2) .none kV_law_mixed_v2 dc_law_mixed_v2 pm_law_mixed_v2 an_law_mixed_v2 cd_law_mixed_v2 ct_law_mixed_v2), sl_law_mixed_v2⟩)
    (c_law_mixed_v2 : PySem.W.codeIn K cd_law_mixed_v2 "_law_mixed" = true)
    (k_law_mixed_v2 : PySem.W.keepIn K (.ref a_law_mixed_v2) = true)
    (n_law_ties_v2 : PySem.W.nsIn K mainGlobals "_law_ties" = some (some (.ref a_law_ties_v2)))
    (l_law_ties_v2 : K.lookup a_law_ties_v2 = some ⟨oc_law_ties_v2, od_law_ties_v2, .func (PySem.W.fnOf "_law_ties" "_law_ties" (defArgs s_law_ties_v2) (defBody s_law_ties_v2) (defScope s_law_ties_v2) .none kV_law_ties_v2 dc_law_ties_v2 pm_law_ties_v2 an_law_ties_v2 cd_law_ties_v2 ct_law_ties_v2), sl_law_ties_v2⟩)
    (c_law_ties_v2 : PySem.W.codeIn K cd_law_ties_v2 "_law_ties" = true)
    (k_law_ties_v2 : PySem.W.keepIn K (.ref a_law_ties_v2) = true)
    (n_law_amounts : PySem.W.nsIn K mainGlobals "_law_amounts" = some (some (.ref a_law_amounts)))
    (l_law_amounts : K.lookup a_law_amounts = some ⟨oc_law_amounts, od_law_amounts, .func (PySem.W.fnOf "_law_amounts" "_law_amounts" (defArgs s_law_amounts) (defBody s_law_amounts) (defScope s_law_amounts) .none kV_law_amounts dc_law_amounts pm_law_amounts an_law_amounts cd_law_amounts ct_law_amounts), sl_law_amounts⟩)
    (c_law_amounts : PySem.W.codeIn K cd_law_amounts "_law_amounts" = true)
    (k_law_amounts : PySem.W.keepIn K (.ref a_law_amounts) = true)
    (n_law_behind_v2 : PySem.W.nsIn K mainGlobals "_law_behind" = some (some (.ref a_law_behind_v2)))
    (l_law_behind_v2 : K.lookup a_law_behind_v2 = some ⟨oc_law_behind_v2, od_law_behind_v2, .func (PySem.W.fnOf "_law_behind" "_law_behind" (defArgs s_law_behind_v2) (defBody s_law_behind_v2) (defScope s_law_behind_v2) .none kV_law_behind_v2 dc_law_behind_v2 pm_law_behind_v2 an_law_behind_v2 cd_law_behind_v2 ct_law_behind_v2), sl_law_behind_v2⟩)
    (c_law_behind_v2 : PySem.W.codeIn K cd_law_behind_v2 "_law_behind" = true)
    (k_law_behind_v2 : PySem.W.keepIn K (.ref a_law_behind_v2) = true)
    (n_law_put : PySem.W.nsIn K mainGlobals "_law_put" = some (some (.ref a_law_put)))
    (l_law_put : K.lookup a_law_put = some ⟨oc_law_put, od_law_put, .func (PySem.W.fnOf "_law_put" "_law_put" (defArgs s_law_put) (defBody s_law_put) (defScope s_law_put) .none kV_law_put dc_law_put pm_law_put an_law_put cd_law_put ct_law_put), sl_law_put⟩)
    (c_law_put : PySem.W.codeIn K cd_law_put "_law_put" = true)
    (k_law_put : PySem.W.keepIn K (.ref a_law_put) = true)
    (n_law_corner : PySem.W.nsIn K mainGlobals "_law_corner" = some (some (.ref a_law_corner)))
    (l_law_corner : K.lookup a_law_corner = some ⟨oc_law_corner, od_law_corner, .func (PySem.W.fnOf "_law_corner" "_law_corner" (defArgs s_law_corner) (defBody s_law_corner) (defScope s_law_corner) .none kV_law_corner dc_law_corner pm_law_corner an_law_corner cd_law_corner ct_law_corner), sl_law_corner⟩)
    (c_law_corner : PySem.W.codeIn K cd_law_corner "_law_corner" = true)
    (k_law_corner : PySem.W.keepIn K (.ref a_law_corner) = true)
    (n_law_grown_v3 : PySem.W.nsIn K mainGlobals "_law_grown" = some (some (.ref a_law_grown_v3)))
    (l_law_grown_v3 : K.lookup a_law_grown_v3 = some ⟨oc_law_grown_v3, od_law_grown_v3, .func (PySem.W.fnOf "_law_grown" "_law_grown" (defArgs s_law_grown_v3) (defBody s_law_grown_v3) (defScope s_law_grown_v3) .none kV_law_grown_v3 dc_law_grown_v3 pm_law_grown_v3 an_law_grown_v3 cd_law_grown_v3 ct_law_grown_v3), sl_law_grown_v3⟩)
    (c_law_grown_v3 : PySem.W.codeIn K cd_law_grown_v3 "_law_grown" = true)
    (k_law_grown_v3 : PySem.W.keepIn K (.ref a_law_grown_v3) = true)
    (n_law_map : PySem.W.nsIn K mainGlobals "_law_map" = some (some (.ref a_law_map)))
    (l_law_map : K.lookup a_law_map = some ⟨oc_law_map, od_law_map, .func (PySem.W.fnOf "_law_map" "_law_map" (defArgs s_law_map) (defBody s_law_map) (defScope s_law_map) .none kV_law_map dc_law_map pm_law_map an_law_map cd_law_map ct_law_map), sl_law_map⟩)
    (c_law_map : PySem.W.codeIn K cd_law_map "_law_map" = true)
    (k_law_map : PySem.W.keepIn K (.ref a_law_map) = true)
    (n_law_any_turns : PySem.W.nsIn K mainGlobals "_law_any_turns" = some (some (.ref a_law_any_turns)))
    (l_law_any_turns : K.lookup a_law_any_turns = some ⟨oc_law_any_turns, od_law_any_turns, .func (PySem.W.fnOf "_law_any_turns" "_law_any_turns" (defArgs s_law_any_turns) (defBody s_law_any_turns) (defScope s_law_any_turns) .none kV_law_any_turns dc_law_any_turns pm_law_any_turns an_law_any_turns cd_law_any_turns ct_law_any_turns), sl_law_any_turns⟩)
    (c_law_any_turns : PySem.W.codeIn K cd_law_any_turns "_law_any_turns" = true)
    (k_law_any_turns : PySem.W.keepIn K (.ref a_law_any_turns) = true)
    (n_law_refused_v12 : PySem.W.nsIn K mainGlobals "_law_refused" = some (some (.ref a_law_refused_v12)))
    (l_law_refused_v12 : K.lookup a_law_refused_v12 = some ⟨oc_law_refused_v12, od_law_refused_v12, .func (PySem.W.fnOf "_law_refused" "_law_refused" (defArgs s_law_refused_v12) (defBody s_law_refused_v12) (defScope s_law_refused_v12) .none kV_law_refused_v12 dc_law_refused_v12 pm_law_refused_v12 an_law_refused_v12 cd_law_refused_v12 ct_law_refused_v12), sl_law_refused_v12⟩)
    (c_law_refused_v12 : PySem.W.codeIn K cd_law_refused_v12 "_law_refused" = true)
    (k_law_refused_v12 : PySem.W.keepIn K (.ref a_law_refused_v12) = true)
    (n_law_spoilt_v5 : PySem.W.nsIn K mainGlobals "_law_spoilt" = some (some (.ref a_law_spoilt_v5)))
    (l_law_spoilt_v5 : K.lookup a_law_spoilt_v5 = some ⟨oc_law_spoilt_v5, od_law_spoilt_v5, .func (PySem.W.fnOf "_law_spoilt" "_law_spoilt" (defArgs s_law_spoilt_v5) (defBody s_law_spoilt_v5) (defScope s_law_spoilt_v5) .none kV_law_spoilt_v5 dc_law_spoilt_v5 pm_law_spoilt_v5 an_law_spoilt_v5 cd_law_spoilt_v5 ct_law_spoilt_v5), sl_law_spoilt_v5⟩)
    (c_law_spoilt_v5 : PySem.W.codeIn K cd_law_spoilt_v5 "_law_spoilt" = true)
    (k_law_spoilt_v5 : PySem.W.keepIn K (.ref a_law_spoilt_v5) = true)
    (n_law_good_v12 : PySem.W.nsIn K mainGlobals "_law_good" = some (some (.ref a_law_good_v12)))
    (l_law_good_v12 : K.lookup a_law_good_v12 = some ⟨oc_law_good_v12, od_law_good_v12, .func (PySem.W.fnOf "_law_good" "_law_good" (defArgs s_law_good_v12) (defBody s_law_good_v12) (defScope s_law_good_v12) .none kV_law_good_v12 dc_law_good_v12 pm_law_good_v12 an_law_good_v12 cd_law_good_v12 ct_law_good_v12), sl_law_good_v12⟩)
    (c_law_good_v12 : PySem.W.codeIn K cd_law_good_v12 "_law_good" = true)
    (k_law_good_v12 : PySem.W.keepIn K (.ref a_law_good_v12) = true)
    (n_law_k76 : PySem.W.nsIn K mainGlobals "law" = some (some (.ref a_law_k76)))
    (l_law_k76 : K.lookup a_law_k76 = some ⟨oc_law_k76, od_law_k76, .func (PySem.W.fnOf "law" "law" (defArgs s_law_k76) (defBody s_law_k76) (defScope s_law_k76) .none kV_law_k76 dc_law_k76 pm_law_k76 an_law_k76 cd_law_k76 ct_law_k76), sl_law_k76⟩)
    (c_law_k76 : PySem.W.codeIn K cd_law_k76 "law" = true)
    (k_law_k76 : PySem.W.keepIn K (.ref a_law_k76) = true)
    (v_MOST_PLACES : PySem.W.nsIn K mainGlobals "MOST_PLACES" = some (some (.int 14 t_MOST_PLACES)))
    (v_MOST_TIES : PySem.W.nsIn K mainGlobals "MOST_TIES" = some (some (.int 30 t_MOST_TIES)))
    (z_ValueError : PySem.W.nsIn K mainGlobals "ValueError" = some none)
    (z_enumerate : PySem.W.nsIn K mainGlobals "enumerate" = some none)
    (z_int : PySem.W.nsIn K mainGlobals "int" = some none)
    (z_isinstance : PySem.W.nsIn K mainGlobals "isinstance" = some none)
    (z_len : PySem.W.nsIn K mainGlobals "len" = some none)
    (z_list : PySem.W.nsIn K mainGlobals "list" = some none)
    (z_max : PySem.W.nsIn K mainGlobals "max" = some none)
    (z_min : PySem.W.nsIn K mainGlobals "min" = some none)
    (z_range : PySem.W.nsIn K mainGlobals "range" = some none)
    (z_set : PySem.W.nsIn K mainGlobals "set" = some none)
    (z_tuple : PySem.W.nsIn K mainGlobals "tuple" = some none)
    : ∃ T : Tx K mg, mg "law" = some (.ref T.a_law_k76) ∧ ∀ (s : Shared) (v : Value), BindsTo s T.d_law_k76 ⟨[v], []⟩ [("script", v)] := by
  refine ⟨{
    C_WebError := C_WebError,
    C_BadWeb := C_BadWeb,
    C_BadSet := C_BadSet,
    C_BadTurns := C_BadTurns,
    C_NotFlat := C_NotFlat,
    C_Web := C_Web,
    a_Web_init := a_Web_init,
    d_Web_init := PySem.W.fnOf "__init__" "Web.__init__" (defArgs s_Web_init) (defBody s_Web_init) (defScope s_Web_init) .none kV_Web_init dc_Web_init pm_Web_init an_Web_init cd_Web_init ct_Web_init,
    a_made_set := a_made_set,
    d_made_set := PySem.W.fnOf "made_set" "made_set" (defArgs s_made_set) (defBody s_made_set) (defScope s_made_set) .none kV_made_set dc_made_set pm_made_set an_made_set cd_made_set ct_made_set,
    a_marks_over := a_marks_over,
    d_marks_over := PySem.W.fnOf "marks_over" "marks_over" (defArgs s_marks_over) (defBody s_marks_over) (defScope s_marks_over) .none kV_marks_over dc_marks_over pm_marks_over an_marks_over cd_marks_over ct_marks_over,
    a_is_joined := a_is_joined,
    d_is_joined := PySem.W.fnOf "is_joined" "is_joined" (defArgs s_is_joined) (defBody s_is_joined) (defScope s_is_joined) .none kV_is_joined dc_is_joined pm_is_joined an_is_joined cd_is_joined ct_is_joined,
    a_place_from := a_place_from,
    d_place_from := PySem.W.fnOf "place_from" "place_from" (defArgs s_place_from) (defBody s_place_from) (defScope s_place_from) .none kV_place_from dc_place_from pm_place_from an_place_from cd_place_from ct_place_from,
    a_look_at_turns := a_look_at_turns,
    d_look_at_turns := PySem.W.fnOf "look_at_turns" "look_at_turns" (defArgs s_look_at_turns) (defBody s_look_at_turns) (defScope s_look_at_turns) .none kV_look_at_turns dc_look_at_turns pm_look_at_turns an_look_at_turns cd_look_at_turns ct_look_at_turns,
    a_darts_behind := a_darts_behind,
    d_darts_behind := PySem.W.fnOf "darts_behind" "darts_behind" (defArgs s_darts_behind) (defBody s_darts_behind) (defScope s_darts_behind) .none kV_darts_behind dc_darts_behind pm_darts_behind an_darts_behind cd_darts_behind ct_darts_behind,
    a_rounds_of := a_rounds_of,
    d_rounds_of := PySem.W.fnOf "rounds_of" "rounds_of" (defArgs s_rounds_of) (defBody s_rounds_of) (defScope s_rounds_of) .none kV_rounds_of dc_rounds_of pm_rounds_of an_rounds_of cd_rounds_of ct_rounds_of,
    a_lies_flat := a_lies_flat,
    d_lies_flat := PySem.W.fnOf "lies_flat" "lies_flat" (defArgs s_lies_flat) (defBody s_lies_flat) (defScope s_lies_flat) .none kV_lies_flat dc_lies_flat pm_lies_flat an_lies_flat cd_lies_flat ct_lies_flat,
    a_other_web := a_other_web,
    d_other_web := PySem.W.fnOf "other_web" "other_web" (defArgs s_other_web) (defBody s_other_web) (defScope s_other_web) .none kV_other_web dc_other_web pm_other_web an_other_web cd_other_web ct_other_web,
    a_law_at := a_law_at,
    d_law_at := PySem.W.fnOf "_law_at" "_law_at" (defArgs s_law_at) (defBody s_law_at) (defScope s_law_at) .none kV_law_at dc_law_at pm_law_at an_law_at cd_law_at ct_law_at,
    a_law_mixed_v2 := a_law_mixed_v2,
    d_law_mixed_v2 := PySem.W.fnOf "_law_mixed" "_law_mixed" (defArgs s_law_mixed_v2) (defBody s_law_mixed_v2) (defScope s_law_mixed_v2) .none kV_law_mixed_v2 dc_law_mixed_v2 pm_law_mixed_v2 an_law_mixed_v2 cd_law_mixed_v2 ct_law_mixed_v2,
    a_law_ties_v2 := a_law_ties_v2,
    d_law_ties_v2 := PySem.W.fnOf "_law_ties" "_law_ties" (defArgs s_law_ties_v2) (defBody s_law_ties_v2) (defScope s_law_ties_v2) .none kV_law_ties_v2 dc_law_ties_v2 pm_law_ties_v2 an_law_ties_v2 cd_law_ties_v2 ct_law_ties_v2,
    a_law_amounts := a_law_amounts,
    d_law_amounts := PySem.W.fnOf "_law_amounts" "_law_amounts" (defArgs s_law_amounts) (defBody s_law_amounts) (defScope s_law_amounts) .none kV_law_amounts dc_law_amounts pm_law_amounts an_law_amounts cd_law_amounts ct_law_amounts,
    a_law_behind_v2 := a_law_behind_v2,
    d_law_behind_v2 := PySem.W.fnOf "_law_behind" "_law_behind" (defArgs s_law_behind_v2) (defBody s_law_behind_v2) (defScope s_law_behind_v2) .none kV_law_behind_v2 dc_law_behind_v2 pm_law_behind_v2 an_law_behind_v2 cd_law_behind_v2 ct_law_behind_v2,
    a_law_put := a_law_put,
    d_law_put := PySem.W.fnOf "_law_put" "_law_put" (defArgs s_law_put) (defBody s_law_put) (defScope s_law_put) .none kV_law_put dc_law_put pm_law_put an_law_put cd_law_put ct_law_put,
    a_law_corner := a_law_corner,
    d_law_corner := PySem.W.fnOf "_law_corner" "_law_corner" (defArgs s_law_corner) (defBody s_law_corner) (defScope s_law_corner) .none kV_law_corner dc_law_corner pm_law_corner an_law_corner cd_law_corner ct_law_corner,
    a_law_grown_v3 := a_law_grown_v3,
    d_law_grown_v3 := PySem.W.fnOf "_law_grown" "_law_grown" (defArgs s_law_grown_v3) (defBody s_law_grown_v3) (defScope s_law_grown_v3) .none kV_law_grown_v3 dc_law_grown_v3 pm_law_grown_v3 an_law_grown_v3 cd_law_grown_v3 ct_law_grown_v3,
    a_law_map := a_law_map,
    d_law_map := PySem.W.fnOf "_law_map" "_law_map" (defArgs s_law_map) (defBody s_law_map) (defScope s_law_map) .none kV_law_map dc_law_map pm_law_map an_law_map cd_law_map ct_law_map,
    a_law_any_turns := a_law_any_turns,
    d_law_any_turns := PySem.W.fnOf "_law_any_turns" "_law_any_turns" (defArgs s_law_any_turns) (defBody s_law_any_turns) (defScope s_law_any_turns) .none kV_law_any_turns dc_law_any_turns pm_law_any_turns an_law_any_turns cd_law_any_turns ct_law_any_turns,
    a_law_refused_v12 := a_law_refused_v12,
    d_law_refused_v12 := PySem.W.fnOf "_law_refused" "_law_refused" (defArgs s_law_refused_v12) (defBody s_law_refused_v12) (defScope s_law_refused_v12) .none kV_law_refused_v12 dc_law_refused_v12 pm_law_refused_v12 an_law_refused_v12 cd_law_refused_v12 ct_law_refused_v12,
    a_law_spoilt_v5 := a_law_spoilt_v5,
    d_law_spoilt_v5 := PySem.W.fnOf "_law_spoilt" "_law_spoilt" (defArgs s_law_spoilt_v5) (defBody s_law_spoilt_v5) (defScope s_law_spoilt_v5) .none kV_law_spoilt_v5 dc_law_spoilt_v5 pm_law_spoilt_v5 an_law_spoilt_v5 cd_law_spoilt_v5 ct_law_spoilt_v5,
    a_law_good_v12 := a_law_good_v12,
    d_law_good_v12 := PySem.W.fnOf "_law_good" "_law_good" (defArgs s_law_good_v12) (defBody s_law_good_v12) (defScope s_law_good_v12) .none kV_law_good_v12 dc_law_good_v12 pm_law_good_v12 an_law_good_v12 cd_law_good_v12 ct_law_good_v12,
    a_law_k76 := a_law_k76,
    d_law_k76 := PySem.W.fnOf "law" "law" (defArgs s_law_k76) (defBody s_law_k76) (defScope s_law_k76) .none kV_law_k76 dc_law_k76 pm_law_k76 an_law_k76 cd_law_k76 ct_law_k76,
    t_MOST_PLACES := t_MOST_PLACES,
    t_MOST_TIES := t_MOST_TIES,
    m_WebError := PySem.W.mg_of X G a_WebError,
    x_WebError := x_WebError,
    kx_WebError := kx_WebError,
    bx_WebError := bx_WebError,
    tx_WebError := tx_WebError,
    m_BadWeb := PySem.W.mg_of X G a_BadWeb,
    x_BadWeb := x_BadWeb,
    kx_BadWeb := kx_BadWeb,
    bx_BadWeb := bx_BadWeb,
    tx_BadWeb := tx_BadWeb,
    m_BadSet := PySem.W.mg_of X G a_BadSet,
    x_BadSet := x_BadSet,
    kx_BadSet := kx_BadSet,
    bx_BadSet := bx_BadSet,
    tx_BadSet := tx_BadSet,
    m_BadTurns := PySem.W.mg_of X G a_BadTurns,
    x_BadTurns := x_BadTurns,
    kx_BadTurns := kx_BadTurns,
    bx_BadTurns := bx_BadTurns,
    tx_BadTurns := tx_BadTurns,
    m_NotFlat := PySem.W.mg_of X G a_NotFlat,
    x_NotFlat := x_NotFlat,
    kx_NotFlat := kx_NotFlat,
    bx_NotFlat := bx_NotFlat,
    tx_NotFlat := tx_NotFlat,
    ct_BadWeb_WebError := PySem.W.exm_ref bx_WebError hd_WebError tx_WebError su_BadWeb_WebError,
    ct_BadSet_WebError := PySem.W.exm_ref bx_WebError hd_WebError tx_WebError su_BadSet_WebError,
    ct_BadTurns_WebError := PySem.W.exm_ref bx_WebError hd_WebError tx_WebError su_BadTurns_WebError,
    ct_NotFlat_WebError := PySem.W.exm_ref bx_WebError hd_WebError tx_WebError su_NotFlat_WebError,
    xc_BadWeb := ⟨e0_BadWeb, e1_BadWeb, bx_BadWeb, e3_BadWeb, e4_BadWeb, e6, e7, e7_BadWeb⟩,
    xc_BadSet := ⟨e0_BadSet, e1_BadSet, bx_BadSet, e3_BadSet, e4_BadSet, e6, e7, e7_BadSet⟩,
    xc_BadTurns := ⟨e0_BadTurns, e1_BadTurns, bx_BadTurns, e3_BadTurns, e4_BadTurns, e6, e7, e7_BadTurns⟩,
    xc_NotFlat := ⟨e0_NotFlat, e1_NotFlat, bx_NotFlat, e3_NotFlat, e4_NotFlat, e6, e7, e7_NotFlat⟩,
    is_BadWeb_ValueError := is_BadWeb_ValueError,
    is_BadSet_ValueError := is_BadSet_ValueError,
    is_BadTurns_ValueError := is_BadTurns_ValueError,
    is_NotFlat_ValueError := is_NotFlat_ValueError,
    is_BadWeb_BadTurns := is_BadWeb_BadTurns,
    is_BadSet_BadTurns := is_BadSet_BadTurns,
    is_BadTurns_BadTurns := is_BadTurns_BadTurns,
    is_NotFlat_BadTurns := is_NotFlat_BadTurns,
    is_BadWeb_NotFlat := is_BadWeb_NotFlat,
    is_BadSet_NotFlat := is_BadSet_NotFlat,
    is_BadTurns_NotFlat := is_BadTurns_NotFlat,
    is_NotFlat_NotFlat := is_NotFlat_NotFlat,
    is_BadWeb_BadWeb := is_BadWeb_BadWeb,
    is_BadSet_BadWeb := is_BadSet_BadWeb,
    is_BadTurns_BadWeb := is_BadTurns_BadWeb,
    is_NotFlat_BadWeb := is_NotFlat_BadWeb,
    is_BadWeb_BadSet := is_BadWeb_BadSet,
    is_BadSet_BadSet := is_BadSet_BadSet,
    is_BadTurns_BadSet := is_BadTurns_BadSet,
    is_NotFlat_BadSet := is_NotFlat_BadSet,
    m_Web := PySem.W.mg_of X G a_Web,
    cl_Web := ⟨pg_Web, hd_Web, po_Web, sa_Web⟩,
    na_Web_places := na_Web_places,
    na_Web_ties := na_Web_ties,
    mk_Web := ⟨mk_Web, n_Web_init, i_Web_init, kc_Web⟩,
    F_Web_init := fun_mk (st := s_Web_init) l_Web_init c_Web_init k_Web_init,
    b_Web_init := (fun_mk (st := s_Web_init) l_Web_init c_Web_init k_Web_init).binds (ps := ["self", "places", "ties"]) fun _ _ _ _ _ _ us hl => match us, hl with | [_, _, _], _ => rfl,
    k_Web_init := k_Web_init,
    F_made_set := fun_mk (st := s_made_set) l_made_set c_made_set k_made_set,
    b_made_set := (fun_mk (st := s_made_set) l_made_set c_made_set k_made_set).binds (ps := ["web", "ties"]) fun _ _ _ _ _ _ us hl => match us, hl with | [_, _], _ => rfl,
    m_made_set := PySem.W.mg_of X G n_made_set,
    k_made_set := k_made_set,
    F_marks_over := fun_mk (st := s_marks_over) l_marks_over c_marks_over k_marks_over,
    b_marks_over := (fun_mk (st := s_marks_over) l_marks_over c_marks_over k_marks_over).binds (ps := ["web", "ties"]) fun _ _ _ _ _ _ us hl => match us, hl with | [_, _], _ => rfl,
    m_marks_over := PySem.W.mg_of X G n_marks_over,
    k_marks_over := k_marks_over,
    F_is_joined := fun_mk (st := s_is_joined) l_is_joined c_is_joined k_is_joined,
    b_is_joined := (fun_mk (st := s_is_joined) l_is_joined c_is_joined k_is_joined).binds (ps := ["web", "ties"]) fun _ _ _ _ _ _ us hl => match us, hl with | [_, _], _ => rfl,
    m_is_joined := PySem.W.mg_of X G n_is_joined,
    k_is_joined := k_is_joined,
    F_place_from := fun_mk (st := s_place_from) l_place_from c_place_from k_place_from,
    b_place_from := (fun_mk (st := s_place_from) l_place_from c_place_from k_place_from).binds (ps := ["web", "dart"]) fun _ _ _ _ _ _ us hl => match us, hl with | [_, _], _ => rfl,
    m_place_from := PySem.W.mg_of X G n_place_from,
    k_place_from := k_place_from,
    F_look_at_turns := fun_mk (st := s_look_at_turns) l_look_at_turns c_look_at_turns k_look_at_turns,
    b_look_at_turns := (fun_mk (st := s_look_at_turns) l_look_at_turns c_look_at_turns k_look_at_turns).binds (ps := ["web", "turns"]) fun _ _ _ _ _ _ us hl => match us, hl with | [_, _], _ => rfl,
    m_look_at_turns := PySem.W.mg_of X G n_look_at_turns,
    k_look_at_turns := k_look_at_turns,
    F_darts_behind := fun_mk (st := s_darts_behind) l_darts_behind c_darts_behind k_darts_behind,
    b_darts_behind := (fun_mk (st := s_darts_behind) l_darts_behind c_darts_behind k_darts_behind).binds (ps := ["turns"]) fun _ _ _ _ _ _ us hl => match us, hl with | [_], _ => rfl,
    m_darts_behind := PySem.W.mg_of X G n_darts_behind,
    k_darts_behind := k_darts_behind,
    F_rounds_of := fun_mk (st := s_rounds_of) l_rounds_of c_rounds_of k_rounds_of,
    b_rounds_of := (fun_mk (st := s_rounds_of) l_rounds_of c_rounds_of k_rounds_of).binds (ps := ["web", "turns"]) fun _ _ _ _ _ _ us hl => match us, hl with | [_, _], _ => rfl,
    m_rounds_of := PySem.W.mg_of X G n_rounds_of,
    k_rounds_of := k_rounds_of,
    F_lies_flat := fun_mk (st := s_lies_flat) l_lies_flat c_lies_flat k_lies_flat,
    b_lies_flat := (fun_mk (st := s_lies_flat) l_lies_flat c_lies_flat k_lies_flat).binds (ps := ["web", "turns"]) fun _ _ _ _ _ _ us hl => match us, hl with | [_, _], _ => rfl,
    m_lies_flat := PySem.W.mg_of X G n_lies_flat,
    k_lies_flat := k_lies_flat,
    F_other_web := fun_mk (st := s_other_web) l_other_web c_other_web k_other_web,
    b_other_web := (fun_mk (st := s_other_web) l_other_web c_other_web k_other_web).binds (ps := ["web", "turns"]) fun _ _ _ _ _ _ us hl => match us, hl with | [_, _], _ => rfl,
    m_other_web := PySem.W.mg_of X G n_other_web,
    k_other_web := k_other_web,
    F_law_at := fun_mk (st := s_law_at) l_law_at c_law_at k_law_at,
    b_law_at := (fun_mk (st := s_law_at) l_law_at c_law_at k_law_at).binds (ps := ["script", "k"]) fun _ _ _ _ _ _ us hl => match us, hl with | [_, _], _ => rfl,
    m_law_at := PySem.W.mg_of X G n_law_at,
    k_law_at := k_law_at,
    F_law_mixed_v2 := fun_mk (st := s_law_mixed_v2) l_law_mixed_v2 c_law_mixed_v2 k_law_mixed_v2,
    b_law_mixed_v2 := (fun_mk (st := s_law_mixed_v2) l_law_mixed_v2 c_law_mixed_v2 k_law_mixed_v2).binds (ps := ["cell", "k"]) fun _ _ _ _ _ _ us hl => match us, hl with | [_, _], _ => rfl,
    m_law_mixed_v2 := PySem.W.mg_of X G n_law_mixed_v2,
    k_law_mixed_v2 := k_law_mixed_v2,
    F_law_ties_v2 := fun_mk (st := s_law_ties_v2) l_law_ties_v2 c_law_ties_v2 k_law_ties_v2,
    b_law_ties_v2 := (fun_mk (st := s_law_ties_v2) l_law_ties_v2 c_law_ties_v2 k_law_ties_v2).binds (ps := ["script", "count", "most"]) fun _ _ _ _ _ _ us hl => match us, hl with | [_, _, _], _ => rfl,
    m_law_ties_v2 := PySem.W.mg_of X G n_law_ties_v2,
    k_law_ties_v2 := k_law_ties_v2,
    F_law_amounts := fun_mk (st := s_law_amounts) l_law_amounts c_law_amounts k_law_amounts,
    b_law_amounts := (fun_mk (st := s_law_amounts) l_law_amounts c_law_amounts k_law_amounts).binds (ps := ["script"]) fun _ _ _ _ _ _ us hl => match us, hl with | [_], _ => rfl,
    m_law_amounts := PySem.W.mg_of X G n_law_amounts,
    k_law_amounts := k_law_amounts,
    F_law_behind_v2 := fun_mk (st := s_law_behind_v2) l_law_behind_v2 c_law_behind_v2 k_law_behind_v2,
    b_law_behind_v2 := (fun_mk (st := s_law_behind_v2) l_law_behind_v2 c_law_behind_v2 k_law_behind_v2).binds (ps := ["turns"]) fun _ _ _ _ _ _ us hl => match us, hl with | [_], _ => rfl,
    m_law_behind_v2 := PySem.W.mg_of X G n_law_behind_v2,
    k_law_behind_v2 := k_law_behind_v2,
    F_law_put := fun_mk (st := s_law_put) l_law_put c_law_put k_law_put,
    b_law_put := (fun_mk (st := s_law_put) l_law_put c_law_put k_law_put).binds (ps := ["turns", "one", "other", "darts"]) fun _ _ _ _ _ _ us hl => match us, hl with | [_, _, _, _], _ => rfl,
    m_law_put := PySem.W.mg_of X G n_law_put,
    k_law_put := k_law_put,
    F_law_corner := fun_mk (st := s_law_corner) l_law_corner c_law_corner k_law_corner,
    b_law_corner := (fun_mk (st := s_law_corner) l_law_corner c_law_corner k_law_corner).binds (ps := ["turns", "m"]) fun _ _ _ _ _ _ us hl => match us, hl with | [_, _], _ => rfl,
    m_law_corner := PySem.W.mg_of X G n_law_corner,
    k_law_corner := k_law_corner,
    F_law_grown_v3 := fun_mk (st := s_law_grown_v3) l_law_grown_v3 c_law_grown_v3 k_law_grown_v3,
    b_law_grown_v3 := (fun_mk (st := s_law_grown_v3) l_law_grown_v3 c_law_grown_v3 k_law_grown_v3).binds (ps := ["count", "ties", "turns", "m"]) fun _ _ _ _ _ _ us hl => match us, hl with | [_, _, _, _], _ => rfl,
    m_law_grown_v3 := PySem.W.mg_of X G n_law_grown_v3,
    k_law_grown_v3 := k_law_grown_v3,
    F_law_map := fun_mk (st := s_law_map) l_law_map c_law_map k_law_map,
    b_law_map := (fun_mk (st := s_law_map) l_law_map c_law_map k_law_map).binds (ps := ["script"]) fun _ _ _ _ _ _ us hl => match us, hl with | [_], _ => rfl,
    m_law_map := PySem.W.mg_of X G n_law_map,
    k_law_map := k_law_map,
    F_law_any_turns := fun_mk (st := s_law_any_turns) l_law_any_turns c_law_any_turns k_law_any_turns,
    b_law_any_turns := (fun_mk (st := s_law_any_turns) l_law_any_turns c_law_any_turns k_law_any_turns).binds (ps := ["count", "ties", "m"]) fun _ _ _ _ _ _ us hl => match us, hl with | [_, _, _], _ => rfl,
    m_law_any_turns := PySem.W.mg_of X G n_law_any_turns,
    k_law_any_turns := k_law_any_turns,
    F_law_refused_v12 := fun_mk (st := s_law_refused_v12) l_law_refused_v12 c_law_refused_v12 k_law_refused_v12,
    b_law_refused_v12 := (fun_mk (st := s_law_refused_v12) l_law_refused_v12 c_law_refused_v12 k_law_refused_v12).binds (ps := ["deed", "web", "turns"]) fun _ _ _ _ _ _ us hl => match us, hl with | [_, _, _], _ => rfl,
    m_law_refused_v12 := PySem.W.mg_of X G n_law_refused_v12,
    k_law_refused_v12 := k_law_refused_v12,
    F_law_spoilt_v5 := fun_mk (st := s_law_spoilt_v5) l_law_spoilt_v5 c_law_spoilt_v5 k_law_spoilt_v5,
    b_law_spoilt_v5 := (fun_mk (st := s_law_spoilt_v5) l_law_spoilt_v5 c_law_spoilt_v5 k_law_spoilt_v5).binds (ps := ["turns", "size", "m"]) fun _ _ _ _ _ _ us hl => match us, hl with | [_, _, _], _ => rfl,
    m_law_spoilt_v5 := PySem.W.mg_of X G n_law_spoilt_v5,
    k_law_spoilt_v5 := k_law_spoilt_v5,
    F_law_good_v12 := fun_mk (st := s_law_good_v12) l_law_good_v12 c_law_good_v12 k_law_good_v12,
    b_law_good_v12 := (fun_mk (st := s_law_good_v12) l_law_good_v12 c_law_good_v12 k_law_good_v12).binds (ps := ["count", "ties", "turns", "m"]) fun _ _ _ _ _ _ us hl => match us, hl with | [_, _, _, _], _ => rfl,
    m_law_good_v12 := PySem.W.mg_of X G n_law_good_v12,
    k_law_good_v12 := k_law_good_v12,
    F_law_k76 := fun_mk (st := s_law_k76) l_law_k76 c_law_k76 k_law_k76,
    b_law_k76 := (fun_mk (st := s_law_k76) l_law_k76 c_law_k76 k_law_k76).binds (ps := ["script"]) fun _ _ _ _ _ _ us hl => match us, hl with | [_], _ => rfl,
    m_law_k76 := PySem.W.mg_of X G n_law_k76,
    k_law_k76 := k_law_k76,
    v_MOST_PLACES := PySem.W.mg_of X G v_MOST_PLACES,
    v_MOST_TIES := PySem.W.mg_of X G v_MOST_TIES,
    z_ValueError := PySem.W.mg_none_of X G z_ValueError,
    z_enumerate := PySem.W.mg_none_of X G z_enumerate,
    z_int := PySem.W.mg_none_of X G z_int,
    z_isinstance := PySem.W.mg_none_of X G z_isinstance,
    z_len := PySem.W.mg_none_of X G z_len,
    z_list := PySem.W.mg_none_of X G z_list,
    z_max := PySem.W.mg_none_of X G z_max,
    z_min := PySem.W.mg_none_of X G z_min,
    z_range := PySem.W.mg_none_of X G z_range,
    z_set := PySem.W.mg_none_of X G z_set,
    z_tuple := PySem.W.mg_none_of X G z_tuple }, PySem.W.mg_of X G n_law_k76, fun s v => .of_eq rfl⟩
def spLaw (K : PySem.W.Frag) : Sp := fun vs H Q _ => ∃ (a : Addr) (ns : List Int), vs = [.ref a] ∧ SqL K H a (ns.map V.int) ∧ ns.length ≤ 63 ∧ ∀ v H', v = .bl true → Q v H'
set_option maxHeartbeats 8000000 in
theorem law_ok (T : Tx K mg) : FnOk P w K mg base (L2.CX P w) 8 T.a_law_k76 T.d_law_k76 ["script"] (spLaw K) := by
  have G_Web_init := ok_Web_init (P := P) (w := w) (base := base) T
  have G_made_set := ok_made_set (P := P) (w := w) (base := base) T
  have G_marks_over := ok_marks_over (P := P) (w := w) (base := base) T
  have G_is_joined := ok_is_joined (P := P) (w := w) (base := base) T G_marks_over G_made_set
  have G_place_from := ok_place_from (P := P) (w := w) (base := base) T
  have G_look_at_turns := ok_look_at_turns (P := P) (w := w) (base := base) T G_place_from
  have G_darts_behind := ok_darts_behind (P := P) (w := w) (base := base) T
  have G_rounds_of := ok_rounds_of (P := P) (w := w) (base := base) T G_look_at_turns G_darts_behind
  have G_lies_flat := ok_lies_flat (P := P) (w := w) (base := base) T G_rounds_of G_is_joined
  have G_other_web := ok_other_web (P := P) (w := w) (base := base) T G_lies_flat G_rounds_of G_Web_init
  have G_law_at := ok_law_at (P := P) (w := w) (base := base) T
  have G_law_mixed_v2 := ok_law_mixed_v2 (P := P) (w := w) (base := base) T
  have G_law_ties_v2 := ok_law_ties_v2 (P := P) (w := w) (base := base) T G_law_at G_law_mixed_v2
  have G_law_amounts := ok_law_amounts (P := P) (w := w) (base := base) T G_law_at G_law_mixed_v2
  have G_law_behind_v2 := ok_law_behind_v2 (P := P) (w := w) (base := base) T
  have G_law_put := ok_law_put (P := P) (w := w) (base := base) T
  have G_law_corner := ok_law_corner (P := P) (w := w) (base := base) T
  have G_law_grown_v3 := ok_law_grown_v3 (P := P) (w := w) (base := base) T G_law_corner G_law_put G_law_behind_v2
  have G_law_map := ok_law_map (P := P) (w := w) (base := base) T G_law_amounts G_law_grown_v3
  have G_law_any_turns := ok_law_any_turns (P := P) (w := w) (base := base) T G_law_mixed_v2
  have G_law_refused_v12 := ok_law_refused_v12 (P := P) (w := w) (base := base) T G_rounds_of G_lies_flat G_other_web
  have G_law_spoilt_v5 := ok_law_spoilt_v5 (P := P) (w := w) (base := base) T
  have G_law_good_v12 := ok_law_good_v12 (P := P) (w := w) (base := base) T G_Web_init G_law_refused_v12 G_law_mixed_v2 G_law_spoilt_v5
  have G_law_k76 := ok_law_k76 (P := P) (w := w) (base := base) T G_law_mixed_v2 G_law_at G_law_ties_v2 G_law_good_v12 G_law_any_turns G_law_map
  refine G_law_k76.imp fun vs H Q E q => ?_
  obtain ⟨a, ns, rfl, hS, hl, k⟩ := q
  have e := law_sp (K := K) (cls := T.cls) (g := g_law_k76) (H := H) (true_law_k76 ns hl) hS
  obtain ⟨F, ds, h1, h2, h3, h4⟩ := e
  refine ⟨F, ds, h1, h2, h3, ?_⟩
  cases eg : g_law_k76 ds with
  | ok d => rw [eg] at h4; exact fun v F' H' O' x y z => k v H' (h4 v F' H' O' x y z)
  | xc c => rw [eg] at h4; exact fun F' H' x => (h4 F' H' x).elim
  | bad => rw [eg] at h4; exact h4.elim
end
theorem walk {l : PySem.W.OpenLaw} {q : Program} {loose : List Str} {XP : (Str → Option Value) → Heap → Prop} {YP : World → Heap → Prop} {d : DefRec} {K : Params → PySem.W.Frag} (hn : l.most = some 63) (hdf : d.params.defaults = []) (hname : d.name = "law")
    (hY : ∀ (w : World) (h : Heap), YP w h → (K w.params).In h)
    (F : ∀ (w : World) (mg : Str → Option Value) (h : Heap), (K w.params).In h → h.Ns mainGlobals mg → ∃ T : Tx (K w.params) mg, mg "law" = some (.ref T.a_law_k76) ∧ ∀ (s : Shared) (v : Value), BindsTo s T.d_law_k76 ⟨[v], []⟩ [("script", v)]) :
    PySem.W.WalkO q loose XP YP l.row.toRowW d [] (fun f vs => PySem.call f vs) :=
  L2.walk_of (n := 63) (k := 8) (x := "script") (CX := fun w => L2.CX l.prog w) (sp := fun w => spLaw (K w.params)) hn (by decide) hdf ⟨rfl, by decide, by decide⟩ hY (fun w mg fa h KX G hmg => by
    obtain ⟨T, h1, h2⟩ := F w mg h KX G
    rw [hname, h1] at hmg
    cases hmg
    exact ⟨T.d_law_k76, h2, fun base _ _ => law_ok T⟩) (fun _ _ a ns hl _ hS => ⟨a, ns, rfl, hS, hl, fun _ _ h => h⟩) fun _ _ _ _ _ z => law_cx z
end Lw
open PySem PySem.W PyProof.Rows in
set_option maxRecDepth 100000 in
set_option maxHeartbeats 0 in
theorem PySem.Challenge.cw_spanrow_k76_turns_refused_holds : PySem.Challenge.rw_spanrow_k76_turns_refused.Holds := by
  w_on; o_law; k_head; (case hw => w_witness2)
  k_fill
  refine Lw.walk (l := PySem.Challenge.rw_spanrow_k76_turns_refused) rfl rfl rfl (fun w h Y => PySem.W.kIn_of Y) ?F
  case F =>
    intro w mg h KX G
    refine' Lw.all_mk KX G ?a_WebError ?x_WebError ?kx_WebError ?bx_WebError ?tx_WebError ?a_BadWeb ?x_BadWeb ?kx_BadWeb ?bx_BadWeb ?tx_BadWeb ?a_BadSet ?x_BadSet ?kx_BadSet ?bx_BadSet ?tx_BadSet ?a_BadTurns ?x_BadTurns ?kx_BadTurns ?bx_BadTurns ?tx_BadTurns ?a_NotFlat ?x_NotFlat ?kx_NotFlat ?bx_NotFlat ?tx_NotFlat ?su_BadWeb_WebError ?su_BadSet_WebError ?su_BadTurns_WebError ?su_NotFlat_WebError ?hd_WebError ?e6 ?e7 ?e0_BadWeb ?e1_BadWeb ?e3_BadWeb ?e4_BadWeb ?e7_BadWeb ?e0_BadSet ?e1_BadSet ?e3_BadSet ?e4_BadSet ?e7_BadSet ?e0_BadTurns ?e1_BadTurns ?e3_BadTurns ?e4_BadTurns ?e7_BadTurns ?e0_NotFlat ?e1_NotFlat ?e3_NotFlat ?e4_NotFlat ?e7_NotFlat ?is_BadWeb_ValueError ?is_BadSet_ValueError ?is_BadTurns_ValueError ?is_NotFlat_ValueError ?is_BadWeb_BadTurns ?is_BadSet_BadTurns ?is_BadTurns_BadTurns ?is_NotFlat_BadTurns ?is_BadWeb_NotFlat ?is_BadSet_NotFlat ?is_BadTurns_NotFlat ?is_NotFlat_NotFlat ?is_BadWeb_BadWeb ?is_BadSet_BadWeb ?is_BadTurns_BadWeb ?is_NotFlat_BadWeb ?is_BadWeb_BadSet ?is_BadSet_BadSet ?is_BadTurns_BadSet ?is_NotFlat_BadSet ?a_Web ?pg_Web ?hd_Web ?po_Web ?sa_Web ?mk_Web ?kc_Web ?na_Web_places ?na_Web_ties ?n_Web_init ?i_Web_init ?l_Web_init ?c_Web_init ?k_Web_init ?n_made_set ?l_made_set ?c_made_set ?k_made_set ?n_marks_over ?l_marks_over ?c_marks_over ?k_marks_over ?n_is_joined ?l_is_joined ?c_is_joined ?k_is_joined ?n_place_from ?l_place_from ?c_place_from ?k_place_from ?n_look_at_turns ?l_look_at_turns ?c_look_at_turns ?k_look_at_turns ?n_darts_behind ?l_darts_behind ?c_darts_behind ?k_darts_behind ?n_rounds_of ?l_rounds_of ?c_rounds_of ?k_rounds_of ?n_lies_flat ?l_lies_flat ?c_lies_flat ?k_lies_flat ?n_other_web ?l_other_web ?c_other_web ?k_other_web ?n_law_at ?l_law_at ?c_law_at ?k_law_at ?n_law_mixed_v2 ?l_law_mixed_v2 ?c_law_mixed_v2 ?k_law_mixed_v2 ?n_law_ties_v2 ?l_law_ties_v2 ?c_law_ties_v2 ?k_law_ties_v2 ?n_law_amounts ?l_law_amounts ?c_law_amounts ?k_law_amounts ?n_law_behind_v2 ?l_law_behind_v2 ?c_law_behind_v2 ?k_law_behind_v2 ?n_law_put ?l_law_put ?c_law_put ?k_law_put ?n_law_corner ?l_law_corner ?c_law_corner ?k_law_corner ?n_law_grown_v3 ?l_law_grown_v3 ?c_law_grown_v3 ?k_law_grown_v3 ?n_law_map ?l_law_map ?c_law_map ?k_law_map ?n_law_any_turns ?l_law_any_turns ?c_law_any_turns ?k_law_any_turns ?n_law_refused_v12 ?l_law_refused_v12 ?c_law_refused_v12 ?k_law_refused_v12 ?n_law_spoilt_v5 ?l_law_spoilt_v5 ?c_law_spoilt_v5 ?k_law_spoilt_v5 ?n_law_good_v12 ?l_law_good_v12 ?c_law_good_v12 ?k_law_good_v12 ?n_law_k76 ?l_law_k76 ?c_law_k76 ?k_law_k76 ?v_MOST_PLACES ?v_MOST_TIES ?z_ValueError ?z_enumerate ?z_int ?z_isinstance ?z_len ?z_list ?z_max ?z_min ?z_range ?z_set ?z_tuple
    (case a_WebError => k_is)
    (case x_WebError => k_exc)
    (case kx_WebError => k_is)
    (case bx_WebError => k_is)
    (case tx_WebError => k_is)
    (case a_BadWeb => k_is)
    (case x_BadWeb => k_exc)
    (case kx_BadWeb => k_is)
    (case bx_BadWeb => k_is)
    (case tx_BadWeb => k_is)
    (case a_BadSet => k_is)
    (case x_BadSet => k_exc)
    (case kx_BadSet => k_is)
    (case bx_BadSet => k_is)
    (case tx_BadSet => k_is)
    (case a_BadTurns => k_is)
    (case x_BadTurns => k_exc)
    (case kx_BadTurns => k_is)
    (case bx_BadTurns => k_is)
    (case tx_BadTurns => k_is)
    (case a_NotFlat => k_is)
    (case x_NotFlat => k_exc)
    (case kx_NotFlat => k_is)
    (case bx_NotFlat => k_is)
    (case tx_NotFlat => k_is)
    (case su_BadWeb_WebError => k_is)
    (case su_BadSet_WebError => k_is)
    (case su_BadTurns_WebError => k_is)
    (case su_NotFlat_WebError => k_is)
    (case hd_WebError => k_is)
    (case e6 => k_is)
    (case e7 => k_is)
    (case e0_BadWeb => k_is)
    (case e1_BadWeb => k_is)
    (case e3_BadWeb => k_is)
    (case e4_BadWeb => k_is)
    (case e7_BadWeb => k_is)
    (case e0_BadSet => k_is)
    (case e1_BadSet => k_is)
    (case e3_BadSet => k_is)
    (case e4_BadSet => k_is)
    (case e7_BadSet => k_is)
    (case e0_BadTurns => k_is)
    (case e1_BadTurns => k_is)
    (case e3_BadTurns => k_is)
    (case e4_BadTurns => k_is)
    (case e7_BadTurns => k_is)
    (case e0_NotFlat => k_is)
    (case e1_NotFlat => k_is)
    (case e3_NotFlat => k_is)
    (case e4_NotFlat => k_is)
    (case e7_NotFlat => k_is)
    (case is_BadWeb_ValueError => kit_is)
    (case is_BadSet_ValueError => kit_is)
    (case is_BadTurns_ValueError => kit_is)
    (case is_NotFlat_ValueError => kit_is)
    (case is_BadWeb_BadTurns => kit_is)
    (case is_BadSet_BadTurns => kit_is)
    (case is_BadTurns_BadTurns => kit_is)
    (case is_NotFlat_BadTurns => kit_is)
    (case is_BadWeb_NotFlat => kit_is)
    (case is_BadSet_NotFlat => kit_is)
    (case is_BadTurns_NotFlat => kit_is)
    (case is_NotFlat_NotFlat => kit_is)
    (case is_BadWeb_BadWeb => kit_is)
    (case is_BadSet_BadWeb => kit_is)
    (case is_BadTurns_BadWeb => kit_is)
    (case is_NotFlat_BadWeb => kit_is)
    (case is_BadWeb_BadSet => kit_is)
    (case is_BadSet_BadSet => kit_is)
    (case is_BadTurns_BadSet => kit_is)
    (case is_NotFlat_BadSet => kit_is)
    (case a_Web => k_is)
    (case pg_Web => k_is)
    (case hd_Web => k_is)
    (case po_Web => k_is)
    (case sa_Web => k_is)
    (case mk_Web => k_is)
    (case kc_Web => k_is)
    (case na_Web_places => k_is)
    (case na_Web_ties => k_is)
    (case n_Web_init => k_is)
    (case i_Web_init => k_is)
    (case l_Web_init => k_is)
    (case c_Web_init => k_is)
    (case k_Web_init => k_is)
    (case n_made_set => k_is)
    (case l_made_set => k_is)
    (case c_made_set => k_is)
    (case k_made_set => k_is)
    (case n_marks_over => k_is)
    (case l_marks_over => k_is)
    (case c_marks_over => k_is)
    (case k_marks_over => k_is)
    (case n_is_joined => k_is)
    (case l_is_joined => k_is)
    (case c_is_joined => k_is)
    (case k_is_joined => k_is)
    (case n_place_from => k_is)
    (case l_place_from => k_is)
    (case c_place_from => k_is)
    (case k_place_from => k_is)
    (case n_look_at_turns => k_is)
    (case l_look_at_turns => k_is)
    (case c_look_at_turns => k_is)
    (case k_look_at_turns => k_is)
    (case n_darts_behind => k_is)
    (case l_darts_behind => k_is)
    (case c_darts_behind => k_is)
    (case k_darts_behind => k_is)
    (case n_rounds_of => k_is)
    (case l_rounds_of => k_is)
    (case c_rounds_of => k_is)
    (case k_rounds_of => k_is)
    (case n_lies_flat => k_is)
    (case l_lies_flat => k_is)
    (case c_lies_flat => k_is)
    (case k_lies_flat => k_is)
    (case n_other_web => k_is)
    (case l_other_web => k_is)
    (case c_other_web => k_is)
    (case k_other_web => k_is)
    (case n_law_at => k_is)
    (case l_law_at => k_is)
    (case c_law_at => k_is)
    (case k_law_at => k_is)
    (case n_law_mixed_v2 => k_is)
    (case l_law_mixed_v2 => k_is)
    (case c_law_mixed_v2 => k_is)
    (case k_law_mixed_v2 => k_is)
    (case n_law_ties_v2 => k_is)
    (case l_law_ties_v2 => k_is)
    (case c_law_ties_v2 => k_is)
    (case k_law_ties_v2 => k_is)
    (case n_law_amounts => k_is)
    (case l_law_amounts => k_is)
    (case c_law_amounts => k_is)
    (case k_law_amounts => k_is)
    (case n_law_behind_v2 => k_is)
    (case l_law_behind_v2 => k_is)
    (case c_law_behind_v2 => k_is)
    (case k_law_behind_v2 => k_is)
    (case n_law_put => k_is)
    (case l_law_put => k_is)
    (case c_law_put => k_is)
    (case k_law_put => k_is)
    (case n_law_corner => k_is)
    (case l_law_corner => k_is)
    (case c_law_corner => k_is)
    (case k_law_corner => k_is)
    (case n_law_grown_v3 => k_is)
    (case l_law_grown_v3 => k_is)
    (case c_law_grown_v3 => k_is)
    (case k_law_grown_v3 => k_is)
    (case n_law_map => k_is)
    (case l_law_map => k_is)
    (case c_law_map => k_is)
    (case k_law_map => k_is)
    (case n_law_any_turns => k_is)
    (case l_law_any_turns => k_is)
    (case c_law_any_turns => k_is)
    (case k_law_any_turns => k_is)
    (case n_law_refused_v12 => k_is)
    (case l_law_refused_v12 => k_is)
    (case c_law_refused_v12 => k_is)
    (case k_law_refused_v12 => k_is)
    (case n_law_spoilt_v5 => k_is)
    (case l_law_spoilt_v5 => k_is)
    (case c_law_spoilt_v5 => k_is)
    (case k_law_spoilt_v5 => k_is)
    (case n_law_good_v12 => k_is)
    (case l_law_good_v12 => k_is)
    (case c_law_good_v12 => k_is)
    (case k_law_good_v12 => k_is)
    (case n_law_k76 => k_is)
    (case l_law_k76 => k_is)
    (case c_law_k76 => k_is)
    (case k_law_k76 => k_is)
    (case v_MOST_PLACES => k_is)
    (case v_MOST_TIES => k_is)
    (case z_ValueError => k_is)
    (case z_enumerate => k_is)
    (case z_int => k_is)
    (case z_isinstance => k_is)
    (case z_len => k_is)
    (case z_list => k_is)
    (case z_max => k_is)
    (case z_min => k_is)
    (case z_range => k_is)
    (case z_set => k_is)
    (case z_tuple => k_is)
