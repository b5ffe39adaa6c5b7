import PyProof.Rows.All
import Wide.All
import OpenK.AllK
import Wide.FinOn
import HandS.ForMost
import HandS.ForExc
import HandS.TupAny
import HandS.Wide
import HandS.SortInts
import HandS.ExcIs
import HandS.TryOnly
import HandS.Rev
import HandS.RevRange
import HandS.WordsExc
import HandS.SetFor
import HandS.Strs
import HandS.Conv
import HandS.IsInst
import HandS.RevTup
import HandS.NamedTupSort
import HandS.SortRule
import HandS.Deep
import HandS.WideBits
import KE.DataMinMax
import HandS.Iter
import KE.GoesMore
import KE.SortData
import HandS.More
import HandS.Dict
import HandS.Zip
import KE.GoesZip
import KE.KTurns
import KE.KTupSum
import HandS.TupLe
import KE.KDictSum
import KE.DataFind
import HandS.EndBits
import KE.RegKIsAll
import HandS.Codes
import PySem.Challenge.RW_spanrow_k95_whole_cheapest_and_papers
set_option Elab.async false
set_option linter.all false
set_option maxRecDepth 100000
namespace DL
open PySem L2

inductive D where
  | un | non | bl (b : Bool) | int (i : Int) | str (x : Str)
  | sc (xs : List D) | ls (xs : List D) | tp (xs : List D) | ob (c : Nat) (fs : List D)
  | ol (xs : List D) | bo (xs : List D)
  | od (ks : List Key) (xs : List D) | bd (ks : List Key) (xs : List D)
  | oo (o : Option Addr) (c : Nat) (fs : List D) | bb (c : Nat) (fs : List D)
  | rf (a : Addr)

abbrev Cls := Nat → Option (Addr × List Str)
abbrev Env := List D

inductive Res (α : Type) where
  | ok (a : α) | xc (c : Nat) | bad
inductive Out where
  | nx (g : Env) | rt (d : D) | bk (g : Env) | ct (g : Env) | xc (c : Nat) (g : Env) | bad

def excV (cls : Cls) (c : Nat) : Value := match cls c with
  | some (C, _) => .ref C
  | none => .none

mutual
inductive Rp (K : PySem.W.Frag) (cls : Cls) (F : Hp) : V → D → Prop
  | non : Rp K cls F .non .non
  | bl (b : Bool) : Rp K cls F (.bl b) (.bl b)
  | int (i : Int) : Rp K cls F (.int i) (.int i)
  | str (x : Str) : Rp K cls F (.str x) (.str x)
  | rf (a : Addr) : Rp K cls F (.ref a) (.rf a)
  | sc {a : Addr} {vs : List V} {ds : List D} : SqL K F a vs → Rps K cls F vs ds → Rp K cls F (.ref a) (.sc ds)
  | ls {a : Addr} {vs : List V} {ds : List D} : F a = some (.lst vs) → Rps K cls F vs ds → Rp K cls F (.ref a) (.ls ds)
  | tp {a : Addr} {vs : List V} {ds : List D} : SqT K F a vs → Rps K cls F vs ds → Rp K cls F (.ref a) (.tp ds)
  | ob {a C dx : Addr} {c : Nat} {ns : List Str} {vs : List V} {ds : List D} : cls c = some (C, ns) → F a = some (.ins C dx (ns.zip vs)) → vs.length ≤ ns.length → Rps K cls F vs ds → Rp K cls F (.ref a) (.ob c ds)
inductive Rps (K : PySem.W.Frag) (cls : Cls) (F : Hp) : List V → List D → Prop
  | nil : Rps K cls F [] []
  | cons {v : V} {d : D} {vs : List V} {ds : List D} : Rp K cls F v d → Rps K cls F vs ds → Rps K cls F (v :: vs) (d :: ds)
end

mutual
inductive Ow (K : PySem.W.Frag) (cls : Cls) (F H : Hp) : V → D → List Addr → Prop
  | sh {v : V} {d : D} : Rp K cls F v d → Ow K cls F H v d []
  | ol {a : Addr} {vs : List V} {ds : List D} {O : List Addr} : F a = none → H a = some (.lst vs) → a ∉ O → Ows K cls F H vs ds O → Ow K cls F H (.ref a) (.ol ds) (a :: O)
  | od {a : Addr} {ks : List Key} {vs : List V} {ds : List D} {O : List Addr} : F a = none → H a = some (.dK (ks.zip vs)) → ks.length = vs.length → a ∉ O → Ows K cls F H vs ds O → Ow K cls F H (.ref a) (.od ks ds) (a :: O)
  | oo {o : Option Addr} {a C dx : Addr} {c : Nat} {ns : List Str} {vs : List V} {ds : List D} {O : List Addr} : (∀ x, o = some x → x = a) → cls c = some (C, ns) → F a = none → H a = some (.ins C dx (ns.zip vs)) → vs.length ≤ ns.length → a ∉ O → Ows K cls F H vs ds O → Ow K cls F H (.ref a) (.oo o c ds) (a :: O)
inductive Ows (K : PySem.W.Frag) (cls : Cls) (F H : Hp) : List V → List D → List Addr → Prop
  | nil : Ows K cls F H [] [] []
  | cons {v : V} {d : D} {vs : List V} {ds : List D} {O1 O2 O : List Addr} : Ow K cls F H v d O1 → Ows K cls F H vs ds O2 → (∀ a ∈ O1, a ∉ O2) → O = O1 ++ O2 → Ows K cls F H (v :: vs) (d :: ds) O
end

mutual
inductive Bo (K : PySem.W.Frag) (cls : Cls) (F H : Hp) : V → D → Prop
  | sh {v : V} {d : D} : Rp K cls F v d → Bo K cls F H v d
  | bo {a : Addr} {vs : List V} {ds : List D} : H a = some (.lst vs) → Bos K cls F H vs ds → Bo K cls F H (.ref a) (.bo ds)
  | bd {a : Addr} {ks : List Key} {vs : List V} {ds : List D} : H a = some (.dK (ks.zip vs)) → ks.length = vs.length → Bos K cls F H vs ds → Bo K cls F H (.ref a) (.bd ks ds)
  | bb {a C dx : Addr} {c : Nat} {ns : List Str} {vs : List V} {ds : List D} : cls c = some (C, ns) → H a = some (.ins C dx (ns.zip vs)) → vs.length ≤ ns.length → Bos K cls F H vs ds → Bo K cls F H (.ref a) (.bb c ds)
inductive Bos (K : PySem.W.Frag) (cls : Cls) (F H : Hp) : List V → List D → Prop
  | nil : Bos K cls F H [] []
  | cons {v : V} {d : D} {vs : List V} {ds : List D} : Bo K cls F H v d → Bos K cls F H vs ds → Bos K cls F H (v :: vs) (d :: ds)
end

def Tm (K : PySem.W.Frag) (cls : Cls) (F H : Hp) (v : V) (d : D) (O : List Addr) : Prop := Ow K cls F H v d O ∨ (Bo K cls F H v d ∧ O = [])

inductive Sts (K : PySem.W.Frag) (cls : Cls) (F H : Hp) : St → Env → List Addr → Prop
  | nil : Sts K cls F H [] [] []
  | un {o : Option V} {σ : St} {g : Env} {O : List Addr} : Sts K cls F H σ g O → Sts K cls F H (o :: σ) (.un :: g) O
  | cons {v : V} {d : D} {σ : St} {g : Env} {O1 O2 O : List Addr} : Ow K cls F H v d O1 → Sts K cls F H σ g O2 → (∀ a ∈ O1, a ∉ O2) → O = O1 ++ O2 → Sts K cls F H (some v :: σ) (d :: g) O

def Fresh (H : Hp) (O : List Addr) : Prop := ∀ a ∈ O, H a = none

structure Ext (F H F' H' : Hp) : Prop where
  ff : Same F F'
  hh : Same H H'
  fh : Same F' H'
  ow : ∀ a, F a = none → H a ≠ none → F' a = none

structure SExt (F H : Hp) (O : List Addr) (F' H' : Hp) (O' : List Addr) : Prop where
  ff : Same F F'
  fh : Same F' H'
  fr : ∀ a o, H a = some o → a ∉ O → H' a = some o
  ow : ∀ a, F a = none → H a ≠ none → a ∉ O → F' a = none
  oo : ∀ a ∈ O', a ∈ O ∨ H a = none

section
variable {K : PySem.W.Frag} {cls : Cls} {F H F' H' F'' H'' : Hp} {O O' O'' : List Addr}

theorem Ext.refl (s : Same F H) : Ext F H F H := ⟨.refl F, .refl H, s, fun _ h _ => h⟩
theorem Ext.trans (x : Ext F H F' H') (y : Ext F' H' F'' H'') : Ext F H F'' H'' :=
  ⟨x.ff.trans y.ff, x.hh.trans y.hh, y.fh, fun a h1 h2 => y.ow a (x.ow a h1 h2) (fun e => by
    cases q : H a with
    | none => exact h2 q
    | some o => rw [x.hh a o q] at e; cases e)⟩
theorem Ext.some (x : Ext F H F' H') {a : Addr} (h : H a ≠ none) : H' a ≠ none := fun e => by
  cases q : H a with
  | none => exact h q
  | some o => rw [x.hh a o q] at e; cases e
theorem Ext.fresh (x : Ext F H F' H') (h : Fresh H' O) : Fresh H O := fun a ha => x.hh.free (h a ha)
theorem Fresh.mono (s : Same H H') (h : Fresh H' O) : Fresh H O := fun a ha => s.free (h a ha)
theorem Fresh.nil : Fresh H [] := fun _ h => nomatch h
theorem SExt.refl (s : Same F H) : SExt F H O F H O := ⟨.refl F, s, fun _ _ h _ => h, fun _ h _ _ => h, fun _ h => .inl h⟩
theorem SExt.trans (x : SExt F H O F' H' O') (y : SExt F' H' O' F'' H'' O'') : SExt F H O F'' H'' O'' := by
  have no : ∀ a o, H a = .some o → a ∉ O → a ∉ O' := fun a o h n h' => by
    rcases x.oo a h' with e | e
    · exact n e
    · rw [h] at e; cases e
  have ne : ∀ a, H a ≠ none → ∃ o, H a = .some o := fun a h => by
    cases q : H a with
    | none => exact (h q).elim
    | some o => exact ⟨o, rfl⟩
  refine ⟨x.ff.trans y.ff, y.fh, fun a o h n => y.fr a o (x.fr a o h n) (no a o h n), fun a h1 h2 n => ?_, fun a h => ?_⟩
  · obtain ⟨o, q⟩ := ne a h2
    exact y.ow a (x.ow a h1 h2 n) (by rw [x.fr a o q n]; exact fun e => nomatch e) (no a o q n)
  · rcases y.oo a h with e | e
    · exact x.oo a e
    · cases q : H a with
      | none => exact .inr rfl
      | some o =>
        by_cases n : a ∈ O
        · exact .inl n
        · rw [x.fr a o q n] at e; cases e
theorem Ext.sext (x : Ext F H F' H') (h : ∀ a ∈ O', a ∈ O ∨ H a = none) : SExt F H O F' H' O' := ⟨x.ff, x.fh, fun a o e _ => x.hh a o e, fun a h1 h2 _ => x.ow a h1 h2, h⟩
theorem SExt.ext (x : SExt F H [] F' H' O') : Ext F H F' H' := ⟨x.ff, fun a o e => x.fr a o e (by simp), x.fh, fun a h1 h2 => x.ow a h1 h2 (by simp)⟩

mutual
theorem Rp.mono (s : Same F F') : ∀ {v : V} {d : D}, Rp K cls F v d → Rp K cls F' v d
  | _, _, .non => .non
  | _, _, .bl b => .bl b
  | _, _, .int i => .int i
  | _, _, .str x => .str x
  | _, _, .rf x => .rf x
  | _, _, .sc h r => .sc (s.seq h) (Rps.mono s r)
  | _, _, .ls h r => .ls (s _ _ h) (Rps.mono s r)
  | _, _, .tp h r => .tp (by
      rcases h with (h | ⟨o, h⟩) | h
      · exact .inl (.inl (s _ _ h))
      · exact .inl (.inr ⟨o, s _ _ h⟩)
      · exact .inr h) (Rps.mono s r)
  | _, _, .ob c h l r => .ob c (s _ _ h) l (Rps.mono s r)
theorem Rps.mono (s : Same F F') : ∀ {v : List V} {d : List D}, Rps K cls F v d → Rps K cls F' v d
  | _, _, .nil => .nil
  | _, _, .cons h r => .cons (Rp.mono s h) (Rps.mono s r)
end
mutual
theorem Ow.frame (s : Same F F') : ∀ {v : V} {d : D} {O : List Addr}, Ow K cls F H v d O → (∀ a ∈ O, H' a = H a ∧ F' a = none) → Ow K cls F' H' v d O
  | _, _, _, .sh r, _ => .sh (r.mono s)
  | _, _, _, .ol h1 h2 h3 r, k => .ol (k _ (by simp)).2 ((k _ (by simp)).1.trans h2) h3 (Ows.frame s r fun a ha => k a (by simp [ha]))
  | _, _, _, .od h1 h2 hl h3 r, k => .od (k _ (by simp)).2 ((k _ (by simp)).1.trans h2) hl h3 (Ows.frame s r fun a ha => k a (by simp [ha]))
  | _, _, _, .oo ho hc h1 h2 hl h3 r, k => .oo ho hc (k _ (by simp)).2 ((k _ (by simp)).1.trans h2) hl h3 (Ows.frame s r fun a ha => k a (by simp [ha]))
theorem Ows.frame (s : Same F F') : ∀ {v : List V} {d : List D} {O : List Addr}, Ows K cls F H v d O → (∀ a ∈ O, H' a = H a ∧ F' a = none) → Ows K cls F' H' v d O
  | _, _, _, .nil, _ => .nil
  | _, _, _, .cons h r dj e, k => .cons (Ow.frame s h fun a ha => k a (by simp [e, ha])) (Ows.frame s r fun a ha => k a (by simp [e, ha])) dj e
end
mutual
theorem Ow.dom : ∀ {v : V} {d : D} {O : List Addr}, Ow K cls F H v d O → ∀ a ∈ O, F a = none ∧ H a ≠ none
  | _, _, _, .sh r, _, h => nomatch h
  | _, _, _, .ol h1 h2 h3 r, a, h => by
    rcases List.mem_cons.mp h with rfl | h
    · exact ⟨h1, by rw [h2]; exact fun e => nomatch e⟩
    · exact Ows.dom r a h
  | _, _, _, .od h1 h2 hl h3 r, a, h => by
    rcases List.mem_cons.mp h with rfl | h
    · exact ⟨h1, by rw [h2]; exact fun e => nomatch e⟩
    · exact Ows.dom r a h
  | _, _, _, .oo ho hc h1 h2 hl h3 r, a, h => by
    rcases List.mem_cons.mp h with rfl | h
    · exact ⟨h1, by rw [h2]; exact fun e => nomatch e⟩
    · exact Ows.dom r a h
theorem Ows.dom : ∀ {v : List V} {d : List D} {O : List Addr}, Ows K cls F H v d O → ∀ a ∈ O, F a = none ∧ H a ≠ none
  | _, _, _, .nil, _, h => nomatch h
  | _, _, _, .cons h r dj e, a, ha => by
    rw [e] at ha
    rcases List.mem_append.mp ha with q | q
    · exact Ow.dom h a q
    · exact Ows.dom r a q
end
theorem Ext.get (x : Ext F H F' H') {a : Addr} (h1 : F a = none) (h2 : H a ≠ none) : H' a = H a ∧ F' a = none := by
  refine ⟨?_, x.ow a h1 h2⟩
  cases q : H a with
  | none => exact (h2 q).elim
  | some o => exact x.hh a o q
theorem Ow.ext (x : Ext F H F' H') {v : V} {d : D} (h : Ow K cls F H v d O) : Ow K cls F' H' v d O :=
  h.frame x.ff fun a ha => x.get (h.dom a ha).1 (h.dom a ha).2
theorem Ows.ext (x : Ext F H F' H') {v : List V} {d : List D} (h : Ows K cls F H v d O) : Ows K cls F' H' v d O :=
  h.frame x.ff fun a ha => x.get (h.dom a ha).1 (h.dom a ha).2
mutual
theorem Bo.ext (x : Ext F H F' H') : ∀ {v : V} {d : D}, Bo K cls F H v d → Bo K cls F' H' v d
  | _, _, .sh r => .sh (r.mono x.ff)
  | _, _, .bo h r => .bo (x.hh _ _ h) (Bos.ext x r)
  | _, _, .bd h l r => .bd (x.hh _ _ h) l (Bos.ext x r)
  | _, _, .bb hc h l r => .bb hc (x.hh _ _ h) l (Bos.ext x r)
theorem Bos.ext (x : Ext F H F' H') : ∀ {v : List V} {d : List D}, Bos K cls F H v d → Bos K cls F' H' v d
  | _, _, .nil => .nil
  | _, _, .cons h r => .cons (Bo.ext x h) (Bos.ext x r)
end
theorem Tm.ext (x : Ext F H F' H') {v : V} {d : D} (h : Tm K cls F H v d O) : Tm K cls F' H' v d O := by
  rcases h with h | ⟨h, e⟩
  · exact .inl (h.ext x)
  · exact .inr ⟨h.ext x, e⟩
theorem Sts.dom : ∀ {σ : St} {g : Env} {O : List Addr}, Sts K cls F H σ g O → ∀ a ∈ O, F a = none ∧ H a ≠ none
  | _, _, _, .nil, _, h => nomatch h
  | _, _, _, .un r, a, h => r.dom a h
  | _, _, _, .cons h r dj e, a, ha => by
    rw [e] at ha
    rcases List.mem_append.mp ha with q | q
    · exact Ow.dom h a q
    · exact Sts.dom r a q
theorem Sts.frame (s : Same F F') : ∀ {σ : St} {g : Env} {O : List Addr}, Sts K cls F H σ g O → (∀ a ∈ O, H' a = H a ∧ F' a = none) → Sts K cls F' H' σ g O
  | _, _, _, .nil, _ => .nil
  | _, _, _, .un r, k => .un (r.frame s k)
  | _, _, _, .cons h r dj e, k => .cons (h.frame s fun a ha => k a (by simp [e, ha])) (r.frame s fun a ha => k a (by simp [e, ha])) dj e
theorem Sts.ext (x : Ext F H F' H') {σ : St} {g : Env} (h : Sts K cls F H σ g O) : Sts K cls F' H' σ g O :=
  h.frame x.ff fun a ha => x.get (h.dom a ha).1 (h.dom a ha).2
theorem Sts.len : ∀ {σ : St} {g : Env} {O : List Addr}, Sts K cls F H σ g O → σ.length = g.length
  | _, _, _, .nil => rfl
  | _, _, _, .un r => by simp [r.len]
  | _, _, _, .cons h r dj e => by simp [r.len]

theorem Sts.at : ∀ {σ : St} {g : Env} {O : List Addr} (i : Nat), Sts K cls F H σ g O → i < g.length → ∃ O1 : List Addr, (∀ a ∈ O1, a ∈ O) ∧
    (g[i]? = some .un ∧ O1 = [] ∨ ∃ v d, σ[i]? = some (some v) ∧ g[i]? = some d ∧ Ow K cls F H v d O1) ∧
    (∀ (F' H' : Hp) (v' : V) (d' : D) (O1' : List Addr), (∀ b ∈ O, b ∉ O1 → H' b = H b ∧ F' b = none) → Same F F' → Ow K cls F' H' v' d' O1' → (∀ a ∈ O1', a ∈ O → a ∈ O1) →
      ∃ O'', Sts K cls F' H' (σ.set i (some v')) (g.set i d') O'' ∧ ∀ a ∈ O'', a ∈ O ∨ a ∈ O1') ∧
    (∀ (F' H' : Hp) (o : Option V), (∀ b ∈ O, b ∉ O1 → H' b = H b ∧ F' b = none) → Same F F' →
      ∃ O'', Sts K cls F' H' (σ.set i o) (g.set i .un) O'' ∧ (∀ a ∈ O'', a ∈ O) ∧ ∀ a ∈ O'', a ∉ O1)
  | _, _, _, i, .nil, h => absurd h (Nat.not_lt_zero i)
  | _, _, _, 0, .un (o := o) (O := O) r, _ => by
    refine ⟨[], fun _ h => (nomatch h), .inl ⟨rfl, rfl⟩, fun F' H' v' d' O1' k s w dj => ⟨O1' ++ O, ?_, fun a ha => ?_⟩, fun F' H' o' k s => ⟨O, ?_, fun _ h => h, fun _ _ h => (nomatch h)⟩⟩
    · exact .cons w (r.frame s fun a ha => k a ha (by simp)) (fun a h1 h2 => (nomatch (dj a h1 h2))) rfl
    · rcases List.mem_append.mp ha with q | q
      · exact .inr q
      · exact .inl q
    · exact .un (r.frame s fun a ha => k a ha (by simp))
  | _, _, _, 0, .cons (v := v) (d := d) (O1 := O1) (O2 := O2) h r dj e, _ => by
    subst e
    refine ⟨O1, fun a h => List.mem_append_left _ h, .inr ⟨v, d, rfl, rfl, h⟩, fun F' H' v' d' O1' k s w dj' => ⟨O1' ++ O2, ?_, fun a ha => ?_⟩, fun F' H' o' k s => ⟨O2, ?_, fun a h => List.mem_append_right _ h, fun a h1 h2 => dj a h2 h1⟩⟩
    · refine .cons w (r.frame s fun a ha => k a (List.mem_append_right _ ha) fun q => dj a q ha) (fun a h1 h2 => ?_) rfl
      exact dj a (dj' a h1 (List.mem_append_right _ h2)) h2
    · rcases List.mem_append.mp ha with q | q
      · exact .inr q
      · exact .inl (List.mem_append_right _ q)
    · exact .un (r.frame s fun a ha => k a (List.mem_append_right _ ha) fun q => dj a q ha)
  | _, _, _, i + 1, .un (o := o) (O := O) r, hi => by
    obtain ⟨O1, h1, h2, h3, h4⟩ := r.at i (Nat.lt_of_succ_lt_succ hi)
    refine ⟨O1, h1, by simpa using h2, fun F' H' v' d' O1' k s w dj => ?_, fun F' H' o' k s => ?_⟩
    · obtain ⟨O'', q1, q2⟩ := h3 F' H' v' d' O1' k s w dj
      exact ⟨O'', .un q1, q2⟩
    · obtain ⟨O'', q1, q2⟩ := h4 F' H' o' k s
      exact ⟨O'', .un q1, q2⟩
  | _, _, _, i + 1, .cons (v := v) (d := d) (O1 := P1) (O2 := P2) h r dj e, hi => by
    subst e
    obtain ⟨O1, h1, h2, h3, h4⟩ := r.at i (Nat.lt_of_succ_lt_succ hi)
    have n1 : ∀ a ∈ P1, a ∉ O1 := fun a q q' => dj a q (h1 a q')
    refine ⟨O1, fun a q => List.mem_append_right _ (h1 a q), by simpa using h2, fun F' H' v' d' O1' k s w dj' => ?_, fun F' H' o' k s => ?_⟩
    · obtain ⟨O'', q1, q2⟩ := h3 F' H' v' d' O1' (fun b hb => k b (List.mem_append_right _ hb)) s w fun a q q' => dj' a q (List.mem_append_right _ q')
      refine ⟨P1 ++ O'', .cons (h.frame s fun a ha => k a (List.mem_append_left _ ha) (n1 a ha)) q1 (fun a ha hb => ?_) rfl, fun a ha => ?_⟩
      · rcases q2 a hb with z | z
        · exact dj a ha z
        · exact n1 a ha (dj' a z (List.mem_append_left _ ha))
      · rcases List.mem_append.mp ha with z | z
        · exact .inl (List.mem_append_left _ z)
        · rcases q2 a z with z | z
          · exact .inl (List.mem_append_right _ z)
          · exact .inr z
    · obtain ⟨O'', q1, q2, q3⟩ := h4 F' H' o' (fun b hb => k b (List.mem_append_right _ hb)) s
      refine ⟨P1 ++ O'', .cons (h.frame s fun a ha => k a (List.mem_append_left _ ha) (n1 a ha)) q1 (fun a ha hb => dj a ha (q2 a hb)) rfl, fun a ha => ?_, fun a ha hb => ?_⟩
      · rcases List.mem_append.mp ha with z | z
        · exact List.mem_append_left _ z
        · exact List.mem_append_right _ (q2 a z)
      · rcases List.mem_append.mp ha with z | z
        · exact n1 a z hb
        · exact q3 a z hb

mutual
/-- a value all of whose lists are shared from now on -/
def frz : D → D
  | .ol xs => .ls (frzs xs)
  | .oo _ c xs => .ob c (frzs xs)
  | d => d
def frzs : List D → List D
  | [] => []
  | d :: ds => frz d :: frzs ds
end
mutual
/-- how an owned value is read -/
def brw : D → D
  | .ol xs => .bo (brws xs)
  | .od ks xs => .bd ks (brws xs)
  | .oo _ c xs => .bb c (brws xs)
  | d => d
def brws : List D → List D
  | [] => []
  | d :: ds => brw d :: brws ds
end
mutual
/-- a borrowed value as plain data -/
def pln : D → D
  | .bo xs => .ls (plns xs)
  | .bb c xs => .ob c (plns xs)
  | d => d
def plns : List D → List D
  | [] => []
  | d :: ds => pln d :: plns ds
end
mutual
theorem Ow.brw (s : Same F H) : ∀ {v : V} {d : D} {O : List Addr}, Ow K cls F H v d O → Bo K cls F H v (brw d)
  | _, _, _, .sh r => by cases r <;> exact .sh (by first | assumption | constructor <;> assumption | constructor)
  | _, _, _, .ol h1 h2 h3 r => .bo h2 (Ows.brws s r)
  | _, _, _, .od h1 h2 hl h3 r => .bd h2 hl (Ows.brws s r)
  | _, _, _, .oo ho hc h1 h2 hl h3 r => .bb hc h2 hl (Ows.brws s r)
theorem Ows.brws (s : Same F H) : ∀ {v : List V} {d : List D} {O : List Addr}, Ows K cls F H v d O → Bos K cls F H v (brws d)
  | _, _, _, .nil => .nil
  | _, _, _, .cons h r _ _ => .cons (Ow.brw s h) (Ows.brws s r)
end
end
end DL

namespace DL
open PySem L2

def Res.bind {α β : Type} (r : Res α) (f : α → Res β) : Res β := match r with
  | .ok a => f a
  | .xc c => .xc c
  | .bad => .bad
@[simp] theorem Res.bind_ok {α β : Type} (a : α) (f : α → Res β) : (Res.ok a).bind f = f a := rfl
@[simp] theorem Res.bind_xc {α β : Type} (c : Nat) (f : α → Res β) : (Res.xc c : Res α).bind f = .xc c := rfl
@[simp] theorem Res.bind_bad {α β : Type} (f : α → Res β) : (Res.bad : Res α).bind f = .bad := rfl
def Res.of {α : Type} : Option α → Res α
  | some a => .ok a
  | none => .bad
@[simp] theorem Res.of_some {α : Type} (a : α) : Res.of (some a) = .ok a := rfl
@[simp] theorem Res.of_none {α : Type} : Res.of (none : Option α) = .bad := rfl

mutual
@[simp] def nod : D → Bool
  | .od _ _ => false
  | .ol xs => nods xs
  | .oo _ _ xs => nods xs
  | _ => true
@[simp] def nods : List D → Bool
  | [] => true
  | d :: ds => nod d && nods ds
end
section
variable {K : PySem.W.Frag} {cls : Cls} {F H F' H' F'' H'' : Hp} {O O' O'' : List Addr}
mutual
theorem Ow.freeze (s : Same F F') : ∀ {v : V} {d : D} {O : List Addr}, Ow K cls F H v d O → (∀ a ∈ O, F' a = H a) → nod d = true → Rp K cls F' v (frz d)
  | _, d, _, .sh r, _, _ => by
    have r' := r.mono s
    cases r <;> (simp only [frz]; exact r')
  | _, _, _, .ol (ds := ds) h1 h2 h3 r, k, n => by
    simp only [frz]
    exact .ls ((k _ (by simp)).trans h2) (Ows.freeze s r (fun a ha => k a (by simp [ha])) (by simpa using n))
  | _, _, _, .od h1 h2 hl h3 r, k, n => by simp at n
  | _, _, _, .oo (ds := ds) ho hc h1 h2 hl h3 r, k, n => by
    simp only [frz]
    exact .ob hc ((k _ (by simp)).trans h2) hl (Ows.freeze s r (fun a ha => k a (by simp [ha])) (by simpa using n))
theorem Ows.freeze (s : Same F F') : ∀ {v : List V} {d : List D} {O : List Addr}, Ows K cls F H v d O → (∀ a ∈ O, F' a = H a) → nods d = true → Rps K cls F' v (frzs d)
  | _, _, _, .nil, _, _ => .nil
  | _, _, _, .cons h r dj e, k, n => by
    simp only [nods, Bool.and_eq_true] at n
    simp only [frzs]
    exact .cons (Ow.freeze s h (fun a ha => k a (by simp [e, ha])) n.1) (Ows.freeze s r (fun a ha => k a (by simp [e, ha])) n.2)
end
def addF (F H : Hp) (O : List Addr) : Hp := fun a => if a ∈ O then H a else F a
theorem addF_ext {F0 H0 : Hp} (x : Ext F0 H0 F H) (f : Fresh H0 O) (n : ∀ a ∈ O, F a = none) : Ext F0 H0 (addF F H O) H := by
  have s1 : Same F (addF F H O) := fun a o e => by
    unfold addF
    split
    · rename_i q; rw [n a q] at e; cases e
    · exact e
  refine ⟨x.ff.trans s1, x.hh, fun a o e => ?_, fun a h1 h2 => ?_⟩
  · unfold addF at e
    split at e
    · exact e
    · exact x.fh a o e
  · unfold addF
    rw [if_neg (fun q => h2 (f a q))]
    exact x.ow a h1 h2
theorem addF_same (n : ∀ a ∈ O, F a = none) : Same F (addF F H O) := fun a o e => by
  unfold addF
  split
  · rename_i q; rw [n a q] at e; cases e
  · exact e
theorem addF_at : ∀ a ∈ O, addF F H O a = H a := fun a h => by unfold addF; rw [if_pos h]
theorem addF_no {a : Addr} (h : a ∉ O) : addF F H O a = F a := by unfold addF; rw [if_neg h]

def opd (d : D) : D := if nod d = true then frz d else brw d
theorem Rp.opd {v : V} {d : D} (r : Rp K cls F v d) : opd d = d := by cases r <;> rfl
theorem Bo.opd {v : V} {d : D} (r : Bo K cls F H v d) : opd d = d := by
  cases r with
  | sh r => exact r.opd
  | bo => rfl
  | bd => rfl
  | bb => rfl
@[simp] theorem opd_un : opd .un = .un := rfl
@[simp] theorem opd_non : opd .non = .non := rfl
@[simp] theorem opd_bl {b} : opd (.bl b) = .bl b := rfl
@[simp] theorem opd_int {b} : opd (.int b) = .int b := rfl
@[simp] theorem opd_str {b} : opd (.str b) = .str b := rfl
@[simp] theorem opd_sc {b} : opd (.sc b) = .sc b := rfl
@[simp] theorem opd_ls {b} : opd (.ls b) = .ls b := rfl
@[simp] theorem opd_tp {b} : opd (.tp b) = .tp b := rfl
@[simp] theorem opd_ob {c b} : opd (.ob c b) = .ob c b := rfl
@[simp] theorem opd_bo {b} : opd (.bo b) = .bo b := rfl
@[simp] theorem opd_bd {c b} : opd (.bd c b) = .bd c b := rfl
@[simp] theorem opd_od {c b} : opd (.od c b) = .bd c (brws b) := rfl
@[simp] theorem opd_rf {b} : opd (.rf b) = .rf b := rfl
@[simp] theorem opd_bb {c b} : opd (.bb c b) = .bb c b := rfl
@[simp] theorem opd_oo {o c b} : opd (.oo o c b) = if nods b = true then .ob c (frzs b) else .bb c (brws b) := rfl
@[simp] theorem opd_ol {b} : opd (.ol b) = if nods b = true then .ls (frzs b) else .bo (brws b) := by
  rfl
theorem Tm.operand {F0 H0 : Hp} {v : V} {d : D} (x : Ext F0 H0 F H) (f : Fresh H0 O) (t : Tm K cls F H v d O) : ∃ F', Ext F0 H0 F' H ∧ Same F F' ∧ (∀ a, a ∉ O → F' a = F a) ∧ Bo K cls F' H v (opd d) := by
  rcases t with t | ⟨t, e⟩
  · by_cases n : nod d = true
    · refine ⟨addF F H O, addF_ext x f fun a ha => (t.dom a ha).1, addF_same fun a ha => (t.dom a ha).1, fun a ha => addF_no ha, ?_⟩
      unfold DL.opd
      rw [if_pos n]
      exact .sh (t.freeze (addF_same fun a ha => (t.dom a ha).1) addF_at n)
    · refine ⟨F, x, .refl F, fun _ _ => rfl, ?_⟩
      unfold DL.opd
      rw [if_neg n]
      exact t.brw x.fh
  · refine ⟨F, x, .refl F, fun _ _ => rfl, ?_⟩
    rw [t.opd]
    exact t

@[simp] def kp : D → Res D
  | .bo _ => .bad
  | .bd _ _ => .bad
  | .bb _ _ => .bad
  | d => .ok d
theorem Tm.keep {v : V} {d d' : D} (t : Tm K cls F H v d O) (e : kp d = .ok d') : Ow K cls F H v d' O := by
  rcases t with t | ⟨t, rfl⟩
  · have : d' = d := by
      cases t with
      | sh r => cases r <;> (simp at e; exact e.symm)
      | ol => simp at e; exact e.symm
      | od => simp at e; exact e.symm
      | oo => simp at e; exact e.symm
    rw [this]; exact t
  · cases t with
    | sh r =>
      have : d' = d := by cases r <;> (simp at e; exact e.symm)
      rw [this]; exact .sh r
    | bo => simp at e
    | bd => simp at e
    | bb => simp at e

def PostE (K : PySem.W.Frag) (cls : Cls) (W : WX) (σ : St) (F H : Hp) (Q : VK) : Res D → Prop
  | .ok d => ∀ v F' H' O', Ext F H F' H' → Fresh H O' → Tm K cls F' H' v d O' → Q v H'
  | .xc c => ∀ F' H', Ext F H F' H' → W (excV cls c) none σ H'
  | .bad => False
def PostB (K : PySem.W.Frag) (cls : Cls) (W : WX) (σ : St) (F H : Hp) (Q : VK) : Res D → Prop
  | .ok d => ∀ v F' H', Ext F H F' H' → Bo K cls F' H' v d → Q v H'
  | .xc c => ∀ F' H', Ext F H F' H' → W (excV cls c) none σ H'
  | .bad => False
def PostO (K : PySem.W.Frag) (cls : Cls) (W : WX) (σ : St) (F H : Hp) (Q : VK) : Res D → Prop
  | .ok d => ∀ v F' H' O', Ext F H F' H' → Fresh H O' → Ow K cls F' H' v d O' → Q v H'
  | .xc c => ∀ F' H', Ext F H F' H' → W (excV cls c) none σ H'
  | .bad => False
def PostT (cls : Cls) (W : WX) (σ : St) (F H : Hp) (Q : Bool → Hp → Prop) : Res Bool → Prop
  | .ok b => ∀ F' H', Ext F H F' H' → Q b H'
  | .xc c => ∀ F' H', Ext F H F' H' → W (excV cls c) none σ H'
  | .bad => False
def PostA (K : PySem.W.Frag) (cls : Cls) (W : WX) (σ : St) (F H : Hp) (Q : List V → Hp → Prop) : Res (List D) → Prop
  | .ok d => ∀ v F' H', Ext F H F' H' → Bos K cls F' H' v d → Q v H'
  | .xc c => ∀ F' H', Ext F H F' H' → W (excV cls c) none σ H'
  | .bad => False
def PostAO (K : PySem.W.Frag) (cls : Cls) (W : WX) (σ : St) (F H : Hp) (Q : List V → Hp → Prop) : Res (List D) → Prop
  | .ok d => ∀ v F' H' O', Ext F H F' H' → Fresh H O' → Ows K cls F' H' v d O' → Q v H'
  | .xc c => ∀ F' H', Ext F H F' H' → W (excV cls c) none σ H'
  | .bad => False
def DE (K : PySem.W.Frag) (cls : Cls) (W : WX) (t : TE) (f : Env → Res D) : Prop :=
  ∀ σ F H g O Q, Same F H → Sts K cls F H σ g O → PostE K cls W σ F H Q (f g) → t σ H Q
def DB (K : PySem.W.Frag) (cls : Cls) (W : WX) (t : TE) (f : Env → Res D) : Prop :=
  ∀ σ F H g O Q, Same F H → Sts K cls F H σ g O → PostB K cls W σ F H Q (f g) → t σ H Q
def DO (K : PySem.W.Frag) (cls : Cls) (W : WX) (t : TE) (f : Env → Res D) : Prop :=
  ∀ σ F H g O Q, Same F H → Sts K cls F H σ g O → PostO K cls W σ F H Q (f g) → t σ H Q
def DT (K : PySem.W.Frag) (cls : Cls) (W : WX) (t : TT) (f : Env → Res Bool) : Prop :=
  ∀ σ F H g O Q, Same F H → Sts K cls F H σ g O → PostT cls W σ F H Q (f g) → t σ H Q
def DA (K : PySem.W.Frag) (cls : Cls) (W : WX) (t : TA) (f : Env → Res (List D)) : Prop :=
  ∀ σ F H g O Q, Same F H → Sts K cls F H σ g O → PostA K cls W σ F H Q (f g) → t σ H Q
def DAO (K : PySem.W.Frag) (cls : Cls) (W : WX) (t : TA) (f : Env → Res (List D)) : Prop :=
  ∀ σ F H g O Q, Same F H → Sts K cls F H σ g O → PostAO K cls W σ F H Q (f g) → t σ H Q

def bF (f : Env → Res D) : Env → Res D := fun g => (f g).bind fun d => .ok (opd d)
def oF (f : Env → Res D) : Env → Res D := fun g => (f g).bind kp
section
variable {f : Env → Res D} {g : Env}
theorem bF_ok {d : D} (e : f g = .ok d) : bF f g = .ok (opd d) := by unfold bF; rw [e]; rfl
theorem bF_xc {d : Nat} (e : f g = .xc d) : bF f g = .xc d := by unfold bF; rw [e]; rfl
theorem bF_bad (e : f g = .bad) : bF f g = .bad := by unfold bF; rw [e]; rfl
theorem oF_ok {d : D} (e : f g = .ok d) : oF f g = kp d := by unfold oF; rw [e]; rfl
theorem oF_xc {d : Nat} (e : f g = .xc d) : oF f g = .xc d := by unfold oF; rw [e]; rfl
theorem oF_bad (e : f g = .bad) : oF f g = .bad := by unfold oF; rw [e]; rfl
end
theorem kp_ok {d : D} : kp d = .ok d ∨ kp d = .bad := by cases d <;> simp
theorem DE.toB {W : WX} {t : TE} {f : Env → Res D} (h : DE K cls W t f) : DB K cls W t (bF f) := by
  intro σ F H g O Q s st p
  refine h σ F H g O Q s st ?_
  cases e : f g with
  | ok d =>
    rw [bF_ok e] at p
    intro v F' H' O' x fr tm
    obtain ⟨F2, x2, _, _, b⟩ := tm.operand x fr
    exact p v F2 H' x2 b
  | xc c => rw [bF_xc e] at p; exact p
  | bad => rw [bF_bad e] at p; exact p
theorem DE.toO {W : WX} {t : TE} {f : Env → Res D} (h : DE K cls W t f) : DO K cls W t (oF f) := by
  intro σ F H g O Q s st p
  refine h σ F H g O Q s st ?_
  cases e : f g with
  | ok d =>
    rw [oF_ok e] at p
    intro v F' H' O' x fr tm
    rcases kp_ok (d := d) with e2 | e2
    · rw [e2] at p; exact p v F' H' O' x fr (tm.keep e2)
    · rw [e2] at p; exact p.elim
  | xc c => rw [oF_xc e] at p; exact p
  | bad => rw [oF_bad e] at p; exact p

theorem PostE.mono {W : WX} {σ : St} {F H F1 H1 : Hp} {Q : VK} {r : Res D} (x : Ext F H F1 H1) (p : PostE K cls W σ F H Q r) : PostE K cls W σ F1 H1 Q r := by
  cases r with
  | ok d => exact fun v F' H' O' y fr tm => p v F' H' O' (x.trans y) (fr.mono x.hh) tm
  | xc c => exact fun F' H' y => p F' H' (x.trans y)
  | bad => exact p
theorem PostT.mono {W : WX} {σ : St} {F H F1 H1 : Hp} {Q : Bool → Hp → Prop} {r : Res Bool} (x : Ext F H F1 H1) (p : PostT cls W σ F H Q r) : PostT cls W σ F1 H1 Q r := by
  cases r with
  | ok d => exact fun F' H' y => p F' H' (x.trans y)
  | xc c => exact fun F' H' y => p F' H' (x.trans y)
  | bad => exact p
theorem PostA.mono {W : WX} {σ : St} {F H F1 H1 : Hp} {Q : List V → Hp → Prop} {r : Res (List D)} (x : Ext F H F1 H1) (p : PostA K cls W σ F H Q r) : PostA K cls W σ F1 H1 Q r := by
  cases r with
  | ok d => exact fun v F' H' y tm => p v F' H' (x.trans y) tm
  | xc c => exact fun F' H' y => p F' H' (x.trans y)
  | bad => exact p
theorem PostAO.mono {W : WX} {σ : St} {F H F1 H1 : Hp} {Q : List V → Hp → Prop} {r : Res (List D)} (x : Ext F H F1 H1) (p : PostAO K cls W σ F H Q r) : PostAO K cls W σ F1 H1 Q r := by
  cases r with
  | ok d => exact fun v F' H' O' y fr tm => p v F' H' O' (x.trans y) (fr.mono x.hh) tm
  | xc c => exact fun F' H' y => p F' H' (x.trans y)
  | bad => exact p

structure JE (X : Cx) (cls : Cls) (W : WX) (e : Expr) (f : Env → Res D) : Prop where
  ex : ∃ t, PE X e t ∧ DE X.K cls W t f
structure JT (X : Cx) (cls : Cls) (W : WX) (e : Expr) (f : Env → Res Bool) : Prop where
  ex : ∃ t, PT X e t ∧ DT X.K cls W t f
structure JW (X : Cx) (cls : Cls) (W : WX) (e : Expr) (f : Env → Res Bool) : Prop where
  ex : ∃ t, PW X e t ∧ DT X.K cls W t f
structure JA (X : Cx) (cls : Cls) (W : WX) (e : List Expr) (f : Env → Res (List D)) : Prop where
  ex : ∃ t, PA X e t ∧ DA X.K cls W t f
structure JAO (X : Cx) (cls : Cls) (W : WX) (e : List Expr) (f : Env → Res (List D)) : Prop where
  ex : ∃ t, PA X e t ∧ DAO X.K cls W t f
end

section
variable {X : Cx} {cls : Cls} {W : WX} {a b c : Expr} {es : List Expr} {fa fb fc : Env → Res D} {fs : Env → Res (List D)} {pos : Pos}
@[simp] def gv (g : Env) (i : Nat) : Res D := match g[i]? with
  | some .un => .bad
  | some d => .ok (brw d)
  | none => .bad
def eVar (i : Nat) : Env → Res D := fun g => gv g i
@[simp] theorem eVar_ (i : Nat) (g : Env) : eVar i g = gv g i := rfl
theorem de_var {K : PySem.W.Frag} (i : Nat) : DE K cls W (tVar i) (eVar i) := by
  intro σ F H g O Q s st p
  unfold eVar gv at p
  cases e : g[i]? with
  | none => rw [e] at p; exact p.elim
  | some d =>
    have hi : i < g.length := (List.getElem?_eq_some_iff.mp e).1
    obtain ⟨O1, h1, h2, _⟩ := st.at i hi
    rcases h2 with ⟨h2, _⟩ | ⟨v, d', h2, h3, ow⟩
    · rw [e] at h2; cases h2; rw [e] at p; exact p.elim
    · rw [e] at h3; cases h3
      refine ⟨v, h2, ?_⟩
      rw [e] at p
      have q : PostE K cls W σ F H Q (.ok (brw d)) := by
        cases d <;> first | exact p | exact p.elim
      exact q v F H [] (.refl s) Fresh.nil (.inr ⟨ow.brw s, rfl⟩)
theorem je_var (i : Nat) {x : Str} (hN : X.N[i]? = some x := by rfl) (hv : Vis X.env.scope x := by first | exact Or.inl rfl | exact Or.inr (Or.inl rfl) | exact Or.inr (Or.inr rfl)) (hd : (x == ("__debug__" : Str)) = false := by decide)
    (hcd : (x == ("__classdict__" : Str)) = false := by decide) : JE X cls W (.Name x pos) (eVar i) := ⟨_, pe_var hN hv hd hcd, de_var i⟩
def eC (d : D) : Env → Res D := fun _ => .ok d
@[simp] theorem eC_ (d : D) (g : Env) : eC d g = .ok d := rfl
theorem de_c {K : PySem.W.Frag} {v : V} {d : D} (h : ∀ F, Rp K cls F v d) : DE K cls W (tC v) (eC d) := by
  intro σ F H g O Q s st p
  exact p v F H [] (.refl s) Fresh.nil (.inl (.sh (h F)))
theorem je_int {i : Int} {j} : JE X cls W (.Constant (.int i) j pos) (eC (.int i)) := ⟨_, pe_int, de_c fun _ => .int i⟩
theorem je_bl {i : Bool} {j} : JE X cls W (.Constant (.bool i) j pos) (eC (.bl i)) := ⟨_, pe_bl, de_c fun _ => .bl i⟩
theorem je_non {j} : JE X cls W (.Constant .none j pos) (eC .non) := ⟨_, pe_non, de_c fun _ => .non⟩
theorem je_str {i : Str} {j} : JE X cls W (.Constant (.str i) j pos) (eC (.str i)) := ⟨_, pe_str, de_c fun _ => .str i⟩
theorem je_gint {x : Str} {i : Int} {t : Tok} (hm : X.mg x = some (.int i t)) (hg : Gl X x := by rfl) (hd : (x == ("__debug__" : Str)) = false := by decide) : JE X cls W (.Name x pos) (eC (.int i)) :=
  ⟨_, pe_glob (v := .int i) hg hm ⟨t, rfl⟩ hd, de_c fun _ => .int i⟩
theorem je_gstr {x i : Str} {t : Tok} (hm : X.mg x = some (.str i t)) (hg : Gl X x := by rfl) (hd : (x == ("__debug__" : Str)) = false := by decide) : JE X cls W (.Name x pos) (eC (.str i)) :=
  ⟨_, pe_glob (v := .str i) hg hm ⟨t, rfl⟩ hd, de_c fun _ => .str i⟩

def R2Ok (K : PySem.W.Frag) (cls : Cls) (r : R2) (op : D → D → Option D) : Prop :=
  ∀ F H x y a b d Q, Same F H → Bo K cls F H x a → Bo K cls F H y b → op a b = some d → (∀ v F' H' O', Ext F H F' H' → Fresh H O' → Tm K cls F' H' v d O' → Q v H') → r x y H Q
def eBin (op : D → D → Option D) (fa fb : Env → Res D) : Env → Res D := fun g => (fa g).bind fun a => (fb g).bind fun b => .of (op (opd a) (opd b))
@[simp] theorem eBin_ (op : D → D → Option D) (fa fb : Env → Res D) (g : Env) : eBin op fa fb g = (fa g).bind fun a => (fb g).bind fun b => .of (op (opd a) (opd b)) := rfl
theorem de_bin {K : PySem.W.Frag} {r : R2} {op : D → D → Option D} {ta tb : TE} (hr : R2Ok K cls r op) (ha : DE K cls W ta fa) (hb : DE K cls W tb fb) : DE K cls W (tOp r ta tb) (eBin op fa fb) := by
  intro σ F H g O Q s st p
  have e0 : eBin op fa fb g = (fa g).bind fun a => (fb g).bind fun b => .of (op (opd a) (opd b)) := rfl
  rw [e0] at p
  refine ha.toB σ F H g O _ s st ?_
  cases ea : fa g with
  | xc c => rw [ea] at p; rw [bF_xc ea]; exact p
  | bad => rw [ea] at p; exact p.elim
  | ok a =>
    rw [ea] at p
    rw [bF_ok ea]
    intro x F1 H1 x1 b1
    refine hb.toB σ F1 H1 g O _ x1.fh (st.ext x1) ?_
    simp only [Res.bind] at p
    cases eb : fb g with
    | xc c => rw [eb] at p; rw [bF_xc eb]; exact p.mono x1
    | bad => rw [eb] at p; exact p.elim
    | ok b =>
      rw [eb] at p
      rw [bF_ok eb]
      simp only [] at p
      intro y F2 H2 x2 b2
      cases eo : op (opd a) (opd b) with
      | none => rw [eo] at p; exact p.elim
      | some d =>
        rw [eo] at p
        exact hr F2 H2 x y _ _ d Q x2.fh (b1.ext x2) b2 eo fun v F' H' O' x3 fr tm => p v F' H' O' (x1.trans (x2.trans x3)) (fr.mono (x1.trans x2).hh) tm
theorem je_bin {o : Operator} {r : R2} {op : D → D → Option D} (ho : OpR X (binaryOp o) r) (hr : R2Ok X.K cls r op) (ha : JE X cls W a fa) (hb : JE X cls W b fb) : JE X cls W (.BinOp a o b pos) (eBin op fa fb) := by
  obtain ⟨ta, pa, da⟩ := ha.ex
  obtain ⟨tb, pb, db⟩ := hb.ex
  exact ⟨_, pe_op ho pa pb, de_bin hr da db⟩
def C2Ok (K : PySem.W.Frag) (cls : Cls) (r : R2) (op : D → D → Option Bool) : Prop :=
  ∀ F H x y a b d Q, Same F H → Bo K cls F H x a → Bo K cls F H y b → op a b = some d → Q (.bl d) H → r x y H Q
def tC2 (op : D → D → Option Bool) (fa fb : Env → Res D) : Env → Res Bool := fun g => (fa g).bind fun a => (fb g).bind fun b => .of (op (opd a) (opd b))
@[simp] theorem tC2_ (op : D → D → Option Bool) (fa fb : Env → Res D) (g : Env) : tC2 op fa fb g = (fa g).bind fun a => (fb g).bind fun b => .of (op (opd a) (opd b)) := rfl
def eB (f : Env → Res Bool) : Env → Res D := fun g => (f g).bind fun b => .ok (.bl b)
@[simp] theorem eB_ (f : Env → Res Bool) (g : Env) : eB f g = (f g).bind fun b => .ok (.bl b) := rfl
theorem de_c2 {K : PySem.W.Frag} {r : R2} {op : D → D → Option Bool} {ta tb : TE} (hr : C2Ok K cls r op) (ha : DE K cls W ta fa) (hb : DE K cls W tb fb) : DE K cls W (tOp r ta tb) (eB (tC2 op fa fb)) := by
  have h : R2Ok K cls r (fun a b => (op a b).map D.bl) := fun F H x y a b d Q s b1 b2 e q => by
    have e : (op a b).map D.bl = some d := e
    cases eo : op a b with
    | none => rw [eo] at e; cases e
    | some k =>
      rw [eo] at e
      cases e
      exact hr F H x y a b k Q s b1 b2 eo (q _ F H [] (.refl s) Fresh.nil (.inl (.sh (.bl k))))
  have q := de_bin (W := W) h ha hb
  have e : eBin (fun a b => (op a b).map D.bl) fa fb = eB (tC2 op fa fb) := by
    funext g
    unfold eBin eB tC2
    cases fa g with
    | ok a =>
      cases fb g with
      | ok b => simp only [Res.bind]; cases op (opd a) (opd b) <;> rfl
      | xc c => rfl
      | bad => rfl
    | xc c => rfl
    | bad => rfl
  rw [e] at q
  exact q
theorem dt_of {K : PySem.W.Frag} {t : TE} {f : Env → Res Bool} (h : DE K cls W t (eB f)) : DT K cls W (tTest t) f := by
  intro σ F H g O Q s st p
  refine h σ F H g O _ s st ?_
  unfold eB
  cases e : f g with
  | ok k =>
    rw [e] at p
    intro v F' H' O' x fr tm
    have : v = .bl k := by
      rcases tm with t | ⟨t, _⟩
      · cases t with
        | sh r => cases r; rfl
      · cases t with
        | sh r => cases r; rfl
    subst this
    exact ⟨k, rfl, p F' H' x⟩
  | xc c => rw [e] at p; exact p
  | bad => rw [e] at p; exact p
theorem je_cmp {o : CmpOp} {r : R2} {op : D → D → Option Bool} (ho : OpR X (compareOp o) r) (hr : C2Ok X.K cls r op) (ha : JE X cls W a fa) (hb : JE X cls W b fb) (hm : behindInMarks o b = false) : JE X cls W (.Compare a [o] [b] pos) (eB (tC2 op fa fb)) := by
  obtain ⟨ta, pa, da⟩ := ha.ex
  obtain ⟨tb, pb, db⟩ := hb.ex
  exact ⟨_, pe_cmpR ho pa pb hm, de_c2 hr da db⟩
theorem jt_cmp {o : CmpOp} {r : R2} {op : D → D → Option Bool} (ho : OpR X (compareOp o) r) (hr : C2Ok X.K cls r op) (ha : JE X cls W a fa) (hb : JE X cls W b fb) (hm : behindInMarks o b = false) : JT X cls W (.Compare a [o] [b] pos) (tC2 op fa fb) := by
  obtain ⟨ta, pa, da⟩ := ha.ex
  obtain ⟨tb, pb, db⟩ := hb.ex
  exact ⟨_, pt_cmpR ho pa pb hm, dt_of (de_c2 hr da db)⟩
end
end DL

namespace DL
open PySem L2
section
variable {K : PySem.W.Frag} {cls : Cls} {W : WX} {X : Cx} {a b c : Expr} {es : List Expr} {fa fb fc : Env → Res D} {ga gb : Env → Res Bool} {fs : Env → Res (List D)} {pos : Pos}
  {F H F1 H1 : Hp} {Q : VK} {σ : St}

def R1Ok (K : PySem.W.Frag) (cls : Cls) (r : V → Hp → VK → Prop) (op : D → Option D) : Prop :=
  ∀ F H x a d Q, Same F H → Bo K cls F H x a → op a = some d → (∀ v F' H' O', Ext F H F' H' → Fresh H O' → Tm K cls F' H' v d O' → Q v H') → r x H Q
def eUn (op : D → Option D) (fa : Env → Res D) : Env → Res D := fun g => (fa g).bind fun a => .of (op (opd a))
@[simp] theorem eUn_ (op : D → Option D) (fa : Env → Res D) (g : Env) : eUn op fa g = (fa g).bind fun a => .of (op (opd a)) := rfl
theorem de_un {r : V → Hp → VK → Prop} {op : D → Option D} {ta : TE} (hr : R1Ok K cls r op) (ha : DE K cls W ta fa) : DE K cls W (tUn r ta) (eUn op fa) := by
  intro σ F H g O Q s st p
  rw [eUn_] at p
  refine ha.toB σ F H g O _ s st ?_
  cases ea : fa g with
  | xc c => rw [ea] at p; rw [bF_xc ea]; exact p
  | bad => rw [ea] at p; exact p.elim
  | ok a =>
    rw [ea] at p
    rw [bF_ok ea]
    simp only [Res.bind] at p
    intro x F1 H1 x1 b1
    cases eo : op (opd a) with
    | none => rw [eo] at p; exact p.elim
    | some d =>
      rw [eo] at p
      exact hr F1 H1 x _ d Q x1.fh b1 eo fun v F' H' O' x3 fr tm => p v F' H' O' (x1.trans x3) (fr.mono x1.hh) tm
theorem je_un {o : UnaryOp} {r : V → Hp → VK → Prop} {op : D → Option D} (ho : UnR X (unaryOp o) r) (hr : R1Ok X.K cls r op) (ha : JE X cls W a fa) : JE X cls W (.UnaryOp o a pos) (eUn op fa) := by
  obtain ⟨ta, pa, da⟩ := ha.ex
  exact ⟨_, pe_un ho pa, de_un hr da⟩

def tru : D → Option Bool
  | .non => some false
  | .bl b => some b
  | .int i => some (i != 0)
  | .str y => if y.length ≤ 1000000 then some ((y.length : Int) != 0) else none
  | .sc xs => some (!xs.isEmpty)
  | .ls xs => some (!xs.isEmpty)
  | .bo xs => some (!xs.isEmpty)
  | .tp xs => some (!xs.isEmpty)
  | .bd ks xs => some (!ks.isEmpty)
  | _ => none
theorem Rps.empty {vs : List V} {ds : List D} (h : Rps K cls F vs ds) : (!vs.isEmpty) = !ds.isEmpty := by cases h <;> rfl
theorem Bos.empty {vs : List V} {ds : List D} (h : Bos K cls F H vs ds) : (!vs.isEmpty) = !ds.isEmpty := by cases h <;> rfl
theorem sameL {a : Addr} {xs : List V} (s : Same F H) (h : SqL K F a xs) : SqL K H a xs := s.seq h
theorem sameT {a : Addr} {xs : List V} (s : Same F H) (h : SqT K F a xs) : SqT K H a xs := by
  rcases h with (h | ⟨o, h⟩) | h
  · exact .inl (.inl (s _ _ h))
  · exact .inl (.inr ⟨o, s _ _ h⟩)
  · exact .inr h
theorem lim_line : (1000000 : Nat) < sizeLine := by rw [sizeLine_eq]; decide
theorem Bo.tru {v : V} {d : D} {k : Bool} (s : Same F H) (b : Bo K cls F H v d) (e : tru d = some k) : TruV K v H k := by
  cases b with
  | sh r =>
    cases r with
    | non => cases e; rfl
    | bl => cases e; rfl
    | int => cases e; rfl
    | str y =>
      have e : (if y.length ≤ 1000000 then some ((y.length : Int) != 0) else none) = some k := e
      split at e
      · rename_i hy
        cases e
        exact ⟨Nat.le_trans hy (Nat.le_of_lt lim_line), rfl⟩
      · cases e
    | sc h r => cases e; exact .inl ⟨_, sameL s h, r.empty.symm⟩
    | ls h r => cases e; exact .inl ⟨_, SqL.of (s _ _ h), r.empty.symm⟩
    | tp h r => cases e; exact .inr (.inl ⟨_, sameT s h, r.empty.symm⟩)
    | ob => cases e
    | rf => cases e
  | bo h r => cases e; exact .inl ⟨_, SqL.of h, r.empty.symm⟩
  | bd h l r =>
    cases e
    refine .inr (.inr ⟨_, h, ?_⟩)
    rename_i a ks vs ds
    cases ks <;> cases vs <;> first | rfl | (simp at l)
  | bb => cases e
def tTr (fa : Env → Res D) : Env → Res Bool := fun g => (fa g).bind fun a => .of (tru (opd a))
@[simp] theorem tTr_ (fa : Env → Res D) (g : Env) : tTr fa g = (fa g).bind fun a => .of (tru (opd a)) := rfl
theorem jt_truth (ha : JE X cls W a fa) (he : ∀ whole, isTrue a X.env whole = (do let v ← whole; standAt a.pos; holding [v] (truthy v)) := by intro _; rfl) : JT X cls W a (tTr fa) := by
  obtain ⟨ta, pa, da⟩ := ha.ex
  refine ⟨_, pt_truth pa he, ?_⟩
  intro σ F H g O Q s st p
  rw [tTr_] at p
  refine da.toB σ F H g O _ s st ?_
  cases ea : fa g with
  | xc c => rw [ea] at p; rw [bF_xc ea]; exact p
  | bad => rw [ea] at p; exact p.elim
  | ok a =>
    rw [ea] at p
    rw [bF_ok ea]
    simp only [Res.bind] at p
    intro x F1 H1 x1 b1
    cases eo : tru (opd a) with
    | none => rw [eo] at p; exact p.elim
    | some d =>
      rw [eo] at p
      exact ⟨d, b1.tru x1.fh eo, p F1 H1 x1⟩
def tAn (ga gb : Env → Res Bool) : Env → Res Bool := fun g => (ga g).bind fun k => if k = true then gb g else .ok false
def tOr_ (ga gb : Env → Res Bool) : Env → Res Bool := fun g => (ga g).bind fun k => if k = true then .ok true else gb g
def tNo (ga : Env → Res Bool) : Env → Res Bool := fun g => (ga g).bind fun k => .ok (!k)
@[simp] theorem tAn_ (ga gb : Env → Res Bool) (g : Env) : tAn ga gb g = (ga g).bind fun k => if k = true then gb g else .ok false := rfl
@[simp] theorem tOr__ (ga gb : Env → Res Bool) (g : Env) : tOr_ ga gb g = (ga g).bind fun k => if k = true then .ok true else gb g := rfl
@[simp] theorem tNo_ (ga : Env → Res Bool) (g : Env) : tNo ga g = (ga g).bind fun k => .ok (!k) := rfl
theorem DT.go {t : TT} (ha : DT K cls W t ga) {σ : St} {F H : Hp} {g : Env} {O : List Addr} {Q : Bool → Hp → Prop} (s : Same F H) (st : Sts K cls F H σ g O)
    (hx : ∀ c, ga g = .xc c → ∀ F' H', Ext F H F' H' → W (excV cls c) none σ H') (hb : ga g ≠ .bad) (hk : ∀ k, ga g = .ok k → ∀ F' H', Ext F H F' H' → Q k H') : t σ H Q := by
  refine ha σ F H g O Q s st ?_
  cases e : ga g with
  | ok k => exact hk k e
  | xc c => exact hx c e
  | bad => exact (hb e).elim
theorem dt_and {ta tb : TT} (ha : DT K cls W ta ga) (hb : DT K cls W tb gb) : DT K cls W (tAnd ta tb) (tAn ga gb) := by
  intro σ F H g O Q s st p
  rw [tAn_] at p
  refine ha.go s st (fun c e => by rw [e] at p; exact p) (fun e => by rw [e] at p; exact p) fun k e F1 H1 x => ?_
  rw [e] at p
  simp only [Res.bind] at p
  cases k with
  | true =>
    rw [if_pos rfl] at p
    rw [if_pos rfl]
    exact hb σ F1 H1 g O Q x.fh (st.ext x) (p.mono x)
  | false =>
    rw [if_neg (by decide)] at p
    rw [if_neg (by decide)]
    exact p F1 H1 x
theorem dt_or {ta tb : TT} (ha : DT K cls W ta ga) (hb : DT K cls W tb gb) : DT K cls W (tOr ta tb) (tOr_ ga gb) := by
  intro σ F H g O Q s st p
  rw [tOr__] at p
  refine ha.go s st (fun c e => by rw [e] at p; exact p) (fun e => by rw [e] at p; exact p) fun k e F1 H1 x => ?_
  rw [e] at p
  simp only [Res.bind] at p
  cases k with
  | true =>
    rw [if_pos rfl] at p
    rw [if_pos rfl]
    exact p F1 H1 x
  | false =>
    rw [if_neg (by decide)] at p
    rw [if_neg (by decide)]
    exact hb σ F1 H1 g O Q x.fh (st.ext x) (p.mono x)
theorem dt_not {ta : TT} (ha : DT K cls W ta ga) : DT K cls W (tNot ta) (tNo ga) := by
  intro σ F H g O Q s st p
  rw [tNo_] at p
  refine ha.go s st (fun c e => by rw [e] at p; exact p) (fun e => by rw [e] at p; exact p) fun k e F1 H1 x => ?_
  rw [e] at p
  exact p F1 H1 x
theorem jw_and1 (h : JT X cls W a ga) : JW X cls W (.BoolOp .And [a] pos) ga := by
  obtain ⟨ta, pa, da⟩ := h.ex
  exact ⟨_, pw_and1 pa, da⟩
theorem jw_or1 (h : JT X cls W a ga) : JW X cls W (.BoolOp .Or [a] pos) ga := by
  obtain ⟨ta, pa, da⟩ := h.ex
  exact ⟨_, pw_or1 pa, da⟩
theorem jw_and (h : JT X cls W a ga) (h2 : JW X cls W (.BoolOp .And (b :: es) pos) gb) : JW X cls W (.BoolOp .And (a :: b :: es) pos) (tAn ga gb) := by
  obtain ⟨ta, pa, da⟩ := h.ex
  obtain ⟨tb, pb, db⟩ := h2.ex
  exact ⟨_, pw_and pa pb, dt_and da db⟩
theorem jw_or (h : JT X cls W a ga) (h2 : JW X cls W (.BoolOp .Or (b :: es) pos) gb) : JW X cls W (.BoolOp .Or (a :: b :: es) pos) (tOr_ ga gb) := by
  obtain ⟨ta, pa, da⟩ := h.ex
  obtain ⟨tb, pb, db⟩ := h2.ex
  exact ⟨_, pw_or pa pb, dt_or da db⟩
theorem jt_w (h : JW X cls W a ga) : JT X cls W a ga := by
  obtain ⟨ta, pa, da⟩ := h.ex
  exact ⟨_, pa.pt, da⟩
theorem jt_not (h : JT X cls W a ga) : JT X cls W (.UnaryOp .Not a pos) (tNo ga) := by
  obtain ⟨ta, pa, da⟩ := h.ex
  exact ⟨_, pt_not pa, dt_not da⟩
theorem PostE.bl {k : Bool} {g : Env} (p : PostE K cls W σ F H Q (.ok (.bl k))) (x : Ext F H F1 H1) : Q (.bl k) H1 := p _ F1 H1 [] x Fresh.nil (.inl (.sh (.bl k)))
@[simp] def blv : D → Res Bool
  | .bl b => .ok b
  | _ => .bad
def tV (fa : Env → Res D) : Env → Res Bool := fun g => (fa g).bind blv
@[simp] theorem tV_ (fa : Env → Res D) (g : Env) : tV fa g = (fa g).bind blv := rfl
def eIf (ga : Env → Res Bool) (fa fb : Env → Res D) : Env → Res D := fun g => (ga g).bind fun k => if k = true then fa g else fb g
@[simp] theorem eIf_ (ga : Env → Res Bool) (fa fb : Env → Res D) (g : Env) : eIf ga fa fb g = (ga g).bind fun k => if k = true then fa g else fb g := rfl
theorem je_if (hc : JT X cls W c ga) (ha : JE X cls W a fa) (hb : JE X cls W b fb) : JE X cls W (.IfExp c a b pos) (eIf ga fa fb) := by
  obtain ⟨tc, pc, dc⟩ := hc.ex
  obtain ⟨ta, pa, da⟩ := ha.ex
  obtain ⟨tb, pb, db⟩ := hb.ex
  refine ⟨_, pe_ifExp pc pa pb, ?_⟩
  intro σ F H g O Q s st p
  rw [eIf_] at p
  refine dc.go s st (fun c e => by rw [e] at p; exact p) (fun e => by rw [e] at p; exact p) fun k e F1 H1 x => ?_
  rw [e] at p
  simp only [Res.bind] at p
  cases k with
  | true =>
    rw [if_pos rfl] at p
    rw [if_pos rfl]
    exact da σ F1 H1 g O Q x.fh (st.ext x) (p.mono x)
  | false =>
    rw [if_neg (by decide)] at p
    rw [if_neg (by decide)]
    exact db σ F1 H1 g O Q x.fh (st.ext x) (p.mono x)
def tCh (op op' : D → D → Option Bool) (fa fb fc : Env → Res D) : Env → Res Bool := fun g => (fa g).bind fun a => (fb g).bind fun b => (Res.of (op (opd a) (opd b))).bind fun k => if k = true then (fc g).bind fun c => .of (op' (opd b) (opd c)) else .ok false
@[simp] theorem tCh_ (op op' : D → D → Option Bool) (fa fb fc : Env → Res D) (g : Env) : tCh op op' fa fb fc g = (fa g).bind fun a => (fb g).bind fun b => (Res.of (op (opd a) (opd b))).bind fun k => if k = true then (fc g).bind fun c => .of (op' (opd b) (opd c)) else .ok false := rfl
theorem DE.go {t : TE} (ha : DE K cls W t fa) {σ : St} {F H : Hp} {g : Env} {O : List Addr} {Q : VK} (s : Same F H) (st : Sts K cls F H σ g O)
    (hx : ∀ c, fa g = .xc c → ∀ F' H', Ext F H F' H' → W (excV cls c) none σ H') (hb : fa g ≠ .bad) (hk : ∀ d, fa g = .ok d → ∀ v F' H', Ext F H F' H' → Bo K cls F' H' v (opd d) → Q v H') : t σ H Q := by
  refine ha.toB σ F H g O Q s st ?_
  cases e : fa g with
  | ok k => rw [bF_ok e]; exact hk k e
  | xc c => rw [bF_xc e]; exact hx c e
  | bad => exact (hb e).elim
theorem DE.goO {t : TE} (ha : DE K cls W t fa) {σ : St} {F H : Hp} {g : Env} {O : List Addr} {Q : VK} (s : Same F H) (st : Sts K cls F H σ g O)
    (hx : ∀ c, fa g = .xc c → ∀ F' H', Ext F H F' H' → W (excV cls c) none σ H') (hb : (fa g).bind kp ≠ .bad) (hk : ∀ d, (fa g).bind kp = .ok d → ∀ v F' H' O', Ext F H F' H' → Fresh H O' → Ow K cls F' H' v d O' → Q v H') : t σ H Q := by
  refine ha.toO σ F H g O Q s st ?_
  cases e : fa g with
  | ok k =>
    rw [oF_ok e]
    rw [e] at hb hk
    rcases kp_ok (d := k) with e2 | e2
    · rw [e2]; exact hk k e2
    · exact (hb e2).elim
  | xc c => rw [oF_xc e]; exact hx c e
  | bad => rw [e] at hb; exact (hb rfl).elim
theorem dt_chain {r r' : R2} {op op' : D → D → Option Bool} {ta tb tc : TE} (hr : C2Ok K cls r op) (hr' : C2Ok K cls r' op') (ha : DE K cls W ta fa) (hb : DE K cls W tb fb) (hc : DE K cls W tc fc) :
    DE K cls W (tChain r r' ta tb tc) (eB (tCh op op' fa fb fc)) := by
  intro σ F H g O Q s st p
  rw [eB_, tCh_] at p
  refine ha.go s st (fun c e => by rw [e] at p; exact p) (fun e => by rw [e] at p; exact p) fun da ea va F1 H1 x1 b1 => ?_
  rw [ea] at p
  simp only [Res.bind] at p
  refine hb.go x1.fh (st.ext x1) (fun c e F' H' x => by rw [e] at p; exact p F' H' (x1.trans x)) (fun e => by rw [e] at p; exact p) fun db eb vb F2 H2 x2 b2 => ?_
  rw [eb] at p
  simp only [] at p
  cases eo : op (opd da) (opd db) with
  | none => rw [eo] at p; exact p.elim
  | some k =>
    rw [eo] at p
    simp only [Res.of] at p
    refine hr F2 H2 va vb _ _ k _ x2.fh (b1.ext x2) b2 eo ⟨k, rfl, ?_⟩
    cases k with
    | true =>
      rw [if_pos rfl] at p
      rw [if_pos rfl]
      have x12 := x1.trans x2
      refine hc.go x2.fh ((st.ext x1).ext x2) (fun c e F' H' x => by rw [e] at p; exact p F' H' (x12.trans x)) (fun e => by rw [e] at p; exact p) fun dc ec vc F3 H3 x3 b3 => ?_
      rw [ec] at p
      simp only [] at p
      cases eo' : op' (opd db) (opd dc) with
      | none => rw [eo'] at p; exact p.elim
      | some k' =>
        rw [eo'] at p
        exact hr' F3 H3 vb vc _ _ k' _ x3.fh (b2.ext x3) b3 eo' (p _ F3 H3 [] (x12.trans x3) Fresh.nil (.inl (.sh (.bl k'))))
    | false =>
      rw [if_neg (by decide)] at p
      rw [if_neg (by decide)]
      exact p _ F2 H2 [] (x1.trans x2) Fresh.nil (.inl (.sh (.bl false)))
theorem jt_chain {o o' : CmpOp} {r r' : R2} {op op' : D → D → Option Bool} (ho : OpR X (compareOp o) r) (ho' : OpR X (compareOp o') r') (hr : C2Ok X.K cls r op) (hr' : C2Ok X.K cls r' op') (ha : JE X cls W a fa) (hb : JE X cls W b fb) (hc : JE X cls W c fc)
    (hm : lastMarks [o, o'] [b, c] = false := by with_unfolding_all rfl) : JT X cls W (.Compare a [o, o'] [b, c] pos) (tCh op op' fa fb fc) := by
  obtain ⟨ta, pa, da⟩ := ha.ex
  obtain ⟨tb, pb, db⟩ := hb.ex
  obtain ⟨tc, pc, dc⟩ := hc.ex
  exact ⟨_, pt_chain ho ho' pa pb pc hm, dt_of (dt_chain hr hr' da db dc)⟩
end
end DL

namespace DL
open PySem L2
def shd1 : D → Bool
  | .bo _ => false
  | .bd _ _ => false
  | .bb _ _ => false
  | _ => true
@[simp] theorem shd1_bo {b} : shd1 (.bo b) = false := rfl
@[simp] theorem shd1_bd {k b} : shd1 (.bd k b) = false := rfl
@[simp] theorem shd1_bb {k b} : shd1 (.bb k b) = false := rfl
@[simp] theorem shd1_un : shd1 .un = true := rfl
@[simp] theorem shd1_non : shd1 .non = true := rfl
@[simp] theorem shd1_bl {b} : shd1 (.bl b) = true := rfl
@[simp] theorem shd1_int {b} : shd1 (.int b) = true := rfl
@[simp] theorem shd1_str {b} : shd1 (.str b) = true := rfl
@[simp] theorem shd1_sc {b} : shd1 (.sc b) = true := rfl
@[simp] theorem shd1_ls {b} : shd1 (.ls b) = true := rfl
@[simp] theorem shd1_tp {b} : shd1 (.tp b) = true := rfl
@[simp] theorem shd1_ob {k b} : shd1 (.ob k b) = true := rfl
@[simp] theorem shd1_rf {b} : shd1 (.rf b) = true := rfl
def shd (l : List D) : Bool := l.all shd1
@[simp] theorem shd_nil : shd [] = true := rfl
@[simp] theorem shd_cons (d : D) (l : List D) : shd (d :: l) = (shd1 d && shd l) := rfl
@[simp] def lsv : D → Option (List D)
  | .ls xs => some xs
  | .bo xs => if shd xs = true then some xs else none
  | _ => none
@[simp] def sqL : D → Option (List D)
  | .ls xs => some xs
  | .sc xs => some xs
  | .bo xs => some xs
  | _ => none
@[simp] def sqK : D → Option (List D)
  | .ls xs => some xs
  | .sc xs => some xs
  | .bo xs => if shd xs = true then some xs else none
  | _ => none
@[simp] def intOf : D → Option Int
  | .int i => some i
  | _ => none
@[simp] def strOf : D → Option Str
  | .str i => some i
  | _ => none
@[simp] def blOf : D → Option Bool
  | .bl i => some i
  | _ => none
def intsOf : List D → Option (List Int)
  | [] => some []
  | d :: ds => match intOf d, intsOf ds with
    | some i, some is => some (i :: is)
    | _, _ => none
def strsOf : List D → Option (List Str)
  | [] => some []
  | d :: ds => match strOf d, strsOf ds with
    | some i, some is => some (i :: is)
    | _, _ => none
def blsOf : List D → Option (List Bool)
  | [] => some []
  | d :: ds => match blOf d, blsOf ds with
    | some i, some is => some (i :: is)
    | _, _ => none
theorem intsOf_eq : ∀ {ds : List D} {ns : List Int}, intsOf ds = some ns → ds = ns.map D.int
  | [], ns, h => by simp [intsOf] at h; subst h; rfl
  | d :: ds, ns, h => by
    unfold intsOf at h
    cases d <;> simp at h
    cases q : intsOf ds with
    | none => rw [q] at h; simp at h
    | some is => rw [q] at h; simp at h; subst h; rw [intsOf_eq q]; rfl
theorem strsOf_eq : ∀ {ds : List D} {ns : List Str}, strsOf ds = some ns → ds = ns.map D.str
  | [], ns, h => by simp [strsOf] at h; subst h; rfl
  | d :: ds, ns, h => by
    unfold strsOf at h
    cases d <;> simp at h
    cases q : strsOf ds with
    | none => rw [q] at h; simp at h
    | some is => rw [q] at h; simp at h; subst h; rw [strsOf_eq q]; rfl
theorem blsOf_eq : ∀ {ds : List D} {ns : List Bool}, blsOf ds = some ns → ds = ns.map D.bl
  | [], ns, h => by simp [blsOf] at h; subst h; rfl
  | d :: ds, ns, h => by
    unfold blsOf at h
    cases d <;> simp at h
    cases q : blsOf ds with
    | none => rw [q] at h; simp at h
    | some is => rw [q] at h; simp at h; subst h; rw [blsOf_eq q]; rfl
@[simp] theorem intsOf_map : ∀ ns : List Int, intsOf (ns.map D.int) = some ns
  | [] => rfl
  | n :: ns => by simp [intsOf, intsOf_map ns]
@[simp] theorem intsOf_nil : intsOf [] = some [] := rfl
@[simp] theorem intsOf_cons (i : Int) (ds : List D) : intsOf (.int i :: ds) = (intsOf ds).map (i :: ·) := by
  simp only [intsOf, intOf]; cases intsOf ds <;> rfl
@[simp] theorem strsOf_map : ∀ ns : List Str, strsOf (ns.map D.str) = some ns
  | [] => rfl
  | n :: ns => by simp [strsOf, strsOf_map ns]
@[simp] theorem strsOf_nil : strsOf [] = some [] := rfl
@[simp] theorem strsOf_cons (i : Str) (ds : List D) : strsOf (.str i :: ds) = (strsOf ds).map (i :: ·) := by
  simp only [strsOf, strOf]; cases strsOf ds <;> rfl
@[simp] theorem blsOf_map : ∀ ns : List Bool, blsOf (ns.map D.bl) = some ns
  | [] => rfl
  | n :: ns => by simp [blsOf, blsOf_map ns]
@[simp] theorem blsOf_nil : blsOf [] = some [] := rfl
@[simp] theorem blsOf_cons (i : Bool) (ds : List D) : blsOf (.bl i :: ds) = (blsOf ds).map (i :: ·) := by
  simp only [blsOf, blOf]; cases blsOf ds <;> rfl

section
variable {K : PySem.W.Frag} {cls : Cls} {W : WX} {X : Cx} {F H F' H' : Hp} {Q : VK} {σ : St}
theorem Rps.len {vs : List V} {ds : List D} (h : Rps K cls F vs ds) : vs.length = ds.length := by
  induction ds generalizing vs with
  | nil => cases h; rfl
  | cons d ds ih => cases h with | cons a b => simp [ih b]
theorem Bos.len {vs : List V} {ds : List D} (h : Bos K cls F H vs ds) : vs.length = ds.length := by
  induction ds generalizing vs with
  | nil => cases h; rfl
  | cons d ds ih => cases h with | cons a b => simp [ih b]
theorem Ows.len {vs : List V} {ds : List D} {O : List Addr} (h : Ows K cls F H vs ds O) : vs.length = ds.length := by
  induction ds generalizing vs O with
  | nil => cases h; rfl
  | cons d ds ih => cases h with | cons a b => simp [ih b]
theorem Rps.toBos {vs : List V} {ds : List D} (h : Rps K cls F vs ds) : Bos K cls F H vs ds := by
  induction ds generalizing vs with
  | nil => cases h; exact .nil
  | cons d ds ih => cases h with | cons a b => exact .cons (.sh a) (ih b)
theorem Rps.toOws {vs : List V} {ds : List D} (h : Rps K cls F vs ds) : Ows K cls F H vs ds [] := by
  induction ds generalizing vs with
  | nil => cases h; exact .nil
  | cons d ds ih => cases h with | cons a b => exact .cons (.sh a) (ih b) (fun _ q => (nomatch q)) rfl
theorem Bo.toRp {v : V} {d : D} (h : Bo K cls F H v d) (e : shd1 d = true) : Rp K cls F v d := by
  cases h with
  | sh r => exact r
  | bo => simp at e
  | bd => simp at e
  | bb => simp at e
theorem Bos.toRps {vs : List V} {ds : List D} (h : Bos K cls F H vs ds) (e : shd ds = true) : Rps K cls F vs ds := by
  induction ds generalizing vs with
  | nil => cases h; exact .nil
  | cons d ds ih =>
    cases h with
    | cons a b =>
      simp only [shd, List.all_cons, Bool.and_eq_true] at e
      exact .cons (a.toRp e.1) (ih b e.2)
theorem Bos.get : ∀ {vs : List V} {ds : List D} {i : Nat} {d : D}, Bos K cls F H vs ds → ds[i]? = some d → ∃ v, vs[i]? = some v ∧ Bo K cls F H v d
  | _, _, _, _, .nil, e => by simp at e
  | _, _, 0, _, .cons r _, e => by simp at e; subst e; exact ⟨_, rfl, r⟩
  | _, _, i + 1, _, .cons _ t, e => by
    obtain ⟨v, h1, h2⟩ := Bos.get (i := i) t (by simpa using e)
    exact ⟨v, by simpa using h1, h2⟩
theorem Rps.get : ∀ {vs : List V} {ds : List D} {i : Nat} {d : D}, Rps K cls F vs ds → ds[i]? = some d → ∃ v, vs[i]? = some v ∧ Rp K cls F v d
  | _, _, _, _, .nil, e => by simp at e
  | _, _, 0, _, .cons r _, e => by simp at e; subst e; exact ⟨_, rfl, r⟩
  | _, _, i + 1, _, .cons _ t, e => by
    obtain ⟨v, h1, h2⟩ := Rps.get (i := i) t (by simpa using e)
    exact ⟨v, by simpa using h1, h2⟩
theorem Rps.append : ∀ {vs ws : List V} {ds es : List D}, Rps K cls F vs ds → Rps K cls F ws es → Rps K cls F (vs ++ ws) (ds ++ es)
  | _, _, _, _, .nil, h => h
  | _, _, _, _, .cons a b, h => .cons a (b.append h)
theorem Rps.take : ∀ {vs : List V} {ds : List D} (n : Nat), Rps K cls F vs ds → Rps K cls F (vs.take n) (ds.take n)
  | _, _, 0, _ => by simp; exact .nil
  | _, _, n + 1, .nil => by simp; exact .nil
  | _, _, n + 1, .cons a b => .cons a (b.take n)
theorem Rps.drop : ∀ {vs : List V} {ds : List D} (n : Nat), Rps K cls F vs ds → Rps K cls F (vs.drop n) (ds.drop n)
  | _, _, 0, h => h
  | _, _, n + 1, .nil => by simp; exact .nil
  | _, _, n + 1, .cons a b => b.drop n
theorem Rps.reverse {vs : List V} {ds : List D} (h : Rps K cls F vs ds) : Rps K cls F vs.reverse ds.reverse := by
  induction ds generalizing vs with
  | nil => cases h; exact .nil
  | cons d ds ih =>
    cases h with
    | cons a b =>
      rw [List.reverse_cons, List.reverse_cons]
      exact (ih b).append (.cons a .nil)
theorem Rps.ints {vs : List V} : ∀ {ns : List Int}, Rps K cls F vs (ns.map D.int) → vs = ns.map V.int := by
  intro ns
  induction ns generalizing vs with
  | nil => intro h; cases h; rfl
  | cons n ns ih => intro h; cases h with | cons a b => cases a; rw [ih b]; rfl
theorem Bos.ints {vs : List V} : ∀ {ns : List Int}, Bos K cls F H vs (ns.map D.int) → vs = ns.map V.int := by
  intro ns
  induction ns generalizing vs with
  | nil => intro h; cases h; rfl
  | cons n ns ih => intro h; cases h with | cons a b => cases a with | sh a => cases a; rw [ih b]; rfl
theorem Bos.strs {vs : List V} : ∀ {ns : List Str}, Bos K cls F H vs (ns.map D.str) → vs = ns.map V.str := by
  intro ns
  induction ns generalizing vs with
  | nil => intro h; cases h; rfl
  | cons n ns ih => intro h; cases h with | cons a b => cases a with | sh a => cases a; rw [ih b]; rfl
theorem Bos.bls {vs : List V} : ∀ {ns : List Bool}, Bos K cls F H vs (ns.map D.bl) → vs = ns.map V.bl := by
  intro ns
  induction ns generalizing vs with
  | nil => intro h; cases h; rfl
  | cons n ns ih => intro h; cases h with | cons a b => cases a with | sh a => cases a; rw [ih b]; rfl
theorem rps_ints : ∀ {ns : List Int}, Rps K cls F (ns.map V.int) (ns.map D.int)
  | [] => .nil
  | n :: ns => .cons (.int n) rps_ints
theorem rps_strs : ∀ {ns : List Str}, Rps K cls F (ns.map V.str) (ns.map D.str)
  | [] => .nil
  | n :: ns => .cons (.str n) rps_strs
theorem Bo.lsv {v : V} {d : D} {xs : List D} (s : Same F H) (b : Bo K cls F H v d) (e : lsv d = some xs) : ∃ a vs, v = .ref a ∧ H a = some (.lst vs) ∧ Rps K cls F vs xs := by
  cases b with
  | sh r => cases r <;> simp at e <;> (subst e; exact ⟨_, _, rfl, s _ _ (by assumption), by assumption⟩)
  | bo h r =>
    simp at e
    obtain ⟨e1, e2⟩ := e
    subst e2
    exact ⟨_, _, rfl, h, r.toRps (by simpa using e1)⟩
  | bd => simp at e
  | bb => simp at e
theorem Bo.sqL {v : V} {d : D} {xs : List D} (s : Same F H) (b : Bo K cls F H v d) (e : sqL d = some xs) : ∃ a vs, v = .ref a ∧ SqL K H a vs ∧ Bos K cls F H vs xs := by
  cases b with
  | sh r =>
    cases r <;> simp at e
    · subst e; exact ⟨_, _, rfl, s.seq (by assumption), Rps.toBos (by assumption)⟩
    · subst e; exact ⟨_, _, rfl, SqL.of (s _ _ (by assumption)), Rps.toBos (by assumption)⟩
  | bo h r => simp at e; subst e; exact ⟨_, _, rfl, SqL.of h, r⟩
  | bd => simp at e
  | bb => simp at e
theorem Bo.sqK {v : V} {d : D} {xs : List D} (s : Same F H) (b : Bo K cls F H v d) (e : sqK d = some xs) : ∃ a vs, v = .ref a ∧ SqL K H a vs ∧ Rps K cls F vs xs := by
  cases b with
  | sh r =>
    cases r <;> simp at e
    · subst e; exact ⟨_, _, rfl, s.seq (by assumption), by assumption⟩
    · subst e; exact ⟨_, _, rfl, SqL.of (s _ _ (by assumption)), by assumption⟩
  | bo h r =>
    simp at e
    obtain ⟨e1, e2⟩ := e
    subst e2
    exact ⟨_, _, rfl, SqL.of h, r.toRps (by simpa using e1)⟩
  | bd => simp at e
  | bb => simp at e
@[simp] def tpv : D → Option (List D)
  | .tp xs => some xs
  | _ => none
theorem Bo.tpv {v : V} {d : D} {xs : List D} (s : Same F H) (b : Bo K cls F H v d) (e : tpv d = some xs) : ∃ a vs, v = .ref a ∧ SqT K H a vs ∧ SqT K F a vs ∧ Rps K cls F vs xs := by
  cases b with
  | sh r => cases r <;> simp at e <;> (subst e; exact ⟨_, _, rfl, sameT s (by assumption), by assumption, by assumption⟩)
  | bo => simp at e
  | bd => simp at e
  | bb => simp at e
theorem Bo.int {v : V} {i : Int} (b : Bo K cls F H v (.int i)) : v = .int i := by cases b with | sh r => cases r; rfl
theorem Bo.str {v : V} {i : Str} (b : Bo K cls F H v (.str i)) : v = .str i := by cases b with | sh r => cases r; rfl
theorem Bo.bl {v : V} {i : Bool} (b : Bo K cls F H v (.bl i)) : v = .bl i := by cases b with | sh r => cases r; rfl
theorem Bo.non {v : V} (b : Bo K cls F H v .non) : v = .non := by cases b with | sh r => cases r; rfl

theorem upd_same' {a : Addr} {o : HO} (hn : H a = none) : Same H (upd H a o) := fun b u e => by rw [upd_ne (ne_of_none e hn)]; exact e
theorem Ext.own {a : Addr} {o : HO} (s : Same F H) (hn : H a = none) : Ext F H F (upd H a o) := ⟨.refl F, upd_same' hn, s.trans (upd_same' hn), fun _ h _ => h⟩
theorem Ext.put {a : Addr} {o : HO} (s : Same F H) (hn : H a = none) : Ext F H (upd F a o) (upd H a o) := by
  have hf : F a = none := by
    cases q : F a with
    | none => rfl
    | some u => rw [s a u q] at hn; cases hn
  refine ⟨upd_same' hf, upd_same' hn, fun b u e => ?_, fun b h1 h2 => ?_⟩
  · by_cases hb : b = a
    · subst hb; rw [upd_same] at e ⊢; exact e
    · rw [upd_ne hb] at e ⊢; exact s b u e
  · have hb : b ≠ a := fun z => h2 (by rw [z]; exact hn)
    rw [upd_ne hb]; exact h1
theorem ow_new {a : Addr} {vs : List V} {ds : List D} {O : List Addr} (s : Same F H) (hn : H a = none) (r : Ows K cls F H vs ds O) : Ow K cls F (upd H a (.lst vs)) (.ref a) (.ol ds) (a :: O) := by
  have hf : F a = none := by
    cases q : F a with
    | none => rfl
    | some u => rw [s a u q] at hn; cases hn
  have no : a ∉ O := fun q => (r.dom a q).2 hn
  exact .ol hf upd_same no (r.frame (.refl F) fun b hb => ⟨upd_ne fun z => no (z ▸ hb), (r.dom b hb).1⟩)
theorem fresh_new {a : Addr} (hn : H a = none) : Fresh H [a] := fun b hb => by simp at hb; subst hb; exact hn

@[simp] def mulOk (i j : Int) : Prop := ((-(2 ^ 64) < i ∧ i < 2 ^ 64) ∨ (-(2 ^ 64) < j ∧ j < 2 ^ 64)) ∨ i.natAbs.log2 + j.natAbs.log2 < 100000000
def divOk (j : Int) : Prop := j ≠ 0 ∧ (j.natAbs < 1073741824 ∨ j.natAbs.log2 < 9000)
instance (i j : Int) : Decidable (mulOk i j) := by unfold mulOk; infer_instance
instance (j : Int) : Decidable (divOk j) := by unfold divOk; infer_instance
instance (i j : Int) : Decidable (CPow i j) := by unfold CPow; infer_instance
def lim : Nat := 1000000
theorem lim_ok {n : Nat} (h : n ≤ lim) : n ≤ sizeLine := Nat.le_trans h (Nat.le_of_lt lim_line)
theorem lim_lt {n : Nat} (h : n < lim) : n < sizeLine := Nat.lt_trans h lim_line

def opAddL (a b : D) : Option D := match lsv a, lsv b with
    | some xs, some ys => if xs.length + ys.length ≤ lim then some (.ol (xs ++ ys)) else none
    | _, _ => none
def opAdd : D → D → Option D
  | .int i, .int j => some (.int (i + j))
  | .str x, .str y => if x.length + y.length ≤ lim then some (.str (x ++ y)) else none
  | .tp xs, .tp ys => if xs.length + ys.length ≤ lim then some (.tp (xs ++ ys)) else none
  | a, b => opAddL a b
def opSub : D → D → Option D
  | .int i, .int j => some (.int (i - j))
  | _, _ => none
def opMul : D → D → Option D
  | .int i, .int j => if mulOk i j then some (.int (i * j)) else none
  | a, .int k => match lsv a with
    | some xs => if k < 2 ^ 63 ∧ -(2 ^ 63) ≤ k ∧ xs.length * k.toNat ≤ lim then some (.ol (List.replicate k.toNat xs).flatten) else none
    | none => none
  | _, _ => none
def opDiv : D → D → Option D
  | .int i, .int j => if divOk j then some (.int (if 0 < j then i / j else i.fdiv j)) else none
  | _, _ => none
def opMod : D → D → Option D
  | .int i, .int j => if j ≠ 0 then some (.int (if 0 < j then i % j else i.fmod j)) else none
  | _, _ => none
def opPow : D → D → Option D
  | .int i, .int j => if CPow i j then some (.int (i ^ j.toNat)) else none
  | _, _ => none
def opNeg : D → Option D
  | .int i => some (.int (-i))
  | _ => none
def rAdd4 (K : PySem.W.Frag) : R2 := fun x y H Q => ((rI0 fun i j => .int (i + j)) x y H Q ∨ (∃ i j, x = .str i ∧ y = .str j ∧ i.length + j.length ≤ sizeLine ∧ Q (.str (i ++ j)) H)) ∨ (rCat x y H Q ∨ rCatA K x y H Q)
theorem op_add4 : OpR X (binaryOp .Add) (rAdd4 X.K) := (op_add.or op_add_str).or (op_cat.or op_catA)
theorem pi1 {v : V} {d : D} (s : Same F H) (r : Rp K cls F v d) (q : ∀ v F' H' O', Ext F H F' H' → Fresh H O' → Tm K cls F' H' v d O' → Q v H') : Q v H := q v F H [] (.refl s) Fresh.nil (.inl (.sh r))
theorem ok_add : R2Ok K cls (rAdd4 K) opAdd := by
  intro F H x y a b d Q s b1 b2 e q
  unfold opAdd at e
  split at e
  · cases e
    obtain rfl := b1.int
    obtain rfl := b2.int
    exact .inl (.inl ⟨_, _, rfl, rfl, pi1 s (.int _) q⟩)
  · split at e
    · rename_i h
      cases e
      obtain rfl := b1.str
      obtain rfl := b2.str
      exact .inl (.inr ⟨_, _, rfl, rfl, lim_ok h, pi1 s (.str _) q⟩)
    · cases e
  · rename_i xs ys
    split at e
    · rename_i h
      cases e
      obtain ⟨a1, vs, rfl, h1, f1, r1⟩ := b1.tpv s (xs := xs) rfl
      obtain ⟨a2, ws, rfl, h2, f2, r2⟩ := b2.tpv s (xs := ys) rfl
      have l1 := r1.len
      have l2 := r2.len
      refine .inr (.inr ⟨_, _, vs, ws, rfl, rfl, h1, h2, lim_ok (by rw [l1, l2]; exact h), fun e => ?_, fun e1 e2 => ?_, fun e1 e2 p hp => ?_⟩)
      · subst e
        cases r1
        exact pi1 s (.tp f2 r2) q
      · subst e2
        cases r2
        rw [List.append_nil] at q
        exact pi1 s (.tp f1 r1) q
      · exact q _ _ _ [] (Ext.put s hp) Fresh.nil (.inl (.sh (.tp (SqT.of upd_same) ((r1.append r2).mono (Ext.put s hp).ff))))
    · cases e
  · unfold opAddL at e
    split at e
    · rename_i xs ys q1 q2
      split at e
      · rename_i h
        cases e
        obtain ⟨a1, vs, rfl, h1, r1⟩ := b1.lsv s q1
        obtain ⟨a2, ws, rfl, h2, r2⟩ := b2.lsv s q2
        refine .inr (.inl ⟨_, _, _, _, rfl, rfl, h1, h2, lim_ok (by rw [r1.len, r2.len]; exact h), fun p hp => ?_⟩)
        exact q _ _ _ [p] (Ext.own s hp) (fresh_new hp) (.inl (ow_new s hp (r1.append r2).toOws))
      · cases e
    · cases e
theorem ok_sub : R2Ok K cls (rI0 fun i j => .int (i - j)) opSub := by
  intro F H x y a b d Q s b1 b2 e q
  unfold opSub at e
  split at e
  · cases e
    obtain rfl := b1.int
    obtain rfl := b2.int
    exact ⟨_, _, rfl, rfl, pi1 s (.int _) q⟩
  · cases e
theorem mulW_ok {a b : Int} (h : a.natAbs.log2 + b.natAbs.log2 < 100000000) : IntMulOk a b := by
  unfold IntMulOk Builtin.Int.intTooBig
  have h1 : ∀ z : Int, Builtin.Int.intBits z ≤ z.natAbs.log2 + 1 := fun z => by unfold Builtin.Int.intBits; split <;> omega
  have h3 := h1 a
  have h4 := h1 b
  have h5 := bitsLine_eq
  simp only [Bool.and_eq_true, decide_eq_true_eq]
  omega
theorem op_mulX : OpR X (binaryOp .Mult) (rI mulOk fun i j => .int (i * j)) := opI fun _ _ _ _ _ _ _ hc q => PyProof.Rows.mul_int q (by
  rcases hc with hc | hc
  · exact CMul.ok hc
  · exact mulW_ok hc)
theorem op_mul4 : OpR X (binaryOp .Mult) (fun x y H Q => (rI mulOk fun i j => .int (i * j)) x y H Q ∨ rRep x y H Q) := op_mulX.or op_rep
theorem Rps.rep {vs : List V} {ds : List D} (h : Rps K cls F vs ds) : ∀ k : Nat, Rps K cls F (List.replicate k vs).flatten (List.replicate k ds).flatten
  | 0 => by simp; exact .nil
  | k + 1 => by rw [List.replicate_succ, List.replicate_succ, List.flatten_cons, List.flatten_cons]; exact h.append (h.rep k)
theorem ok_mul : R2Ok K cls (fun x y H Q => (rI mulOk fun i j => .int (i * j)) x y H Q ∨ rRep x y H Q) opMul := by
  intro F H x y a b d Q s b1 b2 e q
  unfold opMul at e
  split at e
  · split at e
    · rename_i h
      cases e
      obtain rfl := b1.int
      obtain rfl := b2.int
      exact .inl ⟨_, _, rfl, rfl, h, pi1 s (.int _) q⟩
    · cases e
  · split at e
    · rename_i xs q1
      split at e
      · rename_i h
        cases e
        obtain rfl := b2.int
        obtain ⟨a1, vs, rfl, h1, r1⟩ := b1.lsv s q1
        refine .inr ⟨_, _, _, rfl, rfl, h1, h.2.1, h.1, lim_ok (by rw [r1.len]; exact h.2.2), fun p hp => ?_⟩
        exact q _ _ _ [p] (Ext.own s hp) (fresh_new hp) (.inl (ow_new s hp (r1.rep _).toOws))
      · cases e
    · cases e
  · cases e
theorem op_divX : OpR X (binaryOp .FloorDiv) (rI (fun _ j => divOk j) fun i j => .int (if 0 < j then i / j else i.fdiv j)) := opI fun i j _ _ _ _ _ hc q => by
  have e : (if 0 < j then i / j else i.fdiv j) = i.fdiv j := by
    split
    · rw [Int.fdiv_eq_ediv_of_nonneg i (by omega)]
    · rfl
  rw [e] at q
  rcases hc with ⟨h0, h | h⟩
  · exact PyProof.Rows.floordiv_int h0 q (.inl (PyProof.noPylong_small h))
  · exact PyProof.Rows.floordiv_int h0 q (.inl (PyProof.noPylong_of_log2 h))
theorem ok_div : R2Ok K cls (rI (fun _ j => divOk j) fun i j => .int (if 0 < j then i / j else i.fdiv j)) opDiv := by
  intro F H x y a b d Q s b1 b2 e q
  unfold opDiv at e
  split at e
  · rename_i i j
    by_cases h : divOk j
    · rw [if_pos h] at e
      cases e
      obtain rfl := b1.int
      obtain rfl := b2.int
      exact ⟨_, _, rfl, rfl, h, pi1 s (.int _) q⟩
    · rw [if_neg h] at e; cases e
  · cases e
theorem op_modX : OpR X (binaryOp .Mod) (rI (fun _ j => j ≠ 0) fun i j => .int (if 0 < j then i % j else i.fmod j)) := opI fun i j _ _ _ _ _ hc q => by
  have e : (if 0 < j then i % j else i.fmod j) = i.fmod j := by
    split
    · rw [Int.fmod_eq_emod_of_nonneg i (by omega)]
    · rfl
  rw [e] at q
  exact PyProof.Rows.mod_int' hc q
theorem ok_mod : R2Ok K cls (rI (fun _ j => j ≠ 0) fun i j => .int (if 0 < j then i % j else i.fmod j)) opMod := by
  intro F H x y a b d Q s b1 b2 e q
  unfold opMod at e
  split at e
  · rename_i i j
    by_cases h : j ≠ 0
    · rw [if_pos h] at e
      cases e
      obtain rfl := b1.int
      obtain rfl := b2.int
      exact ⟨_, _, rfl, rfl, h, pi1 s (.int _) q⟩
    · rw [if_neg h] at e; cases e
  · cases e
theorem ok_pow : R2Ok K cls (rI CPow fun i j => .int (i ^ j.toNat)) opPow := by
  intro F H x y a b d Q s b1 b2 e q
  unfold opPow at e
  split at e
  · rename_i i j
    by_cases h : CPow i j
    · rw [if_pos h] at e
      cases e
      obtain rfl := b1.int
      obtain rfl := b2.int
      exact ⟨_, _, rfl, rfl, h, pi1 s (.int _) q⟩
    · rw [if_neg h] at e; cases e
  · cases e
theorem ok_neg : R1Ok K cls (rU fun i => .int (-i)) opNeg := by
  intro F H x a d Q s b1 e q
  unfold opNeg at e
  split at e
  · cases e
    obtain rfl := b1.int
    exact ⟨_, rfl, pi1 s (.int _) q⟩
  · cases e

def cLt : D → D → Option Bool
  | .int i, .int j => some (decide (i < j))
  | _, _ => none
def cLe : D → D → Option Bool
  | .int i, .int j => some (decide (i ≤ j))
  | _, _ => none
def cGt : D → D → Option Bool
  | .int i, .int j => some (decide (j < i))
  | _, _ => none
def cGe : D → D → Option Bool
  | .int i, .int j => some (decide (j ≤ i))
  | _, _ => none
theorem ok_lt : C2Ok K cls (rI0 fun i j => .bl (decide (i < j))) cLt := by
  intro F H x y a b d Q s b1 b2 e q
  unfold cLt at e
  split at e
  · cases e
    obtain rfl := b1.int
    obtain rfl := b2.int
    exact ⟨_, _, rfl, rfl, q⟩
  · cases e
theorem ok_le : C2Ok K cls (rI0 fun i j => .bl (decide (i ≤ j))) cLe := by
  intro F H x y a b d Q s b1 b2 e q
  unfold cLe at e
  split at e
  · cases e
    obtain rfl := b1.int
    obtain rfl := b2.int
    exact ⟨_, _, rfl, rfl, q⟩
  · cases e
theorem ok_gt : C2Ok K cls (rI0 fun i j => .bl (decide (j < i))) cGt := by
  intro F H x y a b d Q s b1 b2 e q
  unfold cGt at e
  split at e
  · cases e
    obtain rfl := b1.int
    obtain rfl := b2.int
    exact ⟨_, _, rfl, rfl, q⟩
  · cases e
theorem ok_ge : C2Ok K cls (rI0 fun i j => .bl (decide (j ≤ i))) cGe := by
  intro F H x y a b d Q s b1 b2 e q
  unfold cGe at e
  split at e
  · cases e
    obtain rfl := b1.int
    obtain rfl := b2.int
    exact ⟨_, _, rfl, rfl, q⟩
  · cases e
mutual
def toPy : D → Option PyData
  | .non => some .none
  | .bl b => some (.bool b)
  | .int i => some (.int i)
  | .str x => some (.str x)
  | .sc xs => (toPys xs).map .list
  | .ls xs => (toPys xs).map .list
  | .bo xs => (toPys xs).map .list
  | .tp xs => (toPys xs).map .tuple
  | _ => none
def toPys : List D → Option (List PyData)
  | [] => some []
  | d :: ds => match toPy d, toPys ds with
    | some p, some ps => some (p :: ps)
    | _, _ => none
end
mutual
theorem Rp.dp (s : Same F H) : ∀ {v : V} {d : D} {p : PyData}, Rp K cls F v d → toPy d = some p → Dp K H v p
  | _, _, _, .non, e => by simp [toPy] at e; subst e; exact .non
  | _, _, _, .bl b, e => by simp [toPy] at e; subst e; exact .bl b
  | _, _, _, .int b, e => by simp [toPy] at e; subst e; exact .int b
  | _, _, _, .str b, e => by simp [toPy] at e; subst e; exact .str b
  | _, _, _, .sc (ds := ds) h r, e => by
    simp [toPy] at e
    obtain ⟨ps, e1, e2⟩ := e
    subst e2
    exact .lst (s.seq h) (Rps.dp s r e1)
  | _, _, _, .ls (ds := ds) h r, e => by
    simp [toPy] at e
    obtain ⟨ps, e1, e2⟩ := e
    subst e2
    exact .lst (SqL.of (s _ _ h)) (Rps.dp s r e1)
  | _, _, _, .tp (ds := ds) h r, e => by
    simp [toPy] at e
    obtain ⟨ps, e1, e2⟩ := e
    subst e2
    exact .tup (sameT s h) (Rps.dp s r e1)
  | _, _, _, .ob .., e => by simp [toPy] at e
theorem Rps.dp (s : Same F H) : ∀ {v : List V} {d : List D} {p : List PyData}, Rps K cls F v d → toPys d = some p → DpAll K H v p
  | _, _, _, .nil, e => by simp [toPys] at e; subst e; exact .nil
  | _, _, _, .cons (d := d) (ds := ds) a b, e => by
    unfold toPys at e
    cases q1 : toPy d with
    | none => rw [q1] at e; cases e
    | some p =>
      cases q2 : toPys ds with
      | none => rw [q1, q2] at e; cases e
      | some ps =>
        rw [q1, q2] at e
        cases e
        exact .cons (Rp.dp s a q1) (Rps.dp s b q2)
end
mutual
theorem Bo.dp (s : Same F H) : ∀ {v : V} {d : D} {p : PyData}, Bo K cls F H v d → toPy d = some p → Dp K H v p
  | _, _, _, .sh r, e => r.dp s e
  | _, _, _, .bo (ds := ds) h r, e => by
    simp [toPy] at e
    obtain ⟨ps, e1, e2⟩ := e
    subst e2
    exact .lst (SqL.of h) (Bos.dp s r e1)
  | _, _, _, .bd .., e => by simp [toPy] at e
theorem Bos.dp (s : Same F H) : ∀ {v : List V} {d : List D} {p : List PyData}, Bos K cls F H v d → toPys d = some p → DpAll K H v p
  | _, _, _, .nil, e => by simp [toPys] at e; subst e; exact .nil
  | _, _, _, .cons (d := d) (ds := ds) a b, e => by
    unfold toPys at e
    cases q1 : toPy d with
    | none => rw [q1] at e; cases e
    | some p =>
      cases q2 : toPys ds with
      | none => rw [q1, q2] at e; cases e
      | some ps =>
        rw [q1, q2] at e
        cases e
        exact .cons (Bo.dp s a q1) (Bos.dp s b q2)
end
def pyEq (a b : D) : Option Bool := match toPy a, toPy b with
  | some p, some q => if SeqAt.shaped p = true ∧ SeqAt.shaped q = true then some (PyData.eqv p q) else none
  | _, _ => none
def cEq : D → D → Option Bool
  | .int i, .int j => some (decide (i = j))
  | .str i, .str j => some (decide (i = j))
  | .bl i, .bl j => some (decide (i = j))
  | .non, .non => some true
  | .non, .int _ => some false
  | .int _, .non => some false
  | .int _, .str _ => some false
  | .str _, .int _ => some false
  | .non, .str _ => some false
  | .str _, .non => some false
  | a, b => pyEq a b
def cNe (a b : D) : Option Bool := (cEq a b).map (!·)
theorem cEq_ok {x y : V} {a b : D} {k : Bool} (s : Same F H) (b1 : Bo K cls F H x a) (b2 : Bo K cls F H y b) (e : cEq a b = some k) :
    (scal x y = true ∧ decide (x = y) = k) ∨ ∃ d e, Dp K H x d ∧ Dp K H y e ∧ SeqAt.shaped d = true ∧ SeqAt.shaped e = true ∧ PyData.eqv d e = k := by
  have py : ∀ {a b : D}, Bo K cls F H x a → Bo K cls F H y b → pyEq a b = some k → ∃ d e, Dp K H x d ∧ Dp K H y e ∧ SeqAt.shaped d = true ∧ SeqAt.shaped e = true ∧ PyData.eqv d e = k := fun {a b} b1 b2 e => by
    unfold pyEq at e
    split at e
    · rename_i p q h1 h2
      split at e
      · rename_i h
        cases e
        exact ⟨p, q, b1.dp s h1, b2.dp s h2, h.1, h.2, rfl⟩
      · cases e
    · cases e
  unfold cEq at e
  split at e
  · cases e; obtain rfl := b1.int; obtain rfl := b2.int; exact .inl ⟨rfl, by simp⟩
  · cases e; obtain rfl := b1.str; obtain rfl := b2.str; exact .inl ⟨rfl, by simp⟩
  · cases e; obtain rfl := b1.bl; obtain rfl := b2.bl; exact .inl ⟨rfl, by simp⟩
  · cases e; obtain rfl := b1.non; obtain rfl := b2.non; exact .inl ⟨rfl, by simp⟩
  · cases e; obtain rfl := b1.non; obtain rfl := b2.int; exact .inl ⟨rfl, by simp⟩
  · cases e; obtain rfl := b1.int; obtain rfl := b2.non; exact .inl ⟨rfl, by simp⟩
  · cases e; obtain rfl := b1.int; obtain rfl := b2.str; exact .inl ⟨rfl, by simp⟩
  · cases e; obtain rfl := b1.str; obtain rfl := b2.int; exact .inl ⟨rfl, by simp⟩
  · cases e; obtain rfl := b1.non; obtain rfl := b2.str; exact .inl ⟨rfl, by simp⟩
  · cases e; obtain rfl := b1.str; obtain rfl := b2.non; exact .inl ⟨rfl, by simp⟩
  · exact .inr (py b1 b2 e)
theorem ok_eq : C2Ok K cls (fun x y H Q => rEq x y H Q ∨ rEqD K x y H Q) cEq := by
  intro F H x y a b d Q s b1 b2 e q
  rcases cEq_ok s b1 b2 e with ⟨h1, h2⟩ | ⟨p, r, h1, h2, h3, h4, h5⟩
  · exact .inl ⟨h1, by rw [h2]; exact q⟩
  · exact .inr ⟨p, r, h1, h2, h3, h4, by rw [h5]; exact q⟩
theorem ok_ne : C2Ok K cls (fun x y H Q => rNe x y H Q ∨ rNeD K x y H Q) cNe := by
  intro F H x y a b d Q s b1 b2 e q
  unfold cNe at e
  cases e0 : cEq a b with
  | none => rw [e0] at e; cases e
  | some k =>
    rw [e0] at e
    cases e
    rcases cEq_ok s b1 b2 e0 with ⟨h1, h2⟩ | ⟨p, r, h1, h2, h3, h4, h5⟩
    · exact .inl ⟨h1, by rw [h2]; exact q⟩
    · exact .inr ⟨p, r, h1, h2, h3, h4, by rw [h5]; exact q⟩
theorem op_eq4 (hu : X.A.units + 64 < cLine) : OpR X (compareOp .Eq) (fun x y H Q => rEq x y H Q ∨ rEqD X.K x y H Q) := op_eq.or (op_eqD hu)
theorem op_ne4 (hu : X.A.units + 64 < cLine) : OpR X (compareOp .NotEq) (fun x y H Q => rNe x y H Q ∨ rNeD X.K x y H Q) := op_ne.or (op_neD hu)
def cIsN : D → D → Option Bool
  | .un, _ => none
  | a, .non => some (match a with | .non => true | _ => false)
  | _, _ => none
def cNotN (a b : D) : Option Bool := (cIsN a b).map (!·)
theorem cIsN_ok {x y : V} {a b : D} {k : Bool} (b1 : Bo K cls F H x a) (b2 : Bo K cls F H y b) (e : cIsN a b = some k) : y = .non ∧ decide (x = .non) = k := by
  unfold cIsN at e
  split at e
  · cases e
  · obtain rfl := b2.non
    refine ⟨rfl, ?_⟩
    cases e
    cases b1 with
    | sh r => cases r <;> simp
    | bo => simp
    | bd => simp
    | bb => simp
  · cases e
theorem ok_isN : C2Ok K cls (fun x y H Q => y = .non ∧ Q (.bl (decide (x = .non))) H) cIsN := by
  intro F H x y a b d Q s b1 b2 e q
  obtain ⟨h1, h2⟩ := cIsN_ok b1 b2 e
  exact ⟨h1, by rw [h2]; exact q⟩
theorem ok_notN : C2Ok K cls (fun x y H Q => y = .non ∧ Q (.bl (!decide (x = .non))) H) cNotN := by
  intro F H x y a b d Q s b1 b2 e q
  unfold cNotN at e
  cases e0 : cIsN a b with
  | none => rw [e0] at e; cases e
  | some k =>
    rw [e0] at e
    cases e
    obtain ⟨h1, h2⟩ := cIsN_ok b1 b2 e0
    exact ⟨h1, by rw [h2]; exact q⟩
end
end DL

namespace DL
open PySem L2
section
variable {K : PySem.W.Frag} {cls : Cls} {W : WX} {X : Cx} {F H F' H' : Hp} {Q : VK} {σ : St} {a b c e : Expr} {es : List Expr} {fa fb fc : Env → Res D} {ga gb : Env → Res Bool} {fs : Env → Res (List D)} {pos : Pos}

theorem inV_ints (i : Int) (ns : List Int) : inV (.int i) (ns.map V.int) = decide (i ∈ ns) := by
  induction ns with
  | nil => rfl
  | cons n ns ih =>
    unfold inV at ih ⊢
    rw [List.map_cons, List.any_cons, ih]
    have : eqV (.int n) (.int i) = decide (i = n) := by
      show (n == i) = decide (i = n)
      by_cases h : n = i
      · subst h; simp
      · have h' : ¬ i = n := fun q => h q.symm
        simp [h, h']
    rw [this, ← Bool.decide_or]
    simp
theorem inV_strs (i : Str) (ns : List Str) : inV (.str i) (ns.map V.str) = decide (i ∈ ns) := by
  induction ns with
  | nil => rfl
  | cons n ns ih =>
    unfold inV at ih ⊢
    rw [List.map_cons, List.any_cons, ih]
    have : eqV (.str n) (.str i) = decide (i = n) := by
      show (n == i) = decide (i = n)
      by_cases h : n = i
      · subst h; simp
      · have h' : ¬ i = n := fun q => h q.symm
        simp [h, h']
    rw [this, ← Bool.decide_or]
    simp
@[simp] def sqA : D → Option (List D)
  | .ls xs => some xs
  | .sc xs => some xs
  | .bo xs => some xs
  | .tp xs => some xs
  | _ => none
def cIn : D → D → Option Bool
  | .int i, s => match sqA s with
    | some xs => match intsOf xs with
      | some ns => some (decide (i ∈ ns))
      | none => none
    | none => none
  | .str i, s => match sqA s with
    | some xs => match strsOf xs with
      | some ns => some (decide (i ∈ ns))
      | none => none
    | none => none
  | _, _ => none
def cNIn (a b : D) : Option Bool := (cIn a b).map (!·)
theorem Bo.sqA {v : V} {d : D} {xs : List D} (s : Same F H) (b : Bo K cls F H v d) (e : sqA d = some xs) : ∃ a vs, v = .ref a ∧ (SqL K H a vs ∨ SqT K H a vs) ∧ Bos K cls F H vs xs := by
  cases d with
  | tp ys => obtain ⟨a, vs, e1, h1, h2, r⟩ := b.tpv s (xs := xs) (by simpa using e); exact ⟨a, vs, e1, .inr h1, r.toBos⟩
  | ls ys => obtain ⟨a, vs, e1, h1, r⟩ := b.sqL s (xs := xs) (by simpa using e); exact ⟨a, vs, e1, .inl h1, r⟩
  | sc ys => obtain ⟨a, vs, e1, h1, r⟩ := b.sqL s (xs := xs) (by simpa using e); exact ⟨a, vs, e1, .inl h1, r⟩
  | bo ys => obtain ⟨a, vs, e1, h1, r⟩ := b.sqL s (xs := xs) (by simpa using e); exact ⟨a, vs, e1, .inl h1, r⟩
  | _ => simp at e
theorem flat_ints (ns : List Int) : (ns.map V.int).all flatV = true := by
  induction ns with
  | nil => rfl
  | cons n ns ih => rw [List.map_cons, List.all_cons, ih]; rfl
theorem flat_strs (ns : List Str) : (ns.map V.str).all flatV = true := by
  induction ns with
  | nil => rfl
  | cons n ns ih => rw [List.map_cons, List.all_cons, ih]; rfl
theorem cIn_ok {x y : V} {a b : D} {k : Bool} (s : Same F H) (b1 : Bo K cls F H x a) (b2 : Bo K cls F H y b) (e : cIn a b = some k) :
    ∃ p xs, y = .ref p ∧ (SqL K H p xs ∨ SqT K H p xs) ∧ flatV x = true ∧ xs.all flatV = true ∧ inV x xs = k := by
  unfold cIn at e
  split at e
  · split at e
    · rename_i xs h1
      split at e
      · rename_i ns h2
        cases e
        obtain rfl := b1.int
        obtain ⟨p, vs, rfl, h3, r⟩ := b2.sqA s h1
        rw [intsOf_eq h2] at r
        rw [r.ints] at h3
        exact ⟨p, _, rfl, h3, rfl, flat_ints ns, inV_ints _ _⟩
      · cases e
    · cases e
  · split at e
    · rename_i xs h1
      split at e
      · rename_i ns h2
        cases e
        obtain rfl := b1.str
        obtain ⟨p, vs, rfl, h3, r⟩ := b2.sqA s h1
        rw [strsOf_eq h2] at r
        rw [r.strs] at h3
        exact ⟨p, _, rfl, h3, rfl, flat_strs ns, inV_strs _ _⟩
      · cases e
    · cases e
  · cases e
theorem ok_in : C2Ok K cls (rIn K false) cIn := by
  intro F H x y a b d Q s b1 b2 e q
  obtain ⟨p, xs, e1, h1, h2, h3, h4⟩ := cIn_ok s b1 b2 e
  exact ⟨p, xs, e1, h1, h2, h3, by rw [if_neg (by decide), h4]; exact q⟩
theorem ok_nin : C2Ok K cls (rIn K true) cNIn := by
  intro F H x y a b d Q s b1 b2 e q
  unfold cNIn at e
  cases e0 : cIn a b with
  | none => rw [e0] at e; cases e
  | some k =>
    rw [e0] at e
    cases e
    obtain ⟨p, xs, e1, h1, h2, h3, h4⟩ := cIn_ok s b1 b2 e0
    exact ⟨p, xs, e1, h1, h2, h3, by rw [if_pos rfl, h4]; exact q⟩

def opIx : D → D → Option D
  | .str z, .int i => if z.length ≤ lim then (atI z.cps.toList i).map fun c => .str ⟨#[c]⟩ else none
  | a, .int i => match sqA a with
    | some xs => atI xs i
    | none => none
  | _, _ => none
theorem atI_some {α : Type} {xs : List α} {i : Int} {d : α} (h : atI xs i = some d) : ∃ j, ixN xs.length i = some j ∧ xs[j]? = some d := by
  unfold atI at h
  cases q : ixN xs.length i with
  | none => rw [q] at h; cases h
  | some j => rw [q] at h; exact ⟨j, rfl, h⟩
theorem Bos.at {vs : List V} {ds : List D} {i : Int} {d : D} (h : Bos K cls F H vs ds) (e : atI ds i = some d) : ∃ v, atI vs i = some v ∧ Bo K cls F H v d := by
  obtain ⟨j, h1, h2⟩ := atI_some e
  obtain ⟨v, h3, h4⟩ := h.get h2
  refine ⟨v, ?_, h4⟩
  unfold atI
  rw [h.len, h1]
  exact h3
theorem ok_ix : R2Ok K cls (rIx K) opIx := by
  intro F H x y a b d Q s b1 b2 e q
  unfold opIx at e
  split at e
  · rename_i z i
    by_cases h : z.length ≤ lim
    · rw [if_pos h] at e
      obtain rfl := b1.str
      obtain rfl := b2.int
      cases e0 : atI z.cps.toList i with
      | none => rw [e0] at e; cases e
      | some c =>
        rw [e0] at e
        cases e
        exact .inr (.inr ⟨z, i, c, rfl, rfl, lim_ok h, e0, pi1 s (.str _) q⟩)
    · rw [if_neg h] at e; cases e
  · split at e
    · rename_i xs h1
      obtain rfl := b2.int
      obtain ⟨p, vs, rfl, h3, r⟩ := b1.sqA s h1
      obtain ⟨v, h4, h5⟩ := r.at e
      have q' : Q v H := q v F H [] (.refl s) Fresh.nil (.inr ⟨h5, rfl⟩)
      rcases h3 with h3 | h3
      · exact .inl ⟨p, vs, _, v, rfl, rfl, h3, h4, q'⟩
      · exact .inr (.inl ⟨p, vs, _, v, rfl, rfl, h3, h4, q'⟩)
    · cases e
  · cases e
theorem je_ix (ha : JE X cls W a fa) (hb : JE X cls W b fb) (hs : PlainIx b := by exact fun _ _ => rfl) : JE X cls W (.Subscript a b pos) (eBin opIx fa fb) := by
  obtain ⟨ta, pa, da⟩ := ha.ex
  obtain ⟨tb, pb, db⟩ := hb.ex
  exact ⟨_, pe_ix ix_seq pa pb hs, de_bin ok_ix da db⟩

def sIx (n d : Nat) : Option Int → Nat := HT.sIx n d
def cut {α : Type} (xs : List α) (lo hi : Option Int) : List α := (xs.drop (HT.sIx xs.length 0 lo)).take (HT.sIx xs.length xs.length hi - HT.sIx xs.length 0 lo)
def opSl (a : D) (lo hi : Option Int) : Option D := match a with
  | .tp xs => some (.tp (cut xs lo hi))
  | a => match sqK a with
    | some xs => some (.ol (cut xs lo hi))
    | none => none
def ePart (o : Option (Env → Res D)) : Env → Res (Option Int) := fun g => match o with
  | none => .ok none
  | some f => (f g).bind fun d => (Res.of (intOf (opd d))).bind fun i => .ok (some i)
@[simp] theorem ePart_none (g : Env) : ePart none g = .ok none := rfl
@[simp] theorem ePart_some (f : Env → Res D) (g : Env) : ePart (some f) g = (f g).bind fun d => (Res.of (intOf (opd d))).bind fun i => .ok (some i) := rfl
structure JP (X : Cx) (cls : Cls) (W : WX) (e : Option Expr) (f : Env → Res (Option Int)) : Prop where
  ex : ∃ t, PO X e t ∧ ∀ σ F H g O (Q : Option Int → Hp → Prop), Same F H → Sts X.K cls F H σ g O → (match f g with
    | .ok o => ∀ F' H', Ext F H F' H' → Q o H'
    | .xc c => ∀ F' H', Ext F H F' H' → W (excV cls c) none σ H'
    | .bad => False) → t σ H Q
theorem jp_none : JP X cls W none (ePart none) := ⟨_, po_none, fun σ F H g O Q s st p => p F H (.refl s)⟩
theorem jp_some (ha : JE X cls W a fa) : JP X cls W (some a) (ePart (some fa)) := by
  obtain ⟨ta, pa, da⟩ := ha.ex
  refine ⟨_, po_some pa, fun σ F H g O Q s st p => ?_⟩
  rw [ePart_some] at p
  refine da.go s st (fun c e => by rw [e] at p; exact p) (fun e => by rw [e] at p; exact p) fun d e v F' H' x b => ?_
  rw [e] at p
  simp only [Res.bind] at p
  cases e2 : intOf (opd d) with
  | none => rw [e2] at p; exact p.elim
  | some i =>
    rw [e2] at p
    have e3 : opd d = .int i := by
      cases e4 : opd d <;> rw [e4] at e2 <;> simp at e2
      rw [e2]
    rw [e3] at b
    exact ⟨i, b.int, p F' H' x⟩
def eSl (fa : Env → Res D) (lo hi : Env → Res (Option Int)) : Env → Res D := fun g => (fa g).bind fun a => (lo g).bind fun l => (hi g).bind fun h => .of (opSl (opd a) l h)
@[simp] theorem eSl_ (fa : Env → Res D) (lo hi : Env → Res (Option Int)) (g : Env) : eSl fa lo hi g = (fa g).bind fun a => (lo g).bind fun l => (hi g).bind fun h => .of (opSl (opd a) l h) := rfl
theorem Rps.cut {vs : List V} {ds : List D} (h : Rps K cls F vs ds) (lo hi : Option Int) : Rps K cls F (cutV vs lo hi) (cut ds lo hi) := by
  unfold cutV DL.cut
  rw [h.len]
  exact (h.drop _).take _
theorem cut_whole {α : Type} {xs : List α} {lo hi : Option Int} (h : HT.sIx xs.length 0 lo = 0 ∧ HT.sIx xs.length xs.length hi = xs.length) : cut xs lo hi = xs := by
  unfold cut
  rw [h.1, h.2]
  simp
theorem je_sl {lo hi : Option Expr} {fl fh : Env → Res (Option Int)} {p2 : Pos} (ha : JE X cls W a fa) (hl : JP X cls W lo fl) (hh : JP X cls W hi fh) : JE X cls W (.Subscript a (.Slice lo hi none p2) pos) (eSl fa fl fh) := by
  obtain ⟨ta, pa, da⟩ := ha.ex
  obtain ⟨tl, pl, dl⟩ := hl.ex
  obtain ⟨th, ph, dh⟩ := hh.ex
  refine ⟨_, pe_slice (sl_list.or sl_tupA) pa pl ph, ?_⟩
  intro σ F H g O Q s st p
  rw [eSl_] at p
  refine da.go s st (fun c e => by rw [e] at p; exact p) (fun e => by rw [e] at p; exact p) fun d e v F1 H1 x1 b1 => ?_
  rw [e] at p
  simp only [Res.bind] at p
  refine dl σ F1 H1 g O _ x1.fh (st.ext x1) ?_
  cases el : fl g with
  | bad => rw [el] at p; exact p.elim
  | xc c => rw [el] at p; exact fun F' H' x => p F' H' (x1.trans x)
  | ok l =>
    rw [el] at p
    simp only [] at p ⊢
    intro F2 H2 x2
    refine dh σ F2 H2 g O _ x2.fh ((st.ext x1).ext x2) ?_
    cases eh : fh g with
    | bad => rw [eh] at p; exact p.elim
    | xc c => rw [eh] at p; exact fun F' H' x => p F' H' ((x1.trans x2).trans x)
    | ok h =>
      rw [eh] at p
      simp only [] at p ⊢
      intro F3 H3 x3
      have x23 := x2.trans x3
      have x13 := x1.trans x23
      have b3 := b1.ext x23
      cases eo : opSl (opd d) l h with
      | none => rw [eo] at p; exact p.elim
      | some r =>
        rw [eo] at p
        have q : ∀ v F' H' O', Ext F3 H3 F' H' → Fresh H3 O' → Tm X.K cls F' H' v r O' → Q v H' := fun v F' H' O' y fr tm => p v F' H' O' (x13.trans y) (fr.mono x13.hh) tm
        unfold opSl at eo
        split at eo
        · rename_i xs ed
          cases eo
          rw [ed] at b3
          obtain ⟨a1, vs, rfl, h1, f1, r1⟩ := b3.tpv x3.fh (xs := xs) rfl
          refine .inr ⟨a1, vs, rfl, h1, fun w => ?_, fun w p hp => ?_⟩
          · rw [r1.len] at w
            exact q _ F3 H3 [] (.refl x3.fh) Fresh.nil (.inl (.sh (by rw [cut_whole w]; exact .tp f1 r1)))
          · exact q _ _ _ [] (Ext.put x3.fh hp) Fresh.nil (.inl (.sh (.tp (SqT.of upd_same) ((r1.cut l h).mono (Ext.put x3.fh hp).ff))))
        · split at eo
          · rename_i xs ek
            cases eo
            obtain ⟨a1, vs, rfl, h1, r1⟩ := b3.sqK x3.fh ek
            refine .inl ⟨a1, vs, rfl, h1, fun p hp => ?_⟩
            exact q _ _ _ [p] (Ext.own x3.fh hp) (fresh_new hp) (.inl (ow_new x3.fh hp (r1.cut l h).toOws))
          · cases eo

def aNil : Env → Res (List D) := fun _ => .ok []
def aCons (fa : Env → Res D) (fs : Env → Res (List D)) : Env → Res (List D) := fun g => (fa g).bind fun a => (fs g).bind fun r => .ok (opd a :: r)
def aConsO (fa : Env → Res D) (fs : Env → Res (List D)) : Env → Res (List D) := fun g => (fa g).bind fun a => (kp a).bind fun a => (fs g).bind fun r => .ok (a :: r)
@[simp] theorem aNil_ (g : Env) : aNil g = .ok [] := rfl
@[simp] theorem aCons_ (fa : Env → Res D) (fs : Env → Res (List D)) (g : Env) : aCons fa fs g = (fa g).bind fun a => (fs g).bind fun r => .ok (opd a :: r) := rfl
@[simp] theorem aConsO_ (fa : Env → Res D) (fs : Env → Res (List D)) (g : Env) : aConsO fa fs g = (fa g).bind fun a => (kp a).bind fun a => (fs g).bind fun r => .ok (a :: r) := rfl
theorem ja_nil : JA X cls W [] aNil := ⟨_, pa_nil, fun σ F H g O Q s st p => p [] F H (.refl s) .nil⟩
theorem jao_nil : JAO X cls W [] aNil := ⟨_, pa_nil, fun σ F H g O Q s st p => p [] F H [] (.refl s) Fresh.nil .nil⟩
theorem DA.go {t : TA} (ha : DA K cls W t fs) {σ : St} {F H : Hp} {g : Env} {O : List Addr} {Q : List V → Hp → Prop} (s : Same F H) (st : Sts K cls F H σ g O)
    (hx : ∀ c, fs g = .xc c → ∀ F' H', Ext F H F' H' → W (excV cls c) none σ H') (hb : fs g ≠ .bad) (hk : ∀ d, fs g = .ok d → ∀ v F' H', Ext F H F' H' → Bos K cls F' H' v d → Q v H') : t σ H Q := by
  refine ha σ F H g O Q s st ?_
  cases e : fs g with
  | ok k => exact hk k e
  | xc c => exact hx c e
  | bad => exact (hb e).elim
theorem DAO.go {t : TA} (ha : DAO K cls W t fs) {σ : St} {F H : Hp} {g : Env} {O : List Addr} {Q : List V → Hp → Prop} (s : Same F H) (st : Sts K cls F H σ g O)
    (hx : ∀ c, fs g = .xc c → ∀ F' H', Ext F H F' H' → W (excV cls c) none σ H') (hb : fs g ≠ .bad) (hk : ∀ d, fs g = .ok d → ∀ v F' H' O', Ext F H F' H' → Fresh H O' → Ows K cls F' H' v d O' → Q v H') : t σ H Q := by
  refine ha σ F H g O Q s st ?_
  cases e : fs g with
  | ok k => exact hk k e
  | xc c => exact hx c e
  | bad => exact (hb e).elim
theorem ja_cons (ha : JE X cls W a fa) (hr : JA X cls W es fs) (hs : starEach (a :: es) X.env = (false, eval a X.env) :: starEach es X.env := by rfl) : JA X cls W (a :: es) (aCons fa fs) := by
  obtain ⟨ta, pa, da⟩ := ha.ex
  obtain ⟨tr, pr, dr⟩ := hr.ex
  refine ⟨_, pa_cons pa pr hs, ?_⟩
  intro σ F H g O Q s st p
  rw [aCons_] at p
  refine da.go s st (fun c e => by rw [e] at p; exact p) (fun e => by rw [e] at p; exact p) fun d e v F1 H1 x1 b1 => ?_
  rw [e] at p
  simp only [Res.bind] at p
  refine dr.go x1.fh (st.ext x1) (fun c e F' H' x => by rw [e] at p; exact p F' H' (x1.trans x)) (fun e => by rw [e] at p; exact p) fun ds es vs F2 H2 x2 b2 => ?_
  rw [es] at p
  exact p _ F2 H2 (x1.trans x2) (.cons (b1.ext x2) b2)
theorem jao_cons (ha : JE X cls W a fa) (hr : JAO X cls W es fs) (hs : starEach (a :: es) X.env = (false, eval a X.env) :: starEach es X.env := by rfl) : JAO X cls W (a :: es) (aConsO fa fs) := by
  obtain ⟨ta, pa, da⟩ := ha.ex
  obtain ⟨tr, pr, dr⟩ := hr.ex
  refine ⟨_, pa_cons pa pr hs, ?_⟩
  intro σ F H g O Q s st p
  rw [aConsO_] at p
  refine da.goO s st (fun c e => by rw [e] at p; exact p) (fun e => ?_) fun d e v F1 H1 O1 x1 fr1 b1 => ?_
  · cases q : fa g with
    | ok d => rw [q] at e p; simp only [Res.bind] at e p; rw [e] at p; exact p
    | xc c => rw [q] at e; cases e
    | bad => rw [q] at p; exact p
  have p : PostAO X.K cls W σ F H Q ((fs g).bind fun r => .ok (d :: r)) := by
    cases q : fa g with
    | ok d => rw [q] at e p; simp only [Res.bind] at e p; rw [e] at p; exact p
    | xc c => rw [q] at e; cases e
    | bad => rw [q] at e; cases e
  refine dr.go x1.fh (st.ext x1) (fun c e F' H' x => by rw [e] at p; exact p F' H' (x1.trans x)) (fun e => by rw [e] at p; exact p) fun ds es vs F2 H2 O2 x2 fr2 b2 => ?_
  rw [es] at p
  refine p _ F2 H2 (O1 ++ O2) (x1.trans x2) (fun a ha => ?_) (.cons (b1.ext x2) b2 (fun a h1 h2 => ?_) rfl)
  · rcases List.mem_append.mp ha with q | q
    · exact fr1 a q
    · exact x1.hh.free (fr2 a q)
  · exact (b1.dom a h1).2 (fr2 a h2)
def eLst (fs : Env → Res (List D)) : Env → Res D := fun g => (fs g).bind fun ds => if ds.length ≤ lim then .ok (.ol ds) else .bad
def eTup (fs : Env → Res (List D)) : Env → Res D := fun g => (fs g).bind fun ds => if ds.length ≤ lim ∧ nods ds = true then .ok (.tp (frzs ds)) else .bad
@[simp] theorem eLst_ (fs : Env → Res (List D)) (g : Env) : eLst fs g = (fs g).bind fun ds => if ds.length ≤ lim then .ok (.ol ds) else .bad := rfl
@[simp] theorem eTup_ (fs : Env → Res (List D)) (g : Env) : eTup fs g = (fs g).bind fun ds => if ds.length ≤ lim ∧ nods ds = true then .ok (.tp (frzs ds)) else .bad := rfl
theorem je_lst (h : JAO X cls W es fs) : JE X cls W (.List es pos) (eLst fs) := by
  obtain ⟨ta, pa, da⟩ := h.ex
  refine ⟨_, pe_lst pa, ?_⟩
  intro σ F H g O Q s st p
  rw [eLst_] at p
  refine da.go s st (fun c e => by rw [e] at p; exact p) (fun e => by rw [e] at p; exact p) fun ds e vs F1 H1 O1 x1 fr1 b1 => ?_
  rw [e] at p
  simp only [Res.bind] at p
  split at p
  · rename_i hl
    refine ⟨lim_ok (by rw [b1.len]; exact hl), fun q hq => ?_⟩
    exact p _ _ _ (q :: O1) (x1.trans (Ext.own x1.fh hq)) (fun a ha => by
      rcases List.mem_cons.mp ha with rfl | ha
      · exact x1.hh.free hq
      · exact fr1 a ha) (.inl (ow_new x1.fh hq b1))
  · exact p.elim
theorem je_tup {k : Nat} (h : JAO X cls W es fs) : JE X cls W (.Tuple es k pos) (eTup fs) := by
  obtain ⟨ta, pa, da⟩ := h.ex
  refine ⟨_, pe_tup pa, ?_⟩
  intro σ F H g O Q s st p
  rw [eTup_] at p
  refine da.go s st (fun c e => by rw [e] at p; exact p) (fun e => by rw [e] at p; exact p) fun ds e vs F1 H1 O1 x1 fr1 b1 => ?_
  rw [e] at p
  simp only [Res.bind] at p
  split at p
  · rename_i hl
    refine ⟨lim_ok (by rw [b1.len]; exact hl.1), fun q hq => ?_⟩
    have no : ∀ a ∈ O1, F1 a = none := fun a ha => (b1.dom a ha).1
    have x2 := addF_ext x1 fr1 no
    have r2 := b1.freeze (addF_same no) addF_at hl.2
    exact p _ _ _ [] (x2.trans (Ext.put x2.fh hq)) Fresh.nil (.inl (.sh (.tp (SqT.of upd_same) (r2.mono (Ext.put x2.fh hq).ff))))
  · exact p.elim

def CaOk (K : PySem.W.Frag) (cls : Cls) (r : List V → Hp → VK → Prop) (op : List D → Option D) : Prop :=
  ∀ F H vs ds d Q, Same F H → Bos K cls F H vs ds → op ds = some d → (∀ v F' H' O', Ext F H F' H' → Fresh H O' → Tm K cls F' H' v d O' → Q v H') → r vs H Q
def eCall (op : List D → Option D) (fs : Env → Res (List D)) : Env → Res D := fun g => (fs g).bind fun ds => .of (op ds)
@[simp] theorem eCall_ (op : List D → Option D) (fs : Env → Res (List D)) (g : Env) : eCall op fs g = (fs g).bind fun ds => .of (op ds) := rfl
theorem de_call {r : List V → Hp → VK → Prop} {op : List D → Option D} {t : TA} (hr : CaOk K cls r op) (ha : DA K cls W t fs) : DE K cls W (tCB r t) (eCall op fs) := by
  intro σ F H g O Q s st p
  rw [eCall_] at p
  refine ha.go s st (fun c e => by rw [e] at p; exact p) (fun e => by rw [e] at p; exact p) fun ds e vs F1 H1 x1 b1 => ?_
  rw [e] at p
  simp only [Res.bind] at p
  cases eo : op ds with
  | none => rw [eo] at p; exact p.elim
  | some d =>
    rw [eo] at p
    exact hr F1 H1 vs ds d Q x1.fh b1 eo fun v F' H' O' y fr tm => p v F' H' O' (x1.trans y) (fr.mono x1.hh) tm
theorem je_callB {x : Str} {id : String} {p : Pos} {r : List V → Hp → VK → Prop} {op : List D → Option D} (hc : CallR X (.builtin id) r) (hr : CaOk X.K cls r op) (hm : X.mg x = none) (hv : bootBuiltins x = some (.builtin id)) (ha : JA X cls W (e :: es) fs)
    (hg : Gl X x := by rfl) (hn : x ≠ "__name__" := by decide) (hdb : (x == ("__debug__" : Str)) = false := by decide)
    (he : starEach (e :: es) X.env = (false, eval e X.env) :: starEach es X.env := by rfl) (hpl : (backTo pos (starEach es X.env)).any (·.1) = false := by rfl) : JE X cls W (.Call (.Name x p) (e :: es) [] pos) (eCall op fs) := by
  obtain ⟨ta, pa, da⟩ := ha.ex
  exact ⟨_, pe_callB hc hg hm hv pa hn hdb he hpl, de_call hr da⟩
theorem je_callTy {x : Str} {T : String} {p : Pos} {r : List V → Hp → VK → Prop} {op : List D → Option D} (hc : CallR X (.type T) r) (hr : CaOk X.K cls r op) (hm : X.mg x = none) (hv : bootBuiltins x = some (.type T)) (ha : JA X cls W (e :: es) fs)
    (hg : Gl X x := by rfl) (hn : x ≠ "__name__" := by decide) (hdb : (x == ("__debug__" : Str)) = false := by decide)
    (he : starEach (e :: es) X.env = (false, eval e X.env) :: starEach es X.env := by rfl) (hpl : (backTo pos (starEach es X.env)).any (·.1) = false := by rfl) : JE X cls W (.Call (.Name x p) (e :: es) [] pos) (eCall op fs) := by
  obtain ⟨ta, pa, da⟩ := ha.ex
  exact ⟨_, pe_callTy hc hg hm hv pa hn hdb he hpl, de_call hr da⟩
def caLen : List D → Option D
  | [.str z] => if z.length ≤ lim then some (.int z.length) else none
  | [d] => match sqA d with
    | some xs => some (.int xs.length)
    | none => match d with
      | .bd ks _ => none
      | _ => none
  | _ => none
theorem Bos.one {vs : List V} {d : D} (h : Bos K cls F H vs [d]) : ∃ v, vs = [v] ∧ Bo K cls F H v d := by
  cases h with | cons a b => cases b; exact ⟨_, rfl, a⟩
theorem Bos.two {vs : List V} {d d' : D} (h : Bos K cls F H vs [d, d']) : ∃ v v', vs = [v, v'] ∧ Bo K cls F H v d ∧ Bo K cls F H v' d' := by
  cases h with | cons a b => cases b with | cons a' b' => cases b'; exact ⟨_, _, rfl, a, a'⟩
theorem ok_len : CaOk K cls (fun xs H Q => ∃ x n, xs = [x] ∧ LenV K x H n ∧ Q (.int n) H) caLen := by
  intro F H vs ds d Q s b e q
  unfold caLen at e
  split at e
  · rename_i z
    by_cases h : z.length ≤ lim
    · rw [if_pos h] at e
      cases e
      obtain ⟨v, rfl, b1⟩ := b.one
      obtain rfl := b1.str
      exact ⟨_, _, rfl, ⟨lim_ok h, rfl⟩, pi1 s (.int _) q⟩
    · rw [if_neg h] at e; cases e
  · split at e
    · rename_i xs h1
      cases e
      obtain ⟨v, rfl, b1⟩ := b.one
      obtain ⟨p, vs, rfl, h3, r⟩ := b1.sqA s h1
      have q' : Q (.int (xs.length : Int)) H := pi1 s (.int _) q
      rw [← r.len] at q'
      rcases h3 with h3 | h3
      · exact ⟨_, vs.length, rfl, .inl ⟨vs, h3, rfl⟩, q'⟩
      · exact ⟨_, vs.length, rfl, .inr ⟨vs, h3, rfl⟩, q'⟩
    · split at e <;> cases e
  · cases e
def caMax2 : List D → Option D
  | [.int i, .int j] => some (.int (if j > i then j else i))
  | _ => none
def caMin2 : List D → Option D
  | [.int i, .int j] => some (.int (if j < i then j else i))
  | _ => none
theorem ok_max2 : CaOk K cls (fun xs H Q => ∃ i j, xs = [.int i, .int j] ∧ Q (.int (if j > i then j else i)) H) caMax2 := by
  intro F H vs ds d Q s b e q
  unfold caMax2 at e
  split at e
  · cases e
    obtain ⟨v, v', rfl, b1, b2⟩ := b.two
    obtain rfl := b1.int
    obtain rfl := b2.int
    exact ⟨_, _, rfl, pi1 s (.int _) q⟩
  · cases e
theorem ok_min2 : CaOk K cls (fun xs H Q => ∃ i j, xs = [.int i, .int j] ∧ Q (.int (if j < i then j else i)) H) caMin2 := by
  intro F H vs ds d Q s b e q
  unfold caMin2 at e
  split at e
  · cases e
    obtain ⟨v, v', rfl, b1, b2⟩ := b.two
    obtain rfl := b1.int
    obtain rfl := b2.int
    exact ⟨_, _, rfl, pi1 s (.int _) q⟩
  · cases e
def caAbs : List D → Option D
  | [.int i] => some (.int (if i < 0 then -i else i))
  | _ => none
def caInt : List D → Option D
  | [.int i] => some (.int i)
  | [.bl k] => some (.int (if k = true then 1 else 0))
  | _ => none
theorem ok_int : CaOk K cls (fun xs H Q => (∃ i, xs = [.int i] ∧ Q (.int i) H) ∨ ∃ k, xs = [.bl k] ∧ Q (.int (if k then 1 else 0)) H) caInt := by
  intro F H vs ds d Q s b e q
  unfold caInt at e
  split at e
  · cases e
    obtain ⟨v, rfl, b1⟩ := b.one
    obtain rfl := b1.int
    exact .inl ⟨_, rfl, pi1 s (.int _) q⟩
  · cases e
    obtain ⟨v, rfl, b1⟩ := b.one
    obtain rfl := b1.bl
    exact .inr ⟨_, rfl, pi1 s (.int _) q⟩
  · cases e
@[simp] def sqKA : D → Option (List D)
  | .tp xs => some xs
  | d => sqK d
theorem Bo.sqKA {v : V} {d : D} {xs : List D} (s : Same F H) (b : Bo K cls F H v d) (e : sqKA d = some xs) : ∃ a vs, v = .ref a ∧ (SqL K H a vs ∨ SqT K H a vs) ∧ Rps K cls F vs xs := by
  cases d with
  | tp ys => obtain ⟨a, vs, e1, h1, h2, r⟩ := b.tpv s (xs := xs) (by simpa using e); exact ⟨a, vs, e1, .inr h1, r⟩
  | ls ys => obtain ⟨a, vs, e1, h1, r⟩ := b.sqK s (xs := xs) (by simpa using e); exact ⟨a, vs, e1, .inl h1, r⟩
  | sc ys => obtain ⟨a, vs, e1, h1, r⟩ := b.sqK s (xs := xs) (by simpa using e); exact ⟨a, vs, e1, .inl h1, r⟩
  | bo ys => obtain ⟨a, vs, e1, h1, r⟩ := b.sqK s (xs := xs) (by simpa using e); exact ⟨a, vs, e1, .inl h1, r⟩
  | _ => simp at e
def caList : List D → Option D
  | [d] => (sqKA d).map .ol
  | _ => none
theorem ok_list : CaOk K cls (fun xs H Q => ∃ p ys, xs = [.ref p] ∧ (SqL K H p ys ∨ SqT K H p ys) ∧ ∀ l, H l = none → Q (.ref l) (upd H l (.lst ys))) caList := by
  intro F H vs ds d Q s b e q
  unfold caList at e
  split at e
  · rename_i d0
    cases h1 : sqKA d0 with
    | none => rw [h1] at e; cases e
    | some xs =>
      rw [h1] at e
      cases e
      obtain ⟨v, rfl, b1⟩ := b.one
      obtain ⟨p, ws, rfl, h2, r⟩ := b1.sqKA s h1
      exact ⟨p, ws, rfl, h2, fun l hl => q _ _ _ [l] (Ext.own s hl) (fresh_new hl) (.inl (ow_new s hl r.toOws))⟩
  · cases e
def caTuple : List D → Option D
  | [d] => (sqKA d).map .tp
  | _ => none
theorem ok_tuple : CaOk K cls (fun xs H Q => ∃ p ys, xs = [.ref p] ∧ ((SqL K H p ys ∧ ∀ l, H l = none → Q (.ref l) (upd H l (.tup ys))) ∨ (SqT K H p ys ∧ Q (.ref p) H))) caTuple := by
  intro F H vs ds d Q s b e q
  unfold caTuple at e
  split at e
  · rename_i d0
    cases h1 : sqKA d0 with
    | none => rw [h1] at e; cases e
    | some xs =>
      rw [h1] at e
      cases e
      obtain ⟨v, rfl, b1⟩ := b.one
      have lst : ∀ {a : Addr} {ws : List V}, SqL K H a ws → Rps K cls F ws xs → ∀ l, H l = none → Q (.ref l) (upd H l (.tup ws)) := fun {a ws} h r l hl =>
        q _ _ _ [] (Ext.put s hl) Fresh.nil (.inl (.sh (.tp (SqT.of upd_same) (r.mono (Ext.put s hl).ff))))
      cases d0 with
      | tp ys =>
        obtain ⟨a, ws, rfl, h2, h3, r⟩ := b1.tpv s (xs := xs) (by simpa using h1)
        exact ⟨a, ws, rfl, .inr ⟨h2, pi1 s (.tp h3 r) q⟩⟩
      | ls ys => obtain ⟨a, ws, rfl, h2, r⟩ := b1.sqK s (xs := xs) (by simpa using h1); exact ⟨a, ws, rfl, .inl ⟨h2, lst h2 r⟩⟩
      | sc ys => obtain ⟨a, ws, rfl, h2, r⟩ := b1.sqK s (xs := xs) (by simpa using h1); exact ⟨a, ws, rfl, .inl ⟨h2, lst h2 r⟩⟩
      | bo ys => obtain ⟨a, ws, rfl, h2, r⟩ := b1.sqK s (xs := xs) (by simpa using h1); exact ⟨a, ws, rfl, .inl ⟨h2, lst h2 r⟩⟩
      | _ => simp at h1
  · cases e
def caSum : List D → Option D
  | [d] => match sqL d with
    | some xs => (intsOf xs).map fun ns => .int ns.sum
    | none => none
  | _ => none
theorem Bo.sqI {v : V} {d : D} {xs : List D} {ns : List Int} (s : Same F H) (b : Bo K cls F H v d) (e : DL.sqL d = some xs) (e2 : intsOf xs = some ns) : ∃ a, v = .ref a ∧ L2.SqL K H a (ns.map V.int) := by
  obtain ⟨a, vs, e1, h, r⟩ := Bo.sqL s b e
  rw [intsOf_eq e2] at r
  rw [r.ints] at h
  exact ⟨a, e1, h⟩
theorem ok_sum : CaOk K cls (rSum K) caSum := by
  intro F H vs ds d Q s b e q
  unfold caSum at e
  split at e
  · split at e
    · rename_i xs h1
      cases h2 : intsOf xs with
      | none => rw [h2] at e; cases e
      | some ns =>
        rw [h2] at e
        cases e
        obtain ⟨v, rfl, b1⟩ := b.one
        obtain ⟨a, rfl, h3⟩ := b1.sqI s h1 h2
        exact ⟨a, ns, rfl, h3, pi1 s (.int _) q⟩
    · cases e
  · cases e
def gst : List Int → Int
  | [] => 0
  | [x] => x
  | x :: xs => if gst xs > x then gst xs else x
def lst_ : List Int → Int
  | [] => 0
  | [x] => x
  | x :: xs => if lst_ xs < x then lst_ xs else x
theorem lst_spec : ∀ {ns : List Int}, ns ≠ [] → lst_ ns ∈ ns ∧ ∀ y ∈ ns, lst_ ns ≤ y
  | [], h => (h rfl).elim
  | [x], _ => by simp [lst_]
  | x :: y :: r, _ => by
    obtain ⟨h1, h2⟩ := lst_spec (ns := y :: r) (by simp)
    have e : lst_ (x :: y :: r) = if lst_ (y :: r) < x then lst_ (y :: r) else x := rfl
    rw [e]
    split
    · refine ⟨List.mem_cons_of_mem _ h1, fun z hz => ?_⟩
      rcases List.mem_cons.mp hz with rfl | hz
      · omega
      · exact h2 z hz
    · refine ⟨List.mem_cons_self, fun z hz => ?_⟩
      rcases List.mem_cons.mp hz with rfl | hz
      · omega
      · have := h2 z hz; omega
def caMax : List D → Option D
  | [d] => match sqL d with
    | some xs => match intsOf xs with
      | some ns => if ns.isEmpty = true then none else some (.int (gst ns))
      | none => none
    | none => none
  | _ => none
def caMin : List D → Option D
  | [d] => match sqL d with
    | some xs => match intsOf xs with
      | some ns => if ns.isEmpty = true then none else some (.int (lst_ ns))
      | none => none
    | none => none
  | _ => none
theorem ok_min : CaOk K cls (rMin K) caMin := by
  intro F H vs ds d Q s b e q
  unfold caMin at e
  split at e
  · split at e
    · rename_i xs h1
      split at e
      · rename_i ns h2
        split at e
        · cases e
        · rename_i hne
          cases e
          obtain ⟨v, rfl, b1⟩ := b.one
          obtain ⟨a, rfl, h3⟩ := b1.sqI s h1 h2
          have hne' : ns ≠ [] := fun z => hne (by rw [z]; rfl)
          obtain ⟨g1, g2⟩ := lst_spec hne'
          refine ⟨a, ns, rfl, h3, List.length_pos_iff.mpr hne', fun m m1 m2 => ?_⟩
          have : m = lst_ ns := Int.le_antisymm (m2 _ g1) (g2 m m1)
          rw [this]
          exact pi1 s (.int _) q
      · cases e
    · cases e
  · cases e
def ins (x : Int) : List Int → List Int
  | [] => [x]
  | y :: r => if x ≤ y then x :: y :: r else y :: ins x r
def srt : List Int → List Int
  | [] => []
  | x :: r => ins x (srt r)
theorem ins_perm (x : Int) : ∀ l : List Int, (ins x l).Perm (x :: l)
  | [] => List.Perm.refl _
  | y :: r => by
    unfold ins
    split
    · exact List.Perm.refl _
    · exact ((ins_perm x r).cons y).trans (List.Perm.swap x y r)
theorem srt_perm : ∀ l : List Int, (srt l).Perm l
  | [] => List.Perm.refl _
  | x :: r => (ins_perm x _).trans ((srt_perm r).cons x)
theorem ins_sorted (x : Int) : ∀ {l : List Int}, l.Pairwise (· ≤ ·) → (ins x l).Pairwise (· ≤ ·)
  | [], _ => by simp [ins]
  | y :: r, h => by
    unfold ins
    obtain ⟨h1, h2⟩ := List.pairwise_cons.mp h
    split
    · rename_i hxy
      refine List.pairwise_cons.mpr ⟨fun z hz => ?_, h⟩
      rcases List.mem_cons.mp hz with rfl | hz
      · exact hxy
      · exact Int.le_trans hxy (h1 z hz)
    · rename_i hxy
      refine List.pairwise_cons.mpr ⟨fun z hz => ?_, ins_sorted x h2⟩
      rcases List.mem_cons.mp ((ins_perm x r).mem_iff.mp hz) with rfl | hz
      · omega
      · exact h1 z hz
theorem srt_sorted : ∀ l : List Int, (srt l).Pairwise (· ≤ ·)
  | [] => List.Pairwise.nil
  | x :: r => ins_sorted x (srt_sorted r)
theorem sorted_uniq : ∀ {l m : List Int}, l.Perm m → l.Pairwise (· ≤ ·) → m.Pairwise (· ≤ ·) → l = m
  | [], m, p, _, _ => (List.nil_perm.mp p).symm
  | x :: l, [], p, _, _ => absurd p.length_eq (by simp)
  | x :: l, y :: m, p, h1, h2 => by
    obtain ⟨a1, a2⟩ := List.pairwise_cons.mp h1
    obtain ⟨b1, b2⟩ := List.pairwise_cons.mp h2
    have e : x = y := by
      have hx : x ∈ y :: m := p.mem_iff.mp List.mem_cons_self
      have hy : y ∈ x :: l := p.mem_iff.mpr List.mem_cons_self
      rcases List.mem_cons.mp hx with q | q
      · exact q
      · rcases List.mem_cons.mp hy with q' | q'
        · exact q'.symm
        · exact Int.le_antisymm (a1 y q') (b1 x q)
    subst e
    rw [sorted_uniq (List.Perm.cons_inv p) a2 b2]
theorem srt_uniq {l m : List Int} (p : l.Perm m) (h : l.Pairwise (· ≤ ·)) : l = srt m := sorted_uniq (p.trans (srt_perm m).symm) h (srt_sorted m)
theorem srt_len (l : List Int) : (srt l).length = l.length := (srt_perm l).length_eq
def caSorted : List D → Option D
  | [d] => match sqL d with
    | some xs => (intsOf xs).map fun ns => .ol ((srt ns).map D.int)
    | none => none
  | _ => none
theorem ok_sorted : CaOk K cls (rSortedI K) caSorted := by
  intro F H vs ds d Q s b e q
  unfold caSorted at e
  split at e
  · split at e
    · rename_i xs h1
      cases h2 : intsOf xs with
      | none => rw [h2] at e; cases e
      | some ns =>
        rw [h2] at e
        cases e
        obtain ⟨v, rfl, b1⟩ := b.one
        obtain ⟨a, rfl, h3⟩ := b1.sqI s h1 h2
        refine ⟨a, ns, rfl, h3, fun ns' p pm pw hp => ?_⟩
        obtain rfl := srt_uniq pm pw
        exact q _ _ _ [p] (Ext.own s hp) (fresh_new hp) (.inl (ow_new s hp rps_ints.toOws))
    · cases e
  · cases e
def caAll : List D → Option D
  | [d] => match sqL d with
    | some xs => (blsOf xs).map fun ns => .bl (ns.all id)
    | none => none
  | _ => none
theorem ok_all : CaOk K cls (rAll K) caAll := by
  intro F H vs ds d Q s b e q
  unfold caAll at e
  split at e
  · split at e
    · rename_i xs h1
      cases h2 : blsOf xs with
      | none => rw [h2] at e; cases e
      | some ns =>
        rw [h2] at e
        cases e
        obtain ⟨v, rfl, b1⟩ := b.one
        obtain ⟨a, vs, rfl, h3, r⟩ := b1.sqL s h1
        rw [blsOf_eq h2] at r
        rw [r.bls] at h3
        exact ⟨a, ns, rfl, h3, pi1 s (.bl _) q⟩
    · cases e
  · cases e
end
end DL

namespace DL
open PySem L2
theorem set_self {α : Type} : ∀ {l : List α} {i : Nat} {a : α}, l[i]? = some a → l.set i a = l
  | [], _, _, h => by simp at h
  | x :: l, 0, a, h => by simp at h; subst h; rfl
  | x :: l, i + 1, a, h => by rw [List.set_cons_succ, set_self (by simpa using h)]
structure Cn (X : Cx) (W : WX) (k : Nat) : Prop where
  tk : Takes X W
  hp : PassesOwn (model X.prog X.w) X.A X.env X.xe
  calm : X.calm = true
  nd : X.N.Nodup
  hr : Room k X.A
theorem Cn.mono {X : Cx} {W : WX} {j k : Nat} (c : Cn X W k) (h : j ≤ k) : Cn X W j := ⟨c.tk, c.hp, c.calm, c.nd, c.hr.mono h⟩
theorem Cn.eq {X : Cx} {W : WX} {k : Nat} (c : Cn X W k) : X.A.units + 64 < cLine := c.hr.units
abbrev W0 : WX := fun _ _ _ _ => False
theorem Cn.blk {X : Cx} {W : WX} {k : Nat} (c : Cn X W k) {s : Shared} {H : Hp} {scope : Scope} {cenv : PySem.Env} {fp : List Addr} : Cn (X.blk s H scope cenv fp) W0 k :=
  ⟨takes0, PassesOwn.never, c.calm, c.nd, c.hr⟩

structure ClsOk (K : PySem.W.Frag) (cls : Cls) (c : Nat) (C : Addr) (ns : List Str) : Prop where
  e : cls c = some (C, ns)
  nd : ns.Nodup
  cl : L2.Cls K C
  na : ∀ f ∈ ns, NoAttr K C f
theorem lookup_zip : ∀ {ns : List Str} {vs : List V} {i : Nat} {f : Str} {v : V}, ns.Nodup → ns[i]? = some f → vs[i]? = some v → (ns.zip vs).lookup f = some v
  | [], _, _, _, _, _, h, _ => by simp at h
  | n :: ns, [], _, _, _, _, _, h => by simp at h
  | n :: ns, w :: vs, 0, f, v, nd, h1, h2 => by
    simp at h1 h2
    subst h1 h2
    simp [List.lookup]
  | n :: ns, w :: vs, i + 1, f, v, nd, h1, h2 => by
    obtain ⟨a1, a2⟩ := List.nodup_cons.mp nd
    have h1' : ns[i]? = some f := by simpa using h1
    have : ¬ f = n := fun e => a1 (e ▸ List.mem_of_getElem? h1')
    rw [List.zip_cons_cons, List.lookup]
    have e : (f == n) = false := by simpa using this
    rw [e]
    exact lookup_zip a2 h1' (by simpa using h2)
def opFld (c i : Nat) : D → Option D
  | .ob c' ds => if c' = c then ds[i]? else none
  | .bb c' ds => if c' = c then ds[i]? else none
  | _ => none
section
variable {K : PySem.W.Frag} {cls : Cls} {W : WX} {X : Cx} {F H F' H' F1 H1 : Hp} {O O1 : List Addr} {Q : VK} {σ : St} {a b e : Expr} {es : List Expr} {fa fb fc : Env → Res D} {ga gb : Env → Res Bool} {fs : Env → Res (List D)} {pos : Pos}
theorem Bo.fld {c i : Nat} {C : Addr} {ns : List Str} {f : Str} {v : V} {d r : D} (s : Same F H) (T : ClsOk K cls c C ns) (hi : ns[i]? = some f) (b : Bo K cls F H v d) (e : opFld c i d = some r) :
    ∃ a dx fs w, v = .ref a ∧ H a = some (.ins C dx fs) ∧ fs.lookup f = some w ∧ Bo K cls F H w r := by
  cases d with
  | ob c' ds =>
    have e2 : (if c' = c then ds[i]? else none) = some r := e
    split at e2
    · rename_i hc
      subst hc
      cases b with
      | sh rr =>
        cases rr with
        | ob he hF hl hr =>
          have := he.symm.trans T.e
          cases this
          obtain ⟨w, h1, h2⟩ := hr.get e2
          exact ⟨_, _, _, w, rfl, s _ _ hF, lookup_zip T.nd hi h1, .sh h2⟩
    · cases e2
  | bb c' ds =>
    have e2 : (if c' = c then ds[i]? else none) = some r := e
    split at e2
    · rename_i hc
      subst hc
      cases b with
      | sh rr => cases rr
      | bb he hF hl hr =>
        have := he.symm.trans T.e
        cases this
        obtain ⟨w, h1, h2⟩ := hr.get e2
        exact ⟨_, _, _, w, rfl, hF, lookup_zip T.nd hi h1, h2⟩
    · cases e2
  | _ => cases e
theorem je_fld {c i : Nat} {C : Addr} {ns : List Str} {f : Str} (T : ClsOk X.K cls c C ns) (hi : ns[i]? = some f) (ha : JE X cls W a fa) (hb : attributeBase a f X.env (eval a X.env) = eval a X.env := by rfl) : JE X cls W (.Attribute a f pos) (eUn (opFld c i) fa) := by
  obtain ⟨ta, pa, da⟩ := ha.ex
  refine ⟨_, pe_fld pa hb, ?_⟩
  intro σ F H g O Q s st p
  rw [eUn_] at p
  refine da.go s st (fun c e => by rw [e] at p; exact p) (fun e => by rw [e] at p; exact p) fun d e v F1 H1 x1 b1 => ?_
  rw [e] at p
  simp only [Res.bind] at p
  cases eo : opFld c i (opd d) with
  | none => rw [eo] at p; exact p.elim
  | some r =>
    rw [eo] at p
    obtain ⟨a, dx, fs, w, rfl, h1, h2, h3⟩ := b1.fld x1.fh T hi eo
    exact ⟨_, _, _, _, w, rfl, h1, T.cl, T.na f (List.mem_of_getElem? hi), h2, p w F1 H1 [] x1 Fresh.nil (.inr ⟨h3, rfl⟩)⟩

def spD (K : PySem.W.Frag) (cls : Cls) (n : Nat) (g : List D → Res D) : Sp := fun vs H Q E => ∃ F ds, Same F H ∧ Rps K cls F vs ds ∧ ds.length = n ∧
  match g ds with
  | .ok d => ∀ v F' H' O', Ext F H F' H' → Fresh H O' → Ow K cls F' H' v d O' → Q v H'
  | .xc c => ∀ F' H', Ext F H F' H' → E (excV cls c) none H'
  | .bad => False
mutual
/-- nothing but scalars, in new lists -/
@[simp] def flat : D → Bool
  | .non => true
  | .bl _ => true
  | .int _ => true
  | .str _ => true
  | .ol xs => flats xs
  | _ => false
@[simp] def flats : List D → Bool
  | [] => true
  | d :: ds => flat d && flats ds
end
mutual
@[simp] def plok : D → Bool
  | .bd _ _ => false
  | .bo xs => ploks xs
  | .bb _ xs => ploks xs
  | _ => true
@[simp] def ploks : List D → Bool
  | [] => true
  | d :: ds => plok d && ploks ds
end
mutual
theorem Bo.pln (s : Same F H) : ∀ {v : V} {d : D}, Bo K cls F H v d → plok d = true → Rp K cls H v (pln d)
  | _, _, .sh r, _ => by
    have r' := r.mono s
    cases r <;> exact r'
  | _, _, .bo h r, e => by
    simp only [DL.pln]
    exact .ls h (Bos.plns s r (by simpa using e))
  | _, _, .bb hc h l r, e => by
    simp only [DL.pln]
    exact .ob hc h l (Bos.plns s r (by simpa using e))
  | _, _, .bd .., e => by simp at e
theorem Bos.plns (s : Same F H) : ∀ {v : List V} {d : List D}, Bos K cls F H v d → ploks d = true → Rps K cls H v (plns d)
  | _, _, .nil, _ => .nil
  | _, _, .cons a b, e => by
    simp only [ploks, Bool.and_eq_true] at e
    simp only [DL.plns]
    exact .cons (Bo.pln s a e.1) (Bos.plns s b e.2)
end
mutual
theorem Ow.flat : ∀ {v : V} {d : D} {O : List Addr}, Ow K cls F' H' v d O → flat d = true → (∀ a ∈ O, F a = none) → Ow K cls F H' v d O
  | _, _, _, .sh r, e, _ => by
    cases r with
    | non => exact .sh .non
    | bl b => exact .sh (.bl b)
    | int b => exact .sh (.int b)
    | str b => exact .sh (.str b)
    | _ => simp at e
  | _, _, _, .ol h1 h2 h3 r, e, k => .ol (k _ (by simp)) h2 h3 (Ows.flats r (by simpa using e) fun a ha => k a (by simp [ha]))
  | _, _, _, .od .., e, _ => by simp at e
  | _, _, _, .oo .., e, _ => by simp at e
theorem Ows.flats : ∀ {v : List V} {d : List D} {O : List Addr}, Ows K cls F' H' v d O → flats d = true → (∀ a ∈ O, F a = none) → Ows K cls F H' v d O
  | _, _, _, .nil, _, _ => .nil
  | _, _, _, .cons a b dj q, e, k => by
    simp only [DL.flats, Bool.and_eq_true] at e
    exact .cons (Ow.flat a e.1 fun x hx => k x (by simp [q, hx])) (Ows.flats b e.2 fun x hx => k x (by simp [q, hx])) dj q
end
def calD (g : List D → Res D) (ds : List D) : Res D :=
  if shd ds = true then g ds
  else if ploks ds = true then (g (plns ds)).bind fun d => if flat d = true then .ok d else .bad
  else .bad
def eOwn (g : List D → Res D) (fs : Env → Res (List D)) : Env → Res D := fun e => (fs e).bind fun ds => calD g ds
@[simp] theorem eOwn_ (g : List D → Res D) (fs : Env → Res (List D)) (e : Env) : eOwn g fs e = (fs e).bind fun ds => calD g ds := rfl
theorem plns_len : ∀ ds : List D, (plns ds).length = ds.length
  | [] => rfl
  | d :: ds => by simp [plns, plns_len ds]
theorem spD_call {n : Nat} {g : List D → Res D} {vs : List V} {ds : List D} {E : XK} (s : Same F H) (b : Bos K cls F H vs ds) (hn : ds.length = n)
    (p : match calD g ds with
      | .ok d => ∀ v F' H' O', Ext F H F' H' → Fresh H O' → Ow K cls F' H' v d O' → Q v H'
      | .xc c => ∀ F' H', Ext F H F' H' → E (excV cls c) none H'
      | .bad => False) : spD K cls n g vs H Q E := by
  unfold calD at p
  by_cases h1 : shd ds = true
  · rw [if_pos h1] at p
    exact ⟨F, ds, s, b.toRps h1, hn, p⟩
  · rw [if_neg h1] at p
    by_cases h2 : ploks ds = true
    · rw [if_pos h2] at p
      refine ⟨H, plns ds, .refl H, b.plns s h2, by rw [plns_len]; exact hn, ?_⟩
      have up : ∀ {F' H'}, Ext H H F' H' → Ext F H F H' := fun x => ⟨.refl F, x.hh, s.trans x.hh, fun _ h _ => h⟩
      cases e : g (plns ds) with
      | ok d =>
        rw [e] at p
        simp only [Res.bind] at p ⊢
        by_cases h3 : flat d = true
        · rw [if_pos h3] at p
          intro v F' H' O' x fr ow
          refine p v F H' O' (up x) fr (ow.flat h3 fun a ha => ?_)
          cases q : F a with
          | none => rfl
          | some o => have := fr a ha; rw [s a o q] at this; cases this
        · rw [if_neg h3] at p; exact p.elim
      | xc c =>
        rw [e] at p
        exact fun F' H' x => p F H' (up x)
      | bad => rw [e] at p; exact p.elim
    · rw [if_neg h2] at p; exact p.elim
theorem je_own {x : Str} {f : Addr} {fd : FuncData} {ps : List Str} {k n : Nat} {g : List D → Res D} {p : Pos} (c : Cn X W k) (G : FnOk X.prog X.w X.K X.mg X.base (L2.CX X.prog X.w) k f fd ps (spD X.K cls n g))
    (hm : X.mg x = some (.ref f)) (hk : PySem.W.keepIn X.K (.ref f) = true) (hb : Binds X.K fd ps []) (ha : JA X cls W (e :: es) fs) (hn : ∀ g ds, fs g = .ok ds → ds.length = n) (hg : Gl X x := by rfl)
    (hdb : (x == ("__debug__" : Str)) = false := by decide) (he : starEach (e :: es) X.env = (false, eval e X.env) :: starEach es X.env := by rfl) (hpl : (backTo pos (starEach es X.env)).any (·.1) = false := by rfl) :
    JE X cls W (.Call (.Name x p) (e :: es) [] pos) (eOwn g fs) := by
  obtain ⟨ta, pa, da⟩ := ha.ex
  refine ⟨_, pe_callS G c.hr hg hm hk hb (fun σ => passAt c.tk σ) pa hdb he hpl, ?_⟩
  intro σ F H env O Q s st p
  rw [eOwn_] at p
  refine da.go s st (fun c e => by rw [e] at p; exact p) (fun e => by rw [e] at p; exact p) fun ds e vs F1 H1 x1 b1 => ?_
  rw [e] at p
  simp only [Res.bind] at p
  refine spD_call x1.fh b1 (hn env ds e) ?_
  cases eo : calD g ds with
  | ok d => rw [eo] at p; exact fun v F' H' O' y fr ow => p v F' H' O' (x1.trans y) (fr.mono x1.hh) (.inl ow)
  | xc c => rw [eo] at p; exact fun F' H' y => p F' H' (x1.trans y)
  | bad => rw [eo] at p; exact p
theorem an_len {g : Env} {ds : List D} {n : Nat} (h : ∀ g ds, fs g = .ok ds → ds.length = n) (e : aCons fa fs g = .ok ds) : ds.length = n + 1 := by
  rw [aCons_] at e
  cases q1 : fa g with
  | ok d =>
    rw [q1] at e
    simp only [Res.bind] at e
    cases q2 : fs g with
    | ok r => rw [q2] at e; cases e; simp [h g r q2]
    | xc c => rw [q2] at e; cases e
    | bad => rw [q2] at e; cases e
  | xc c => rw [q1] at e; cases e
  | bad => rw [q1] at e; cases e
theorem al0 : ∀ g ds, aNil g = .ok ds → ds.length = 0 := fun g ds e => by cases e; rfl
theorem alS {n : Nat} (h : ∀ g ds, fs g = .ok ds → ds.length = n) : ∀ g ds, aCons fa fs g = .ok ds → ds.length = n + 1 := fun g ds e => an_len h e

def PostS (K : PySem.W.Frag) (cls : Cls) (W : WX) (D : Ends) (F H : Hp) (O : List Addr) : Out → Prop
  | .nx g => ∀ σ' F' H' O', SExt F H O F' H' O' → Sts K cls F' H' σ' g O' → D.nx σ' H'
  | .rt d => ∀ v F' H' O', SExt F H O F' H' O' → Ow K cls F' H' v d O' → D.rt v H'
  | .bk g => ∀ σ' F' H' O', SExt F H O F' H' O' → Sts K cls F' H' σ' g O' → D.bk σ' H'
  | .ct g => ∀ σ' F' H' O', SExt F H O F' H' O' → Sts K cls F' H' σ' g O' → D.ct σ' H'
  | .xc c g => ∀ σ' F' H' O', SExt F H O F' H' O' → Sts K cls F' H' σ' g O' → W (excV cls c) none σ' H'
  | .bad => False
def DS (K : PySem.W.Frag) (cls : Cls) (W : WX) (t : TS) (f : Env → Out) : Prop :=
  ∀ D σ F H g O, Same F H → Sts K cls F H σ g O → PostS K cls W D F H O (f g) → t D σ H
structure JS (X : Cx) (cls : Cls) (W : WX) (st : Stmt) (f : Env → Out) : Prop where
  ex : ∃ t, PS X st t ∧ DS X.K cls W t f
structure JSs (X : Cx) (cls : Cls) (W : WX) (st : List Stmt) (f : Env → Out) : Prop where
  ex : ∃ t, PSs X st t ∧ DS X.K cls W t f
theorem PostS.mono {D : Ends} {r : Out} (x : SExt F H O F1 H1 O1) (p : PostS K cls W D F H O r) : PostS K cls W D F1 H1 O1 r := by
  cases r with
  | nx g => exact fun σ' F' H' O' y => p σ' F' H' O' (x.trans y)
  | rt d => exact fun v F' H' O' y => p v F' H' O' (x.trans y)
  | bk g => exact fun σ' F' H' O' y => p σ' F' H' O' (x.trans y)
  | ct g => exact fun σ' F' H' O' y => p σ' F' H' O' (x.trans y)
  | xc c g => exact fun σ' F' H' O' y => p σ' F' H' O' (x.trans y)
  | bad => exact p
def Res.st {α : Type} (r : Res α) (g : Env) (f : α → Out) : Out := match r with
  | .ok a => f a
  | .xc c => .xc c g
  | .bad => .bad
@[simp] theorem Res.st_ok {α : Type} (a : α) (g : Env) (f : α → Out) : (Res.ok a).st g f = f a := rfl
@[simp] theorem Res.st_xc {α : Type} (c : Nat) (g : Env) (f : α → Out) : (Res.xc c : Res α).st g f = .xc c g := rfl
@[simp] theorem Res.st_bad {α : Type} (g : Env) (f : α → Out) : (Res.bad : Res α).st g f = .bad := rfl
theorem xc_st {D : Ends} {c : Nat} {g : Env} (st : Sts K cls F H σ g O) (p : PostS K cls W D F H O (.xc c g)) : ∀ F' H', Ext F H F' H' → W (excV cls c) none σ H' :=
  fun F' H' x => p σ F' H' O (x.sext fun a h => .inl h) (st.ext x)
def sSeq (f u : Env → Out) : Env → Out := fun g => match f g with
  | .nx g' => u g'
  | o => o
@[simp] theorem sSeq_ (f u : Env → Out) (g : Env) : sSeq f u g = match f g with
  | .nx g' => u g'
  | o => o := rfl
def sNil : Env → Out := fun g => .nx g
@[simp] theorem sNil_ (g : Env) : sNil g = .nx g := rfl
theorem ds_seq {t u : TS} {f1 f2 : Env → Out} (h1 : DS K cls W t f1) (h2 : DS K cls W u f2) : DS K cls W (tSeq t u) (sSeq f1 f2) := by
  intro D σ F H g O s st p
  rw [sSeq_] at p
  refine h1 _ σ F H g O s st ?_
  cases e : f1 g with
  | nx g' => rw [e] at p; exact fun σ' F' H' O' x st' => h2 D σ' F' H' g' O' x.fh st' (PostS.mono x p)
  | rt d => rw [e] at p; exact p
  | bk g' => rw [e] at p; exact p
  | ct g' => rw [e] at p; exact p
  | xc c g' => rw [e] at p; exact p
  | bad => rw [e] at p; exact p
theorem jss_nil : JSs X cls W [] sNil := ⟨_, pss_nil, fun D σ F H g O s st p => p σ F H O (.refl s) st⟩
theorem jss_cons {st : Stmt} {sts : List Stmt} {f1 f2 : Env → Out} (h1 : JS X cls W st f1) (h2 : JSs X cls W sts f2) : JSs X cls W (st :: sts) (sSeq f1 f2) := by
  obtain ⟨t, p, d⟩ := h1.ex
  obtain ⟨u, q, d'⟩ := h2.ex
  exact ⟨_, pss_cons p q, ds_seq d d'⟩
theorem jss_one {st : Stmt} {f1 : Env → Out} (h1 : JS X cls W st f1) : JSs X cls W [st] f1 := by
  obtain ⟨t, p, d⟩ := h1.ex
  exact ⟨_, pss_one p, d⟩
def sNever : Env → Out := fun _ => .bad
@[simp] theorem sNever_ (g : Env) : sNever g = .bad := rfl
def sBreak : Env → Out := fun g => .bk g
@[simp] theorem sBreak_ (g : Env) : sBreak g = .bk g := rfl
def sCont : Env → Out := fun g => .ct g
@[simp] theorem sCont_ (g : Env) : sCont g = .ct g := rfl
def sIf (c : Env → Res Bool) (f1 f2 : Env → Out) : Env → Out := fun g => (c g).st g fun k => if k = true then f1 g else f2 g
@[simp] theorem sIf_ (c : Env → Res Bool) (f1 f2 : Env → Out) (g : Env) : sIf c f1 f2 g = (c g).st g fun k => if k = true then f1 g else f2 g := rfl
theorem js_if {c : Expr} {s1 s2 : List Stmt} {f1 f2 : Env → Out} (hc : JT X cls W c ga) (h1 : JSs X cls W s1 f1) (h2 : JSs X cls W s2 f2) : JS X cls W (.If c s1 s2 pos) (sIf ga f1 f2) := by
  obtain ⟨tc, pc, dc⟩ := hc.ex
  obtain ⟨t1, p1, d1⟩ := h1.ex
  obtain ⟨t2, p2, d2⟩ := h2.ex
  refine ⟨_, ps_if pc p1 p2, ?_⟩
  intro D σ F H g O s st p
  rw [sIf_] at p
  refine dc.go s st (fun c e => by rw [e] at p; exact xc_st st p) (fun e => by rw [e] at p; exact p) fun k e F1 H1 x => ?_
  rw [e, Res.st_ok] at p
  have x' : SExt F H O F1 H1 O := x.sext fun a h => .inl h
  cases k with
  | true =>
    rw [if_pos rfl] at p
    rw [if_pos rfl]
    exact d1 D σ F1 H1 g O x.fh (st.ext x) (p.mono x')
  | false =>
    rw [if_neg (by decide)] at p
    rw [if_neg (by decide)]
    exact d2 D σ F1 H1 g O x.fh (st.ext x) (p.mono x')
theorem DE.goS {t : TE} (ha : DE K cls W t fa) {σ : St} {F H : Hp} {g : Env} {O : List Addr} {Q : VK} {Dn : Ends} {f : D → Out} (s : Same F H) (st : Sts K cls F H σ g O)
    (p : PostS K cls W Dn F H O (((fa g).bind kp).st g f)) (hk : ∀ d, (fa g).bind kp = .ok d → PostS K cls W Dn F H O (f d) → ∀ v F' H' O', Ext F H F' H' → Fresh H O' → Ow K cls F' H' v d O' → Q v H') : t σ H Q := by
  refine ha.goO s st (fun c e => ?_) (fun e => by rw [e] at p; exact p) fun d e => ?_
  · have e' : (fa g).bind kp = .xc c := by rw [e]; rfl
    rw [e'] at p
    exact xc_st st p
  · rw [e] at p
    exact hk d e p
def sAsg (i : Nat) (fa : Env → Res D) : Env → Out := fun g => ((fa g).bind kp).st g fun d => .nx (g.set i d)
@[simp] theorem sAsg_ (i : Nat) (fa : Env → Res D) (g : Env) : sAsg i fa g = ((fa g).bind kp).st g fun d => .nx (g.set i d) := rfl
def sAsgF (i : Nat) (fa : Env → Res D) : Env → Out := fun g => ((fa g).bind kp).st g fun d => if nod d = true then .nx (g.set i (frz d)) else .bad
@[simp] theorem sAsgF_ (i : Nat) (fa : Env → Res D) (g : Env) : sAsgF i fa g = ((fa g).bind kp).st g fun d => if nod d = true then .nx (g.set i (frz d)) else .bad := rfl
theorem Sts.put {i : Nat} {v : V} {d : D} {g : Env} {Od : List Addr} (st : Sts K cls F H σ g O) (x : Ext F H F' H') (fr : Fresh H Od) (w : Ow K cls F' H' v d Od) :
    ∃ O'', Sts K cls F' H' (σ.set i (some v)) (g.set i d) O'' ∧ SExt F H O F' H' O'' := by
  have ne : ∀ a ∈ O, H a ≠ none := fun a ha => (st.dom a ha).2
  by_cases hi : i < g.length
  · obtain ⟨O1, h1, h2, h3, h4⟩ := st.at i hi
    obtain ⟨O'', q1, q2⟩ := h3 F' H' v d Od (fun b hb _ => x.get (st.dom b hb).1 (ne b hb)) x.ff w (fun a h1 h2 => absurd (fr a h1) (ne a h2))
    exact ⟨O'', q1, x.sext fun a ha => (q2 a ha).imp id (fr a)⟩
  · have hl := st.len
    rw [List.set_eq_of_length_le (by omega), List.set_eq_of_length_le (by omega)]
    exact ⟨O, st.ext x, x.sext fun a h => .inl h⟩
theorem Sts.putS {i : Nat} {v : V} {d : D} {g : Env} (s : Same F H) (st : Sts K cls F H σ g O) (w : Rp K cls F v d) :
    ∃ O'', Sts K cls F H (σ.set i (some v)) (g.set i d) O'' ∧ SExt F H O F H O'' := st.put (.refl s) Fresh.nil (.sh w)
theorem ds_asg {t : TE} {i : Nat} (ha : DE K cls W t fa) : DS K cls W (tAsg t (gName i)) (sAsg i fa) := by
  intro D σ F H g O s st p
  refine ha.goS s st p fun d e p v F1 H1 O1 x fr w => ?_
  obtain ⟨O'', q1, q2⟩ := st.put (i := i) x fr w
  exact p _ F1 H1 O'' q2 q1
theorem ds_asgF {t : TE} {i : Nat} (ha : DE K cls W t fa) : DS K cls W (tAsg t (gName i)) (sAsgF i fa) := by
  intro D σ F H g O s st p
  refine ha.goS s st p fun d e p v F1 H1 O1 x fr w => ?_
  split at p
  · rename_i n
    have no : ∀ a ∈ O1, F1 a = none := fun a ha => (w.dom a ha).1
    have x2 := addF_ext x fr no
    obtain ⟨O'', q1, q2⟩ := st.put (i := i) x2 Fresh.nil (.sh (w.freeze (addF_same no) addF_at n))
    exact p _ _ H1 O'' q2 q1
  · exact p.elim
theorem js_set {i : Nat} {x : Str} {pos' : Pos} {k : Nat} (c : Cn X W k) (hi : X.N[i]? = some x) (hx : Loc X.env.scope x) (ha : JE X cls W a fa) (hs : swapsWith a (some (.Name x pos')) pos.line X.env = pure false := by rfl)
    (hf : X.fn x = true ∨ X.env.scope.names.lookup x = some .local := by first | exact .inl rfl | exact .inr rfl) : JS X cls W (.Assign [.Name x pos'] a pos) (sAsg i fa) := by
  obtain ⟨t, p, d⟩ := ha.ex
  exact ⟨_, ps_set c.nd hi hx p hs hf, ds_asg d⟩
theorem js_setF {i : Nat} {x : Str} {pos' : Pos} {k : Nat} (c : Cn X W k) (hi : X.N[i]? = some x) (hx : Loc X.env.scope x) (ha : JE X cls W a fa) (hs : swapsWith a (some (.Name x pos')) pos.line X.env = pure false := by rfl)
    (hf : X.fn x = true ∨ X.env.scope.names.lookup x = some .local := by first | exact .inl rfl | exact .inr rfl) : JS X cls W (.Assign [.Name x pos'] a pos) (sAsgF i fa) := by
  obtain ⟨t, p, d⟩ := ha.ex
  exact ⟨_, ps_set c.nd hi hx p hs hf, ds_asgF d⟩
def sRet (fa : Env → Res D) : Env → Out := fun g => ((fa g).bind kp).st g .rt
@[simp] theorem sRet_ (fa : Env → Res D) (g : Env) : sRet fa g = ((fa g).bind kp).st g .rt := rfl
theorem js_ret (ha : JE X cls W a fa) : JS X cls W (.Return (some a) pos) (sRet fa) := by
  obtain ⟨t, p, d⟩ := ha.ex
  refine ⟨_, ps_ret p, ?_⟩
  intro D σ F H g O s st p
  exact d.goS s st p fun d e p v F1 H1 O1 x fr w => p v F1 H1 O1 (x.sext fun a h => .inr (fr a h)) w
def sRetV (i : Nat) : Env → Out := fun g => match g[i]? with
  | some .un => .bad
  | some d => .rt d
  | none => .bad
@[simp] theorem sRetV_ (i : Nat) (g : Env) : sRetV i g = match g[i]? with
  | some .un => .bad
  | some d => .rt d
  | none => .bad := rfl
theorem js_retV (i : Nat) {x : Str} {pos' : Pos} (hN : X.N[i]? = some x := by rfl) (hv : Vis X.env.scope x := by first | exact Or.inl rfl | exact Or.inr (Or.inl rfl) | exact Or.inr (Or.inr rfl)) (hd : (x == ("__debug__" : Str)) = false := by decide)
    (hcd : (x == ("__classdict__" : Str)) = false := by decide) : JS X cls W (.Return (some (.Name x pos')) pos) (sRetV i) := by
  refine ⟨_, ps_ret (pe_var hN hv hd hcd), ?_⟩
  intro D σ F H g O s st p
  rw [sRetV_] at p
  cases e : g[i]? with
  | none => rw [e] at p; exact p.elim
  | some d =>
    have hi : i < g.length := (List.getElem?_eq_some_iff.mp e).1
    obtain ⟨O1, h1, h2, _⟩ := st.at i hi
    rcases h2 with ⟨h2, _⟩ | ⟨v, d', h2, h3, ow⟩
    · rw [e] at h2; cases h2; rw [e] at p; exact p.elim
    · rw [e] at h3; cases h3
      rw [e] at p
      have q : PostS X.K cls W D F H O (.rt d) := by cases d <;> first | exact p | exact p.elim
      exact ⟨v, h2, q v F H O1 ⟨.refl F, s, fun _ _ h _ => h, fun _ h _ _ => h, fun a ha => .inl (h1 a ha)⟩ ow⟩
def sRetN : Env → Out := fun _ => .rt .non
@[simp] theorem sRetN_ (g : Env) : sRetN g = .rt .non := rfl
def sExp (fa : Env → Res D) : Env → Out := fun g => (fa g).st g fun _ => .nx g
@[simp] theorem sExp_ (fa : Env → Res D) (g : Env) : sExp fa g = (fa g).st g fun _ => .nx g := rfl
theorem js_exp (ha : JE X cls W a fa) (hs : swapsWith a none pos.line X.env = pure false := by rfl) : JS X cls W (.Expr a pos) (sExp fa) := by
  obtain ⟨t, p, d⟩ := ha.ex
  refine ⟨_, ps_expr p hs, ?_⟩
  intro D σ F H g O s st p
  rw [sExp_] at p
  exact d.go s st (fun c e => by rw [e] at p; exact xc_st st p) (fun e => by rw [e] at p; exact p) fun d e v F1 H1 x b => by
    rw [e] at p
    exact p σ F1 H1 O (x.sext fun a h => .inl h) (st.ext x)
def frzAt (g : Env) (i : Nat) : Env := match g[i]? with
  | some d => if nod d = true then g.set i (frz d) else g
  | none => g
def sFrz (i : Nat) (f : Env → Out) : Env → Out := fun g => f (frzAt g i)
@[simp] theorem sFrz_ (i : Nat) (f : Env → Out) (g : Env) : sFrz i f g = f (frzAt g i) := rfl
theorem Sts.frzAt (s : Same F H) {g : Env} (i : Nat) (st : Sts K cls F H σ g O) : ∃ F' O', SExt F H O F' H O' ∧ Sts K cls F' H σ (frzAt g i) O' := by
  unfold DL.frzAt
  cases e : g[i]? with
  | none => exact ⟨F, O, .refl s, st⟩
  | some d =>
    simp only []
    by_cases n : nod d = true
    · rw [if_pos n]
      have hi : i < g.length := (List.getElem?_eq_some_iff.mp e).1
      obtain ⟨O1, h1, h2, h3, h4⟩ := st.at i hi
      rcases h2 with ⟨h2, _⟩ | ⟨v, d', h2, h3', ow⟩
      · rw [e] at h2; cases h2
        rw [show frz .un = .un from rfl, set_self e]
        exact ⟨F, O, .refl s, st⟩
      · rw [e] at h3'; cases h3'
        have no : ∀ a ∈ O1, F a = none := fun a ha => (ow.dom a ha).1
        obtain ⟨O'', q1, q2⟩ := h3 (addF F H O1) H v (frz d) [] (fun b hb hn => ⟨rfl, by rw [addF_no hn]; exact (st.dom b hb).1⟩) (addF_same no) (.sh (ow.freeze (addF_same no) addF_at n)) (fun _ h => nomatch h)
        rw [set_self h2] at q1
        refine ⟨_, O'', ⟨addF_same no, fun a o e => ?_, fun _ _ h _ => h, fun a ha hb hc => ?_, fun a ha => .inl ((q2 a ha).resolve_right (fun h => nomatch h))⟩, q1⟩
        · unfold addF at e
          split at e
          · exact e
          · exact s a o e
        · rw [addF_no fun q => hc (h1 a q)]; exact ha
    · rw [if_neg n]; exact ⟨F, O, .refl s, st⟩
end
end DL

namespace DL
open PySem L2
theorem wipe_set {σ : St} {i : Nat} {o : Option V} : ∀ {vs : List Nat}, wipe (σ.set i o) vs = if i ∈ vs then wipe σ vs else (wipe σ vs).set i o
  | [] => by simp [wipe]
  | v :: vs => by
    unfold wipe
    rw [wipe_set (vs := vs)]
    by_cases h : i = v
    · subst h
      simp only [List.mem_cons, true_or, if_true]
      split
      · rfl
      · rw [List.set_set]
    · by_cases h2 : i ∈ vs
      · simp [h2]
      · have : ¬ i ∈ v :: vs := by simp [h, h2]
        rw [if_neg this, if_neg h2, List.set_comm _ _ h]
theorem wipe_in {σ : St} {i : Nat} {o : Option V} {vs : List Nat} (h : i ∈ vs) : wipe (σ.set i o) vs = wipe σ vs := by rw [wipe_set, if_pos h]
theorem wipe_wipe {σ : St} : ∀ {us vs : List Nat}, (∀ i ∈ us, i ∈ vs) → wipe (wipe σ us) vs = wipe σ vs
  | [], _, _ => rfl
  | u :: us, vs, h => by
    show wipe ((wipe σ us).set u none) vs = _
    rw [wipe_in (h u (by simp))]
    exact wipe_wipe fun i hi => h i (by simp [hi])
def wipeG (g : Env) : List Nat → Env
  | [] => g
  | v :: vs => (wipeG g vs).set v .un
@[simp] theorem wipeG_nil (g : Env) : wipeG g [] = g := rfl
@[simp] theorem wipeG_cons (g : Env) (v : Nat) (vs : List Nat) : wipeG g (v :: vs) = (wipeG g vs).set v .un := rfl
section
variable {K : PySem.W.Frag} {cls : Cls} {W : WX} {X : Cx} {F H F' H' F1 H1 : Hp} {O O1 : List Addr} {Q : VK} {σ : St} {a b e tg iter : Expr} {es : List Expr} {fa fb fc : Env → Res D} {ga gb : Env → Res Bool} {fs : Env → Res (List D)} {pos : Pos}
theorem Sts.wipe (s : Same F H) {g : Env} (st : Sts K cls F H σ g O) : ∀ vs : List Nat, ∃ O', Sts K cls F H (wipe σ vs) (wipeG g vs) O' ∧ ∀ a ∈ O', a ∈ O
  | [] => ⟨O, st, fun _ h => h⟩
  | v :: vs => by
    obtain ⟨O', st', h'⟩ := st.wipe s vs
    by_cases hi : v < (wipeG g vs).length
    · obtain ⟨O1, h1, h2, h3, h4⟩ := st'.at v hi
      obtain ⟨O'', q1, q2, _⟩ := h4 F H none (fun b hb _ => ⟨rfl, (st'.dom b hb).1⟩) (.refl F)
      exact ⟨O'', q1, fun a ha => h' a (q2 a ha)⟩
    · have hl := st'.len
      refine ⟨O', ?_, h'⟩
      show Sts K cls F H ((L2.wipe σ vs).set v none) ((wipeG g vs).set v .un) O'
      rw [List.set_eq_of_length_le (by omega), List.set_eq_of_length_le (by omega)]
      exact st'

def DG (K : PySem.W.Frag) (cls : Cls) (t : TG) (f : D → Env → Option Env) (ss : List Nat) : Prop :=
  ∀ v d σ F H g O g' Q, Same F H → Sts K cls F H σ g O → Rp K cls F v d → f d g = some g' →
    (∀ σ' O', SExt F H O F H O' → Sts K cls F H σ' g' O' → (∀ vs : List Nat, (∀ i ∈ ss, i ∈ vs) → wipe σ' vs = wipe σ vs) → Q σ' H) → t v σ H Q
def DGs (K : PySem.W.Frag) (cls : Cls) (t : TGs) (f : List D → Env → Option Env) (ss : List Nat) : Prop :=
  ∀ v d σ F H g O g' Q, Same F H → Sts K cls F H σ g O → Rps K cls F v d → f d g = some g' →
    (∀ σ' O', SExt F H O F H O' → Sts K cls F H σ' g' O' → (∀ vs : List Nat, (∀ i ∈ ss, i ∈ vs) → wipe σ' vs = wipe σ vs) → Q σ' H) → t v σ H Q
structure JG (X : Cx) (cls : Cls) (e : Expr) (f : D → Env → Option Env) (ss : List Nat) : Prop where
  ex : ∃ t, PG X e t ∧ DG X.K cls t f ss
structure JGs (X : Cx) (cls : Cls) (e : List Expr) (f : List D → Env → Option Env) (ss : List Nat) : Prop where
  ex : ∃ t, PGs X e t ∧ DGs X.K cls t f ss
def gtN (i : Nat) : D → Env → Option Env := fun d g => some (g.set i d)
@[simp] theorem gtN_ (i : Nat) (d : D) (g : Env) : gtN i d g = some (g.set i d) := rfl
def gtNil : List D → Env → Option Env := fun ds g => match ds with | [] => some g | _ => none
@[simp] theorem gtNil_nil (g : Env) : gtNil [] g = some g := rfl
def gtCons (f : D → Env → Option Env) (fs : List D → Env → Option Env) : List D → Env → Option Env := fun ds g => match ds with
  | d :: r => match f d g with
    | some g1 => fs r g1
    | none => none
  | [] => none
@[simp] theorem gtCons_cons (f : D → Env → Option Env) (fs : List D → Env → Option Env) (d : D) (r : List D) (g : Env) : gtCons f fs (d :: r) g = match f d g with
    | some g1 => fs r g1
    | none => none := rfl
def gtT (n : Nat) (fs : List D → Env → Option Env) : D → Env → Option Env := fun d g => match d with
  | .tp ds => if ds.length = n then fs ds g else none
  | .ls ds => if ds.length = n then fs ds g else none
  | _ => none
@[simp] theorem gtT_tp (n : Nat) (fs : List D → Env → Option Env) (ds : List D) (g : Env) : gtT n fs (.tp ds) g = if ds.length = n then fs ds g else none := rfl
@[simp] theorem gtT_ls (n : Nat) (fs : List D → Env → Option Env) (ds : List D) (g : Env) : gtT n fs (.ls ds) g = if ds.length = n then fs ds g else none := rfl
theorem jg_name {i : Nat} {x : Str} (hN : X.N.Nodup) (hi : X.N[i]? = some x) (hx : Loc X.env.scope x) (hf : X.fn x = true ∨ X.env.scope.names.lookup x = some .local := by first | exact .inl rfl | exact .inr rfl) : JG X cls (.Name x pos) (gtN i) [i] := by
  refine ⟨_, pg_name hN hi hx hf, ?_⟩
  intro v d σ F H g O g' Q s st r e k
  cases e
  obtain ⟨O', q1, q2⟩ := st.putS (i := i) s r
  exact k _ O' q2 q1 fun vs h => wipe_in (h i (by simp))
theorem jgs_nil : JGs X cls [] gtNil [] := by
  refine ⟨_, pgs_nil, ?_⟩
  intro v d σ F H g O g' Q s st r e k
  cases r with
  | nil => cases e; exact ⟨rfl, k σ O (.refl s) st fun _ _ => rfl⟩
  | cons => cases e
theorem jgs_cons {f : D → Env → Option Env} {fs : List D → Env → Option Env} {ss us : List Nat} (h1 : JG X cls e f ss) (h2 : JGs X cls es fs us) (hs : (assignEach (e :: es) X.env).map (·.2) = assign e X.env :: (assignEach es X.env).map (·.2) := by rfl) :
    JGs X cls (e :: es) (gtCons f fs) (ss ++ us) := by
  obtain ⟨t, p, d⟩ := h1.ex
  obtain ⟨u, q, d'⟩ := h2.ex
  refine ⟨_, pgs_cons p q hs, ?_⟩
  intro v ds σ F H g O g' Q s st r e k
  cases r with
  | nil => cases e
  | cons r1 r2 =>
    rename_i v1 d1 vs1 ds1
    rw [gtCons_cons] at e
    cases e1 : f d1 g with
    | none => rw [e1] at e; cases e
    | some g1 =>
      rw [e1] at e
      refine ⟨v1, vs1, rfl, d v1 d1 σ F H g O g1 _ s st r1 e1 fun σ1 O1 x1 st1 w1 => ?_⟩
      refine d' vs1 ds1 σ1 F H g1 O1 g' _ s st1 r2 e fun σ2 O2 x2 st2 w2 => ?_
      exact k σ2 O2 (x1.trans x2) st2 fun vs h => (w2 vs fun i hi => h i (List.mem_append_right _ hi)).trans (w1 vs fun i hi => h i (List.mem_append_left _ hi))
theorem pg_or {t u : TG} (h : PG X tg t) (h' : PG X tg u) : PG X tg (fun v σ H Q => t v σ H Q ∨ u v σ H Q) :=
  ⟨fun pins s σ H v uu Q I r q => q.elim (h.run pins s σ H v uu Q I r) (h'.run pins s σ H v uu Q I r)⟩
theorem jg_tup {kk n : Nat} {fs : List D → Env → Option Env} {ss : List Nat} (hc : X.calm = true) (h : JGs X cls es fs ss)
    (hn : (assignEach es X.env).length = n := by rfl) (hst : (assignEach es X.env).findIdx? (·.1) = none := by rfl) : JG X cls (.Tuple es kk pos) (gtT n fs) ss := by
  obtain ⟨t, p, d⟩ := h.ex
  refine ⟨_, pg_or (pg_tup hc p hn hst) (pg_lst hc p hn hst), ?_⟩
  intro v dd σ F H g O g' Q s st r e k
  cases r with
  | tp hT hr =>
    rw [gtT_tp] at e
    split at e
    · rename_i hl
      exact .inl ⟨_, _, rfl, sameT s hT, by rw [hr.len]; exact hl, d _ _ σ F H g O g' Q s st hr e k⟩
    · cases e
  | ls hT hr =>
    rw [gtT_ls] at e
    split at e
    · rename_i hl
      exact .inr ⟨_, _, rfl, SqL.of (s _ _ hT), by rw [hr.len]; exact hl, d _ _ σ F H g O g' Q s st hr e k⟩
    · cases e
  | _ => cases e
def sAsgT (tg : D → Env → Option Env) (fa : Env → Res D) : Env → Out := fun g => ((fa g).bind kp).st g fun d => if nod d = true then match tg (frz d) g with
  | some g' => .nx g'
  | none => .bad else .bad
@[simp] theorem sAsgT_ (tg : D → Env → Option Env) (fa : Env → Res D) (g : Env) : sAsgT tg fa g = ((fa g).bind kp).st g fun d => if nod d = true then match tg (frz d) g with
  | some g' => .nx g'
  | none => .bad else .bad := rfl
theorem js_asgT {ft : D → Env → Option Env} {ss : List Nat} (ha : JE X cls W a fa) (hg : JG X cls tg ft ss) (hs : swapsWithSole [tg] a pos.line X.env = pure false := by rfl) (hw : swappedStores [tg] a X.env = pure none := by rfl)
    (h1 : (assignEach [tg] X.env).map (·.2) = [assign tg X.env] := by rfl) : JS X cls W (.Assign [tg] a pos) (sAsgT ft fa) := by
  obtain ⟨t, p, d⟩ := ha.ex
  obtain ⟨u, q, d'⟩ := hg.ex
  refine ⟨_, ps_asg p q hs hw h1, ?_⟩
  intro D σ F H g O s st p
  rw [sAsgT_] at p
  refine d.goS s st p fun dd e p v F1 H1 O1 x fr w => ?_
  split at p
  · rename_i n
    have no : ∀ a ∈ O1, F1 a = none := fun a ha => (w.dom a ha).1
    have x2 := addF_ext x fr no
    have r := w.freeze (addF_same no) addF_at n
    cases eo : ft (frz dd) g with
    | none => rw [eo] at p; exact p.elim
    | some g' =>
      rw [eo] at p
      refine d' v (frz dd) σ _ H1 g O g' _ x2.fh (st.ext x2) r eo fun σ' O' y st' _ => ?_
      exact p σ' _ H1 O' ((x2.sext fun a h => .inl h).trans y) st'
  · exact p.elim
def sPar (i j : Nat) (fs : Env → Res (List D)) : Env → Out := fun g => (fs g).st g fun ds => if nods ds = true then match frzs ds with
  | [d, d'] => .nx ((g.set i d).set j d')
  | _ => .bad else .bad
@[simp] theorem sPar_ (i j : Nat) (fs : Env → Res (List D)) (g : Env) : sPar i j fs g = (fs g).st g fun ds => if nods ds = true then match frzs ds with
  | [d, d'] => .nx ((g.set i d).set j d')
  | _ => .bad else .bad := rfl
end
end DL

namespace DL
open PySem L2
section
variable {K : PySem.W.Frag} {cls : Cls} {W : WX} {X : Cx} {F H F' H' F1 H1 : Hp} {O O1 : List Addr} {Q : VK} {σ : St} {a b e tg iter : Expr} {es : List Expr} {fa fb fc : Env → Res D} {ga gb : Env → Res Bool} {fs : Env → Res (List D)} {pos : Pos}
structure Feeds (K : PySem.W.Frag) (cls : Cls) (F : Hp) (J : It) (ds : List D) : Prop where
  go : ∀ i d, ds[i]? = some d → ∀ F' H', Same F F' → Same F' H' → J.go i H' ∧ ∀ x H'', J.yld i H' x H'' → ∃ F'', Ext F' H' F'' H'' ∧ Rp K cls F'' x d
  stop : ∀ F' H', Same F F' → Same F' H' → J.stop ds.length H'
def PostI (K : PySem.W.Frag) (cls : Cls) (W : WX) (σ : St) (F H : Hp) (R : It → Hp → Prop) : Res (List D) → Prop
  | .ok ds => ∀ J F' H', Ext F H F' H' → Feeds K cls F' J ds → R J H'
  | .xc c => ∀ F' H', Ext F H F' H' → W (excV cls c) none σ H'
  | .bad => False
def DI (K : PySem.W.Frag) (cls : Cls) (W : WX) (wi : TI) (f : Env → Res (List D)) : Prop :=
  ∀ σ F H g O (R : It → Hp → Prop), Same F H → Sts K cls F H σ g O → PostI K cls W σ F H R (f g) → wi σ H R
structure JI (X : Cx) (cls : Cls) (W : WX) (tg e : Expr) (f : Env → Res (List D)) : Prop where
  ex : ∃ wi, PI X tg e wi ∧ DI X.K cls W wi f
theorem pi_or {w1 w2 : TI} (h1 : PI X tg iter w1) (h2 : PI X tg iter w2) : PI X tg iter (fun σ H R => w1 σ H R ∨ w2 σ H R) :=
  ⟨fun pins s σ H R I q => q.elim (h1.run pins s σ H R I) (h2.run pins s σ H R I)⟩
theorem feeds_list {a : Addr} {vs : List V} {ds : List D} (h : SqL K F a vs) (r : Rps K cls F vs ds) : Feeds K cls F (Itl K a) ds where
  go := fun i d e F' H' s1 s2 => by
    obtain ⟨v, h1, h2⟩ := r.get e
    have h' : SqL K H' a vs := (s1.trans s2).seq h
    refine ⟨⟨vs, v, h', h1⟩, fun x H'' y => ?_⟩
    obtain ⟨e1, y⟩ := y
    subst e1
    have := y vs h'
    rw [h1] at this
    cases this
    exact ⟨F', .refl s2, h2.mono s1⟩
  stop := fun F' H' s1 s2 => ⟨vs, (s1.trans s2).seq h, by rw [r.len]; exact Nat.le_refl _⟩
theorem feeds_tup {a : Addr} {vs : List V} {ds : List D} (h : SqT K F a vs) (r : Rps K cls F vs ds) : Feeds K cls F (Itt K a) ds where
  go := fun i d e F' H' s1 s2 => by
    obtain ⟨v, h1, h2⟩ := r.get e
    have h' : SqT K H' a vs := sameT (s1.trans s2) h
    refine ⟨⟨vs, v, h', h1⟩, fun x H'' y => ?_⟩
    obtain ⟨e1, y⟩ := y
    subst e1
    have := y vs h'
    rw [h1] at this
    cases this
    exact ⟨F', .refl s2, h2.mono s1⟩
  stop := fun F' H' s1 s2 => ⟨vs, sameT (s1.trans s2) h, by rw [r.len]; exact Nat.le_refl _⟩
@[simp] def lsS : D → Option (List D)
  | .ls xs => some xs
  | .sc xs => some xs
  | _ => none
theorem Bo.lsS {v : V} {d : D} {xs : List D} (b : Bo K cls F H v d) (e : lsS d = some xs) : ∃ a vs, v = .ref a ∧ SqL K F a vs ∧ Rps K cls F vs xs := by
  cases b with
  | sh r =>
    cases r <;> simp at e
    · subst e; exact ⟨_, _, rfl, by assumption, by assumption⟩
    · subst e; exact ⟨_, _, rfl, SqL.of (by assumption), by assumption⟩
  | bo => simp at e
  | bd => simp at e
  | bb => simp at e
@[simp] def sqS : D → Option (List D)
  | .ls xs => some xs
  | .sc xs => some xs
  | .tp xs => some xs
  | _ => none
def iSeq (fa : Env → Res D) : Env → Res (List D) := fun g => (fa g).bind fun a => .of (sqS (opd a))
@[simp] theorem iSeq_ (fa : Env → Res D) (g : Env) : iSeq fa g = (fa g).bind fun a => .of (sqS (opd a)) := rfl
theorem ji_seq (ha : JE X cls W iter fa) : JI X cls W tg iter (iSeq fa) := by
  obtain ⟨t, p, d⟩ := ha.ex
  refine ⟨_, pi_or (pi_list p) (pi_tup p), ?_⟩
  intro σ F H g O R s st p
  rw [iSeq_] at p
  cases ea : fa g with
  | xc c =>
    rw [ea] at p
    exact .inl (d.go s st (fun c e => by rw [ea] at e; cases e; exact p) (fun e => by rw [ea] at e; cases e) fun d e => by rw [ea] at e; cases e)
  | bad => rw [ea] at p; exact p.elim
  | ok dd =>
    rw [ea] at p
    simp only [Res.bind] at p
    have side : (∃ xs, lsS (opd dd) = some xs ∧ sqS (opd dd) = some xs) ∨ (∃ xs, tpv (opd dd) = some xs ∧ sqS (opd dd) = some xs) ∨ sqS (opd dd) = none := by
      cases opd dd <;> simp
    rcases side with ⟨xs, e1, e2⟩ | ⟨xs, e1, e2⟩ | e2
    · rw [e2] at p
      refine .inl (d.go s st (fun c e => by rw [ea] at e; cases e) (fun e => by rw [ea] at e; cases e) fun d e v F1 H1 x b => ?_)
      rw [ea] at e; cases e
      obtain ⟨a, vs, rfl, h, r⟩ := b.lsS e1
      exact ⟨a, rfl, ⟨vs, x.fh.seq h⟩, p _ F1 H1 x (feeds_list h r)⟩
    · rw [e2] at p
      refine .inr (d.go s st (fun c e => by rw [ea] at e; cases e) (fun e => by rw [ea] at e; cases e) fun d e v F1 H1 x b => ?_)
      rw [ea] at e; cases e
      obtain ⟨a, vs, rfl, h, h', r⟩ := b.tpv x.fh e1
      exact ⟨a, rfl, ⟨vs, h⟩, p _ F1 H1 x (feeds_tup h' r)⟩
    · rw [e2] at p; exact p.elim
def rng (lo : Int) (n : Nat) : List D := (List.range n).map fun i : Nat => D.int (lo + (i : Int))
theorem rng_len (lo : Int) (n : Nat) : (rng lo n).length = n := by unfold rng; simp
theorem rng_get {lo : Int} {n i : Nat} {d : D} (h : (rng lo n)[i]? = some d) : i < n ∧ d = .int (lo + (i : Int)) := by
  unfold rng at h
  rw [List.getElem?_map] at h
  by_cases hi : i < n
  · rw [List.getElem?_range hi] at h
    cases h
    exact ⟨hi, rfl⟩
  · rw [List.getElem?_eq_none (by simpa using hi)] at h; cases h
theorem feeds_rng (lo : Int) (n : Nat) : Feeds K cls F (Itr lo n) (rng lo n) where
  go := fun i d e F' H' s1 s2 => by
    obtain ⟨h1, rfl⟩ := rng_get e
    refine ⟨h1, fun x H'' y => ?_⟩
    obtain ⟨e1, e2⟩ := y
    subst e1 e2
    exact ⟨F', .refl s2, .int _⟩
  stop := fun F' H' s1 s2 => by rw [rng_len]; exact Nat.le_refl _
def rgOk (i : Int) : Prop := i.natAbs ≤ 1000000000
theorem rgOk.lo {i : Int} (h : rgOk i) : -(2 ^ 62) ≤ i := by unfold rgOk at h; omega
theorem rgOk.hi {i : Int} (h : rgOk i) : i < 2 ^ 62 := by unfold rgOk at h; omega
instance (i : Int) : Decidable (rgOk i) := by unfold rgOk; infer_instance
theorem rgOk_of {i : Int} (h : -1000000000 ≤ i) (h' : i ≤ 1000000000) : rgOk i := by unfold rgOk; omega
def iRg1 (fs : Env → Res (List D)) : Env → Res (List D) := fun g => (fs g).bind fun ds => match ds with
  | [.int j] => if rgOk j then .ok (rng 0 j.toNat) else .bad
  | _ => .bad
def iRg2 (fs : Env → Res (List D)) : Env → Res (List D) := fun g => (fs g).bind fun ds => match ds with
  | [.int i, .int j] => if rgOk i ∧ rgOk j then .ok (rng i (j - i).toNat) else .bad
  | _ => .bad
@[simp] theorem iRg1_ (fs : Env → Res (List D)) (g : Env) : iRg1 fs g = (fs g).bind fun ds => match ds with
  | [.int j] => if rgOk j then .ok (rng 0 j.toNat) else .bad
  | _ => .bad := rfl
@[simp] theorem iRg2_ (fs : Env → Res (List D)) (g : Env) : iRg2 fs g = (fs g).bind fun ds => match ds with
  | [.int i, .int j] => if rgOk i ∧ rgOk j then .ok (rng i (j - i).toNat) else .bad
  | _ => .bad := rfl
theorem ji_rg1 {p : Pos} (hm : X.mg "range" = none) (ha : JA X cls W [a] fs) (hg : Gl X "range" := by rfl) (hs : starEach [a] X.env = [(false, eval a X.env)] := by rfl) : JI X cls W tg (.Call (.Name "range" p) [a] [] pos) (iRg1 fs) := by
  obtain ⟨t, p, d⟩ := ha.ex
  refine ⟨_, pi_range1 hg hm p hs, ?_⟩
  intro σ F H g O R s st p
  rw [iRg1_] at p
  refine d.go s st (fun c e => by rw [e] at p; exact p) (fun e => by rw [e] at p; exact p) fun ds e vs F1 H1 x b => ?_
  rw [e] at p
  simp only [Res.bind] at p
  split at p
  · rename_i j
    split at p
    · rename_i hj
      obtain ⟨v, rfl, b1⟩ := b.one
      obtain rfl := b1.int
      exact ⟨j, rfl, hj.lo, hj.hi, p _ F1 H1 x (feeds_rng 0 j.toNat)⟩
    · exact p.elim
  · exact p.elim
theorem ji_rg2 {p : Pos} (hm : X.mg "range" = none) (ha : JA X cls W [a, b] fs) (hg : Gl X "range" := by rfl) (hs : starEach [a, b] X.env = [(false, eval a X.env), (false, eval b X.env)] := by rfl) (hs2 : starEach [b] X.env = [(false, eval b X.env)] := by rfl) :
    JI X cls W tg (.Call (.Name "range" p) [a, b] [] pos) (iRg2 fs) := by
  obtain ⟨t, p, d⟩ := ha.ex
  refine ⟨_, pi_range2 hg hm p hs hs2, ?_⟩
  intro σ F H g O R s st p
  rw [iRg2_] at p
  refine d.go s st (fun c e => by rw [e] at p; exact p) (fun e => by rw [e] at p; exact p) fun ds e vs F1 H1 x b => ?_
  rw [e] at p
  simp only [Res.bind] at p
  split at p
  · rename_i i j
    split at p
    · rename_i hj
      obtain ⟨v, v', rfl, b1, b2⟩ := b.two
      obtain rfl := b1.int
      obtain rfl := b2.int
      exact ⟨i, j, rfl, ⟨hj.1.lo, hj.1.hi, hj.2.lo, hj.2.hi⟩, p _ F1 H1 x (feeds_rng i _)⟩
    · exact p.elim
  · exact p.elim
def enm (i : Nat) : List D → List D
  | [] => []
  | d :: ds => .tp [.int (i : Int), d] :: enm (i + 1) ds
theorem enm_len : ∀ (ds : List D) (i : Nat), (enm i ds).length = ds.length
  | [], _ => rfl
  | d :: ds, i => by simp [enm, enm_len ds]
theorem enm_get : ∀ {ds : List D} {j i : Nat} {d : D}, (enm j ds)[i]? = some d → ∃ e, ds[i]? = some e ∧ d = .tp [.int ((j + i : Nat) : Int), e]
  | [], _, _, _, h => by simp [enm] at h
  | d :: ds, j, 0, _, h => by simp [enm] at h; exact ⟨d, rfl, by simp [← h]⟩
  | d :: ds, j, i + 1, d2, h => by
    have h' : (enm (j + 1) ds)[i]? = some d2 := by simpa [enm] using h
    obtain ⟨e, h1, h2⟩ := enm_get h'
    exact ⟨e, by simpa using h1, by rw [h2, show j + 1 + i = j + (i + 1) by omega]⟩
theorem feeds_enum {a : Addr} {vs : List V} {ds : List D} (h : SqL K F a vs) (r : Rps K cls F vs ds) : Feeds K cls F (Ite K a) (enm 0 ds) where
  go := fun i d e F' H' s1 s2 => by
    obtain ⟨d', e1, rfl⟩ := enm_get e
    obtain ⟨v, h1, h2⟩ := r.get e1
    have h' : SqL K H' a vs := (s1.trans s2).seq h
    refine ⟨⟨vs, v, h', h1⟩, fun x H'' y => ?_⟩
    obtain ⟨T, w, e1, e2, e3, y⟩ := y
    subst e1 e3
    have := y vs h'
    rw [h1] at this
    cases this
    have px := Ext.put (o := .tup [.int ((0 + i : Nat) : Int), v]) s2 e2
    rw [Nat.zero_add] at px ⊢
    exact ⟨_, px, .tp (SqT.of upd_same) (.cons (.int _) (.cons (h2.mono (s1.trans px.ff)) .nil))⟩
  stop := fun F' H' s1 s2 => ⟨vs, (s1.trans s2).seq h, by rw [enm_len, r.len]; exact Nat.le_refl _⟩
def iEnm (fs : Env → Res (List D)) : Env → Res (List D) := fun g => (fs g).bind fun ds => match ds with
  | [d] => (Res.of (lsS d)).bind fun xs => .ok (enm 0 xs)
  | _ => .bad
@[simp] theorem iEnm_ (fs : Env → Res (List D)) (g : Env) : iEnm fs g = (fs g).bind fun ds => match ds with
  | [d] => (Res.of (lsS d)).bind fun xs => .ok (enm 0 xs)
  | _ => .bad := rfl
theorem ji_enm {p tpos : Pos} {elts : List Expr} {kk : Nat} (hm : X.mg "enumerate" = none) (ha : JA X cls W [a] fs) (hg : Gl X "enumerate" := by rfl) (hs : starEach [a] X.env = [(false, eval a X.env)] := by rfl) :
    JI X cls W (.Tuple elts kk tpos) (.Call (.Name "enumerate" p) [a] [] pos) (iEnm fs) := by
  obtain ⟨t, p, d⟩ := ha.ex
  refine ⟨_, pi_enum hg hm p hs, ?_⟩
  intro σ F H g O R s st p
  rw [iEnm_] at p
  refine d.go s st (fun c e => by rw [e] at p; exact p) (fun e => by rw [e] at p; exact p) fun ds e vs F1 H1 x b => ?_
  rw [e] at p
  simp only [Res.bind] at p
  split at p
  · rename_i d1
    cases e1 : lsS d1 with
    | none => rw [e1] at p; exact p.elim
    | some xs =>
      rw [e1] at p
      simp only [Res.of] at p
      obtain ⟨v, rfl, b1⟩ := b.one
      obtain ⟨a, vs, rfl, h, r⟩ := b1.lsS e1
      exact ⟨a, vs, rfl, x.fh.seq h, p _ F1 H1 x (feeds_enum h r)⟩
  · exact p.elim
def zipD : List D → List D → List D
  | a :: xs, b :: ys => .tp [a, b] :: zipD xs ys
  | _, _ => []
def iZp (fs : Env → Res (List D)) : Env → Res (List D) := fun g => (fs g).bind fun ds => match ds with
  | [d, e] => (Res.of (lsS d)).bind fun xs => (Res.of (lsS e)).bind fun ys => .ok (zipD xs ys)
  | _ => .bad
@[simp] theorem iZp_ (fs : Env → Res (List D)) (g : Env) : iZp fs g = (fs g).bind fun ds => match ds with
  | [d, e] => (Res.of (lsS d)).bind fun xs => (Res.of (lsS e)).bind fun ys => .ok (zipD xs ys)
  | _ => .bad := rfl
def forL (tg : D → Env → Option Env) (b : Env → Out) : List D → Env → Out
  | [], g => .nx g
  | d :: ds, g => match tg d g with
    | none => .bad
    | some g1 => match b g1 with
      | .nx g' => forL tg b ds g'
      | .ct g' => forL tg b ds g'
      | .bk g' => .nx g'
      | o => o
@[simp] theorem forL_nil (tg : D → Env → Option Env) (b : Env → Out) (g : Env) : forL tg b [] g = .nx g := rfl
theorem forL_cons (tg : D → Env → Option Env) (b : Env → Out) (d : D) (ds : List D) (g : Env) : forL tg b (d :: ds) g = match tg d g with
    | none => .bad
    | some g1 => match b g1 with
      | .nx g' => forL tg b ds g'
      | .ct g' => forL tg b ds g'
      | .bk g' => .nx g'
      | o => o := rfl
def sFor (fi : Env → Res (List D)) (tg : D → Env → Option Env) (b : Env → Out) : Env → Out := fun g => (fi g).st g fun ds => forL tg b ds g
@[simp] theorem sFor_ (fi : Env → Res (List D)) (tg : D → Env → Option Env) (b : Env → Out) (g : Env) : sFor fi tg b g = (fi g).st g fun ds => forL tg b ds g := rfl
theorem ds_for {wi : TI} {t : TG} {tb : TS} {ft : D → Env → Option Env} {fbo : Env → Out} {ss : List Nat} (hi : DI K cls W wi fs) (hg : DG K cls t ft ss) (hb : DS K cls W tb fbo) : DS K cls W (tFor wi t tb) (sFor fs ft fbo) := by
  intro D σ F H g O s st p
  rw [sFor_] at p
  refine hi σ F H g O _ s st ?_
  cases e : fs g with
  | bad => rw [e] at p; exact p
  | xc c => rw [e] at p; exact xc_st st p
  | ok ds =>
    rw [e, Res.st_ok] at p
    intro J F1 H1 x1 fd
    have x1' : SExt F H O F1 H1 O := x1.sext fun a h => .inl h
    refine ⟨fun i m σ2 H2 => m = ds.length - i ∧ i ≤ ds.length ∧ ∃ F2 g2 O2, SExt F1 H1 O F2 H2 O2 ∧ Sts K cls F2 H2 σ2 g2 O2 ∧ PostS K cls W D F1 H1 O (forL ft fbo (ds.drop i) g2),
      ⟨ds.length, rfl, Nat.zero_le _, F1, g, O, .refl x1.fh, st.ext x1, by rw [List.drop_zero]; exact p.mono x1'⟩, ?_⟩
    rintro i m σ2 H2 ⟨rfl, hi, F2, g2, O2, x2, st2, p2⟩
    by_cases hlt : i < ds.length
    · have ed : ds.drop i = ds[i] :: ds.drop (i + 1) := List.drop_eq_getElem_cons hlt
      rw [ed, forL_cons] at p2
      obtain ⟨g0, y0⟩ := fd.go i ds[i] (by simp [hlt]) F2 H2 x2.ff x2.fh
      have nxt : ∀ {g' : Env} {F3 H3 O3 : _} {σ3 : St}, SExt F1 H1 O F3 H3 O3 → Sts K cls F3 H3 σ3 g' O3 → PostS K cls W D F1 H1 O (forL ft fbo (ds.drop (i + 1)) g') →
          ∃ m', m' < ds.length - i ∧ m' = ds.length - (i + 1) ∧ i + 1 ≤ ds.length ∧ ∃ F2 g2 O2, SExt F1 H1 O F2 H3 O2 ∧ Sts K cls F2 H3 σ3 g2 O2 ∧ PostS K cls W D F1 H1 O (forL ft fbo (ds.drop (i + 1)) g2) :=
        fun {g' F3 H3 O3 σ3} x st' q => ⟨ds.length - (i + 1), by omega, rfl, hlt, F3, g', O3, x, st', q⟩
      refine .inr ⟨g0, fun σ3 H3 => ∃ F3 g' O3, SExt F1 H1 O F3 H3 O3 ∧ Sts K cls F3 H3 σ3 g' O3 ∧ PostS K cls W D F1 H1 O (forL ft fbo (ds.drop (i + 1)) g'), fun σ3 H3 ⟨F3, g', O3, x, st', q⟩ => nxt x st' q, fun v H3 yv => ?_⟩
      obtain ⟨F3, x3, rv⟩ := y0 v H3 yv
      cases et : ft ds[i] g2 with
      | none => rw [et] at p2; exact p2.elim
      | some g3 =>
        rw [et] at p2
        simp only [] at p2
        refine hg v ds[i] σ2 F3 H3 g2 O2 g3 _ x3.fh (st2.ext x3) rv et fun σ4 O4 x4 st4 _ => ?_
        have x34 : SExt F1 H1 O F3 H3 O4 := x2.trans ((x3.sext fun a h => .inl h).trans x4)
        refine hb _ σ4 F3 H3 g3 O4 x3.fh st4 ?_
        cases eb : fbo g3 with
        | nx g' => rw [eb] at p2; exact fun σ5 F5 H5 O5 x5 st5 => ⟨F5, g', O5, x34.trans x5, st5, p2⟩
        | ct g' => rw [eb] at p2; exact fun σ5 F5 H5 O5 x5 st5 => ⟨F5, g', O5, x34.trans x5, st5, p2⟩
        | bk g' => rw [eb] at p2; exact fun σ5 F5 H5 O5 x5 st5 => p2 σ5 F5 H5 O5 (x34.trans x5) st5
        | rt d => rw [eb] at p2; exact fun v F5 H5 O5 x5 w => p2 v F5 H5 O5 (x34.trans x5) w
        | xc c g' => rw [eb] at p2; exact fun σ5 F5 H5 O5 x5 st5 => p2 σ5 F5 H5 O5 (x34.trans x5) st5
        | bad => rw [eb] at p2; exact p2
    · have ei : i = ds.length := by omega
      subst ei
      rw [List.drop_length] at p2
      exact .inl ⟨fd.stop F2 H2 x2.ff x2.fh, p2 σ2 F2 H2 O2 x2 st2⟩
theorem js_for {body : List Stmt} {ft : D → Env → Option Env} {fbo : Env → Out} {ss : List Nat} {k : Nat} (c : Cn X W k) (hi : JI X cls W tg iter fs) (hg : JG X cls tg ft ss) (hb : JSs X cls W body fbo)
    (hs : ∀ x, foldedSetIterable iter X.env x = pure x := by intro _; rfl) : JS X cls W (.For tg iter body [] pos) (sFor fs ft fbo) := by
  obtain ⟨wi, p, d⟩ := hi.ex
  obtain ⟨t, q, d'⟩ := hg.ex
  obtain ⟨tb, r, d''⟩ := hb.ex
  exact ⟨_, ps_for c.hp c.calm p q r hs, ds_for d d' d''⟩

def whileN (c : Env → Res Bool) (b : Env → Out) : Nat → Env → Out
  | 0, _ => .bad
  | n + 1, g => (c g).st g fun k => if k = true then match b g with
      | .nx g' => whileN c b n g'
      | .ct g' => whileN c b n g'
      | .bk g' => .nx g'
      | o => o
    else .nx g
theorem whileN_succ (c : Env → Res Bool) (b : Env → Out) (n : Nat) (g : Env) : whileN c b (n + 1) g = (c g).st g fun k => if k = true then match b g with
      | .nx g' => whileN c b n g'
      | .ct g' => whileN c b n g'
      | .bk g' => .nx g'
      | o => o
    else .nx g := rfl
def fuel : Nat := 1000000000
def sWhile (c : Env → Res Bool) (b : Env → Out) : Env → Out := fun g => whileN c b fuel g
@[simp] theorem sWhile_ (c : Env → Res Bool) (b : Env → Out) (g : Env) : sWhile c b g = whileN c b fuel g := rfl
theorem ds_while {tc : TT} {tb : TS} {fbo : Env → Out} (hc : DT K cls W tc ga) (hb : DS K cls W tb fbo) : DS K cls W (tWhile tc tb) (sWhile ga fbo) := by
  intro D σ F H g O s st p
  rw [sWhile_] at p
  refine ⟨fun m σ2 H2 => ∃ F2 g2 O2, SExt F H O F2 H2 O2 ∧ Sts K cls F2 H2 σ2 g2 O2 ∧ PostS K cls W D F H O (whileN ga fbo m g2), ⟨fuel, F, g, O, .refl s, st, p⟩, ?_⟩
  rintro m σ2 H2 ⟨F2, g2, O2, x2, st2, p2⟩
  cases m with
  | zero => exact p2.elim
  | succ m =>
    rw [whileN_succ] at p2
    refine hc.go x2.fh st2 (fun c e F' H' y => by rw [e] at p2; exact p2 σ2 F' H' O2 (x2.trans (y.sext fun a h => .inl h)) (st2.ext y)) (fun e => by rw [e] at p2; exact p2) fun k e F3 H3 y => ?_
    rw [e, Res.st_ok] at p2
    have x3 : SExt F H O F3 H3 O2 := x2.trans (y.sext fun a h => .inl h)
    cases k with
    | true =>
      rw [if_pos rfl] at p2
      rw [if_pos rfl]
      refine ⟨fun σ3 H3 => ∃ F3 g' O3, SExt F H O F3 H3 O3 ∧ Sts K cls F3 H3 σ3 g' O3 ∧ PostS K cls W D F H O (whileN ga fbo m g'), fun σ3 H3 ⟨F3, g', O3, x, st', q⟩ => ⟨m, Nat.lt_succ_self m, F3, g', O3, x, st', q⟩, ?_⟩
      refine hb _ σ2 F3 H3 g2 O2 y.fh (st2.ext y) ?_
      cases eb : fbo g2 with
      | nx g' => rw [eb] at p2; exact fun σ5 F5 H5 O5 x5 st5 => ⟨F5, g', O5, x3.trans x5, st5, p2⟩
      | ct g' => rw [eb] at p2; exact fun σ5 F5 H5 O5 x5 st5 => ⟨F5, g', O5, x3.trans x5, st5, p2⟩
      | bk g' => rw [eb] at p2; exact fun σ5 F5 H5 O5 x5 st5 => p2 σ5 F5 H5 O5 (x3.trans x5) st5
      | rt d => rw [eb] at p2; exact fun v F5 H5 O5 x5 w => p2 v F5 H5 O5 (x3.trans x5) w
      | xc c g' => rw [eb] at p2; exact fun σ5 F5 H5 O5 x5 st5 => p2 σ5 F5 H5 O5 (x3.trans x5) st5
      | bad => rw [eb] at p2; exact p2
    | false =>
      rw [if_neg (by decide)] at p2
      rw [if_neg (by decide)]
      exact p2 σ2 F3 H3 O2 x3 (st2.ext y)
theorem js_while {c : Expr} {body : List Stmt} {fbo : Env → Out} {k : Nat} (n : Cn X W k) (hc : JT X cls W c ga) (hb : JSs X cls W body fbo) : JS X cls W (.While c body [] pos) (sWhile ga fbo) := by
  obtain ⟨tc, p, d⟩ := hc.ex
  obtain ⟨tb, q, d'⟩ := hb.ex
  exact ⟨_, ps_while n.hp p q, ds_while d d'⟩

def lcL (tg : D → Env → Option Env) (tt : Env → Res Bool) (te : Env → Res D) (g : Env) : List D → Res (List D)
  | [] => .ok []
  | d :: ds => match tg d g with
    | none => .bad
    | some g1 => (tt g1).bind fun b => if b = true then ((te g1).bind kp).bind fun y => (lcL tg tt te g ds).bind fun r => .ok (y :: r) else lcL tg tt te g ds
@[simp] theorem lcL_nil (tg : D → Env → Option Env) (tt : Env → Res Bool) (te : Env → Res D) (g : Env) : lcL tg tt te g [] = .ok [] := rfl
theorem lcL_cons (tg : D → Env → Option Env) (tt : Env → Res Bool) (te : Env → Res D) (g : Env) (d : D) (ds : List D) : lcL tg tt te g (d :: ds) = match tg d g with
    | none => .bad
    | some g1 => (tt g1).bind fun b => if b = true then ((te g1).bind kp).bind fun y => (lcL tg tt te g ds).bind fun r => .ok (y :: r) else lcL tg tt te g ds := rfl
def eLc (fi : Env → Res (List D)) (own : List Nat) (tg : D → Env → Option Env) (tt : Env → Res Bool) (te : Env → Res D) : Env → Res D := fun g => (fi g).bind fun ds => if ds.length ≤ lim then
  match lcL tg tt te (wipeG g own) ds with
  | .ok r => .ok (.ol r)
  | _ => .bad
  else .bad
@[simp] theorem eLc_ (fi : Env → Res (List D)) (own : List Nat) (tg : D → Env → Option Env) (tt : Env → Res Bool) (te : Env → Res D) (g : Env) : eLc fi own tg tt te g = (fi g).bind fun ds => if ds.length ≤ lim then
  match lcL tg tt te (wipeG g own) ds with
  | .ok r => .ok (.ol r)
  | _ => .bad
  else .bad := rfl
def tYesG : Env → Res Bool := fun _ => .ok true
@[simp] theorem tYesG_ (g : Env) : tYesG g = .ok true := rfl
theorem Ows.snoc {vs : List V} {ds : List D} {O1 O2 : List Addr} {v : V} {d : D} (h : Ows K cls F H vs ds O1) (w : Ow K cls F H v d O2) (dj : ∀ a ∈ O1, a ∉ O2) : Ows K cls F H (vs ++ [v]) (ds ++ [d]) (O1 ++ O2) := by
  induction ds generalizing vs O1 with
  | nil => cases h; exact .cons w .nil (fun _ _ q => nomatch q) (by simp)
  | cons d' ds ih =>
    cases h with
    | cons a b dj' e =>
      subst e
      refine .cons a (ih b fun x hx => dj x (List.mem_append_right _ hx)) (fun x h1 h2 => ?_) (by simp)
      rcases List.mem_append.mp h2 with q | q
      · exact dj' x h1 q
      · exact dj x (List.mem_append_left _ h1) q
theorem de_lc {wi : TI} {t : TG} {tt : TT} {te : TE} {ft : D → Env → Option Env} {gt : Env → Res Bool} {fe : Env → Res D} {ss own : List Nat} (hi : DI K cls W wi fs) (hg : DG K cls t ft ss) (ht : DT K cls W0 tt gt) (he : DE K cls W0 te fe) (hss : ∀ i ∈ ss, i ∈ own) :
    DE K cls W (tLc wi t tt te own) (eLc fs own ft gt fe) := by
  intro σ F H g O Q s st p
  rw [eLc_] at p
  refine hi σ F H g O _ s st ?_
  cases e : fs g with
  | bad => rw [e] at p; exact p
  | xc c => rw [e] at p; exact p
  | ok ds =>
    rw [e] at p
    simp only [Res.bind] at p
    intro J F1 H1 x1 fd A hA
    by_cases hlen : ds.length ≤ lim
    · rw [if_pos hlen] at p
      -- the env within the block
      obtain ⟨Ow1, stw, hw⟩ := (st.ext x1).wipe x1.fh own
      have fA : F1 A = none := by
        cases q : F1 A with
        | none => rfl
        | some u => rw [x1.fh A u q] at hA; cases hA
      have sA : Same H1 (upd H1 A (.lst [])) := upd_same' hA
      let Inv := fun (i : Nat) (H2 : Hp) => ∃ F2 acc es' O2, Ext F1 H1 F2 H2 ∧ H2 A = some (.lst acc) ∧ F2 A = none ∧ A ∉ O2 ∧ Fresh H1 O2 ∧ Ows K cls F2 H2 acc es' O2 ∧ es'.length ≤ i ∧
        ∃ r, lcL ft gt fe (wipeG g own) (ds.drop i) = .ok r ∧ lcL ft gt fe (wipeG g own) ds = .ok (es' ++ r)
      cases er : lcL ft gt fe (wipeG g own) ds with
      | bad => rw [er] at p; exact p.elim
      | xc c => rw [er] at p; exact p.elim
      | ok r0 =>
        rw [er] at p
        simp only [] at p
        refine ⟨fun i m H2 => m = ds.length - i ∧ i ≤ ds.length ∧ Inv i H2, ⟨ds.length, rfl, Nat.zero_le _, F1, [], [], [], Ext.own x1.fh hA, upd_same, fA, by simp, Fresh.nil, .nil, Nat.zero_le _, r0, by rw [List.drop_zero]; exact er, by simpa using er⟩, ?_⟩
        rintro i m H2 ⟨rfl, hi, F2, acc, es', O2, x2, h2, f2, n2, fr2, w2, hl2, r, e1, e2⟩
        by_cases hlt : i < ds.length
        · have ed : ds.drop i = ds[i] :: ds.drop (i + 1) := List.drop_eq_getElem_cons hlt
          rw [ed, lcL_cons] at e1
          obtain ⟨g0, y0⟩ := fd.go i ds[i] (by simp [hlt]) F2 H2 x2.ff x2.fh
          refine .inr ⟨g0, fun H3 => Inv (i + 1) H3, fun H3 q => ⟨ds.length - (i + 1), by omega, rfl, hlt, q⟩, fun v H3 yv => ?_⟩
          obtain ⟨F3, x3, rv⟩ := y0 v H3 yv
          cases et : ft ds[i] (wipeG g own) with
          | none => rw [et] at e1; cases e1
          | some g3 =>
            rw [et] at e1
            simp only [] at e1
            have stw3 := (stw.ext x2).ext x3
            refine hg v ds[i] _ F3 H3 (wipeG g own) Ow1 g3 _ x3.fh stw3 rv et fun σ4 O4 x4 st4 w4 => ⟨?_, ?_⟩
            · exact (w4 own hss).trans (wipe_wipe fun _ h => h)
            · have h3 : H3 A = some (.lst acc) := x3.hh _ _ h2
              have f3 : F3 A = none := x3.ow A f2 (by rw [h2]; exact fun e => nomatch e)
              refine ht σ4 F3 H3 g3 O4 _ x3.fh st4 ?_
              cases eb : gt g3 with
              | bad => rw [eb] at e1; cases e1
              | xc c => rw [eb] at e1; cases e1
              | ok b =>
                rw [eb, Res.bind_ok] at e1
                intro F5 H5 x5
                have h5 : H5 A = some (.lst acc) := x5.hh _ _ h3
                have f5 : F5 A = none := x5.ow A f3 (by rw [h3]; exact fun e => nomatch e)
                have x25 := x2.trans (x3.trans x5)
                cases b with
                | false =>
                  rw [if_neg (by decide)] at e1
                  rw [if_neg (by decide)]
                  exact ⟨F5, acc, es', O2, x25, h5, f5, n2, fr2, (w2.ext x3).ext x5, Nat.le_succ_of_le hl2, r, e1, e2⟩
                | true =>
                  rw [if_pos rfl] at e1
                  rw [if_pos rfl]
                  refine he.goO x5.fh (st4.ext x5) (fun c e => by rw [e] at e1; cases e1) (fun e => by rw [e] at e1; cases e1) fun d e v F6 H6 O6 x6 fr6 w6 => ?_
                  rw [e, Res.bind_ok] at e1
                  cases er2 : lcL ft gt fe (wipeG g own) (ds.drop (i + 1)) with
                  | bad => rw [er2] at e1; cases e1
                  | xc c => rw [er2] at e1; cases e1
                  | ok r2 =>
                    rw [er2] at e1
                    cases e1
                    have h6 : H6 A = some (.lst acc) := x6.hh _ _ h5
                    have f6 : F6 A = none := x6.ow A f5 (by rw [h5]; exact fun e => nomatch e)
                    have x26 := x25.trans x6
                    have n6 : A ∉ O6 := fun q => by have := fr6 A q; rw [h5] at this; cases this
                    refine ⟨acc, h6, ?_, F6, acc ++ [v], es' ++ [d], O2 ++ O6, ?_, upd_same, f6, ?_, ?_, ?_, by simp; omega, r2, er2, by rw [e2]; simp⟩
                    · rw [w2.len]; exact lim_lt (by omega)
                    · exact ⟨x26.ff, fun b o q => by rw [upd_ne (ne_of_none q hA)]; exact x26.hh b o q, fun b o q => by
                        rw [upd_ne (fun z => by rw [z, f6] at q; cases q)]; exact x26.fh b o q, x26.ow⟩
                    · intro q
                      rcases List.mem_append.mp q with q | q
                      · exact n2 q
                      · exact n6 q
                    · intro a ha
                      rcases List.mem_append.mp ha with q | q
                      · exact fr2 a q
                      · exact (x25.hh).free (fr6 a q)
                    · have w2' := ((w2.ext x3).ext x5).ext x6
                      have dj : ∀ a ∈ O2, a ∉ O6 := fun a h1 h2 => ((((w2.ext x3).ext x5).dom a h1).2) (fr6 a h2)
                      refine (w2'.snoc w6 dj).frame (.refl F6) fun a ha => ⟨upd_ne fun z => ?_, ((w2'.snoc w6 dj).dom a ha).1⟩
                      rcases List.mem_append.mp ha with q | q
                      · exact n2 (z ▸ q)
                      · exact n6 (z ▸ q)
        · have ei : i = ds.length := by omega
          subst ei
          rw [List.drop_length] at e1
          cases e1
          rw [List.append_nil, er] at e2
          cases e2
          refine .inl ⟨fd.stop F2 H2 x2.ff x2.fh, p _ F2 H2 (A :: O2) (x1.trans x2) (fun a ha => ?_) (.inl (.ol f2 h2 n2 w2))⟩
          rcases List.mem_cons.mp ha with rfl | ha
          · exact x1.hh.free hA
          · exact x1.hh.free (fr2 a ha)
    · rw [if_neg hlen] at p; exact p.elim
structure JTs (X : Cx) (cls : Cls) (W : WX) (e : List Expr) (f : Env → Res Bool) : Prop where
  ex : ∃ t, PTs X e t ∧ DT X.K cls W t f
theorem jts_nil : JTs X cls W [] tYesG := ⟨_, pts_nil, fun σ F H g O Q s st p => p F H (.refl s)⟩
theorem jts_one (h : JT X cls W a ga) : JTs X cls W [a] ga := by
  obtain ⟨t, p, d⟩ := h.ex
  exact ⟨_, pts_one p, d⟩
end
end DL

namespace DL
open PySem L2
section
variable {K : PySem.W.Frag} {cls : Cls} {W : WX} {X : Cx} {F H F' H' F1 H1 : Hp} {O O1 : List Addr} {Q : VK} {σ : St} {a b e tg iter elt : Expr} {es : List Expr} {fa fb fc : Env → Res D} {ga gb : Env → Res Bool} {fs : Env → Res (List D)} {pos : Pos}
def cE (K : PySem.W.Frag) (cls : Cls) (W : WX) (f : Env → Res D) : TE := fun σ H Q => ∃ F g O, Same F H ∧ Sts K cls F H σ g O ∧ PostE K cls W σ F H Q (f g)
def cT (K : PySem.W.Frag) (cls : Cls) (W : WX) (f : Env → Res Bool) : TT := fun σ H Q => ∃ F g O, Same F H ∧ Sts K cls F H σ g O ∧ PostT cls W σ F H Q (f g)
def cG (K : PySem.W.Frag) (cls : Cls) (f : D → Env → Option Env) (ss : List Nat) : TG := fun v σ H Q => ∃ d F g O g', Same F H ∧ Sts K cls F H σ g O ∧ Rp K cls F v d ∧ f d g = some g' ∧
  (∀ σ' O', SExt F H O F H O' → Sts K cls F H σ' g' O' → (∀ vs : List Nat, (∀ i ∈ ss, i ∈ vs) → wipe σ' vs = wipe σ vs) → Q σ' H)
def cS (K : PySem.W.Frag) (cls : Cls) (f : Env → Out) (W : WX) : TS := fun D σ H => ∃ F g O, Same F H ∧ Sts K cls F H σ g O ∧ PostS K cls W D F H O (f g)
theorem de_cE {f : Env → Res D} : DE K cls W (cE K cls W f) f := fun σ F H g O Q s st p => ⟨F, g, O, s, st, p⟩
theorem dt_cT {f : Env → Res Bool} : DT K cls W (cT K cls W f) f := fun σ F H g O Q s st p => ⟨F, g, O, s, st, p⟩
theorem dg_cG {f : D → Env → Option Env} {ss : List Nat} : DG K cls (cG K cls f ss) f ss := fun v d σ F H g O g' Q s st r e k => ⟨d, F, g, O, g', s, st, r, e, k⟩
theorem JE.canon {f : Env → Res D} (h : JE X cls W e f) : PE X e (cE X.K cls W f) := by
  obtain ⟨t, p, d⟩ := h.ex
  exact ⟨fun pins s σ H Q I ⟨F, g, O, sm, st, q⟩ => p.run pins s σ H Q I (d σ F H g O Q sm st q)⟩
theorem JTs.canon {f : Env → Res Bool} (h : JTs X cls W es f) : PTs X es (cT X.K cls W f) := by
  obtain ⟨t, p, d⟩ := h.ex
  exact ⟨fun pins s σ H Q I ⟨F, g, O, sm, st, q⟩ => p.run pins s σ H Q I (d σ F H g O Q sm st q)⟩
theorem JG.canon {f : D → Env → Option Env} {ss : List Nat} (h : JG X cls e f ss) : PG X e (cG X.K cls f ss) := by
  obtain ⟨t, p, d⟩ := h.ex
  exact ⟨fun pins s σ H v u Q I r ⟨dd, F, g, O, g', sm, st, rr, ee, q⟩ => p.run pins s σ H v u Q I r (d v dd σ F H g O g' Q sm st rr ee q)⟩
theorem JSs.canon {st : List Stmt} {f : Env → Out} (h : JSs X cls W st f) : PSs X st (cS X.K cls f W) := by
  obtain ⟨t, p, d⟩ := h.ex
  exact ⟨fun pins s σ H D I ⟨F, g, O, sm, st, q⟩ => p.run pins s σ H D I (d D σ F H g O sm st q)⟩

theorem je_lc {ifs : List Expr} {scope : Scope} {ft : D → Env → Option Env} {gt : Env → Res Bool} {fe : Env → Res D} {ss : List Nat} {k : Nat} (own : List (Str × Nat)) (c : Cn X W k) (hi : JI X cls W tg iter fs) (ok : BlkOk X.N X.env.scope scope own)
    (hg : ∀ (s : Shared) (H : Hp) (C : Addr) (cl : List (Str × Addr)) (fp : List Addr), JG (X.blk s H scope (compEnvC scope cl C X.env) fp) cls tg ft ss)
    (ht : ∀ (s : Shared) (H : Hp) (C : Addr) (cl : List (Str × Addr)) (fp : List Addr), Cn (X.blk s H scope (compEnvC scope cl C X.env) fp) W0 k → JTs (X.blk s H scope (compEnvC scope cl C X.env) fp) cls W0 ifs gt)
    (he : ∀ (s : Shared) (H : Hp) (C : Addr) (cl : List (Str × Addr)) (fp : List Addr), Cn (X.blk s H scope (compEnvC scope cl C X.env) fp) W0 k → JE (X.blk s H scope (compEnvC scope cl C X.env) fp) cls W0 elt fe)
    (hss : ∀ i ∈ ss, i ∈ own.map (·.2)) (hs : ∀ x, foldedSetIterable iter X.env x = pure x := by intro _; rfl) :
    JE X cls W (.ListComp elt [⟨tg, iter, ifs, 0⟩] scope pos) (eLc fs (own.map (·.2)) ft gt fe) := by
  obtain ⟨wi, p, d⟩ := hi.ex
  exact ⟨_, pe_lc (own := own) c.calm c.nd p ok (fun s H C cl fp => (hg s H C cl fp).canon) (fun s H C cl fp => (ht s H C cl fp c.blk).canon) (fun s H C cl fp => (he s H C cl fp c.blk).canon) hs, de_lc d dg_cG dt_cT de_cE hss⟩
theorem js_setLc {i : Nat} {y : Str} {py spos : Pos} {ifs : List Expr} {scope : Scope} {ft : D → Env → Option Env} {gt : Env → Res Bool} {fe : Env → Res D} {ss : List Nat} {k : Nat} (own : List (Str × Nat)) (c : Cn X W k) (hy : X.N[i]? = some y) (hyl : X.env.scope.names.lookup y = some .local)
    (hsw : swapsWith (.ListComp elt [⟨tg, iter, ifs, 0⟩] scope pos) (some (.Name y py)) spos.line X.env = pure true) (hi : JI X cls W tg iter fs) (ok : BlkOk X.N X.env.scope scope own)
    (hg : ∀ (s : Shared) (H : Hp) (C : Addr) (cl : List (Str × Addr)) (fp : List Addr), JG (X.blk s H scope (compEnvC scope cl C X.env) fp) cls tg ft ss)
    (ht : ∀ (s : Shared) (H : Hp) (C : Addr) (cl : List (Str × Addr)) (fp : List Addr), Cn (X.blk s H scope (compEnvC scope cl C X.env) fp) W0 k → JTs (X.blk s H scope (compEnvC scope cl C X.env) fp) cls W0 ifs gt)
    (he : ∀ (s : Shared) (H : Hp) (C : Addr) (cl : List (Str × Addr)) (fp : List Addr), Cn (X.blk s H scope (compEnvC scope cl C X.env) fp) W0 k → JE (X.blk s H scope (compEnvC scope cl C X.env) fp) cls W0 elt fe)
    (hss : ∀ i ∈ ss, i ∈ own.map (·.2)) (hs : ∀ x, foldedSetIterable iter X.env x = pure x := by intro _; rfl) :
    JS X cls W (.Assign [.Name y py] (.ListComp elt [⟨tg, iter, ifs, 0⟩] scope pos) spos) (sAsg i (eLc fs (own.map (·.2)) ft gt fe)) := by
  obtain ⟨wi, p, d⟩ := hi.ex
  exact ⟨_, ps_setLc (own := own) c.calm c.nd hy hyl hsw p ok (fun s H C cl fp => (hg s H C cl fp).canon) (fun s H C cl fp => (ht s H C cl fp c.blk).canon) (fun s H C cl fp => (he s H C cl fp c.blk).canon) hs, ds_asg (de_lc d dg_cG dt_cT de_cE hss)⟩
theorem js_setLcF {i : Nat} {y : Str} {py spos : Pos} {ifs : List Expr} {scope : Scope} {ft : D → Env → Option Env} {gt : Env → Res Bool} {fe : Env → Res D} {ss : List Nat} {k : Nat} (own : List (Str × Nat)) (c : Cn X W k) (hy : X.N[i]? = some y) (hyl : X.env.scope.names.lookup y = some .local)
    (hsw : swapsWith (.ListComp elt [⟨tg, iter, ifs, 0⟩] scope pos) (some (.Name y py)) spos.line X.env = pure true) (hi : JI X cls W tg iter fs) (ok : BlkOk X.N X.env.scope scope own)
    (hg : ∀ (s : Shared) (H : Hp) (C : Addr) (cl : List (Str × Addr)) (fp : List Addr), JG (X.blk s H scope (compEnvC scope cl C X.env) fp) cls tg ft ss)
    (ht : ∀ (s : Shared) (H : Hp) (C : Addr) (cl : List (Str × Addr)) (fp : List Addr), Cn (X.blk s H scope (compEnvC scope cl C X.env) fp) W0 k → JTs (X.blk s H scope (compEnvC scope cl C X.env) fp) cls W0 ifs gt)
    (he : ∀ (s : Shared) (H : Hp) (C : Addr) (cl : List (Str × Addr)) (fp : List Addr), Cn (X.blk s H scope (compEnvC scope cl C X.env) fp) W0 k → JE (X.blk s H scope (compEnvC scope cl C X.env) fp) cls W0 elt fe)
    (hss : ∀ i ∈ ss, i ∈ own.map (·.2)) (hs : ∀ x, foldedSetIterable iter X.env x = pure x := by intro _; rfl) :
    JS X cls W (.Assign [.Name y py] (.ListComp elt [⟨tg, iter, ifs, 0⟩] scope pos) spos) (sAsgF i (eLc fs (own.map (·.2)) ft gt fe)) := by
  obtain ⟨wi, p, d⟩ := hi.ex
  exact ⟨_, ps_setLc (own := own) c.calm c.nd hy hyl hsw p ok (fun s H C cl fp => (hg s H C cl fp).canon) (fun s H C cl fp => (ht s H C cl fp c.blk).canon) (fun s H C cl fp => (he s H C cl fp c.blk).canon) hs, ds_asgF (de_lc d dg_cG dt_cT de_cE hss)⟩

theorem Sts.lst {g : Env} {i : Nat} {xs : List D} (st : Sts K cls F H σ g O) (e : g[i]? = some (.ol xs)) : ∃ p vs O1, σ[i]? = some (some (.ref p)) ∧ H p = some (.lst vs) ∧ F p = none ∧ p ∉ O1 ∧ Ows K cls F H vs xs O1 ∧ p ∈ O ∧ (∀ a ∈ O1, a ∈ O) ∧
    ∀ (F' H' : Hp) (ws : List V) (ys : List D) (O2 : List Addr), Ext F H F' H' → Ows K cls F' H' ws ys O2 → p ∉ O2 → (∀ a ∈ O2, a ∈ O1 ∨ H a = none) →
      ∃ O'', Sts K cls F' (upd H' p (.lst ws)) σ (g.set i (.ol ys)) O'' ∧ SExt F H O F' (upd H' p (.lst ws)) O'' := by
  obtain ⟨P, h1, h2, h3, _⟩ := st.at i (List.getElem?_eq_some_iff.mp e).1
  rcases h2 with ⟨h2, _⟩ | ⟨v, d, h2, h2', ow⟩
  · rw [e] at h2; cases h2
  · rw [e] at h2'; cases h2'
    cases ow with
    | sh r => cases r
    | @ol p vs _ O1 f1 f2 f3 f4 =>
      refine ⟨p, vs, O1, h2, f2, f1, f3, f4, h1 _ (by simp), fun a ha => h1 a (by simp [ha]), fun F' H' ws ys O2 x w n k => ?_⟩
      have hp : F' p = none := x.ow p f1 (by rw [f2]; exact fun e => nomatch e)
      have up : ∀ b, b ≠ p → upd H' p (.lst ws) b = H' b := fun b hb => upd_ne hb
      obtain ⟨O'', q1, q2⟩ := h3 F' (upd H' p (.lst ws)) (.ref p) (.ol ys) (p :: O2) (fun b hb hn => by
          obtain ⟨e1, e2⟩ := x.get (st.dom b hb).1 (st.dom b hb).2
          exact ⟨(up b fun z => hn (by simp [z])).trans e1, e2⟩) x.ff
        (.ol hp upd_same n (w.frame (.refl F') fun a ha => ⟨up a fun z => n (z ▸ ha), (w.dom a ha).1⟩)) (fun a ha hO => by
          rcases List.mem_cons.mp ha with rfl | ha
          · simp
          · rcases k a ha with z | z
            · simp [z]
            · exact absurd z (st.dom a hO).2)
      rw [set_self h2] at q1
      refine ⟨O'', q1, x.ff, fun b o q => ?_, fun b o q hn => ?_, fun b h1 h2 _ => x.ow b h1 h2, fun b hb => ?_⟩
      · rw [up b fun z => by rw [z, hp] at q; cases q]; exact x.fh b o q
      · rw [up b fun z => hn (z ▸ h1 p (by simp))]; exact x.hh b o q
      · rcases q2 b hb with z | z
        · exact .inl z
        · rcases List.mem_cons.mp z with rfl | z
          · exact .inl (h1 _ (by simp))
          · exact (k b z).imp (fun z => h1 b (by simp [z])) id
def sApp (i : Nat) (fa : Env → Res D) : Env → Out := fun g => match g[i]? with
  | some (.ol xs) => ((fa g).bind kp).st g fun d => if xs.length < lim then .nx (g.set i (.ol (xs ++ [d]))) else .bad
  | _ => .bad
@[simp] theorem sApp_ (i : Nat) (fa : Env → Res D) (g : Env) : sApp i fa g = match g[i]? with
  | some (.ol xs) => ((fa g).bind kp).st g fun d => if xs.length < lim then .nx (g.set i (.ol (xs ++ [d]))) else .bad
  | _ => .bad := rfl
theorem js_app {i : Nat} {x : Str} {npos apos cpos : Pos} (hN : X.N[i]? = some x) (hv : Vis X.env.scope x) (ha : JE X cls W a fa) (hd : (x == ("__debug__" : Str)) = false := by decide) (hcd : (x == ("__classdict__" : Str)) = false := by decide)
    (hbase : attributeBase (.Name x npos) "append" X.env (eval (.Name x npos) X.env) = eval (.Name x npos) X.env := by rfl)
    (hfew : ((backTo cpos (starEach (a :: []) X.env)).all (fun x => !x.1) && (backToKw cpos (keywordEach [] X.env)).all (fun x => x.1.isSome)
      && decide ((a :: []).length + ([] : List Keyword).length + (if ([] : List Keyword).isEmpty then 0 else 1) < 30)) = true := by rfl)
    (hline : (apos.endLine == cpos.line) = true := by rfl) (hs : starEach (a :: []) X.env = (false, eval a X.env) :: starEach [] X.env := by rfl) (hplain : (backTo cpos (starEach [] X.env)).any (·.1) = false := by rfl)
    (hsw : swapsWith (.Call (.Attribute (.Name x npos) "append" apos) [a] [] cpos) none pos.line X.env = pure false := by rfl) :
    JS X cls W (.Expr (.Call (.Attribute (.Name x npos) "append" apos) [a] [] cpos) pos) (sApp i fa) := by
  obtain ⟨t, p, d⟩ := ha.ex
  refine ⟨_, ps_expr (pe_bm PySem.F.plainAttrs_list PySem.F.slot_list_append PySem.F.type_list_append mt_append (pe_var hN hv hd hcd) (pa_cons p pa_nil hs) hbase hfew hline hs hplain) hsw, ?_⟩
  intro D σ F H g O s st p
  rw [sApp_] at p
  split at p
  · rename_i xs eg
    obtain ⟨q, vs, O1, h1, h2, h2', h3, h4, h5, h6, h7⟩ := st.lst eg
    refine ⟨.ref q, h1, .inl ⟨rfl, vs, SqL.of h2⟩, ?_⟩
    refine d.goS s st p fun dd e p v F1 H1 O2 x fr w => ?_
    split at p
    · rename_i hl
      refine ⟨q, vs, v, rfl, rfl, x.hh _ _ h2, by rw [h4.len]; exact lim_lt hl, ?_⟩
      obtain ⟨O'', z1, z2⟩ := h7 F1 H1 (vs ++ [v]) (xs ++ [dd]) (O1 ++ O2) x ((h4.ext x).snoc w fun a q1 q2 => (h4.dom a q1).2 (fr a q2)) (fun z => by
          rcases List.mem_append.mp z with z | z
          · exact h3 z
          · have := fr q z; rw [h2] at this; cases this) (fun a z => (List.mem_append.mp z).imp id (fr a))
      exact p σ F1 _ O'' z2 z1
    · exact p.elim
  · exact p.elim
theorem Ows.set : ∀ {vs : List V} {ds : List D} {O1 O2 : List Addr} {v : V} {d : D} (j : Nat), Ows K cls F H vs ds O1 → Ow K cls F H v d O2 → (∀ a ∈ O1, a ∉ O2) → ∃ O3, Ows K cls F H (vs.set j v) (ds.set j d) O3 ∧ ∀ a ∈ O3, a ∈ O1 ∨ a ∈ O2
  | _, _, _, O2, _, _, _, .nil, _, _ => ⟨[], .nil, fun _ h => nomatch h⟩
  | _, _, _, O2, _, _, 0, .cons (O1 := P1) (O2 := P2) a b dj e, w, n => by
    subst e
    refine ⟨O2 ++ P2, .cons w b (fun x h1 h2 => n x (List.mem_append_right _ h2) h1) rfl, fun x hx => ?_⟩
    rcases List.mem_append.mp hx with z | z
    · exact .inr z
    · exact .inl (List.mem_append_right _ z)
  | _, _, _, O2, _, _, j + 1, .cons (O1 := P1) (O2 := P2) a b dj e, w, n => by
    subst e
    obtain ⟨O3, h1, h2⟩ := b.set j w fun x hx => n x (List.mem_append_right _ hx)
    refine ⟨P1 ++ O3, .cons a h1 (fun x q1 q2 => ?_) rfl, fun x hx => ?_⟩
    · rcases h2 x q2 with z | z
      · exact dj x q1 z
      · exact n x (List.mem_append_left _ q1) z
    · rcases List.mem_append.mp hx with z | z
      · exact .inl (List.mem_append_left _ z)
      · exact (h2 x z).imp (fun z => List.mem_append_right _ z) id
def sSet (i : Nat) (fk fa : Env → Res D) : Env → Out := fun g => ((fa g).bind kp).st g fun d => match g[i]? with
  | some (.ol xs) => (fk g).st g fun k => match opd k with
    | .int k => match ixN xs.length k with
      | some j => .nx (g.set i (.ol (xs.set j d)))
      | none => .bad
    | _ => .bad
  | _ => .bad
@[simp] theorem sSet_ (i : Nat) (fk fa : Env → Res D) (g : Env) : sSet i fk fa g = ((fa g).bind kp).st g fun d => match g[i]? with
  | some (.ol xs) => (fk g).st g fun k => match opd k with
    | .int k => match ixN xs.length k with
      | some j => .nx (g.set i (.ol (xs.set j d)))
      | none => .bad
    | _ => .bad
  | _ => .bad := rfl
theorem js_setIx {i : Nat} {x : Str} {npos spos : Pos} {fk : Env → Res D} (hN : X.N[i]? = some x) (hv : Vis X.env.scope x) (ha : JE X cls W a fa) (hk : JE X cls W b fk) (hd : (x == ("__debug__" : Str)) = false := by decide) (hcd : (x == ("__classdict__" : Str)) = false := by decide)
    (hs : swapsWithSole [.Subscript (.Name x npos) b spos] a pos.line X.env = pure false := by rfl) (hw : swappedStores [.Subscript (.Name x npos) b spos] a X.env = pure none := by rfl)
    (h1 : (assignEach [.Subscript (.Name x npos) b spos] X.env).map (·.2) = [assign (.Subscript (.Name x npos) b spos) X.env] := by rfl)
    (hass : ∀ v, assign (.Subscript (.Name x npos) b spos) X.env v = (do
      let ov ← holding [v] (eval (.Name x npos) X.env)
      let iv ← holding [v, ov] (eval b X.env)
      standAt spos
      holding [v, ov, iv] (setItem ov iv v)
      release [v, ov, iv] []) := by intro _; rfl) : JS X cls W (.Assign [.Subscript (.Name x npos) b spos] a pos) (sSet i fk fa) := by
  obtain ⟨t, p, d⟩ := ha.ex
  obtain ⟨t2, p2, d2⟩ := hk.ex
  refine ⟨_, ps_asg p (pg_sub (pe_var hN hv hd hcd) p2 set_list hass) hs hw h1, ?_⟩
  intro D σ F H g O s st p
  rw [sSet_] at p
  refine d.goS s st p fun dd e p v F1 H1 O2 x fr w => ?_
  split at p
  · rename_i xs eg
    obtain ⟨q, vs, O1, h1, h2, h2', h3, h4, h5, h6, h7⟩ := st.lst eg
    refine ⟨.ref q, h1, ?_⟩
    refine d2.go x.fh (st.ext x) (fun c e F' H' y => by rw [e] at p; exact p σ F' H' O ((x.trans y).sext fun a h => .inl h) (st.ext (x.trans y))) (fun e => by rw [e] at p; exact p) fun kd e kv F3 H3 x3 b3 => ?_
    rw [e, Res.st_ok] at p
    split at p
    · rename_i k ek
      split at p
      · rename_i j ej
        rw [ek] at b3
        obtain rfl := b3.int
        have x13 := x.trans x3
        refine ⟨q, vs, k, j, rfl, rfl, x13.hh _ _ h2, by rw [h4.len]; exact ej, ?_⟩
        obtain ⟨O3, w3, n3⟩ := (h4.ext x13).set j (w.ext x3) fun a q1 q2 => (h4.dom a q1).2 (fr a q2)
        obtain ⟨O'', z1, z2⟩ := h7 F3 H3 (vs.set j v) (xs.set j dd) O3 x13 w3 (fun z => by
          rcases n3 _ z with z | z
          · exact h3 z
          · have := fr q z; rw [h2] at this; cases this) (fun a z => (n3 a z).imp id (fr a))
        exact p σ F3 _ O'' z2 z1
      · exact p.elim
    · exact p.elim
  · exact p.elim
def sAug (op : Int → Int → Int) (i : Nat) (fa : Env → Res D) : Env → Out := fun g => match g[i]? with
  | some (.int a) => (fa g).st g fun d => match opd d with
    | .int b => .nx (g.set i (.int (op a b)))
    | _ => .bad
  | _ => .bad
@[simp] theorem sAug_ (op : Int → Int → Int) (i : Nat) (fa : Env → Res D) (g : Env) : sAug op i fa g = match g[i]? with
  | some (.int a) => (fa g).st g fun d => match opd d with
    | .int b => .nx (g.set i (.int (op a b)))
    | _ => .bad
  | _ => .bad := rfl
end
end DL

namespace DL
open PySem L2
section
variable {K : PySem.W.Frag} {cls : Cls} {W : WX} {X : Cx} {F H F' H' F1 H1 : Hp} {O O1 : List Addr} {Q : VK} {σ : St} {a b e tg iter elt : Expr} {es : List Expr} {fa fb fc : Env → Res D} {ga gb : Env → Res Bool} {fs : Env → Res (List D)} {pos : Pos}
structure ExOk (K : PySem.W.Frag) (mg : Str → Option Value) (cls : Cls) (c : Nat) (x : Str) (C : Addr) : Prop where
  e : cls c = some (C, [])
  g : mg x = some (.ref C)
  x : PySem.W.excIn K C [.type "ValueError", .type "Exception", .type "BaseException", .type "object"] "ValueError.__new__" = true
  k : PySem.W.keepIn K (.ref C) = true
  b : PySem.W.subIn K (.ref C) (.type "BaseException") = some true
  t : PySem.W.typeIn K (.ref C) = some (.type "type")
theorem ExOk.v {mg : Str → Option Value} {c : Nat} {x : Str} {C : Addr} (h : ExOk K mg cls c x C) : excV cls c = .ref C := by unfold excV; rw [h.e]
def sRaise (c : Nat) : Env → Out := fun g => .xc c g
@[simp] theorem sRaise_ (c : Nat) (g : Env) : sRaise c g = .xc c g := rfl
theorem js_raise {c k : Nat} {x m : Str} {C : Addr} {j : Nat} {p p2 pos2 : Pos} (n : Cn X W k) (h : ExOk X.K X.mg cls c x C) (hg : Gl X x := by rfl) (hdb : (x == ("__debug__" : Str)) = false := by decide) :
    JS X cls W (.Raise (some (.Call (.Name x p) [.Constant (.str m) j p2] [] pos)) none pos2) (sRaise c) := by
  refine ⟨_, ps_raise n.calm n.tk (pmk_own PySem.F.excBase_ValueError h.x h.g h.k (raises_own h.b h.t) hg hdb), ?_⟩
  intro D σ F H g O s st p
  have q := p σ F H O (.refl s) st
  rw [h.v] at q
  exact q

def runF (f : Env → Out) (n : Nat) (ds : List D) : Res D := match f (ds ++ List.replicate (n - ds.length) .un) with
  | .rt d => .ok d
  | .nx _ => .ok .non
  | .xc c _ => .xc c
  | _ => .bad
theorem sts_start {vs : List V} {ds : List D} (h : Rps K cls F vs ds) (n : Nat) : Sts K cls F H (vs.map some ++ List.replicate n none) (ds ++ List.replicate n .un) [] := by
  induction ds generalizing vs with
  | nil =>
    cases h
    simp only [List.map_nil, List.nil_append]
    induction n with
    | zero => exact .nil
    | succ n ih => rw [List.replicate_succ, List.replicate_succ]; exact .un ih
  | cons d ds ih =>
    cases h with
    | cons a b => exact .cons (.sh a) (ih b) (fun _ q => nomatch q) rfl
theorem fnD_ok {P : Program} {w : World} {mg : Str → Option Value} {base : Heap} {x qual : Str} {st : Stmt} {f : Addr} {fd : FuncData} {N ps : List Str} {k n : Nat} {g : List D → Res D} {fb : Env → Out}
    (Fn : Fun K x qual st f fd) (S : FnScope N ps (defScope st)) (hn : ps.length = n)
    (hbody : ∀ (cdv : Value) (A : Around) (outer : List PySem.Env) (s : Shared) (H : Hp) (E : XK), Cn (cxOf (L2.CX P w) P w K mg base N qual (defScope st) f cdv A outer s H E) (fun c d _ H => E c d H) k →
      JSs (cxOf (L2.CX P w) P w K mg base N qual (defScope st) f cdv A outer s H E) cls (fun c d _ H => E c d H) (defBody st) fb)
    (heq : ∀ ds, ds.length = n → g ds = .bad ∨ runF fb N.length ds = g ds) : FnOk P w K mg base (L2.CX P w) (k + 1) f fd ps (spD K cls n g) := by
  refine Fn.okX S (fun vs H Q E h => ?_) (fun cdv A outer s H vs Q E hr h => ?_)
  · obtain ⟨F, ds, _, r, h1, _⟩ := h
    rw [r.len, h1, hn]
  · obtain ⟨F, ds, sm, r, hl, h⟩ := h
    obtain ⟨t, p, d⟩ := (hbody cdv A outer s H E ⟨takes_of rfl rfl rfl rfl, passes_of rfl, rfl, S.nd, hr⟩).ex
    refine ⟨t, p, d _ _ F H (ds ++ List.replicate (N.length - ds.length) .un) [] sm ?_ ?_⟩
    · unfold L2.start
      rw [r.len]
      exact sts_start r _
    · rcases heq ds hl with e | e
      · rw [e] at h; exact h.elim
      · rw [← e] at h
        unfold runF at h
        cases q : fb (ds ++ List.replicate (N.length - ds.length) .un) with
        | nx g' => rw [q] at h; exact fun σ' F' H' O' x st' => h .non F' H' [] x.ext Fresh.nil (.sh .non)
        | rt d => rw [q] at h; exact fun v F' H' O' x w => h v F' H' O' x.ext (fun a ha => (x.oo a ha).resolve_left (by simp)) w
        | xc c g' => rw [q] at h; exact fun σ' F' H' O' x st' => h F' H' x.ext
        | bk g' => rw [q] at h; exact h.elim
        | ct g' => rw [q] at h; exact h.elim
        | bad => rw [q] at h; exact h.elim

def spI (K : PySem.W.Frag) (cls : Cls) (c n : Nat) (g : List D → Res (List D)) : Sp := fun vs H Q E => ∃ F x C dx ns vs' ds, vs = .ref x :: vs' ∧ cls c = some (C, ns) ∧ Same F H ∧ F x = none ∧ H x = some (.ins C dx []) ∧ Rps K cls F vs' ds ∧ ds.length = n ∧
  match g ds with
  | .ok fs => ∀ F' H' O', SExt F H [x] F' H' O' → Ow K cls F' H' (.ref x) (.oo none c fs) O' → Q .non H'
  | .xc e => ∀ F' H' O', SExt F H [x] F' H' O' → E (excV cls e) none H'
  | .bad => False
def outI (c : Nat) (x : Addr) : Out → Res (List D)
  | .nx g => match (g : List D)[0]? with
    | some (D.oo (some y) c' fs) => if c' = c ∧ y = x then .ok fs else .bad
    | _ => .bad
  | .xc e _ => .xc e
  | _ => .bad
def runI (f : Env → Out) (c n : Nat) (x : Addr) (ds : List D) : Res (List D) := outI c x (f (.oo (some x) c [] :: ds ++ List.replicate (n - (ds.length + 1)) .un))
theorem fnI_ok {P : Program} {w : World} {mg : Str → Option Value} {base : Heap} {x qual : Str} {st : Stmt} {f : Addr} {fd : FuncData} {N ps : List Str} {k n c : Nat} {g : List D → Res (List D)} {fb : Env → Out}
    (Fn : Fun K x qual st f fd) (S : FnScope N ps (defScope st)) (hn : ps.length = n + 1)
    (hbody : ∀ (cdv : Value) (A : Around) (outer : List PySem.Env) (s : Shared) (H : Hp) (E : XK), Cn (cxOf (L2.CX P w) P w K mg base N qual (defScope st) f cdv A outer s H E) (fun c d _ H => E c d H) k →
      JSs (cxOf (L2.CX P w) P w K mg base N qual (defScope st) f cdv A outer s H E) cls (fun c d _ H => E c d H) (defBody st) fb)
    (heq : ∀ ds x, ds.length = n → g ds = .bad ∨ runI fb c N.length x ds = g ds) : FnOk P w K mg base (L2.CX P w) (k + 1) f fd ps (spI K cls c n g) := by
  refine Fn.okX S (fun vs H Q E h => ?_) (fun cdv A outer s H vs Q E hr h => ?_)
  · obtain ⟨F, x, C, dx, ns, vs', ds, rfl, _, _, _, _, r, h1, _⟩ := h
    rw [List.length_cons, r.len, h1, hn]
  · obtain ⟨F, x, C, dx, ns, vs', ds, rfl, hc, sm, fx, hx, r, hl, h⟩ := h
    obtain ⟨t, p, d⟩ := (hbody cdv A outer s H E ⟨takes_of rfl rfl rfl rfl, passes_of rfl, rfl, S.nd, hr⟩).ex
    have s0 : Sts K cls F H (L2.start N (V.ref x :: vs')) (.oo (some x) c [] :: ds ++ List.replicate (N.length - (ds.length + 1)) .un) [x] := by
      unfold L2.start
      rw [List.length_cons, r.len, List.map_cons, List.cons_append, List.cons_append]
      exact .cons (O1 := [x]) (O2 := []) (.oo (fun y e => by cases e; rfl) hc fx (by simpa using hx) (Nat.zero_le _) (by simp) .nil) (sts_start r _) (fun a _ h => nomatch h) rfl
    refine ⟨t, p, d _ _ F H _ [x] sm s0 ?_⟩
    rcases heq ds x hl with e | e
    · rw [e] at h; exact h.elim
    · rw [← e] at h
      unfold runI at h
      cases q : fb (.oo (some x) c [] :: ds ++ List.replicate (N.length - (ds.length + 1)) .un) with
      | nx g' =>
        rw [q] at h
        intro σ' F' H' O' y st'
        unfold outI at h
        simp only [] at h
        split at h
        · rename_i fs eo
          split at eo
          · rename_i y' c' fs' eg
            split at eo
            · rename_i hcc
              cases eo
              obtain ⟨rfl, rfl⟩ := hcc
              obtain ⟨P, h1, h2, _⟩ := st'.at 0 (List.getElem?_eq_some_iff.mp eg).1
              rcases h2 with ⟨h2, _⟩ | ⟨v, d2, h2, h2', ow⟩
              · rw [eg] at h2; cases h2
              · rw [eg] at h2'; cases h2'
                cases ow with
                | sh r => cases r
                | oo ho hc h1' h2o hl h3 r =>
                  have := ho _ rfl
                  subst this
                  exact h F' H' _ ⟨y.ff, y.fh, y.fr, y.ow, fun a ha => y.oo a (h1 a ha)⟩ (.oo (fun _ e => nomatch e) hc h1' h2o hl h3 r)
            · cases eo
          · cases eo
        · rename_i e' eo
          split at eo
          · split at eo <;> cases eo
          · cases eo
        · exact h.elim
      | xc e g' => rw [q] at h; exact fun σ' F' H' O' y st' => h F' H' O' y
      | rt d => rw [q] at h; exact h.elim
      | bk g' => rw [q] at h; exact h.elim
      | ct g' => rw [q] at h; exact h.elim
      | bad => rw [q] at h; exact h.elim

theorem putF_new : ∀ {ns : List Str} {vs : List V} {f : Str} {y : V}, ns.Nodup → vs.length ≤ ns.length → ns[vs.length]? = some f → putF f y (ns.zip vs) = ns.zip (vs ++ [y])
  | [], vs, f, y, _, hl, h => by simp at h
  | n :: ns, [], f, y, _, _, h => by
    simp at h
    subst h
    simp [putF]
  | n :: ns, v :: vs, f, y, nd, hl, h => by
    obtain ⟨a1, a2⟩ := List.nodup_cons.mp nd
    have h' : ns[vs.length]? = some f := by simpa using h
    have ne : ¬ n = f := fun e => a1 (e ▸ List.mem_of_getElem? h')
    rw [List.zip_cons_cons, List.cons_append, List.zip_cons_cons]
    show (if n = f then (n, y) :: ns.zip vs else (n, v) :: putF f y (ns.zip vs)) = _
    rw [if_neg ne, putF_new a2 (by simpa using hl) h']
def sFld (i c j : Nat) (fa : Env → Res D) : Env → Out := fun g => ((fa g).bind kp).st g fun d => match (g : List D)[i]? with
  | some (D.oo o c' ds) => if c' = c ∧ ds.length = j then .nx (g.set i (.oo o c (ds ++ [d]))) else .bad
  | _ => .bad
@[simp] theorem sFld_ (i c j : Nat) (fa : Env → Res D) (g : Env) : sFld i c j fa g = ((fa g).bind kp).st g fun d => match (g : List D)[i]? with
  | some (D.oo o c' ds) => if c' = c ∧ ds.length = j then .nx (g.set i (.oo o c (ds ++ [d]))) else .bad
  | _ => .bad := rfl
theorem js_fld {i c j : Nat} {C : Addr} {ns : List Str} {f x : Str} {npos pos' : Pos} (T : ClsOk X.K cls c C ns) (hj : ns[j]? = some f) (hj9 : j < 1000) (hN : X.N[i]? = some x) (hv : Vis X.env.scope x) (ha : JE X cls W a fa)
    (hd : (x == ("__debug__" : Str)) = false := by decide) (hcd : (x == ("__classdict__" : Str)) = false := by decide)
    (hs : swapsWith a (some (.Attribute (.Name x npos) f pos')) pos.line X.env = pure false := by rfl) : JS X cls W (.Assign [.Attribute (.Name x npos) f pos'] a pos) (sFld i c j fa) := by
  obtain ⟨t, p, d⟩ := ha.ex
  refine ⟨_, ps_fld (pe_var hN hv hd hcd) p hs, ?_⟩
  intro D σ F H g O s st p
  rw [sFld_] at p
  refine d.goS s st p fun dd e p v F1 H1 O2 xx fr w => ?_
  split at p
  · rename_i o c' ds eg
    split at p
    · rename_i hc
      obtain ⟨hc1, hc2⟩ := hc
      subst hc1
      obtain ⟨P, h1, h2, h3, _⟩ := st.at i (List.getElem?_eq_some_iff.mp eg).1
      rcases h2 with ⟨h2, _⟩ | ⟨v0, d0, h2, h2', ow⟩
      · rw [eg] at h2; cases h2
      · rw [eg] at h2'; cases h2'
        cases ow with
        | sh r => cases r
        | @oo _ q C' dx _ ns' vs _ O1 ho hcl f1 f2 hl f3 f4 =>
          have := hcl.symm.trans T.e
          cases this
          have hlen : vs.length = ds.length := f4.len
          have hf : F1 q = none := xx.ow q f1 (by rw [f2]; exact fun e => nomatch e)
          have hq : H1 q = some (.ins C dx (ns.zip vs)) := xx.hh _ _ f2
          refine ⟨.ref q, h2, q, C, dx, ns.zip vs, rfl, hq, T.cl, T.na f (List.mem_of_getElem? hj), ?_, ?_⟩
          · rw [List.length_zip]; omega
          · rw [putF_new T.nd hl (by rw [hlen, hc2]; exact hj)]
            have dj : ∀ a ∈ O1, a ∉ O2 := fun a q1 q2 => (f4.dom a q1).2 (fr a q2)
            have nq : q ∉ O1 ++ O2 := fun z => by
              rcases List.mem_append.mp z with z | z
              · exact f3 z
              · have := fr q z; rw [f2] at this; cases this
            have wv := (f4.ext xx).snoc w dj
            have hle : (vs ++ [v]).length ≤ ns.length := by
              have := (List.getElem?_eq_some_iff.mp hj).1
              rw [List.length_append, List.length_singleton]; omega
            have up : ∀ b, b ≠ q → upd H1 q (.ins C dx (ns.zip (vs ++ [v]))) b = H1 b := fun b hb => upd_ne hb
            obtain ⟨O'', q1, q2⟩ := h3 F1 (upd H1 q (.ins C dx (ns.zip (vs ++ [v])))) (.ref q) (.oo o c' (ds ++ [dd])) (q :: (O1 ++ O2)) (fun b hb hn => by
                obtain ⟨e1, e2⟩ := xx.get (st.dom b hb).1 (st.dom b hb).2
                exact ⟨(up b fun z => hn (by simp [z])).trans e1, e2⟩) xx.ff
              (.oo ho hcl hf upd_same hle nq (wv.frame (.refl F1) fun a ha => ⟨up a fun z => nq (z ▸ ha), (wv.dom a ha).1⟩)) (fun a ha hO => by
                rcases List.mem_cons.mp ha with rfl | ha
                · simp
                · rcases List.mem_append.mp ha with z | z
                  · simp [z]
                  · exact absurd (fr a z) (st.dom a hO).2)
            rw [set_self h2] at q1
            refine p σ F1 _ O'' ⟨xx.ff, fun b o e => ?_, fun b o e hn => ?_, fun b h1 h2 _ => xx.ow b h1 h2, fun b hb => ?_⟩ q1
            · rw [up b fun z => by rw [z, hf] at e; cases e]; exact xx.fh b o e
            · rw [up b fun z => hn (z ▸ h1 q (by simp))]; exact xx.hh b o e
            · rcases q2 b hb with z | z
              · exact .inl z
              · rcases List.mem_cons.mp z with rfl | z
                · exact .inl (h1 _ (by simp))
                · rcases List.mem_append.mp z with z | z
                  · exact .inl (h1 b (by simp [z]))
                  · exact .inr (fr b z)
    · exact p.elim
  · exact p.elim

theorem run_makeS {k : Nat} {f C : Addr} {fd : FuncData} {ps : List Str} {sp : Sp} {E : XK} {pins : List (Addr × Obj)} {s : Shared} {us : List Value} {vs : List V} {CXx : CXT} (M : Mk X.K C f) (G : FnOk X.prog X.w X.K X.mg X.base CXx k f fd ps sp) (hr : Room (k + 1) X.A) (hb : Binds X.K fd ps [])
    (hx : PassesAt CXx X σ E) (hx2 : ∀ H' s' e s'', Inv X pins σ H s → Inv X pins σ H' s' → CXx X.stack H' s' E e s'' → X.xe e s'') (I : Inv X pins σ H s) (r : Vals vs us)
    (h : ∀ x dx, H x = none → H dx = none → dx ≠ x → sp (.ref x :: vs) (upd (upd H dx (.own x)) x (.ins C dx [])) (fun v H2 => v = .non ∧ Q (.ref x) H2) E) :
    wpAny (model X.prog X.w) X.A (call (.ref C) us) (EP X pins σ Q) X.xe s := by
  have hq := h (s.heap.objs.size + 1) s.heap.objs.size (I.hok.fresh (Nat.le_succ _)) (I.hok.fresh (Nat.le_refl _)) (Nat.ne_of_lt (Nat.lt_succ_self _))
  have I2 := Inv.made (C := C) I
  have r2 : Vals (V.ref (s.heap.objs.size + 1) :: vs) (Value.ref (s.heap.objs.size + 1) :: us) := .cons rfl r
  have hl : (Value.ref (s.heap.objs.size + 1) :: us ++ []).length = ps.length := by
    have e := r2.length
    rw [G.len _ _ _ _ hq] at e
    rw [List.append_nil]
    exact e.symm
  refine wpAny_call (make_map (f := f) I.kIn M.makes M.init (beq_iff_eq.mp M.fn) (codeAny_mono (G.run _ X.stack _ _ ⟨Value.ref (s.heap.objs.size + 1) :: us, []⟩ (Value.ref (s.heap.objs.size + 1) :: us) _ _ E (hr.make C us [])
    (I2.env0.make C us []) (by have := hb _ (Value.ref (s.heap.objs.size + 1) :: us) I2.kIn hl; rw [List.append_nil] at this; exact this) r2 hq) fun r s' hq' => ?_))
  cases r with
  | error e => exact hx2 _ _ e s' I I2 hq'
  | ok fl =>
    cases fl with
    | ret u =>
      obtain ⟨v, H', I3, rv, ev, q3⟩ := I2.after hq'
      subst ev
      exact ⟨rv, ⟨V.ref (s.heap.objs.size + 1), H', I3, rfl, q3⟩⟩
    | next => exact False.elim hq'
    | brk => exact False.elim hq'
    | cont => exact False.elim hq'
def tMakeS (C : Addr) (sp : Sp) (E : St → XK) (t : TA) : TE := fun σ H Q => t σ H fun vs H1 => ∀ x dx, H1 x = none → H1 dx = none → dx ≠ x →
  sp (.ref x :: vs) (upd (upd H1 dx (.own x)) x (.ins C dx [])) (fun v H2 => v = .non ∧ Q (.ref x) H2) (E σ)
theorem pe_makeS {k : Nat} {f C : Addr} {fd : FuncData} {ps : List Str} {sp : Sp} {x : Str} {p : Pos} {t : TA} (M : Mk X.K C f) (G : FnOk X.prog X.w X.K X.mg X.base (L2.CX X.prog X.w) k f fd ps sp) (hr : Room (k + 1) X.A) (hg : Gl X x) (hm : X.mg x = some (.ref C)) (hb : Binds X.K fd ps [])
    (tk : Takes X W) (ha : PA X (e :: es) t) (hdb : (x == ("__debug__" : Str)) = false := by decide) (he : starEach (e :: es) X.env = (false, eval e X.env) :: starEach es X.env := by rfl) (hpl : (backTo pos (starEach es X.env)).any (·.1) = false := by rfl) :
    PE X (.Call (.Name x p) (e :: es) [] pos) (tMakeS C sp (fun σ => WE W σ) t) := by
  refine ⟨fun pins s σ H Q I h => ?_⟩
  refine wpAny_Call_Name_kw (ld_glob I hg hm ?_ hdb)
  refine PySem.W.callWith_K (h₀ := X.base) I.ok.mod.kin M.kp (thn (ha.run pos pins s σ H _ I h) fun us s1 ⟨vs, H1, I1, r, q⟩ => ⟨I1.kIn, ?_⟩) he hpl
  exact run_makeS M G hr hb (passAt tk σ) (fun H' s' e s'' _ I2 c => passAt tk σ pins H' s' e s'' I2 c) I1 r q
def eMkF (c : Nat) (g : List D → Res (List D)) (fs : Env → Res (List D)) : Env → Res D := fun e => (fs e).bind fun ds => if shd ds = true then (g ds).bind fun fl => if nods fl = true then .ok (.ob c (frzs fl)) else .bad else .bad
@[simp] theorem eMkF_ (c : Nat) (g : List D → Res (List D)) (fs : Env → Res (List D)) (e : Env) : eMkF c g fs e = (fs e).bind fun ds => if shd ds = true then (g ds).bind fun fl => if nods fl = true then .ok (.ob c (frzs fl)) else .bad else .bad := rfl
theorem je_make {k c n : Nat} {f C : Addr} {fd : FuncData} {ps ns : List Str} {g : List D → Res (List D)} {x : Str} {p : Pos} (cn : Cn X W (k + 1)) (hcl : cls c = some (C, ns)) (M : Mk X.K C f) (G : FnOk X.prog X.w X.K X.mg X.base (L2.CX X.prog X.w) k f fd ps (spI X.K cls c n g))
    (hm : X.mg x = some (.ref C)) (hb : Binds X.K fd ps []) (ha : JA X cls W (e :: es) fs) (hn : ∀ g ds, fs g = .ok ds → ds.length = n) (hg : Gl X x := by rfl)
    (hdb : (x == ("__debug__" : Str)) = false := by decide) (he : starEach (e :: es) X.env = (false, eval e X.env) :: starEach es X.env := by rfl) (hpl : (backTo pos (starEach es X.env)).any (·.1) = false := by rfl) :
    JE X cls W (.Call (.Name x p) (e :: es) [] pos) (eMkF c g fs) := by
  obtain ⟨ta, pa, da⟩ := ha.ex
  refine ⟨_, pe_makeS M G cn.hr hg hm hb cn.tk pa hdb he hpl, ?_⟩
  intro σ F H env O Q s st p
  rw [eMkF_] at p
  refine da.go s st (fun c e => by rw [e] at p; exact p) (fun e => by rw [e] at p; exact p) fun ds e vs F1 H1 x1 b1 => ?_
  rw [e, Res.bind_ok] at p
  split at p
  · rename_i hsh
    intro x dx hx hdx hne
    have r1 := b1.toRps hsh
    have nF : ∀ {a : Addr}, H1 a = none → F1 a = none := fun {a} h => by
      cases q : F1 a with
      | none => rfl
      | some u => rw [x1.fh a u q] at h; cases h
    have sF : Same F1 (upd (upd H1 dx (.own x)) x (.ins C dx [])) := fun b o q => by
      rw [upd_ne (fun z => by rw [z, nF hx] at q; cases q), upd_ne (fun z => by rw [z, nF hdx] at q; cases q)]
      exact x1.fh b o q
    have sH : Same H1 (upd (upd H1 dx (.own x)) x (.ins C dx [])) := fun b o q => by
      rw [upd_ne (ne_of_none q hx), upd_ne (ne_of_none q hdx)]
      exact q
    refine ⟨F1, x, C, dx, ns, vs, ds, rfl, hcl, sF, nF hx, upd_same, r1, hn env ds e, ?_⟩
    have ext : ∀ {F' H' O'}, SExt F1 (upd (upd H1 dx (.own x)) x (.ins C dx [])) [x] F' H' O' → Ext F H F' H' := fun {F' H' O'} y =>
      ⟨x1.ff.trans y.ff, fun b o q => by
        have q1 := x1.hh b o q
        exact y.fr b o (sH b o q1) (by simp; exact ne_of_none q1 hx), y.fh, fun b h1 h2 => by
        have h3 := x1.ow b h1 h2
        have h4 : H1 b ≠ none := x1.some h2
        have h5 : b ≠ x := fun z => h4 (z ▸ hx)
        refine y.ow b h3 ?_ (by simp; exact h5)
        cases q : H1 b with
        | none => exact (h4 q).elim
        | some o => rw [sH b o q]; exact fun e => nomatch e⟩
    cases eg : g ds with
    | bad => rw [eg] at p; exact p.elim
    | xc e => rw [eg] at p; exact fun F' H' O' y => p F' H' (ext y)
    | ok fl =>
      rw [eg, Res.bind_ok] at p
      intro F' H' O' y w
      refine ⟨rfl, ?_⟩
      split at p
      · rename_i n
        have fr : Fresh H O' := fun a ha => by
          rcases y.oo a ha with z | z
          · simp at z; subst z; exact x1.hh.free hx
          · exact x1.hh.free (sH.free z)
        have no : ∀ a ∈ O', F' a = none := fun a ha => (w.dom a ha).1
        have z := w.freeze (addF_same no) addF_at (show nod (.oo none c fl) = true from n)
        exact p _ _ H' [] (addF_ext (ext y) fr no) Fresh.nil (.inl (.sh z))
      · exact p.elim
  · exact p.elim

def sTry (fb : Env → Out) (fh : Nat → Env → Out) : Env → Out := fun g => match fb g with
  | .xc c g' => fh c g'
  | o => o
@[simp] theorem sTry_ (fb : Env → Out) (fh : Nat → Env → Out) (g : Env) : sTry fb fh g = match fb g with
  | .xc c g' => fh c g'
  | o => o := rfl
def eIs (i : Nat) (a : Addr) (b : Bool) : Env → Res D := fun g => match (g : List D)[i]? with
  | some (D.rf a') => if a' = a then .ok (.bl b) else .bad
  | _ => .bad
@[simp] theorem eIs_ (i : Nat) (a : Addr) (b : Bool) (g : Env) : eIs i a b g = match (g : List D)[i]? with
  | some (D.rf a') => if a' = a then .ok (.bl b) else .bad
  | _ => .bad := rfl
end
end DL

namespace DL
open PySem L2
section
variable {K : PySem.W.Frag} {cls : Cls} {W : WX} {X : Cx} {F H F' H' F1 H1 : Hp} {O O1 : List Addr} {Q : VK} {σ : St} {a b e tg iter elt : Expr} {es : List Expr} {fa fb fc : Env → Res D} {ga gb : Env → Res Bool} {fs : Env → Res (List D)} {pos : Pos}
end
theorem law_sp {K : PySem.W.Frag} {cls : Cls} {g : List D → Res D} {H : Hp} {a : Addr} {ns : List Int} (h : g [.sc (ns.map D.int)] = .ok (.bl true)) (hS : SqL K H a (ns.map V.int)) :
    spD K cls 1 g [.ref a] H (fun v _ => v = .bl true) fun _ _ _ => False := by
  refine ⟨H, [.sc (ns.map D.int)], .refl H, .cons (.sc hS rps_ints) .nil, rfl, ?_⟩
  rw [h]
  intro v F' H' O' _ _ w
  cases w with
  | sh r => cases r; rfl
theorem law_cx {P : Program} {w : World} {H : Hp} {s : Shared} {e : Value} {s' : Shared} (h : L2.CX P w [] H s (fun _ _ _ => False) e s') : False := by
  obtain ⟨_, _, _, _, _, _, _, _, _, _, _, _, z⟩ := h
  exact z
end DL

namespace DL
open PySem L2
@[simp] theorem brw_un : brw .un = .un := rfl
@[simp] theorem brw_non : brw .non = .non := rfl
@[simp] theorem brw_bl {b} : brw (.bl b) = .bl b := rfl
@[simp] theorem brw_int {b} : brw (.int b) = .int b := rfl
@[simp] theorem brw_str {b} : brw (.str b) = .str b := rfl
@[simp] theorem brw_sc {b} : brw (.sc b) = .sc b := rfl
@[simp] theorem brw_ls {b} : brw (.ls b) = .ls b := rfl
@[simp] theorem brw_tp {b} : brw (.tp b) = .tp b := rfl
@[simp] theorem brw_ob {c b} : brw (.ob c b) = .ob c b := rfl
@[simp] theorem brw_ol {b} : brw (.ol b) = .bo (brws b) := rfl
@[simp] theorem brw_od {k b} : brw (.od k b) = .bd k (brws b) := rfl
@[simp] theorem brw_oo {o c b} : brw (.oo o c b) = .bb c (brws b) := rfl
@[simp] theorem brw_rf {b} : brw (.rf b) = .rf b := rfl
@[simp] theorem brws_nil : brws [] = [] := rfl
@[simp] theorem brws_cons {d ds} : brws (d :: ds) = brw d :: brws ds := rfl
@[simp] theorem frz_un : frz .un = .un := rfl
@[simp] theorem frz_non : frz .non = .non := rfl
@[simp] theorem frz_bl {b} : frz (.bl b) = .bl b := rfl
@[simp] theorem frz_int {b} : frz (.int b) = .int b := rfl
@[simp] theorem frz_str {b} : frz (.str b) = .str b := rfl
@[simp] theorem frz_sc {b} : frz (.sc b) = .sc b := rfl
@[simp] theorem frz_ls {b} : frz (.ls b) = .ls b := rfl
@[simp] theorem frz_tp {b} : frz (.tp b) = .tp b := rfl
@[simp] theorem frz_ob {c b} : frz (.ob c b) = .ob c b := rfl
@[simp] theorem frz_ol {b} : frz (.ol b) = .ls (frzs b) := rfl
@[simp] theorem frz_oo {o c b} : frz (.oo o c b) = .ob c (frzs b) := rfl
@[simp] theorem frz_od {k b} : frz (.od k b) = .od k b := rfl
@[simp] theorem frzs_nil : frzs [] = [] := rfl
@[simp] theorem frzs_cons {d ds} : frzs (d :: ds) = frz d :: frzs ds := rfl
@[simp] theorem pln_bo {b} : pln (.bo b) = .ls (plns b) := rfl
@[simp] theorem pln_int {b} : pln (.int b) = .int b := rfl
@[simp] theorem pln_ls {b} : pln (.ls b) = .ls b := rfl
@[simp] theorem pln_sc {b} : pln (.sc b) = .sc b := rfl
@[simp] theorem pln_tp {b} : pln (.tp b) = .tp b := rfl
@[simp] theorem pln_bl {b} : pln (.bl b) = .bl b := rfl
@[simp] theorem pln_str {b} : pln (.str b) = .str b := rfl
@[simp] theorem pln_non : pln .non = .non := rfl
@[simp] theorem pln_ob {c b} : pln (.ob c b) = .ob c b := rfl
@[simp] theorem plns_nil : plns [] = [] := rfl
@[simp] theorem plns_cons {d ds} : plns (d :: ds) = pln d :: plns ds := rfl
def dull : D → Prop := fun d => brw d = d ∧ frz d = d ∧ pln d = d ∧ nod d = true ∧ shd1 d = true ∧ plok d = true
theorem dulls {α : Type} {f : α → D} (h : ∀ a, dull (f a)) : ∀ l : List α, brws (l.map f) = l.map f ∧ frzs (l.map f) = l.map f ∧ plns (l.map f) = l.map f ∧ nods (l.map f) = true ∧ shd (l.map f) = true ∧ ploks (l.map f) = true
  | [] => ⟨rfl, rfl, rfl, rfl, rfl, rfl⟩
  | a :: l => by
    obtain ⟨h1, h2, h3, h4, h5, h6⟩ := dulls h l
    obtain ⟨k1, k2, k3, k4, k5, k6⟩ := h a
    refine ⟨?_, ?_, ?_, ?_, ?_, ?_⟩
    · simp [h1, k1]
    · simp [h2, k2]
    · simp [h3, k3]
    · simp [h4, k4]
    · simp [h5, k5]
    · simp [h6, k6]
theorem dull_int (i : Int) : dull (.int i) := ⟨rfl, rfl, rfl, rfl, rfl, rfl⟩
theorem dull_bl (i : Bool) : dull (.bl i) := ⟨rfl, rfl, rfl, rfl, rfl, rfl⟩
theorem dull_str (i : Str) : dull (.str i) := ⟨rfl, rfl, rfl, rfl, rfl, rfl⟩
@[simp] def dP (p : Int × Int) : D := .tp [.int p.1, .int p.2]
theorem dull_P (p : Int × Int) : dull (dP p) := ⟨rfl, rfl, rfl, rfl, rfl, rfl⟩
def dT (l : List Int) : D := .tp (l.map D.int)
theorem dull_T (l : List Int) : dull (dT l) := ⟨rfl, rfl, rfl, rfl, rfl, rfl⟩
section
variable (l : List Int)
@[simp] theorem brws_I : brws (l.map D.int) = l.map D.int := (dulls dull_int l).1
@[simp] theorem frzs_I : frzs (l.map D.int) = l.map D.int := (dulls dull_int l).2.1
@[simp] theorem plns_I : plns (l.map D.int) = l.map D.int := (dulls dull_int l).2.2.1
@[simp] theorem nods_I : nods (l.map D.int) = true := (dulls dull_int l).2.2.2.1
@[simp] theorem shd_I : shd (l.map D.int) = true := (dulls dull_int l).2.2.2.2.1
@[simp] theorem ploks_I : ploks (l.map D.int) = true := (dulls dull_int l).2.2.2.2.2
@[simp] theorem flats_I : flats (l.map D.int) = true := by
  induction l with
  | nil => rfl
  | cons a l ih => simp [ih]
end
section
variable (l : List (Int × Int))
@[simp] theorem brws_P : brws (l.map dP) = l.map dP := (dulls dull_P l).1
@[simp] theorem frzs_P : frzs (l.map dP) = l.map dP := (dulls dull_P l).2.1
@[simp] theorem plns_P : plns (l.map dP) = l.map dP := (dulls dull_P l).2.2.1
@[simp] theorem nods_P : nods (l.map dP) = true := (dulls dull_P l).2.2.2.1
@[simp] theorem shd_P : shd (l.map dP) = true := (dulls dull_P l).2.2.2.2.1
@[simp] theorem ploks_P : ploks (l.map dP) = true := (dulls dull_P l).2.2.2.2.2
end
@[simp] theorem atI_map {α β : Type} (f : α → β) (l : List α) (i : Int) : atI (l.map f) i = (atI l i).map f := by
  unfold atI
  rw [List.length_map]
  cases ixN l.length i with
  | none => rfl
  | some j => simp
theorem atI_of {α : Type} {l : List α} {i : Int} (h0 : 0 ≤ i) (h1 : i < l.length) : ∃ a, atI l i = some a ∧ l[i.toNat]? = some a := by
  have h : i.toNat < l.length := by omega
  refine ⟨l[i.toNat], ?_, by simp [h]⟩
  unfold atI ixN
  rw [if_pos h0, if_pos h1]
  simp [h]
theorem atI_natG {α : Type} {l : List α} {j : Nat} {i : Int} (e : i = (j : Int)) (h : j < l.length) : atI l i = l[j]? := by
  subst e
  unfold atI ixN
  rw [if_pos (by omega), if_pos (by omega)]
  simp
theorem ixN_nat {n : Nat} {i : Int} (h0 : 0 ≤ i) (h1 : i < n) : ixN n i = some i.toNat := by
  unfold ixN
  rw [if_pos h0, if_pos h1]
theorem forL_inv {tg : D → Env → Option Env} {b : Env → Out} (P : Nat → Env → Prop) : ∀ (ds : List D) (g : Env) (j : Nat), P j g →
    (∀ i d g, ds[i]? = some d → P (j + i) g → ∃ g1 g', tg d g = some g1 ∧ (b g1 = .nx g' ∨ b g1 = .ct g') ∧ P (j + i + 1) g') → ∃ g', forL tg b ds g = .nx g' ∧ P (j + ds.length) g'
  | [], g, j, h0, _ => ⟨g, rfl, h0⟩
  | d :: ds, g, j, h0, hs => by
    obtain ⟨g1, g', e1, e2, h1⟩ := hs 0 d g rfl h0
    obtain ⟨g2, e3, h2⟩ := forL_inv P ds g' (j + 1) h1 fun i d' g e h => by
      have := hs (i + 1) d' g (by simpa using e) (by rw [show j + (i + 1) = j + 1 + i by omega]; exact h)
      rw [show j + (i + 1) + 1 = j + 1 + i + 1 by omega] at this
      exact this
    refine ⟨g2, ?_, by rw [List.length_cons, show j + (ds.length + 1) = j + 1 + ds.length by omega]; exact h2⟩
    rw [forL_cons, e1]
    rcases e2 with e2 | e2 <;> (simp only [e2]; exact e3)
theorem for_rng {tg : D → Env → Option Env} {b : Env → Out} (P : Nat → Env → Prop) {lo : Int} {n : Nat} {g : Env} (h0 : P 0 g)
    (hs : ∀ i g, i < n → P i g → ∃ g1 g', tg (.int (lo + i)) g = some g1 ∧ (b g1 = .nx g' ∨ b g1 = .ct g') ∧ P (i + 1) g') : ∃ g', forL tg b (rng lo n) g = .nx g' ∧ P n g' := by
  obtain ⟨g', e, h⟩ := forL_inv (tg := tg) (b := b) P (rng lo n) g 0 h0 fun i d g e h => by
    obtain ⟨h1, rfl⟩ := rng_get e
    rw [Nat.zero_add] at h ⊢
    exact hs i g h1 h
  rw [rng_len, Nat.zero_add] at h
  exact ⟨g', e, h⟩
end DL

namespace DL
open PySem L2
def e60 : Int := 10 ^ 60
@[simp] theorem e60_pos : 0 < e60 := by decide
section
variable {a b i j : Int} {x y : Str} {xs ys : List D} {k l : Bool} {d e : D} {ks : List Key} {c n : Nat}
@[simp] theorem caLen_sc : caLen [.sc xs] = some (.int xs.length) := rfl
@[simp] theorem caLen_ls : caLen [.ls xs] = some (.int xs.length) := rfl
@[simp] theorem caLen_bo : caLen [.bo xs] = some (.int xs.length) := rfl
@[simp] theorem caLen_tp : caLen [.tp xs] = some (.int xs.length) := rfl
@[simp] theorem opIx_sc : opIx (.sc xs) (.int i) = atI xs i := rfl
@[simp] theorem opIx_ls : opIx (.ls xs) (.int i) = atI xs i := rfl
@[simp] theorem opIx_bo : opIx (.bo xs) (.int i) = atI xs i := rfl
@[simp] theorem opIx_tp : opIx (.tp xs) (.int i) = atI xs i := rfl
@[simp] theorem atI_two0 {α : Type} {p q : α} : atI [p, q] 0 = some p := rfl
@[simp] theorem atI_two1 {α : Type} {p q : α} : atI [p, q] 1 = some q := rfl
theorem opPow_eq : opPow (.int i) (.int j) = if CPow i j then some (.int (i ^ j.toNat)) else none := rfl
theorem opMod_eq : opMod (.int i) (.int j) = if j ≠ 0 then some (.int (if 0 < j then i % j else i.fmod j)) else none := rfl
theorem opDiv_eq : opDiv (.int i) (.int j) = if divOk j then some (.int (if 0 < j then i / j else i.fdiv j)) else none := rfl
theorem opMul_eq : opMul (.int i) (.int j) = if mulOk i j then some (.int (i * j)) else none := rfl
theorem opMul_ls : opMul (.ls xs) (.int i) = if i < 2 ^ 63 ∧ -(2 ^ 63) ≤ i ∧ xs.length * i.toNat ≤ lim then some (.ol (List.replicate i.toNat xs).flatten) else none := rfl
theorem caMax2_eq : caMax2 [.int a, .int b] = some (.int (if b > a then b else a)) := rfl
theorem caMin2_eq : caMin2 [.int a, .int b] = some (.int (if b < a then b else a)) := rfl
theorem caAbs_eq : caAbs [.int a] = some (.int (if a < 0 then -a else a)) := rfl
@[simp] theorem opPow_c : opPow (.int 10) (.int 60) = some (.int e60) := by
  rw [opPow_eq, if_pos (by unfold CPow; decide)]
  rfl
@[simp] theorem opMod_pos (h : 0 < b) : opMod (.int a) (.int b) = some (.int (a % b)) := by
  rw [opMod_eq, if_pos (by omega), if_pos h]
theorem divOk_small (h0 : b ≠ 0) (h : b.natAbs < 1073741824) : divOk b := ⟨h0, .inl h⟩
@[simp] theorem opDiv_pos (h : 0 < b) (h' : b < 1073741824) : opDiv (.int a) (.int b) = some (.int (a / b)) := by
  rw [opDiv_eq, if_pos (divOk_small (by omega) (by omega)), if_pos h]
@[simp] theorem opMul_l (h : -18446744073709551616 < a) (h' : a < 18446744073709551616) : opMul (.int a) (.int b) = some (.int (a * b)) := by
  rw [opMul_eq, if_pos (.inl (.inl ⟨by omega, by omega⟩))]
@[simp] theorem opMul_r (h : -18446744073709551616 < b) (h' : b < 18446744073709551616) : opMul (.int a) (.int b) = some (.int (a * b)) := by
  rw [opMul_eq, if_pos (.inl (.inr ⟨by omega, by omega⟩))]
@[simp] theorem opAdd_int : opAdd (.int a) (.int b) = some (.int (a + b)) := rfl
@[simp] theorem opSub_int : opSub (.int a) (.int b) = some (.int (a - b)) := rfl
@[simp] theorem opNeg_int : opNeg (.int a) = some (.int (-a)) := rfl
@[simp] theorem opAdd_tp (h : xs.length + ys.length ≤ lim) : opAdd (.tp xs) (.tp ys) = some (.tp (xs ++ ys)) := if_pos h
@[simp] theorem opAdd_ll (h : xs.length + ys.length ≤ lim) : opAdd (.ls xs) (.ls ys) = some (.ol (xs ++ ys)) := if_pos h
theorem opAdd_lst {d e : D} (h1 : lsv d = some xs) (h2 : lsv e = some ys) (h : xs.length + ys.length ≤ lim) : opAdd d e = some (.ol (xs ++ ys)) := by
  have e1 : opAdd d e = opAddL d e := by cases d <;> first | rfl | cases h1
  rw [e1]
  unfold opAddL
  rw [h1, h2]
  exact if_pos h
@[simp] theorem opAdd_lb (h2 : shd ys = true) (h : xs.length + ys.length ≤ lim) : opAdd (.ls xs) (.bo ys) = some (.ol (xs ++ ys)) := opAdd_lst rfl (by simp [h2]) h
@[simp] theorem opAdd_bl (h2 : shd xs = true) (h : xs.length + ys.length ≤ lim) : opAdd (.bo xs) (.ls ys) = some (.ol (xs ++ ys)) := opAdd_lst (by simp [h2]) rfl h
@[simp] theorem opAdd_bb (h1 : shd xs = true) (h2 : shd ys = true) (h : xs.length + ys.length ≤ lim) : opAdd (.bo xs) (.bo ys) = some (.ol (xs ++ ys)) := opAdd_lst (by simp [h1]) (by simp [h2]) h
@[simp] theorem opAdd_str (h : x.length + y.length ≤ lim) : opAdd (.str x) (.str y) = some (.str (x ++ y)) := if_pos h
@[simp] theorem opMul_rep (h : 0 ≤ a) (h' : a ≤ 100000) (h2 : xs.length ≤ 10) : opMul (.ls xs) (.int a) = some (.ol (List.replicate a.toNat xs).flatten) := by
  have : xs.length * a.toNat ≤ lim := by
    unfold lim
    have h1 : a.toNat ≤ 100000 := by omega
    exact Nat.le_trans (Nat.mul_le_mul h2 h1) (by decide)
  rw [opMul_ls, if_pos ⟨by omega, by omega, this⟩]
@[simp] theorem cLt_int : cLt (.int a) (.int b) = some (decide (a < b)) := rfl
@[simp] theorem cLe_int : cLe (.int a) (.int b) = some (decide (a ≤ b)) := rfl
@[simp] theorem cGt_int : cGt (.int a) (.int b) = some (decide (b < a)) := rfl
@[simp] theorem cGe_int : cGe (.int a) (.int b) = some (decide (b ≤ a)) := rfl
@[simp] theorem cEq_int : cEq (.int a) (.int b) = some (decide (a = b)) := rfl
@[simp] theorem cEq_str : cEq (.str x) (.str y) = some (decide (x = y)) := rfl
@[simp] theorem cEq_bl : cEq (.bl k) (.bl l) = some (decide (k = l)) := rfl
@[simp] theorem cNe_int : cNe (.int a) (.int b) = some (!decide (a = b)) := rfl
@[simp] theorem cNe_str : cNe (.str x) (.str y) = some (!decide (x = y)) := rfl
@[simp] theorem cNe_bl : cNe (.bl k) (.bl l) = some (!decide (k = l)) := rfl
@[simp] theorem cIsN_non : cIsN .non .non = some true := rfl
@[simp] theorem cIsN_int : cIsN (.int a) .non = some false := rfl
@[simp] theorem cIsN_tp : cIsN (.tp xs) .non = some false := rfl
@[simp] theorem cIsN_ls : cIsN (.ls xs) .non = some false := rfl
@[simp] theorem cIsN_bo : cIsN (.bo xs) .non = some false := rfl
@[simp] theorem cIsN_ob : cIsN (.ob c xs) .non = some false := rfl
@[simp] theorem cIsN_str : cIsN (.str x) .non = some false := rfl
@[simp] theorem cNotN_non : cNotN .non .non = some false := rfl
@[simp] theorem cNotN_int : cNotN (.int a) .non = some true := rfl
@[simp] theorem cNotN_tp : cNotN (.tp xs) .non = some true := rfl
@[simp] theorem cNotN_ls : cNotN (.ls xs) .non = some true := rfl
@[simp] theorem cNotN_ob : cNotN (.ob c xs) .non = some true := rfl
@[simp] theorem caMax2_int : caMax2 [.int a, .int b] = some (.int (max a b)) := by
  rw [caMax2_eq, show (if b > a then b else a) = max a b by split <;> omega]
@[simp] theorem caMin2_int : caMin2 [.int a, .int b] = some (.int (min a b)) := by
  rw [caMin2_eq, show (if b < a then b else a) = min a b by split <;> omega]
@[simp] theorem caAbs_int : caAbs [.int a] = some (.int (a.natAbs : Int)) := by
  rw [caAbs_eq, show (if a < 0 then -a else a) = (a.natAbs : Int) by split <;> omega]
@[simp] theorem caInt_int : caInt [.int a] = some (.int a) := rfl
@[simp] theorem caInt_bl : caInt [.bl k] = some (.int (if k = true then 1 else 0)) := rfl
@[simp] theorem caList_ls : caList [.ls xs] = some (.ol xs) := rfl
@[simp] theorem caList_sc : caList [.sc xs] = some (.ol xs) := rfl
@[simp] theorem caList_tp : caList [.tp xs] = some (.ol xs) := rfl
@[simp] theorem caList_bo (h : shd xs = true) : caList [.bo xs] = some (.ol xs) := by simp [caList, h]
@[simp] theorem caTuple_ls : caTuple [.ls xs] = some (.tp xs) := rfl
@[simp] theorem caTuple_sc : caTuple [.sc xs] = some (.tp xs) := rfl
@[simp] theorem caTuple_tp : caTuple [.tp xs] = some (.tp xs) := rfl
@[simp] theorem caTuple_bo (h : shd xs = true) : caTuple [.bo xs] = some (.tp xs) := by simp [caTuple, h]
variable {ns : List Int}
@[simp] theorem caSum_ls : caSum [.ls (ns.map D.int)] = some (.int ns.sum) := by simp [caSum]
@[simp] theorem caSum_bo : caSum [.bo (ns.map D.int)] = some (.int ns.sum) := by simp [caSum]
@[simp] theorem caSum_sc : caSum [.sc (ns.map D.int)] = some (.int ns.sum) := by simp [caSum]
@[simp] theorem caSorted_ls : caSorted [.ls (ns.map D.int)] = some (.ol ((srt ns).map D.int)) := by simp [caSorted]
@[simp] theorem caSorted_bo : caSorted [.bo (ns.map D.int)] = some (.ol ((srt ns).map D.int)) := by simp [caSorted]
@[simp] theorem opSl_tp {lo hi : Option Int} : opSl (.tp xs) lo hi = some (.tp (cut xs lo hi)) := rfl
@[simp] theorem opSl_ls {lo hi : Option Int} : opSl (.ls xs) lo hi = some (.ol (cut xs lo hi)) := rfl
@[simp] theorem opSl_sc {lo hi : Option Int} : opSl (.sc xs) lo hi = some (.ol (cut xs lo hi)) := rfl
@[simp] theorem opSl_bo {lo hi : Option Int} (h : shd xs = true) : opSl (.bo xs) lo hi = some (.ol (cut xs lo hi)) := by simp [opSl, h]
@[simp] theorem cut_map {α β : Type} (f : α → β) (l : List α) (lo hi : Option Int) : cut (l.map f) lo hi = (cut l lo hi).map f := by
  unfold cut
  simp
@[simp] theorem tru_bl : tru (.bl k) = some k := rfl
@[simp] theorem tru_int : tru (.int a) = some (a != 0) := rfl
@[simp] theorem tru_non : tru .non = some false := rfl
@[simp] theorem tru_ls : tru (.ls xs) = some (!xs.isEmpty) := rfl
@[simp] theorem tru_bo : tru (.bo xs) = some (!xs.isEmpty) := rfl
@[simp] theorem tru_tp : tru (.tp xs) = some (!xs.isEmpty) := rfl
@[simp] theorem cIn_ls : cIn (.int a) (.ls (ns.map D.int)) = some (decide (a ∈ ns)) := by simp [cIn]
@[simp] theorem cIn_tp : cIn (.int a) (.tp (ns.map D.int)) = some (decide (a ∈ ns)) := by simp [cIn]
@[simp] theorem cIn_bo : cIn (.int a) (.bo (ns.map D.int)) = some (decide (a ∈ ns)) := by simp [cIn]
@[simp] theorem cNIn_ls : cNIn (.int a) (.ls (ns.map D.int)) = some (!decide (a ∈ ns)) := by simp [cNIn]
@[simp] theorem cNIn_tp : cNIn (.int a) (.tp (ns.map D.int)) = some (!decide (a ∈ ns)) := by simp [cNIn]
@[simp] theorem cNIn_bo : cNIn (.int a) (.bo (ns.map D.int)) = some (!decide (a ∈ ns)) := by simp [cNIn]
@[simp] theorem opFld_ob : opFld c n (.ob c xs) = xs[n]? := if_pos rfl
@[simp] theorem opFld_bb : opFld c n (.bb c xs) = xs[n]? := if_pos rfl
@[simp] theorem calD_shd {g : List D → Res D} (h : shd xs = true) : calD g xs = g xs := if_pos h
end
end DL

namespace DL
open PySem L2
theorem for_rngN {s : Nat} {b : Env → Out} (P : Nat → Env → Prop) {lo : Int} {n : Nat} {g : Env} (h0 : P 0 g)
    (hs : ∀ (i : Nat) g, i < n → P i g → ∃ g', (b (g.set s (.int (lo + i))) = .nx g' ∨ b (g.set s (.int (lo + i))) = .ct g') ∧ P (i + 1) g') : ∃ g', forL (gtN s) b (rng lo n) g = .nx g' ∧ P n g' :=
  for_rng P h0 fun i g hi h => by
    obtain ⟨g', e, h'⟩ := hs i g hi h
    exact ⟨_, g', rfl, e, h'⟩
theorem lcL_map {α : Type} {tg : D → Env → Option Env} {te : Env → Res D} {g : Env} {f h : α → D} : ∀ (l : List α), (∀ a ∈ l, ∃ g1, tg (f a) g = some g1 ∧ (te g1).bind kp = .ok (h a)) → lcL tg tYesG te g (l.map f) = .ok (l.map h)
  | [], _ => rfl
  | a :: l, k => by
    obtain ⟨g1, e1, e2⟩ := k a (by simp)
    rw [List.map_cons, lcL_cons, e1]
    simp only [tYesG_, Res.bind_ok, if_true]
    rw [e2, lcL_map l fun b hb => k b (by simp [hb])]
    rfl
theorem lcL_mapN {α : Type} {s : Nat} {te : Env → Res D} {g : Env} {f h : α → D} (l : List α) (k : ∀ a ∈ l, (te (g.set s (f a))).bind kp = .ok (h a)) : lcL (gtN s) tYesG te g (l.map f) = .ok (l.map h) :=
  lcL_map l fun a ha => ⟨_, rfl, k a ha⟩
theorem lcL_filter {α : Type} {tg : D → Env → Option Env} {tt : Env → Res Bool} {te : Env → Res D} {g : Env} {f h : α → D} {p : α → Bool} : ∀ (l : List α), (∀ a ∈ l, ∃ g1, tg (f a) g = some g1 ∧ tt g1 = .ok (p a) ∧ (p a = true → (te g1).bind kp = .ok (h a))) → lcL tg tt te g (l.map f) = .ok ((l.filter p).map h)
  | [], _ => rfl
  | a :: l, k => by
    obtain ⟨g1, e1, e2, e3⟩ := k a (by simp)
    have ih := lcL_filter (h := h) l fun b hb => k b (by simp [hb])
    rw [List.map_cons, lcL_cons, e1]
    simp only [e2, Res.bind_ok]
    cases hp : p a with
    | true => rw [if_pos rfl, e3 hp, ih, List.filter_cons_of_pos hp]; rfl
    | false => rw [if_neg (by decide), ih, List.filter_cons_of_neg (by simp [hp])]
theorem lcL_filterN {α : Type} {s : Nat} {tt : Env → Res Bool} {te : Env → Res D} {g : Env} {f h : α → D} {p : α → Bool} (l : List α) (k : ∀ a ∈ l, tt (g.set s (f a)) = .ok (p a) ∧ (p a = true → (te (g.set s (f a))).bind kp = .ok (h a))) : lcL (gtN s) tt te g (l.map f) = .ok ((l.filter p).map h) :=
  lcL_filter l fun a ha => ⟨_, rfl, (k a ha).1, (k a ha).2⟩
theorem map_int {α : Type} (h : α → Int) (l : List α) : l.map (fun a => D.int (h a)) = (l.map h).map D.int := by simp
theorem cut_len {α : Type} (l : List α) (lo hi : Option Int) : (cut l lo hi).length ≤ l.length := by
  unfold cut; rw [List.length_take, List.length_drop]; omega
theorem cut_from {α : Type} (l : List α) (i : Int) (h : 0 ≤ i) : cut l (some i) none = l.drop i.toNat := by
  unfold cut
  obtain ⟨n, rfl⟩ := Int.eq_ofNat_of_zero_le h
  rw [HT.sIx_nat, HT.sIx_none]
  simp only [Int.toNat_natCast]
  by_cases hn : n ≤ l.length
  · rw [Nat.min_eq_left hn, List.take_of_length_le (by simp)]
  · rw [Nat.min_eq_right (by omega), List.drop_length, List.drop_eq_nil_of_le (by omega)]; simp
theorem cut_to {α : Type} (l : List α) (i : Int) (h : 0 ≤ i) : cut l none (some i) = l.take i.toNat := by
  unfold cut
  obtain ⟨n, rfl⟩ := Int.eq_ofNat_of_zero_le h
  rw [HT.sIx_nat, HT.sIx_none]
  simp only [Int.toNat_natCast, List.drop_zero, Nat.sub_zero]
  by_cases hn : n ≤ l.length
  · rw [Nat.min_eq_left hn]
  · rw [Nat.min_eq_right (by omega), List.take_of_length_le (Nat.le_refl _), List.take_of_length_le (by omega)]
theorem rng_map (lo : Int) (n : Nat) : rng lo n = ((List.range n).map fun i : Nat => lo + (i : Int)).map D.int := by unfold rng; simp
theorem lim_eq : lim = 1000000 := rfl
@[simp] theorem lim_0 : 0 ≤ lim := by decide
@[simp] theorem lim_1 : 1 ≤ lim := by decide
@[simp] theorem lim_2 : 2 ≤ lim := by decide
@[simp] theorem lim_3 : 3 ≤ lim := by decide
@[simp] theorem lim_4 : 4 ≤ lim := by decide
@[simp] theorem lim_5 : 5 ≤ lim := by decide
@[simp] theorem lim_6 : 6 ≤ lim := by decide
@[simp] theorem lim_7 : 7 ≤ lim := by decide
@[simp] theorem lim_8 : 8 ≤ lim := by decide
@[simp] theorem lim_9 : 9 ≤ lim := by decide
@[simp] theorem lim_10 : 10 ≤ lim := by decide
@[simp] theorem lim_11 : 11 ≤ lim := by decide
@[simp] theorem lim_12 : 12 ≤ lim := by decide
@[simp] theorem lim_13 : 13 ≤ lim := by decide
@[simp] theorem lim_14 : 14 ≤ lim := by decide
@[simp] theorem lim_15 : 15 ≤ lim := by decide
@[simp] theorem lim_16 : 16 ≤ lim := by decide
@[simp] theorem lim_17 : 17 ≤ lim := by decide
@[simp] theorem lim_18 : 18 ≤ lim := by decide
@[simp] theorem lim_19 : 19 ≤ lim := by decide
@[simp] theorem lim_20 : 20 ≤ lim := by decide
end DL

namespace DL
open PySem L2
noncomputable def mirI (f : Env → Out) (c n : Nat) : List D → Res (List D) := fun ds => by
  classical exact if h : ∃ r, ∀ x, runI f c n x ds = r then h.choose else .bad
theorem mirI_eq {f : Env → Out} {c n : Nat} {ds : List D} {r : Res (List D)} (h : ∀ x, runI f c n x ds = r) : mirI f c n ds = r := by
  unfold mirI
  rw [dif_pos ⟨r, h⟩]
  have := (Exists.choose_spec (⟨r, h⟩ : ∃ r, ∀ x, runI f c n x ds = r)) 0
  rw [← this, h 0]
theorem mirI_ok {f : Env → Out} {c n k : Nat} : ∀ ds x, ds.length = k → mirI f c n ds = .bad ∨ runI f c n x ds = mirI f c n ds := by
  intro ds x _
  by_cases h : ∃ r, ∀ x, runI f c n x ds = r
  · right
    obtain ⟨r, h⟩ := h
    rw [mirI_eq h, h x]
  · left
    unfold mirI
    rw [dif_neg h]
end DL

namespace DL
open PySem L2
def Enc {α : Type} [DecidableEq α] (f : α → D) (n : Nat) : Prop := ∃ p : α → PyData, (∀ a, toPy (f a) = some (p a) ∧ (p a).canLay0 = true ∧ (p a).depth ≤ n) ∧ ∀ a b, PyData.eqv (p a) (p b) = decide (a = b)
section
variable {α : Type} [DecidableEq α] {f : α → D} {n : Nat}
theorem toPys_map {f : α → D} {p : α → PyData} (h : ∀ a, toPy (f a) = some (p a)) : ∀ l : List α, toPys (l.map f) = some (l.map p)
  | [] => by simp [toPys]
  | a :: l => by simp [toPys, h a, toPys_map h l]
theorem eqvAll_map {p : α → PyData} (h : ∀ a b, PyData.eqv (p a) (p b) = decide (a = b)) : ∀ l m : List α, PyData.eqvAll (l.map p) (m.map p) = decide (l = m)
  | [], [] => by simp [PyData.eqvAll]
  | [], _ :: _ => by simp [PyData.eqvAll]
  | _ :: _, [] => by simp [PyData.eqvAll]
  | a :: l, b :: m => by
    simp only [List.map_cons, PyData.eqvAll, h a b, eqvAll_map h l m]
    by_cases e : a = b <;> by_cases e' : l = m <;> simp [e, e']
theorem lay_map {p : α → PyData} (h : ∀ a, (p a).canLay0 = true) : ∀ l : List α, PyData.canLayAll0 (l.map p) = true
  | [] => by simp [PyData.canLayAll0]
  | a :: l => by simp [PyData.canLayAll0, h a, lay_map h l]
theorem dep_map {p : α → PyData} (h : ∀ a, (p a).depth ≤ n) : ∀ l : List α, PyData.depthAll (l.map p) ≤ n
  | [] => by simp [PyData.depthAll]
  | a :: l => by
    simp only [List.map_cons, PyData.depthAll]
    exact Nat.max_le.mpr ⟨h a, dep_map h l⟩
theorem enc_int : Enc D.int 0 := ⟨.int, fun a => ⟨by simp [toPy], by simp [PyData.canLay0], by simp [PyData.depth]⟩, fun a b => by simp only [PyData.eqv]; by_cases e : a = b <;> simp [e]⟩
theorem enc_bl : Enc D.bl 0 := ⟨.bool, fun a => ⟨by simp [toPy], by simp [PyData.canLay0], by simp [PyData.depth]⟩, fun a b => by simp only [PyData.eqv]; by_cases e : a = b <;> simp [e]⟩
theorem Enc.ls (h : Enc f n) : Enc (fun l : List α => D.ls (l.map f)) (n + 1) := by
  obtain ⟨p, h1, h2⟩ := h
  refine ⟨fun l => .list (l.map p), fun l => ⟨by simp [toPy, toPys_map fun a => (h1 a).1], ?_, ?_⟩, fun l m => ?_⟩
  · simp [PyData.canLay0, lay_map fun a => (h1 a).2.1]
  · have := dep_map (fun a => (h1 a).2.2) l
    simp only [PyData.depth]; omega
  · simp only [PyData.eqv]; exact eqvAll_map h2 l m
theorem Enc.tp (h : Enc f n) : Enc (fun l : List α => D.tp (l.map f)) (n + 1) := by
  obtain ⟨p, h1, h2⟩ := h
  refine ⟨fun l => .tuple (l.map p), fun l => ⟨by simp [toPy, toPys_map fun a => (h1 a).1], ?_, ?_⟩, fun l m => ?_⟩
  · simp [PyData.canLay0, lay_map fun a => (h1 a).2.1]
  · have := dep_map (fun a => (h1 a).2.2) l
    simp only [PyData.depth]; omega
  · simp only [PyData.eqv]; exact eqvAll_map h2 l m
theorem Enc.pair {β : Type} [DecidableEq β] {g : β → D} (h : Enc f n) (h' : Enc g n) : Enc (fun x : α × β => D.tp [f x.1, g x.2]) (n + 1) := by
  obtain ⟨p, h1, h2⟩ := h
  obtain ⟨q, h3, h4⟩ := h'
  refine ⟨fun x => .tuple [p x.1, q x.2], fun x => ⟨by simp [toPy, toPys, h1 x.1, h3 x.2], ?_, ?_⟩, fun x y => ?_⟩
  · simp [PyData.canLay0, PyData.canLayAll0, h1 x.1, h3 x.2]
  · have a := (h1 x.1).2.2
    have b := (h3 x.2).2.2
    simp only [PyData.depth, PyData.depthAll]; omega
  · simp only [PyData.eqv, PyData.eqvAll, h2, h4]
    obtain ⟨x1, x2⟩ := x
    obtain ⟨y1, y2⟩ := y
    by_cases e : x1 = y1 <;> by_cases e' : x2 = y2 <;> simp [e, e']
theorem Enc.eq (h : Enc f n) (hn : n ≤ 64) (a b : α) : pyEq (f a) (f b) = some (decide (a = b)) := by
  obtain ⟨p, h1, h2⟩ := h
  have s : ∀ a, SeqAt.shaped (p a) = true := fun a => by
    have := (h1 a).2.2
    simp only [SeqAt.shaped, (h1 a).2.1, Bool.true_and, decide_eq_true_eq]; omega
  simp [pyEq, (h1 a).1, (h1 b).1, s, h2]
end
theorem toPy_bo {xs : List D} : toPy (.bo xs) = toPy (.ls xs) := by simp [toPy]
theorem pyEq_bl {xs ys : List D} : pyEq (.bo xs) (.ls ys) = pyEq (.ls xs) (.ls ys) := by simp [pyEq, toPy_bo]
theorem pyEq_lb {xs ys : List D} : pyEq (.ls xs) (.bo ys) = pyEq (.ls xs) (.ls ys) := by simp [pyEq, toPy_bo]
theorem pyEq_bb {xs ys : List D} : pyEq (.bo xs) (.bo ys) = pyEq (.ls xs) (.ls ys) := by simp [pyEq, toPy_bo]
@[simp] theorem cEq_ll {xs ys : List D} : cEq (.ls xs) (.ls ys) = pyEq (.ls xs) (.ls ys) := rfl
@[simp] theorem cEq_lbo {xs ys : List D} : cEq (.ls xs) (.bo ys) = pyEq (.ls xs) (.ls ys) := pyEq_lb
@[simp] theorem cEq_bol {xs ys : List D} : cEq (.bo xs) (.ls ys) = pyEq (.ls xs) (.ls ys) := pyEq_bl
@[simp] theorem cEq_bobo {xs ys : List D} : cEq (.bo xs) (.bo ys) = pyEq (.ls xs) (.ls ys) := pyEq_bb
@[simp] theorem cEq_tt {xs ys : List D} : cEq (.tp xs) (.tp ys) = pyEq (.tp xs) (.tp ys) := rfl
@[simp] theorem cNe_eq {a b : D} : cNe a b = (cEq a b).map (!·) := rfl
@[simp] theorem pyEq_lsI {xs ys : List Int} : pyEq (.ls (xs.map D.int)) (.ls (ys.map D.int)) = some (decide (xs = ys)) := enc_int.ls.eq (by omega) xs ys
@[simp] theorem pyEq_tpI {xs ys : List Int} : pyEq (.tp (xs.map D.int)) (.tp (ys.map D.int)) = some (decide (xs = ys)) := enc_int.tp.eq (by omega) xs ys
theorem enc_P : Enc dP 1 := enc_int.pair enc_int
@[simp] theorem pyEq_lsP {xs ys : List (Int × Int)} : pyEq (.ls (xs.map dP)) (.ls (ys.map dP)) = some (decide (xs = ys)) := enc_P.ls.eq (by omega) xs ys
@[simp] theorem pyEq_tpP {xs ys : List (Int × Int)} : pyEq (.tp (xs.map dP)) (.tp (ys.map dP)) = some (decide (xs = ys)) := enc_P.tp.eq (by omega) xs ys
@[simp] theorem pyEq_lsB {xs ys : List Bool} : pyEq (.ls (xs.map D.bl)) (.ls (ys.map D.bl)) = some (decide (xs = ys)) := enc_bl.ls.eq (by omega) xs ys
@[simp] theorem pyEq_tpB {xs ys : List Bool} : pyEq (.tp (xs.map D.bl)) (.tp (ys.map D.bl)) = some (decide (xs = ys)) := enc_bl.tp.eq (by omega) xs ys
@[simp] theorem pyEq_bbb {a b c d e f : Bool} : pyEq (.ls [.bl a, .bl b, .bl c]) (.ls [.bl d, .bl e, .bl f]) = some (decide ([a, b, c] = [d, e, f])) := pyEq_lsB (xs := [a, b, c]) (ys := [d, e, f])
@[simp] theorem pyEq_bb2 {a b d e : Bool} : pyEq (.ls [.bl a, .bl b]) (.ls [.bl d, .bl e]) = some (decide ([a, b] = [d, e])) := pyEq_lsB (xs := [a, b]) (ys := [d, e])
@[simp] theorem pyEq_nn : pyEq (.ls []) (.ls []) = some true := pyEq_lsI (xs := []) (ys := [])
@[simp] theorem pyEq_bn {a b c : Bool} : pyEq (.ls [.bl a, .bl b, .bl c]) (.ls []) = some false := by rw [show (.ls [.bl a, .bl b, .bl c] : D) = .ls ([a, b, c].map D.bl) from rfl, show (.ls [] : D) = .ls (([] : List Bool).map D.bl) from rfl, pyEq_lsB]; rfl
@[simp] theorem pyEq_nb {a b c : Bool} : pyEq (.ls []) (.ls [.bl a, .bl b, .bl c]) = some false := by rw [show (.ls [.bl a, .bl b, .bl c] : D) = .ls ([a, b, c].map D.bl) from rfl, show (.ls [] : D) = .ls (([] : List Bool).map D.bl) from rfl, pyEq_lsB]; rfl
end DL

namespace DL
open PySem L2
section
variable {xs ys : List D}
@[simp] theorem nods_append : nods (xs ++ ys) = (nods xs && nods ys) := by induction xs <;> simp [*, Bool.and_assoc]
@[simp] theorem frzs_append : frzs (xs ++ ys) = frzs xs ++ frzs ys := by induction xs <;> simp [*]
@[simp] theorem brws_append : brws (xs ++ ys) = brws xs ++ brws ys := by induction xs <;> simp [*]
@[simp] theorem plns_append : plns (xs ++ ys) = plns xs ++ plns ys := by induction xs <;> simp [*]
@[simp] theorem shd_append : shd (xs ++ ys) = (shd xs && shd ys) := by induction xs <;> simp [*, Bool.and_assoc]
@[simp] theorem ploks_append : ploks (xs ++ ys) = (ploks xs && ploks ys) := by induction xs <;> simp [*, Bool.and_assoc]
@[simp] theorem flats_append : flats (xs ++ ys) = (flats xs && flats ys) := by induction xs <;> simp [*, Bool.and_assoc]
end
theorem rng_succ (lo : Int) (n : Nat) : rng lo (n + 1) = .int lo :: rng (lo + 1) n := by
  unfold rng
  rw [List.range_succ_eq_map, List.map_cons, List.map_map]
  congr 1
  · simp
  · refine List.map_congr_left fun a _ => ?_
    simp; omega
theorem rng_zero (lo : Int) : rng lo 0 = [] := rfl
end DL

namespace DL
open PySem PySem.Spec PyProof.Rows L2
section
variable {P : Program} {w : World} {A : Around} {E : Value → Shared → Prop} {s : Shared}
set_option maxHeartbeats 3200000 in
theorem call_set_listR {l : Addr} {items : Array Value} (ns : List Int) {Q : Value → Shared → Prop} (hh : A.handled = none) (hl : s.heap.IsList l items) (hit : IntsAre items.toList ns) (hb : ns.length + 1 < scanBound)
    (h : ∀ (h' : Heap) (tk c : Nat), SetR w h' s.heap.objs.size (fun j => decide (j ∈ ns)) c → c ≤ ns.length → (∀ b o, s.heap.get? b = some o → h'.get? b = some o) → Q (.ref s.heap.objs.size) { s with heap := h', toks := tk }) :
    wpAny (model P w) A (call (.type "set") [.ref l]) Q E s := by
  have hisz : items.size = ns.length := by
    have q := IntsAre.length hit
    rwa [Array.length_toList] at q
  obtain ⟨c, tl, hmro⟩ := F.called_set.mro
  have hmade := F.called_set.made
  have hsub := F.called_set.sub
  refine wpAny_call (codeAny_of_tree (wpAny_pure ⟨Code.quiet_builtin _ (by decide +kernel), codeAny_builtin F.entry_type_call ?_⟩))
  rw [Around.under_plain (weight_type_call_type "set" [.ref l] []) rfl]
  have h1 := F.called_set.notType
  have h2 := F.called_set.canCreate
  have hct := F.typeCall_set_1 (.ref l)
  repeat (any_goals (first | assumption | wp_step))
  generalize hO : ({ cls := .type "set", dict := none, data := .set #[] 0 (.fresh 0 0 (!w.params.followText "set-order")) } : Obj) = O
  refine codeAny_mono (code_set_led1 (.ref l) (E := E) (Q₁ := fun obj s₁ => obj = .ref s.heap.objs.size ∧ s₁ = { s with heap := s.heap.push O }) ⟨rfl, by rw [hO]⟩) fun r s₁ hr => ?_
  cases r with
  | error e => exact hr
  | ok fl =>
    cases fl with
    | ret obj =>
      obtain ⟨rfl, rfl⟩ := hr
      have hS : (s.heap.push O).get? s.heap.objs.size = some O := Heap.get?_push_size _ (by rw [← hO]; rfl)
      have hT : Shared.TypeIs { s with heap := s.heap.push O } (.ref s.heap.objs.size) "set" := ⟨_, hS, by rw [← hO]⟩
      have hli := F.called_set.init.lookup
      have hbi := F.called_set.init.bind (.ref s.heap.objs.size)
      repeat (any_goals (first | assumption | wp_step))
      refine codeAny_mono (codeAny_call_builtin (R := wants (fun r s₂ => r = .none ∧ ∃ h' tk c, s₂ = { s with heap := h', toks := tk } ∧ SetR w h' s.heap.objs.size (fun j => decide (j ∈ ns)) c ∧ c ≤ ns.length ∧
          (∀ b o, s.heap.get? b = some o → h'.get? b = some o)) E) F.called_set.init.plain F.entry_set_init (check_set_init_1 hT ?_)) fun r₂ s₂ hr₂ => ?_
      · have hlS : l < s.heap.objs.size := by
          obtain ⟨o, ho, _⟩ := hl
          exact Heap.lt_size ho
        have hl1 : (s.heap.push O).IsList l items := hl.push _
        obtain ⟨ol, hol', hcl, nl, hdl⟩ := hl1
        obtain ⟨ocls, odict, odata, oslots⟩ := ol
        simp only at hcl hdl
        subst hcl; subst hdl
        have hl2 : (s.heap.push O).IsList l items := ⟨_, hol', rfl, nl, rfl⟩
        have hsls := F.sub_list_set
        have hslf := F.sub_list_frozenset
        have hne : (Value.type "list" == Value.type "dict") = false := by decide
        have hneI : l ≠ (s.heap.push O).objs.size := by rw [Heap.size_push]; exact Nat.ne_of_lt (Nat.lt_succ_of_lt hlS)
        have hSf : s.heap.objs.size ∉ [(s.heap.push O).objs.size, l] := by
          rw [Heap.size_push]; simp only [List.mem_cons, List.not_mem_nil, or_false, not_or]
          exact ⟨Nat.ne_of_lt (Nat.lt_succ_self _), Nat.ne_of_gt hlS⟩
        subst hO
        unfold Builtin.«set.__init__» noKeywords Builtin.Frozenset.updateFrom
        generalize hPI : pyIter = PI
        wp_walk
        subst hPI
        refine wpAny_pyIter_list hl2 ?_
        refine wpAny_bind (wpAny_runValue ?_)
        have hval : ∀ (i : Nat) (v : Value), items[i]? = some v → ∃ k t, ns[i]? = some k ∧ v = .int k t := fun i v hv => by
          have hi : i < ns.length := by rw [← hisz]; exact (Array.getElem?_eq_some_iff.mp hv).1
          obtain ⟨t, e⟩ := PyProof.Rows.IntsAre.int_at hit i v (by rw [Array.getElem?_toList]; exact hv)
          exact ⟨ns[i], t, List.getElem?_eq_getElem hi, by rw [e, List.getD_eq_getElem?_getD, List.getElem?_eq_getElem hi] <;> rfl⟩
        refine set_update_ints ((Walks.list (by simp [hh]) _ l hneI items).toS) s.heap.objs.size hSf ns hisz hb hval (items.size - 0) 0 _ (by omega) (Nat.zero_le _)
          ⟨⟨_, Heap.get?_push_size _ rfl, rfl, rfl⟩, (hl2.push _)⟩ ⟨0, Nat.le_refl 0, setR_new_at (Heap.get?_push_of_some _ hS)⟩ fun s' c' hm hc' hS' => ?_
        obtain ⟨h', g2, d', tk', os'⟩ := s'
        have eg : g2 = s.gens := hm.gens
        have ed : d' = s.drawn := hm.drawn
        have eo : os' = s.os := hm.os
        subst eg; subst ed; subst eo
        refine wpAny_pure ?_
        rw [hisz] at hc'
        refine wpAny_pure ⟨rfl, h', tk', c', rfl, hS', hc', fun b o e => ?_⟩
        have hb0 : b < s.heap.objs.size := Heap.lt_size e
        refine hm.heap b o ?_ (Heap.get?_push_of_some _ (Heap.get?_push_of_some _ e))
        simp only [List.mem_cons, List.not_mem_nil, or_false, not_or, Heap.size_push]
        exact ⟨Nat.ne_of_lt hb0, Nat.ne_of_lt (Nat.lt_succ_of_lt hb0)⟩
      · cases r₂ with
        | error e => exact hr₂
        | ok fl₂ =>
          cases fl₂ with
          | ret r =>
            obtain ⟨rfl, h', tk, c', rfl, hS', hc', hk'⟩ := hr₂
            repeat (any_goals (first | assumption | wp_step))
            exact h _ _ _ hS' hc' hk'
          | _ => exact hr₂.elim
    | _ => exact hr.elim
end
end DL

namespace DL
open PySem PySem.Spec PyProof.Rows L2
section
variable {X : Cx} {cls : Cls} {W : WX} {K : PySem.W.Frag} {F H F' H' : Hp}
theorem rgV_ints (a b : Int) : rgV a b = ((List.range (b - a).toNat).map fun i : Nat => a + (i : Int)).map V.int := by unfold rgV; simp
def eLR1 (fa : Env → Res D) : Env → Res D := fun g => (fa g).bind fun d => match opd d with
  | .int n => if rgOk n ∧ n ≤ 1000000 then .ok (.ol (rng 0 n.toNat)) else .bad
  | _ => .bad
theorem je_lr1 {a : Expr} {p p2 pos q : Pos} {fa : Env → Res D} (c : Cn X W k) (hm : X.mg "list" = none) (hm2 : X.mg "range" = none) (ha : JE X cls W a fa)
    (hg : Gl X "list" := by rfl) (hg2 : Gl X "range" := by rfl) (na : starEach [a] X.env = (false, eval a X.env) :: starEach [] X.env := by rfl)
    (na2 : starEach [.Call (.Name "range" p2) [a] [] q] X.env = (false, eval (.Call (.Name "range" p2) [a] [] q) X.env) :: starEach [] X.env := by rfl) :
    JE X cls W (.Call (.Name "list" p) [.Call (.Name "range" p2) [a] [] q] [] pos) (eLR1 fa) := by
  obtain ⟨ta, pa, da⟩ := ha.ex
  refine ⟨_, pe_listRg c.calm hg hm (prg_1 hg2 hm2 pa na) na2, ?_⟩
  intro σ F H g O Q s st p
  unfold eLR1 at p
  refine da.go s st (fun c e => by rw [e] at p; exact p) (fun e => by rw [e] at p; exact p) fun d e v F1 H1 x1 b1 => ?_
  rw [e] at p
  simp only [Res.bind] at p
  cases eo : opd d with
  | int n =>
    rw [eo] at p b1
    simp only at p
    split at p
    · rename_i hn
      obtain rfl := b1.int
      refine ⟨n, rfl, ⟨by omega, by omega, hn.1.lo, hn.1.hi, by omega⟩, fun q hq => ?_⟩
      · refine p (.ref q) _ _ [q] (x1.trans (Ext.own x1.fh hq)) ((fresh_new hq).mono x1.hh) (.inl ?_)
        rw [rgV_ints, rng_map]
        rw [show (n - 0).toNat = n.toNat by omega]
        exact ow_new x1.fh hq rps_ints.toOws
    · exact p.elim
  | _ => rw [eo] at p; exact p.elim
end
end DL

namespace DL
open PySem PySem.Spec PyProof.Rows L2
section
variable {X : Cx} {cls : Cls} {W : WX} {K : PySem.W.Frag} {F H F' H' : Hp}
def eLR2 (fa fb : Env → Res D) : Env → Res D := fun g => (fa g).bind fun d => (fb g).bind fun e => match opd d, opd e with
  | .int i, .int j => if (rgOk i ∧ rgOk j) ∧ (j - i).toNat ≤ 1000000 then .ok (.ol (rng i (j - i).toNat)) else .bad
  | _, _ => .bad
def tyD : D → Option String
  | .non => some "NoneType"
  | .bl _ => some "bool"
  | .int _ => some "int"
  | .str _ => some "str"
  | .ls _ => some "list"
  | .bo _ => some "list"
  | .tp _ => some "tuple"
  | _ => none
def isTy (U T : String) : Option Bool := if U = T then some true else match U, T with
  | "int", "bool" => some false
  | "tuple", "bool" => some false
  | "list", "bool" => some false
  | "str", "bool" => some false
  | "NoneType", "bool" => some false
  | "bool", "int" => some true
  | "tuple", "int" => some false
  | "list", "int" => some false
  | "str", "int" => some false
  | "NoneType", "int" => some false
  | "tuple", "list" => some false
  | "int", "list" => some false
  | "list", "tuple" => some false
  | "int", "tuple" => some false
  | "NoneType", "tuple" => some false
  | "NoneType", "list" => some false
  | _, _ => none
def eIsT (T : String) (fa : Env → Res D) : Env → Res D := fun g => (fa g).bind fun d => match tyD (opd d) with
  | some U => match isTy U T with
    | some b => .ok (.bl b)
    | none => .bad
  | none => .bad
end
end DL

namespace DL
open PySem PySem.Spec PyProof.Rows L2
def insU (x : Int) : List Int → List Int
  | [] => [x]
  | y :: l => if x < y then x :: y :: l else if x = y then y :: l else y :: insU x l
def sset : List Int → List Int
  | [] => []
  | x :: l => insU x (sset l)
theorem insU_mem (x k : Int) : ∀ l : List Int, k ∈ insU x l ↔ k = x ∨ k ∈ l
  | [] => by simp [insU]
  | y :: l => by
    unfold insU
    split
    · simp
    · split
      · rename_i h; subst h; simp
      · simp only [List.mem_cons, insU_mem x k l]
        constructor
        · rintro (h | h | h) <;> simp [h]
        · rintro (h | h | h) <;> simp [h]
theorem insU_rise (x : Int) : ∀ l : List Int, l.Pairwise (· < ·) → (insU x l).Pairwise (· < ·)
  | [], _ => by simp [insU]
  | y :: l, h => by
    obtain ⟨h1, h2⟩ := List.pairwise_cons.mp h
    unfold insU
    split
    · rename_i hx
      exact List.pairwise_cons.mpr ⟨fun k hk => by rcases List.mem_cons.mp hk with rfl | hk; exact hx; exact Int.lt_trans hx (h1 k hk), h⟩
    · split
      · exact h
      · rename_i n1 n2
        refine List.pairwise_cons.mpr ⟨fun k hk => ?_, insU_rise x l h2⟩
        rcases (insU_mem x k l).mp hk with rfl | hk
        · omega
        · exact h1 k hk
theorem sset_mem (k : Int) : ∀ l : List Int, k ∈ sset l ↔ k ∈ l
  | [] => Iff.rfl
  | x :: l => by simp only [sset, insU_mem, sset_mem k l, List.mem_cons]
theorem sset_rise : ∀ l : List Int, (sset l).Pairwise (· < ·)
  | [] => .nil
  | x :: l => insU_rise x _ (sset_rise l)
theorem rise_uniq : ∀ {l m : List Int}, l.Pairwise (· < ·) → m.Pairwise (· < ·) → (∀ k, k ∈ l ↔ k ∈ m) → l = m
  | [], [], _, _, _ => rfl
  | [], y :: m, _, _, h => absurd ((h y).mpr (List.mem_cons_self ..)) (by simp)
  | x :: l, [], _, _, h => absurd ((h x).mp (List.mem_cons_self ..)) (by simp)
  | x :: l, y :: m, a, b, h => by
    obtain ⟨a1, a2⟩ := List.pairwise_cons.mp a
    obtain ⟨b1, b2⟩ := List.pairwise_cons.mp b
    have e : x = y := by
      rcases List.mem_cons.mp ((h x).mp (List.mem_cons_self ..)) with e | e
      · exact e
      · rcases List.mem_cons.mp ((h y).mpr (List.mem_cons_self ..)) with e' | e'
        · exact e'.symm
        · have := a1 y e'; have := b1 x e; omega
    subst e
    congr 1
    refine rise_uniq a2 b2 fun k => ⟨fun hk => ?_, fun hk => ?_⟩
    · rcases List.mem_cons.mp ((h k).mp (List.mem_cons_of_mem _ hk)) with e | e
      · have := a1 k hk; omega
      · exact e
    · rcases List.mem_cons.mp ((h k).mpr (List.mem_cons_of_mem _ hk)) with e | e
      · have := b1 k hk; omega
      · exact e
theorem rise_nodup {l : List Int} (h : l.Pairwise (· < ·)) : l.Nodup := h.imp fun h e => by omega
section
variable {X : Cx} {cls : Cls} {W : WX} {K : PySem.W.Frag} {F H F' H' : Hp}
theorem setR_len {w : World} {h : Heap} {a : Addr} {ns : List Int} {c : Nat} (R : SetR w h a (fun j => decide (j ∈ ns)) c) : c = (sset ns).length := by
  obtain ⟨o, es, ep, t, ho, hex, hd, g, nd, hm, hb, hf, hn, hr, hl⟩ := R
  have p : (es.toList.map keyOf).Perm (sset ns) := (List.perm_ext_iff_of_nodup nd (rise_nodup (sset_rise ns))).mpr fun k => by
    rw [sset_mem]
    have := hm k
    simpa using this.symm
  rw [← p.length_eq, List.length_map, Array.length_toList]
  exact hn.symm
def tLenS (K : PySem.W.Frag) (ta : TE) : TE := fun σ H Q => ta σ H fun x H1 => ∃ (l : Addr) (ns : List Int), x = V.ref l ∧ SqL K H1 l (ns.map V.int) ∧ ns.length ≤ 4000 ∧ Q (.int (sset ns).length) H1
theorem pe_lenS {a : Expr} {ta : TE} {p p2 q pos : Pos} (hc : X.calm = true) (hg : Gl X "len") (hm : X.mg "len" = none) (hg2 : Gl X "set") (hm2 : X.mg "set" = none) (ha : PE X a ta)
    (na : starEach [a] X.env = (false, eval a X.env) :: starEach [] X.env := by rfl) : PE X (.Call (.Name "len" p) [.Call (.Name "set" p2) [a] [] q] [] pos) (tLenS X.K ta) := by
  refine ⟨fun pins s σ H Q I h => ?_⟩
  refine Call_ (ld_blt I hg hm PySem.boot_len ?_)
  refine PyProof.Rows.callWith_builtin1 (PyProof.Rows.args_cons ?_ rfl) rfl rfl
  refine Call_ (ld_blt I hg2 hm2 PyProof.Rows.boot_set ?_)
  refine PyProof.Rows.callWith_type1 (PyProof.Rows.args_cons (thn (ha.run pins s σ H _ I h) fun v s1 ⟨x, H1, I1, r1, q1⟩ => PyProof.Rows.args_nil ?_) na) na rfl
  obtain ⟨l, ns, rfl, hq, h1, q1⟩ := q1
  cases r1
  obtain ⟨its, r, pl, _⟩ := I1.list hq
  refine call_set_listR ns (I1.ok.hd hc) pl.isList (by simpa using r.ints) (by unfold scanBound; omega) fun h' tk c hS hc' hk => ?_
  have e := setR_len hS
  obtain ⟨o, es, ep, t, ho, hex, hd, g, nd, hm, hb, hf, hn, hr, hl⟩ := hS
  refine PyProof.Rows.args_nil ?_
  have I2 : Inv X pins σ H1 { s1 with heap := h', toks := tk } := I1.kept hk
  exact call_len_set ho hex hd hf (by rw [hn] <;> omega) ⟨.int (sset ns).length, H1, I2.tok _, ⟨_, by rw [hn, e]⟩, q1⟩
def lsI (d : D) : Option (List Int) := match sqL (opd d) with
  | some xs => intsOf xs
  | none => none
theorem lsI_ok {v : V} {d : D} {ns : List Int} (s : Same F H) (b : Bo K cls F H v (opd d)) (e : lsI d = some ns) : ∃ a, v = .ref a ∧ SqL K H a (ns.map V.int) := by
  unfold lsI at e
  cases h1 : sqL (opd d) with
  | none => rw [h1] at e; cases e
  | some xs => rw [h1] at e; exact b.sqI s h1 e
@[simp] theorem lsI_ls (ns : List Int) : lsI (.ls (ns.map D.int)) = some ns := by simp [lsI]
@[simp] theorem lsI_bo (ns : List Int) : lsI (.bo (ns.map D.int)) = some ns := by simp [lsI]
@[simp] theorem lsI_ol (ns : List Int) : lsI (.ol (ns.map D.int)) = some ns := by simp [lsI]
def eLenSet (fa : Env → Res D) : Env → Res D := fun g => (fa g).bind fun d => match lsI d with
  | some ns => if ns.length ≤ 4000 then .ok (.int (sset ns).length) else .bad
  | none => .bad
def eSortedSet (fa : Env → Res D) : Env → Res D := fun g => (fa g).bind fun d => match lsI d with
  | some ns => if ns.length < 64 then .ok (.ol ((sset ns).map D.int)) else .bad
  | none => .bad
theorem je_lenset {a : Expr} {p p2 q pos : Pos} {fa : Env → Res D} (c : Cn X W k) (hm : X.mg "len" = none) (hm2 : X.mg "set" = none) (ha : JE X cls W a fa) (hg : Gl X "len" := by rfl) (hg2 : Gl X "set" := by rfl)
    (na : starEach [a] X.env = (false, eval a X.env) :: starEach [] X.env := by rfl) : JE X cls W (.Call (.Name "len" p) [.Call (.Name "set" p2) [a] [] q] [] pos) (eLenSet fa) := by
  obtain ⟨ta, pa, da⟩ := ha.ex
  refine ⟨_, pe_lenS c.calm hg hm hg2 hm2 pa na, ?_⟩
  intro σ F H g O Q s st p
  unfold eLenSet at p
  refine da.go s st (fun c e => by rw [e] at p; exact p) (fun e => by rw [e] at p; exact p) fun d e v F1 H1 x1 b1 => ?_
  rw [e] at p
  simp only [Res.bind] at p
  cases eo : lsI d with
  | none => rw [eo] at p; exact p.elim
  | some ns =>
    rw [eo] at p
    simp only at p
    split at p
    · rename_i hz
      obtain ⟨l, rfl, h⟩ := lsI_ok x1.fh b1 eo
      exact ⟨l, ns, rfl, h, hz, p _ F1 H1 [] x1 Fresh.nil (.inl (.sh (.int _)))⟩
    · exact p.elim
end
end DL
namespace DL
@[simp] theorem eLR1_ (fa : Env → Res D) (g : Env) : eLR1 fa g = (fa g).bind fun d => match opd d with
  | .int n => if rgOk n ∧ n ≤ 1000000 then .ok (.ol (rng 0 n.toNat)) else .bad
  | _ => .bad := rfl
@[simp] theorem eLR2_ (fa fb : Env → Res D) (g : Env) : eLR2 fa fb g = (fa g).bind fun d => (fb g).bind fun e => match opd d, opd e with
  | .int i, .int j => if (rgOk i ∧ rgOk j) ∧ (j - i).toNat ≤ 1000000 then .ok (.ol (rng i (j - i).toNat)) else .bad
  | _, _ => .bad := rfl
@[simp] theorem eIsT_ (T : String) (fa : Env → Res D) (g : Env) : eIsT T fa g = (fa g).bind fun d => match tyD (opd d) with
  | some U => match isTy U T with
    | some b => .ok (.bl b)
    | none => .bad
  | none => .bad := rfl
@[simp] theorem isTy_same (T : String) : isTy T T = some true := if_pos rfl
@[simp] theorem isTy_int_bool : isTy "int" "bool" = some false := by decide +kernel
@[simp] theorem isTy_tuple_bool : isTy "tuple" "bool" = some false := by decide +kernel
@[simp] theorem isTy_list_bool : isTy "list" "bool" = some false := by decide +kernel
@[simp] theorem isTy_str_bool : isTy "str" "bool" = some false := by decide +kernel
@[simp] theorem isTy_NoneType_bool : isTy "NoneType" "bool" = some false := by decide +kernel
@[simp] theorem isTy_bool_int : isTy "bool" "int" = some true := by decide +kernel
@[simp] theorem isTy_tuple_int : isTy "tuple" "int" = some false := by decide +kernel
@[simp] theorem isTy_list_int : isTy "list" "int" = some false := by decide +kernel
@[simp] theorem isTy_str_int : isTy "str" "int" = some false := by decide +kernel
@[simp] theorem isTy_NoneType_int : isTy "NoneType" "int" = some false := by decide +kernel
@[simp] theorem isTy_tuple_list : isTy "tuple" "list" = some false := by decide +kernel
@[simp] theorem isTy_int_list : isTy "int" "list" = some false := by decide +kernel
@[simp] theorem isTy_list_tuple : isTy "list" "tuple" = some false := by decide +kernel
@[simp] theorem isTy_int_tuple : isTy "int" "tuple" = some false := by decide +kernel
@[simp] theorem isTy_NoneType_tuple : isTy "NoneType" "tuple" = some false := by decide +kernel
@[simp] theorem isTy_NoneType_list : isTy "NoneType" "list" = some false := by decide +kernel
@[simp] theorem eLenSet_ (fa : Env → Res D) (g : Env) : eLenSet fa g = (fa g).bind fun d => match lsI d with
  | some ns => if ns.length ≤ 4000 then .ok (.int (sset ns).length) else .bad
  | none => .bad := rfl
@[simp] theorem eSortedSet_ (fa : Env → Res D) (g : Env) : eSortedSet fa g = (fa g).bind fun d => match lsI d with
  | some ns => if ns.length < 64 then .ok (.ol ((sset ns).map D.int)) else .bad
  | none => .bad := rfl
@[simp] theorem tyD_non : tyD .non = some "NoneType" := rfl
@[simp] theorem tyD_bl {b} : tyD (.bl b) = some "bool" := rfl
@[simp] theorem tyD_int {b} : tyD (.int b) = some "int" := rfl
@[simp] theorem tyD_str {b} : tyD (.str b) = some "str" := rfl
@[simp] theorem tyD_ls {b} : tyD (.ls b) = some "list" := rfl
@[simp] theorem tyD_bo {b} : tyD (.bo b) = some "list" := rfl
@[simp] theorem tyD_tp {b} : tyD (.tp b) = some "tuple" := rfl
def iota (n : Nat) : List Int := (List.range n).map fun i : Nat => (i : Int)
theorem rng_iota (n : Nat) : rng 0 n = (iota n).map D.int := by rw [rng_map]; unfold iota; simp
@[simp] theorem iota_len (n : Nat) : (iota n).length = n := by simp [iota]
end DL

namespace DL
open PySem PySem.Spec PyProof.Rows L2
section
variable {P : Program} {w : World} {A : Around} {E : Value → Shared → Prop} {s : Shared}
theorem collect_tup {l : Addr} {vs : List Value} {Q : List Value → Shared → Prop} (hl : s.heap.IsTuple l vs.toArray)
    (h : Q vs { s with heap := (s.heap.push (seqObj "list" #[] 0)).update s.heap.objs.size (Obj.mapSeq (· ++ vs.toArray)) }) (hsz : vs.length ≤ sizeLine) : wpAny (model P w) A (collect (.ref l)) Q E s := by
  obtain ⟨o, ho, hc, n, hd⟩ := id hl
  unfold collect
  refine wpAny_bind (wpAny_runValue (codeAny_builtin entry_proto_collect' ?_))
  show wpAny _ _ (do again (.builtin "list.__iadd__" ⟨[← newList [], .ref l], []⟩)) _ _ s
  refine wpAny_bind (wpAny_newList (wpAny_pure ⟨Code.quiet_builtin _ (by decide +kernel), codeAny_builtin entry_list_iadd' ?_⟩))
  show wpAny _ _ (Builtin.List.listExtendWith (.ref s.heap.objs.size) (.ref l) (.ref s.heap.objs.size)) _ _ { s with heap := s.heap.push (seqObj "list" #[] 0) }
  unfold Builtin.List.listExtendWith
  have ho' : (s.heap.push (seqObj "list" #[] 0)).get? l = some o := Heap.get?_push_of_some _ ho
  have hg : (s.heap.push (seqObj "list" #[] 0)).get? s.heap.objs.size = some (seqObj "list" #[] 0) := Heap.get?_push_size _ rfl
  refine wpAny_bind (wpAny_typeOf (T := "tuple") ⟨o, ho', hc⟩ ?_)
  rw [if_pos (by simp [show (Value.type "tuple" == Value.type "tuple") = true by rfl])]
  refine wpAny_bind (listItems_at ho' hd (wpAny_bind (listItems_at (xs := #[]) (n := 0) hg rfl ?_)))
  rw [if_neg (by simp)]
  refine wpAny_bind (listUpdate_at (xs := #[]) (n := 0) hg rfl (wpAny_pure ?_) (Nat.zero_le _) (by show (#[] ++ vs.toArray).size ≤ sizeLine + 1; simp only [Array.size_append, List.size_toArray, List.length_nil]; omega))
  show wpAny (model P w) A (do
      let o ← load s.heap.objs.size
      match o.data with
      | .seq xs _ => pure xs.toList
      | _ => unsupported "internal:collect") Q E { s with heap := (s.heap.push (seqObj "list" #[] 0)).update s.heap.objs.size (Obj.mapSeq (· ++ vs.toArray)) }
  refine wpAny_bind (wpAny_load (get?_update_seq hg _) ?_)
  show wpAny _ _ (pure ((#[] : Array Value) ++ vs.toArray).toList) Q E _
  rw [show ((#[] : Array Value) ++ vs.toArray).toList = vs by simp]
  exact wpAny_pure h
end
end DL
namespace SrtO
open PySem PyProof.Rows Srt
section
variable {prog : Program} {w : World} {A : Around} {E : Value → Shared → Prop} {s : Shared}
theorem sorted_ord_tup {l : Addr} {vs : List Value} {ltv : Value → Value → Bool} {Q : Value → Shared → Prop} (O : Swo ltv) (hl : s.heap.IsTuple l vs.toArray) (hz : vs.length ≤ sizeLine)
    (hS : 2 ≤ vs.length → ∀ (h₁ : Heap) (a : Addr), h₁.get? a = some (seqObj "list" vs.toArray 0) → SortableO prog w A.in1.in1 { s with heap := h₁ } a vs ltv)
    (h : ∀ out : List Value, Srtd ltv out → Stb ltv out vs → Q (.ref (s.heap.objs.size + 1)) { s with heap := sortedAll s.heap vs out.toArray }) :
    wpAny (model prog w) A (call (.builtin "sorted") [.ref l]) Q E s := by
  refine Calls.call_function_entry kind_sorted plain_sorted entry_sorted (args_sorted1 _) ?_
  unfold Builtin.«sorted»
  refine wpAny_bind (m := checkCount "sorted" 1 1 _) (wpAny_pure ?_)
  refine wpAny_bind (DL.collect_tup hl ?_ hz)
  refine wpAny_bind (wpAny_newList ?_ hz)
  have hsz : ((s.heap.push (seqObj "list" #[] 0)).update s.heap.objs.size (Obj.mapSeq (· ++ vs.toArray))).objs.size = s.heap.objs.size + 1 := by
    rw [Heap.size_update, size_push']
  have hoL : (((s.heap.push (seqObj "list" #[] 0)).update s.heap.objs.size (Obj.mapSeq (· ++ vs.toArray))).push (seqObj "list" vs.toArray 0)).get? (s.heap.objs.size + 1) = some (seqObj "list" vs.toArray 0) := by
    rw [← hsz]; exact Heap.get?_push_size _ rfl
  show wpAny _ _ _ _ _ { s with heap := ((s.heap.push (seqObj "list" #[] 0)).update s.heap.objs.size (Obj.mapSeq (· ++ vs.toArray))).push (seqObj "list" vs.toArray 0) }
  rw [hsz]
  exact wpAny_bind (wpAny_holding (wpAny_call_entry slot_list_sort ⟨_, hoL, rfl⟩ entry_list_sort (list_sort_ord O hoL hz (fun h2 => hS h2 _ _ hoL) fun out hs hb => ⟨_, rfl, wpAny_pure ⟨_, rfl, h out hs hb⟩⟩) (args_list_sort _)))
end
end SrtO
namespace DL
open PySem PySem.Spec PyProof.Rows L2
section
variable {X : Cx} {cls : Cls} {K : PySem.W.Frag}
def rSortedTI (K : PySem.W.Frag) : List V → Hp → VK → Prop := fun vs H Q => ∃ (a : Addr) (ns : List Int), vs = [V.ref a] ∧ SqT K H a (ns.map V.int) ∧
  ∀ (ns' : List Int) (p : Addr), ns'.Perm ns → ns'.Pairwise (· ≤ ·) → H p = none → Q (.ref p) (upd H p (.lst (ns'.map V.int)))
theorem cr_sortedTI : CallR X (.builtin "sorted") (rSortedTI X.K) := by
  intro pins s σ H vs us Q I r h
  obtain ⟨a, ns, rfl, hs, q⟩ := h
  obtain ⟨its, rv, hl, hz⟩ := I.tuple hs
  rw [Vals.ref1 r]
  have hi := rv.ints
  have hl' : s.heap.IsTuple a its.toArray := hl
  refine SrtO.sorted_ord_tup SrtO.swo_int hl' (by rw [← rv.length]; exact hz) (fun h2 h₁ a' _ => SrtO.ints_sortable hi h2) fun out h1 h2 => ?_
  obtain ⟨k1, k2, k3⟩ := SrtO.ints_out hi h1 h2
  obtain ⟨ep, he'⟩ := PyProof.Rows.sortedAll_at s.heap its out.toArray
  have hlen : ((out.map SrtO.iv).map V.int).length ≤ sizeLine := by
    rw [List.length_map, k2.length_eq]
    rw [List.length_map] at hz
    exact hz
  exact ⟨.ref _, upd H (s.heap.objs.size + 1) (.lst ((out.map SrtO.iv).map V.int)), I.laid (t' := s.toks) (fun _ _ => PyProof.Rows.sortedAll_old) (Nat.le_succ _) ⟨hlen, out, ep, vals_of_ints k1, he'⟩, rfl, q _ _ k2 k3 (I.hok.fresh (Nat.le_succ _))⟩
def rSorted2 (K : PySem.W.Frag) : List V → Hp → VK → Prop := fun vs H Q => rSortedI K vs H Q ∨ rSortedTI K vs H Q
theorem cr_sorted2 : CallR X (.builtin "sorted") (rSorted2 X.K) := by
  intro pins s σ H vs us Q I r h
  rcases h with h | h
  · exact cr_sortedI pins s σ H vs us Q I r h
  · exact cr_sortedTI pins s σ H vs us Q I r h
def caSorted2 : List D → Option D
  | [.tp xs] => (intsOf xs).map fun ns => .ol ((srt ns).map D.int)
  | ds => caSorted ds
@[simp] theorem caSorted2_tp (ns : List Int) : caSorted2 [.tp (ns.map D.int)] = some (.ol ((srt ns).map D.int)) := by simp [caSorted2]
@[simp] theorem caSorted2_ls (ns : List Int) : caSorted2 [.ls (ns.map D.int)] = some (.ol ((srt ns).map D.int)) := by simp [caSorted2]
@[simp] theorem caSorted2_bo (ns : List Int) : caSorted2 [.bo (ns.map D.int)] = some (.ol ((srt ns).map D.int)) := by simp [caSorted2]
theorem ok_sorted2 : CaOk K cls (rSorted2 K) caSorted2 := by
  intro F H vs ds d Q s b e q
  unfold caSorted2 at e
  split at e
  · rename_i xs
    cases h2 : intsOf xs with
    | none => rw [h2] at e; cases e
    | some ns =>
      rw [h2] at e
      cases e
      obtain ⟨v, rfl, b1⟩ := b.one
      obtain ⟨a, ws, rfl, h3, _, r⟩ := b1.tpv s (xs := xs) rfl
      obtain rfl := intsOf_eq h2
      obtain rfl := r.ints
      refine .inr ⟨a, ns, rfl, h3, fun ns' p pm pw hp => ?_⟩
      obtain rfl := srt_uniq pm pw
      exact q _ _ _ [p] (Ext.own s hp) (fresh_new hp) (.inl (ow_new s hp rps_ints.toOws))
  · exact .inl (ok_sorted F H vs ds d Q s b e q)
end
end DL

set_option maxHeartbeats 1000000
namespace RT
open PySem PySem.Spec PyProof.Rows
section
variable {prog : Program} {w : World} {A : Around} {E : Value → Shared → Prop} {s : Shared}
end
end RT

namespace DL
open PySem PySem.Spec PyProof.Rows L2
section
variable {X : Cx} {cls : Cls} {W : WX} {K : PySem.W.Frag}
def eLRev (fa : Env → Res D) : Env → Res D := fun g => (fa g).bind fun d => match lsv (opd d) with
  | some xs => .ok (.ol xs.reverse)
  | none => .bad
@[simp] theorem eLRev_ (fa : Env → Res D) (g : Env) : eLRev fa g = (fa g).bind fun d => match lsv (opd d) with
  | some xs => .ok (.ol xs.reverse)
  | none => .bad := rfl
end
end DL

namespace DL
open PySem L2
section
variable {K : PySem.W.Frag} {cls : Cls} {W : WX} {X : Cx} {F H F' H' F1 H1 : Hp} {O O1 : List Addr} {Q : VK} {σ : St} {a b e : Expr} {es : List Expr} {fa fb fc : Env → Res D} {pos : Pos}
def own1 : D → Bool
  | .ol _ => true
  | .od _ _ => true
  | .oo _ _ _ => true
  | _ => false
@[simp] theorem own1_int {i} : own1 (.int i) = false := rfl
@[simp] theorem own1_tp {i} : own1 (.tp i) = false := rfl
@[simp] theorem own1_ls {i} : own1 (.ls i) = false := rfl
@[simp] theorem own1_bl {i} : own1 (.bl i) = false := rfl
@[simp] theorem own1_str {i} : own1 (.str i) = false := rfl
theorem Ow.unown {v : V} {d : D} (h : Ow K cls F H v d O) (e : own1 d = false) : Rp K cls F v d ∧ O = [] := by
  cases h with
  | sh r => exact ⟨r, rfl⟩
  | ol => cases e
  | od => cases e
  | oo => cases e
theorem Ows.erase : ∀ {vs : List V} {ds : List D} {O : List Addr} {k : Nat} {d : D}, Ows K cls F H vs ds O → ds[k]? = some d → own1 d = false → ∃ v, vs[k]? = some v ∧ Rp K cls F v d ∧ Ows K cls F H (vs.eraseIdx k) (ds.eraseIdx k) O
  | _, _, _, _, _, .nil, e, _ => by simp at e
  | _, _, _, 0, d, .cons (v := v) h r dj eo, e, n => by
    simp at e
    subst e
    obtain ⟨h1, h2⟩ := h.unown n
    subst h2
    subst eo
    exact ⟨v, rfl, h1, by simpa using r⟩
  | _, _, _, k + 1, d, .cons h r dj eo, e, n => by
    obtain ⟨v, h1, h2, h3⟩ := Ows.erase (k := k) r (by simpa using e) n
    exact ⟨v, by simpa using h1, h2, by simpa using Ows.cons h h3 dj eo⟩
def sPop (j i : Nat) (fa : Env → Res D) : Env → Out := fun g => match g[i]? with
  | some (.ol xs) => ((fa g).bind kp).st g fun d => match d with
    | .int z => match ixN xs.length z with
      | some k => match xs[k]? with
        | some y => if own1 y = false ∧ xs.length ≤ lim then .nx ((g.set i (.ol (xs.eraseIdx k))).set j y) else .bad
        | none => .bad
      | none => .bad
    | _ => .bad
  | _ => .bad
@[simp] theorem sPop_ (j i : Nat) (fa : Env → Res D) (g : Env) : sPop j i fa g = match g[i]? with
  | some (.ol xs) => ((fa g).bind kp).st g fun d => match d with
    | .int z => match ixN xs.length z with
      | some k => match xs[k]? with
        | some y => if own1 y = false ∧ xs.length ≤ lim then .nx ((g.set i (.ol (xs.eraseIdx k))).set j y) else .bad
        | none => .bad
      | none => .bad
    | _ => .bad
  | _ => .bad := rfl
theorem Ow.int {v : V} {i : Int} (b : Ow K cls F H v (.int i) O) : v = .int i ∧ O = [] := by cases b with | sh r => cases r; exact ⟨rfl, rfl⟩
theorem js_pop {j i k : Nat} {y x : Str} {py npos apos cpos : Pos} (c : Cn X W k) (hj : X.N[j]? = some y) (hy : Loc X.env.scope y) (hN : X.N[i]? = some x) (hv : Vis X.env.scope x) (ha : JE X cls W a fa) (hd : (x == ("__debug__" : Str)) = false := by decide) (hcd : (x == ("__classdict__" : Str)) = false := by decide)
    (hbase : attributeBase (.Name x npos) "pop" X.env (eval (.Name x npos) X.env) = eval (.Name x npos) X.env := by rfl)
    (hfew : ((backTo cpos (starEach (a :: []) X.env)).all (fun x => !x.1) && (backToKw cpos (keywordEach [] X.env)).all (fun x => x.1.isSome)
      && decide ((a :: []).length + ([] : List Keyword).length + (if ([] : List Keyword).isEmpty then 0 else 1) < 30)) = true := by rfl)
    (hline : (apos.endLine == cpos.line) = true := by rfl) (hs : starEach (a :: []) X.env = (false, eval a X.env) :: starEach [] X.env := by rfl) (hplain : (backTo cpos (starEach [] X.env)).any (·.1) = false := by rfl)
    (hsw : swapsWith (.Call (.Attribute (.Name x npos) "pop" apos) [a] [] cpos) (some (.Name y py)) pos.line X.env = pure false := by rfl)
    (hf : X.fn y = true ∨ X.env.scope.names.lookup y = some .local := by first | exact .inl rfl | exact .inr rfl) :
    JS X cls W (.Assign [.Name y py] (.Call (.Attribute (.Name x npos) "pop" apos) [a] [] cpos) pos) (sPop j i fa) := by
  obtain ⟨t, p, d⟩ := ha.ex
  refine ⟨_, ps_set c.nd hj hy (pe_bm PySem.F.plainAttrs_list PySem.F.slot_list_pop PySem.F.type_list_pop mt_popAt (pe_var hN hv hd hcd) (pa_cons p pa_nil hs) hbase hfew hline hs hplain) hsw hf, ?_⟩
  intro D σ F H g O s st p
  rw [sPop_] at p
  split at p
  · rename_i xs eg
    obtain ⟨q, vs, O1, h1, h2, h2', h3, h4, h5, h6, h7⟩ := st.lst eg
    refine ⟨.ref q, h1, .inl ⟨rfl, vs, SqL.of h2⟩, ?_⟩
    refine d.goS s st p fun dd e p v F1 H1 O2 x fr w => ?_
    split at p
    · rename_i z
      obtain ⟨rfl, rfl⟩ := w.int
      split at p
      · rename_i kk ek
        split at p
        · rename_i yd ey
          split at p
          · rename_i hn
            obtain ⟨hn, hl⟩ := hn
            obtain ⟨e1, e2, e3, e4⟩ := ixN_seq ek
            obtain ⟨u, u1, u2, u3⟩ := (h4.ext x).erase ey hn
            have hlim : xs.length ≤ 1000000 := hl
            refine ⟨q, vs, z, kk, u, rfl, rfl, x.hh _ _ h2, by omega, by omega, by rw [h4.len]; exact e1, u1, ?_⟩
            obtain ⟨O'', z1, z2⟩ := h7 F1 H1 (vs.eraseIdx kk) (xs.eraseIdx kk) O1 x u3 h3 (fun a z => .inl z)
            obtain ⟨O3, z3, z4⟩ := z1.putS (i := j) z2.fh u2
            exact p _ F1 _ O3 (z2.trans z4) z3
          · exact p.elim
        · exact p.elim
      · exact p.elim
    · exact p.elim
  · exact p.elim
def sAppPop (m i : Nat) (fa : Env → Res D) : Env → Out := fun g => match g[m]?, g[i]? with
  | some (.ol ws), some (.ol xs) => ((fa g).bind kp).st g fun d => match d with
    | .int z => match ixN xs.length z with
      | some k => match xs[k]? with
        | some y => if own1 y = false ∧ xs.length ≤ lim ∧ ws.length < lim ∧ m ≠ i then .nx ((g.set i (.ol (xs.eraseIdx k))).set m (.ol (ws ++ [y]))) else .bad
        | none => .bad
      | none => .bad
    | _ => .bad
  | _, _ => .bad
@[simp] theorem sAppPop_ (m i : Nat) (fa : Env → Res D) (g : Env) : sAppPop m i fa g = match g[m]?, g[i]? with
  | some (.ol ws), some (.ol xs) => ((fa g).bind kp).st g fun d => match d with
    | .int z => match ixN xs.length z with
      | some k => match xs[k]? with
        | some y => if own1 y = false ∧ xs.length ≤ lim ∧ ws.length < lim ∧ m ≠ i then .nx ((g.set i (.ol (xs.eraseIdx k))).set m (.ol (ws ++ [y]))) else .bad
        | none => .bad
      | none => .bad
    | _ => .bad
  | _, _ => .bad := rfl
def eIndex (fa fb : Env → Res D) : Env → Res D := fun g => (fa g).bind fun d => match lsI d with
  | some ns => (fb g).bind fun e => match opd e with
    | .int x => if x ∈ ns then .ok (.int (ns.idxOf x : Nat)) else .bad
    | _ => .bad
  | none => .bad
@[simp] theorem eIndex_ (fa fb : Env → Res D) (g : Env) : eIndex fa fb g = (fa g).bind fun d => match lsI d with
  | some ns => (fb g).bind fun e => match opd e with
    | .int x => if x ∈ ns then .ok (.int (ns.idxOf x : Nat)) else .bad
    | _ => .bad
  | none => .bad := rfl
def sAppIx (i z : Nat) (fa : Env → Res D) : Env → Out := fun g => match g[i]? with
  | some (.ol xs) => match xs[z]? with
    | some (.ol ys) => ((fa g).bind kp).st g fun d => if ys.length < lim then .nx (g.set i (.ol (xs.set z (.ol (ys ++ [d]))))) else .bad
    | _ => .bad
  | _ => .bad
@[simp] theorem sAppIx_ (i z : Nat) (fa : Env → Res D) (g : Env) : sAppIx i z fa g = match g[i]? with
  | some (.ol xs) => match xs[z]? with
    | some (.ol ys) => ((fa g).bind kp).st g fun d => if ys.length < lim then .nx (g.set i (.ol (xs.set z (.ol (ys ++ [d]))))) else .bad
    | _ => .bad
  | _ => .bad := rfl
end
end DL

namespace TL
open PySem PySem.W PySem.Calls PyProof.Rows
theorem lex_anti : ∀ a b : List Int, HT.lexLt a b = false → HT.lexLt b a = false → a = b
  | [], [], _, _ => rfl
  | [], y :: ys, h, _ => by rw [HT.lexLt_nil_cons] at h; cases h
  | x :: xs, [], _, h => by rw [HT.lexLt_nil_cons] at h; cases h
  | x :: xs, y :: ys, h1, h2 => by
    rw [HT.lexLt_cons] at h1 h2
    by_cases e : x = y
    · subst e
      rw [if_pos rfl] at h1 h2
      rw [lex_anti xs ys h1 h2]
    · rw [if_neg e] at h1
      rw [if_neg (Ne.symm e)] at h2
      have a := of_decide_eq_false h1
      have b := of_decide_eq_false h2
      omega
def Rise (l : List (List Int)) : Prop := l.Pairwise fun a b => HT.lexLt b a = false
def insL (x : List Int) : List (List Int) → List (List Int)
  | [] => [x]
  | y :: l => if HT.lexLt y x = true then y :: insL x l else x :: y :: l
def srtL : List (List Int) → List (List Int)
  | [] => []
  | x :: l => insL x (srtL l)
theorem insL_perm (x : List Int) : ∀ l, (insL x l).Perm (x :: l)
  | [] => .refl _
  | y :: l => by
    unfold insL
    split
    · exact ((insL_perm x l).cons y).trans (.swap ..)
    · exact .refl _
theorem srtL_perm : ∀ l, (srtL l).Perm l
  | [] => .refl _
  | x :: l => (insL_perm x (srtL l)).trans ((srtL_perm l).cons x)
theorem insL_rise (x : List Int) : ∀ l, Rise l → Rise (insL x l)
  | [], _ => List.pairwise_singleton _ _
  | y :: l, h => by
    obtain ⟨h1, h2⟩ := List.pairwise_cons.mp h
    unfold insL
    split
    · rename_i c
      refine List.pairwise_cons.mpr ⟨fun z hz => ?_, insL_rise x l h2⟩
      rcases List.mem_cons.mp ((insL_perm x l).mem_iff.mp hz) with rfl | hz
      · exact NtL.lex_asym _ _ c
      · exact h1 z hz
    · rename_i c
      have c : HT.lexLt y x = false := by simpa using c
      refine List.pairwise_cons.mpr ⟨fun z hz => ?_, h⟩
      rcases List.mem_cons.mp hz with rfl | hz
      · exact c
      · exact NtL.lex_tr _ _ _ c (h1 z hz)
theorem srtL_rise : ∀ l, Rise (srtL l)
  | [] => .nil
  | x :: l => insL_rise x _ (srtL_rise l)
theorem rise_one : ∀ {l m : List (List Int)}, l.Perm m → Rise l → Rise m → l = m
  | [], m, p, _, _ => (List.Perm.eq_nil p.symm).symm
  | x :: l, [], p, _, _ => absurd p.length_eq (by simp)
  | x :: l, y :: m, p, hl, hm => by
    obtain ⟨h1, h2⟩ := List.pairwise_cons.mp hl
    obtain ⟨k1, k2⟩ := List.pairwise_cons.mp hm
    have e : x = y := by
      rcases List.mem_cons.mp (p.mem_iff.mp (List.mem_cons_self (a := x) (l := l))) with e | hx
      · exact e
      · rcases List.mem_cons.mp (p.mem_iff.mpr (List.mem_cons_self (a := y) (l := m))) with e | hy
        · exact e.symm
        · exact lex_anti _ _ (k1 x hx) (h1 y hy)
    subst e
    rw [rise_one p.cons_inv h2 k2]
theorem srtL_uniq {l m : List (List Int)} (p : l.Perm m) (h : Rise l) : l = srtL m := rise_one (p.trans (srtL_perm m).symm) h (srtL_rise m)
def kOf (h : Heap) : Value → List Int
  | .ref a => match h.get? a with
    | some o => match o.data with
      | .seq xs _ => xs.toList.map SrtO.iv
      | _ => []
    | none => []
  | _ => []
def IsTI (h : Heap) (v : Value) (ns : List Int) : Prop := ∃ a o xs n, v = .ref a ∧ h.get? a = some o ∧ o.cls = .type "tuple" ∧ o.data = .seq xs n ∧ IntsAre xs.toList ns
theorem IsTI.k {h : Heap} {v : Value} {ns : List Int} (x : IsTI h v ns) : kOf h v = ns := by
  obtain ⟨a, o, xs, n, rfl, ho, hc, hd, hi⟩ := x
  simp only [kOf, ho, hd]
  exact SrtO.iv_ints hi
theorem IsTI.keeps {h h' : Heap} {v : Value} {ns : List Int} (p : IsTI h v ns) (k : ∀ b o, h.get? b = some o → o.cls = .type "tuple" → h'.get? b = some o) : IsTI h' v ns := by
  obtain ⟨a, o, xs, n, e, ho, hc, hd, hi⟩ := p
  exact ⟨a, o, xs, n, e, k _ _ ho hc, hc, hd, hi⟩
section
variable {prog : Program} {w : World} {A : Around} {E : Value → Shared → Prop} {s : Shared}
theorem lexk {b fin : Bool} {Q : Bool → Shared → Prop} {xs ys : List Value} {ns ms : List Int} (i : Nat) (hx : IntsAre xs ns) (hy : IntsAre ys ms) (hf : fin = decide (ns.length < ms.length)) (h : Q (HT.lexLt ns ms) s) : KatLex prog w A b fin Q (xs.zip ys) i s := by
  induction hx generalizing ys ms i with
  | nil =>
    cases hy with
    | nil =>
      rw [HT.lexLt_nil_nil] at h
      subst hf
      exact kat_nil (by simpa using h)
    | cons q u hy =>
      rw [HT.lexLt_nil_cons] at h
      subst hf
      exact kat_nil (by simpa using h)
  | @cons p t xs ns hx ih =>
    cases hy with
    | nil =>
      rw [HT.lexLt_cons_nil] at h
      subst hf
      exact kat_nil (by simpa using h)
    | @cons q u ys ms hy =>
      show KatLex prog w A b fin Q ((Value.int p t, Value.int q u) :: xs.zip ys) i s
      rw [HT.lexLt_cons] at h
      refine kat_cons (wpAny_eqBool_int ?_)
      by_cases e : p = q
      · subst e
        rw [beq_self_eq_true]
        rw [if_pos rfl] at h
        refine kat_yes ?_
        have hf' : fin = decide (ns.length < ms.length) := by rw [hf]; simp
        first
          | exact ih (i + 1) hy hf' h
          | exact ih _ _ (i + 1) hy hf' h
      · rw [show (p == q) = false from beq_eq_false_iff_ne.mpr e]
        rw [if_neg e] at h
        exact kat_no (TS.oneLt_ints _ h)
theorem tup_cmp {vs : List Value} {k : Value → List Int} (hp : ∀ v ∈ vs, IsTI s.heap v (k v)) : SrtO.Cmp prog w A s (tuples' true) (fun p => p.1 ∈ vs) (SrtO.lt2 fun v u => HT.lexLt (k v) (k u)) := by
  intro p q hm hm'
  have h1 := hp _ hm
  have h2 := hp _ hm'
  show wpAny (model prog w) A (keyLt' (tuples' true) p.1 q.1) (fun r s' => s' = s ∧ r = HT.lexLt (k p.1) (k q.1)) (fun _ _ => False) s
  generalize k p.1 = ns at h1 ⊢
  generalize k q.1 = ms at h2 ⊢
  obtain ⟨a, o, xs, n, e, ho, hc, hd, hi⟩ := h1
  obtain ⟨a', o', xs', n', e', ho', hc', hd', hi'⟩ := h2
  rw [e, e']
  refine kat_lt ho hd ho' hd' ?_
  have z1 : xs.size = ns.length := by rw [← hi.length]; simp
  have z2 : xs'.size = ms.length := by rw [← hi'.length]; simp
  exact lexk 0 hi hi' (by rw [z1, z2]) ⟨rfl, rfl⟩
theorem firsts {h : Heap} {k : Value → List Int} : ∀ vs : List Value, (∀ v ∈ vs, IsTI h v (k v) ∧ k v ≠ []) → ∃ fs : List Value, KatTups h vs fs ∧ fs.length = vs.length ∧ ∀ f ∈ fs, ∃ x t, f = Value.int x t
  | [], _ => ⟨[], KatTups.nil, rfl, fun _ hm => by simp at hm⟩
  | v :: vs, hp => by
    obtain ⟨fs, h1, h2, h3⟩ := firsts vs fun v' hm => hp v' (List.mem_cons_of_mem _ hm)
    obtain ⟨⟨a, o, xs, n, e, ho, hc, hd, hi⟩, hne⟩ := hp v (List.mem_cons_self ..)
    subst e
    obtain ⟨y, ys, e⟩ : ∃ y ys, xs.toList = y :: ys := by
      cases q : xs.toList with
      | nil =>
        rw [q] at hi
        have l := hi.length
        exact absurd (List.eq_nil_of_length_eq_zero l.symm) hne
      | cons y ys => exact ⟨y, ys, rfl⟩
    obtain ⟨m, t, hy⟩ := SrtO.ints_mem hi y (by rw [e]; exact List.mem_cons_self ..)
    refine ⟨y :: fs, KatTups.cons ho hc hd ?_ h1, by rw [List.length_cons, List.length_cons, h2], fun f hm => ?_⟩
    · rw [← Array.getElem?_toList, e]; rfl
    · rcases List.mem_cons.mp hm with rfl | hm
      · exact ⟨m, t, hy⟩
      · exact h3 f hm
theorem tups_sortable {a : Addr} {vs : List Value} {k : Value → List Int} (h0 : 0 < vs.length) (hp : ∀ v ∈ vs, IsTI s.heap v (k v) ∧ k v ≠ []) (ha : ∀ o, s.heap.get? a = some o → o.cls ≠ .type "tuple") : SrtO.SortableO prog w A s a vs fun v u => HT.lexLt (k v) (k u) := by
  intro h' keep
  have hp' : ∀ v ∈ vs, IsTI h' v (k v) ∧ k v ≠ [] := fun v hm => ⟨(hp v hm).1.keeps fun b o e c => keep b o (fun z => by subst z; exact ha o e c) e, (hp v hm).2⟩
  obtain ⟨fs, h1, h2, h3⟩ := firsts vs hp'
  refine ⟨tuples' true, fun Q E hq => ?_, tup_cmp fun v hm => (hp' v hm).1⟩
  refine kat_kind (T := .type "int") h1 (by omega) (fun f hm => ?_) (by rfl) ?_
  · obtain ⟨x, t, rfl⟩ := h3 f hm
    exact Looks.now
  · have e : (Value.type "int" != Value.type "tuple") = true := by first | decide +kernel | rfl | decide
    rw [e]
    exact hq
theorem sorted_tups {l : Addr} {vs : List Value} {k : Value → List Int} {Q : Value → Shared → Prop} (hl : s.heap.IsList l vs.toArray) (hz : vs.length ≤ sizeLine) (hp : ∀ v ∈ vs, IsTI s.heap v (k v)) (hne : 2 ≤ vs.length → ∀ v ∈ vs, k v ≠ [])
    (h : ∀ (h' : Heap) (d : Addr) (out : List Value), SrtO.Srtd (fun v u => HT.lexLt (k v) (k u)) out → SrtO.Stb (fun v u => HT.lexLt (k v) (k u)) out vs → (∀ b o, s.heap.get? b = some o → h'.get? b = some o) → s.heap.objs.size ≤ d → (∃ n, h'.get? d = some (seqObj "list" out.toArray n)) → Q (.ref d) { s with heap := h' }) :
    wpAny (model prog w) A (call (.builtin "sorted") [.ref l]) Q E s := by
  refine SrtO.sorted_ord (NtL.swo_lexL k) hl hz (fun h2 h₁ a ha kk => ?_) fun out hs hb => ?_
  · refine tups_sortable (s := { s with heap := h₁ }) (by omega) (fun v hm => ⟨(hp v hm).keeps fun b o e _ => (kk b o e).2, hne h2 v hm⟩) fun o e => ?_
    have e' : some o = some (seqObj "list" vs.toArray 0) := e.symm.trans ha
    cases e'
    intro c
    exact absurd (Value.type.inj c) (by decide)
  · exact h _ _ out hs hb (fun b o e => sortedAll_old e) (Nat.le_succ _) (sortedAll_at s.heap vs out.toArray)
end
end TL
namespace DL
open PySem PySem.Spec PyProof.Rows L2 TL
section
variable {X : Cx} {cls : Cls} {K : PySem.W.Frag}
def rSortedTL (K : PySem.W.Frag) : List V → Hp → VK → Prop := fun vs H Q => ∃ (a : Addr) (xs : List V) (L : List (List Int)), vs = [V.ref a] ∧ SqL K H a xs ∧ xs.length = L.length ∧ (∀ y l, (y, l) ∈ xs.zip L → ∃ t, y = V.ref t ∧ SqT K H t (l.map V.int)) ∧ (2 ≤ L.length → ∀ l ∈ L, l ≠ []) ∧
  ∀ (ys : List V) (p : Addr), ys.length = (srtL L).length → (∀ y l, (y, l) ∈ ys.zip (srtL L) → (y, l) ∈ xs.zip L) → H p = none → Q (.ref p) (upd H p (.lst ys))
theorem cr_sortedTL : CallR X (.builtin "sorted") (rSortedTL X.K) := by
  intro pins s σ H vs us Q I r h
  obtain ⟨a, xs, L, rfl, hs, hlen, hx, hne, q⟩ := h
  obtain ⟨its, rv, hl, hz⟩ := I.list hs
  obtain ⟨u, rfl, ru⟩ := vals1 r
  obtain rfl : u = Value.ref a := ru
  have hzip : ∀ (j : Nat) (y : V) (l : List Int), xs[j]? = some y → L[j]? = some l → (y, l) ∈ xs.zip L := fun j y l h1 h2 => List.mem_of_getElem? (i := j) (by rw [List.getElem?_zip_eq_some]; exact ⟨h1, h2⟩)
  obtain ⟨e1, e2⟩ := refs_back rv fun x m => by
    obtain ⟨j, hj⟩ := List.getElem?_of_mem m
    have hjl : j < L.length := by rw [← hlen]; exact (List.getElem?_eq_some_iff.mp hj).1
    obtain ⟨t, e, _⟩ := hx x L[j] (hzip j x _ hj (List.getElem?_eq_getElem hjl))
    exact ⟨t, e⟩
  have hil : its.length = L.length := by rw [← hlen, e1]; simp
  have key : ∀ (j : Nat) (v : Value) (l : List Int), its[j]? = some v → L[j]? = some l → IsTI s.heap v l := fun j v l h1 h2 => by
    have h3 : xs[j]? = some (backV v) := by rw [e1, List.getElem?_map, h1]; rfl
    obtain ⟨t, e, ht⟩ := hx _ _ (hzip j _ _ h3 h2)
    obtain ⟨t', rfl⟩ := e2 v (List.mem_of_getElem? h1)
    cases e
    obtain ⟨its2, rv2, hl2, hz2⟩ := I.tuple ht
    have hl3 : s.heap.IsTuple t its2.toArray := hl2
    obtain ⟨o, ho, hc, n, hd⟩ := hl3
    exact ⟨t, o, its2.toArray, n, rfl, ho, hc, hd, by simpa using rv2.ints⟩
  have keyM : ∀ v ∈ its, ∃ l, IsTI s.heap v l ∧ l ∈ L := fun v hv => by
    obtain ⟨j, hj⟩ := List.getElem?_of_mem hv
    have hjl : j < L.length := by rw [← hil]; exact (List.getElem?_eq_some_iff.mp hj).1
    exact ⟨_, key j v _ hj (List.getElem?_eq_getElem hjl), List.getElem_mem hjl⟩
  have hk : ∀ v ∈ its, IsTI s.heap v (kOf s.heap v) := fun v hv => by
    obtain ⟨l, h1, _⟩ := keyM v hv
    rw [h1.k]; exact h1
  have eL : its.map (kOf s.heap) = L := by
    refine List.ext_getElem? fun j => ?_
    rw [List.getElem?_map]
    cases h1 : its[j]? with
    | none => rw [List.getElem?_eq_none (by rw [← hil]; exact List.getElem?_eq_none_iff.mp h1)]; rfl
    | some v =>
      have hjl : j < L.length := by rw [← hil]; exact (List.getElem?_eq_some_iff.mp h1).1
      rw [List.getElem?_eq_getElem hjl]
      exact congrArg some (key j v _ h1 (List.getElem?_eq_getElem hjl)).k
  refine sorted_tups (k := kOf s.heap) hl.isList (by rw [← rv.length]; exact hz) hk (fun h2 v hv => ?_) fun h' d out h1 h2 kp hd hn => ?_
  · obtain ⟨l, k1, k2⟩ := keyM v hv
    rw [k1.k]
    exact hne (by omega) l k2
  · have h3 : ∀ u ∈ out, ∃ a, u = Value.ref a := fun u hu => e2 u (h2.perm.mem_iff.mp hu)
    obtain ⟨n, hn⟩ := hn
    have eO : out.map (kOf s.heap) = srtL L := by
      refine srtL_uniq ?_ ?_
      · rw [← eL]; exact h2.perm.map _
      · exact List.pairwise_map.mpr (h1.imp fun {x y} z => z)
    refine ⟨.ref d, upd H d (.lst (out.map backV)), I.laid (t' := s.toks) kp hd ⟨?_, out, n, vals_back h3, hn⟩, rfl, q _ d (by rw [← eO]; simp) (fun y l hyl => ?_) (I.hok.fresh hd)⟩
    · rw [List.length_map, h2.perm.length_eq, ← rv.length]; exact hz
    · rw [← eO, List.zip_map'] at hyl
      obtain ⟨u, hu, e⟩ := List.mem_map.mp hyl
      cases e
      have hu' : u ∈ its := h2.perm.mem_iff.mp hu
      obtain ⟨j, hj⟩ := List.getElem?_of_mem hu'
      refine hzip j _ _ (by rw [e1, List.getElem?_map, hj]; rfl) ?_
      rw [← eL, List.getElem?_map, hj]; rfl
def rSorted3 (K : PySem.W.Frag) : List V → Hp → VK → Prop := fun vs H Q => rSorted2 K vs H Q ∨ rSortedTL K vs H Q
theorem cr_sorted3 : CallR X (.builtin "sorted") (rSorted3 X.K) := by
  intro pins s σ H vs us Q I r h
  rcases h with h | h
  · exact cr_sorted2 pins s σ H vs us Q I r h
  · exact cr_sortedTL pins s σ H vs us Q I r h
def tupOf : D → Option (List Int)
  | .tp xs => intsOf xs
  | _ => none
def tupsOf : List D → Option (List (List Int))
  | [] => some []
  | d :: ds => match tupOf d, tupsOf ds with
    | some l, some L => some (l :: L)
    | _, _ => none
theorem tupOf_eq {d : D} {l : List Int} (h : tupOf d = some l) : d = .tp (l.map D.int) := by
  cases d <;> simp [tupOf] at h
  rw [intsOf_eq h]
theorem tupsOf_eq : ∀ {ds : List D} {L : List (List Int)}, tupsOf ds = some L → ds = L.map dT
  | [], _, h => by cases h; rfl
  | d :: ds, L, h => by
    unfold tupsOf at h
    split at h
    · rename_i l M h1 h2
      cases h
      rw [tupOf_eq h1, tupsOf_eq h2]; rfl
    · cases h
@[simp] theorem tupsOf_map : ∀ L : List (List Int), tupsOf (L.map dT) = some L
  | [] => rfl
  | l :: L => by simp [tupsOf, dT, tupOf, tupsOf_map L]
def caSorted3 (ds : List D) : Option D := match ds with
  | [d] => match sqK d with
    | some (.tp x :: xs) => match tupsOf (.tp x :: xs) with
      | some L => if L.length < 2 ∨ L.all (fun l => !l.isEmpty) = true then some (.ol ((srtL L).map dT)) else none
      | none => none
    | _ => caSorted2 ds
  | ds => caSorted2 ds
theorem Rps.zip {F : Hp} : ∀ {vs : List V} {L : List (List Int)}, Rps K cls F vs (L.map dT) → ∀ y l, (y, l) ∈ vs.zip L → Rp K cls F y (dT l)
  | _, [], .nil, _, _, h => by simp at h
  | _, l0 :: L, .cons a r, y, l, h => by
    rw [List.zip_cons_cons] at h
    rcases List.mem_cons.mp h with e | h
    · cases e; exact a
    · exact Rps.zip r y l h
theorem Rps.unzip {F : Hp} : ∀ {vs : List V} {L : List (List Int)}, vs.length = L.length → (∀ y l, (y, l) ∈ vs.zip L → Rp K cls F y (dT l)) → Rps K cls F vs (L.map dT)
  | [], [], _, _ => .nil
  | [], _ :: _, h, _ => by simp at h
  | _ :: _, [], h, _ => by simp at h
  | v :: vs, l :: L, h, k => .cons (k v l (by simp)) (Rps.unzip (by simpa using h) fun y l' hm => k y l' (by rw [List.zip_cons_cons]; exact List.mem_cons_of_mem _ hm))
theorem rp_T {F : Hp} {y : V} {l : List Int} (h : Rp K cls F y (dT l)) : ∃ t, y = V.ref t ∧ SqT K F t (l.map V.int) := by
  unfold dT at h
  cases h with
  | tp h r =>
    obtain rfl := r.ints
    exact ⟨_, rfl, h⟩
theorem ok_sorted3 : CaOk K cls (rSorted3 K) caSorted3 := by
  intro F H vs ds d Q s b e q
  unfold caSorted3 at e
  split at e
  · rename_i d0
    split at e
    · rename_i x xs0 h1
      split at e
      · rename_i L h2
        split at e
        · rename_i hn
          cases e
          obtain ⟨v, rfl, b1⟩ := b.one
          obtain ⟨a, ws, rfl, h3, r⟩ := b1.sqK s h1
          have eL := tupsOf_eq h2
          rw [eL] at r
          have hlen : ws.length = L.length := by have := r.len; simpa using this
          refine .inr ⟨a, ws, L, rfl, h3, hlen, fun y l hm => ?_, fun h4 l hl => ?_, fun ys p hy hz hp => ?_⟩
          · obtain ⟨t, e1, e2⟩ := rp_T (r.zip y l hm)
            exact ⟨t, e1, sameT s e2⟩
          · rcases hn with hn | hn
            · omega
            · have := List.all_eq_true.mp hn l hl
              intro z; subst z; simp at this
          · exact q _ _ _ [p] (Ext.own s hp) (fresh_new hp) (.inl (ow_new s hp (Rps.unzip hy fun y l hm => r.zip y l (hz y l hm)).toOws))
        · cases e
      · cases e
    · exact .inl (ok_sorted2 F H vs _ d Q s b e q)
  · exact .inl (ok_sorted2 F H vs _ d Q s b e q)
theorem srtL_len (L : List (List Int)) : (srtL L).length = L.length := (srtL_perm L).length_eq
@[simp] theorem caSorted3_tp (ns : List Int) : caSorted3 [.tp (ns.map D.int)] = some (.ol ((srt ns).map D.int)) := by
  unfold caSorted3
  split
  · rename_i h; cases h; simp
  · simp
@[simp] theorem caSorted3_ls (ns : List Int) : caSorted3 [.ls (ns.map D.int)] = some (.ol ((srt ns).map D.int)) := by
  cases ns with
  | nil => simp [caSorted3]; rfl
  | cons a l => simp [caSorted3]; exact caSorted2_ls (a :: l)
@[simp] theorem caSorted3_bo (ns : List Int) : caSorted3 [.bo (ns.map D.int)] = some (.ol ((srt ns).map D.int)) := by
  cases ns with
  | nil => simp [caSorted3]; rfl
  | cons a l => simp [caSorted3]; exact caSorted2_bo (a :: l)
theorem caSorted3_TL (L : List (List Int)) (h : L.length < 2 ∨ L.all (fun l => !l.isEmpty) = true) : caSorted3 [.ls (L.map dT)] = some (.ol ((srtL L).map dT)) := by
  cases L with
  | nil => simp [caSorted3]; rfl
  | cons l L =>
    have e := tupsOf_map (l :: L)
    simp only [List.map_cons, dT] at e ⊢
    simp only [caSorted3, sqK, e]
    rw [if_pos h]
end
end DL

namespace DL
open PySem PySem.Spec PyProof.Rows L2 TL
section
variable {K : PySem.W.Frag} {cls : Cls} {W : WX} {X : Cx} {F H F' H' F1 H1 : Hp} {O O1 : List Addr} {Q : VK} {a b e : Expr} {es : List Expr} {fa fb fc : Env → Res D} {pos : Pos}
def cIn2 : D → D → Option Bool
  | .tp xs, l => match toPy (.tp xs), toPy l with
    | some d, some (.list ds) => if SeqAt.shaped d = true ∧ SeqAt.shaped (.list ds) = true then some (ds.any fun z => PyData.eqv z d) else none
    | _, _ => none
  | x, l => cIn x l
def cNIn2 (a b : D) : Option Bool := (cIn2 a b).map (!·)
theorem Cn.eq65 {X : Cx} {W : WX} {k : Nat} (c : Cn X W k) : X.A.units + 65 < cLine := by have := c.hr.un; omega
theorem eqv_tups {l : List Int} {L : List (List Int)} : (L.map fun l => PyData.tuple (l.map .int)).any (fun z => PyData.eqv z (.tuple (l.map .int))) = decide (l ∈ L) := by
  induction L with
  | nil => simp
  | cons a L ih =>
    rw [List.map_cons, List.any_cons, ih]
    have : PyData.eqv (.tuple (a.map .int)) (.tuple (l.map .int)) = decide (a = l) := by
      simp only [PyData.eqv]
      exact eqvAll_map (p := PyData.int) (fun a b => by simp only [PyData.eqv]; by_cases e : a = b <;> simp [e]) a l
    rw [this, ← Bool.decide_or]
    by_cases h : a = l
    · subst h; simp
    · have h' : ¬ l = a := fun z => h z.symm
      simp [h, h']
theorem toPy_T (l : List Int) : toPy (.tp (l.map D.int)) = some (.tuple (l.map .int)) := by
  have : toPys (l.map D.int) = some (l.map PyData.int) := toPys_map (fun a => by simp [toPy]) l
  simp [toPy, this]
theorem toPy_TL (L : List (List Int)) : toPy (.ls (L.map dT)) = some (.list (L.map fun l => PyData.tuple (l.map .int))) := by
  have : toPys (L.map dT) = some (L.map fun l => PyData.tuple (l.map .int)) := toPys_map (f := dT) (fun a => toPy_T a) L
  simp [toPy, this]
theorem shaped_T (l : List Int) : SeqAt.shaped (.tuple (l.map .int)) = true := by
  have a := lay_map (p := PyData.int) (fun a => by simp [PyData.canLay0]) l
  have b : PyData.depthAll (l.map PyData.int) ≤ 0 := dep_map (p := PyData.int) (fun a => by simp [PyData.depth]) l
  have c : PyData.depth (.tuple (l.map .int)) ≤ 1 := by simp only [PyData.depth]; omega
  have d : PyData.canLay0 (.tuple (l.map .int)) = true := by simp [PyData.canLay0, a]
  simp only [SeqAt.shaped, d, Bool.true_and, decide_eq_true_eq]
  omega
theorem shaped_TL (L : List (List Int)) : SeqAt.shaped (.list (L.map fun l => PyData.tuple (l.map .int))) = true := by
  have a := lay_map (p := fun l : List Int => PyData.tuple (l.map .int)) (fun l => by
    have := lay_map (p := PyData.int) (fun a => by simp [PyData.canLay0]) l
    simp [PyData.canLay0, this]) L
  have b : PyData.depthAll (L.map fun l : List Int => PyData.tuple (l.map .int)) ≤ 1 := dep_map (p := fun l : List Int => PyData.tuple (l.map .int)) (fun l => by
    have b : PyData.depthAll (l.map PyData.int) ≤ 0 := dep_map (p := PyData.int) (fun a => by simp [PyData.depth]) l
    simp only [PyData.depth]; omega) L
  have c : PyData.depth (.list (L.map fun l : List Int => PyData.tuple (l.map .int))) ≤ 2 := by simp only [PyData.depth]; omega
  have d : PyData.canLay0 (.list (L.map fun l : List Int => PyData.tuple (l.map .int))) = true := by simp [PyData.canLay0, a]
  simp only [SeqAt.shaped, d, Bool.true_and, decide_eq_true_eq]
  omega
theorem cIn2_TL (l : List Int) (L : List (List Int)) : cIn2 (.tp (l.map D.int)) (.ls (L.map dT)) = some (decide (l ∈ L)) := by
  simp only [cIn2, toPy_T, toPy_TL]
  rw [if_pos ⟨shaped_T l, shaped_TL L⟩, eqv_tups]
@[simp] theorem cNIn2_TL (l : List Int) (L : List (List Int)) : cNIn2 (.tp (l.map D.int)) (.ls (L.map dT)) = some (!decide (l ∈ L)) := by
  unfold cNIn2; rw [cIn2_TL]; rfl
end
end DL

set_option maxHeartbeats 1000000
namespace RT
open PySem PySem.Spec PyProof.Rows
section
variable {prog : Program} {w : World} {A : Around} {E : Value → Shared → Prop} {s : Shared}
end
end RT
namespace DL
open PySem PySem.Spec PyProof.Rows L2
section
variable {X : Cx} {cls : Cls} {W : WX} {K : PySem.W.Frag}
def lsT (d : D) : Option (List D) := match d with
  | .tp xs => some xs
  | d => lsv d
@[simp] theorem lsT_tp {xs} : lsT (.tp xs) = some xs := rfl
@[simp] theorem lsT_ls {xs} : lsT (.ls xs) = some xs := rfl
@[simp] theorem lsT_bo {xs} (h : shd xs = true) : lsT (.bo xs) = some xs := by simp [lsT, h]
def eLRev2 (fa : Env → Res D) : Env → Res D := fun g => (fa g).bind fun d => match lsT (opd d) with
  | some xs => .ok (.ol xs.reverse)
  | none => .bad
@[simp] theorem eLRev2_ (fa : Env → Res D) (g : Env) : eLRev2 fa g = (fa g).bind fun d => match lsT (opd d) with
  | some xs => .ok (.ol xs.reverse)
  | none => .bad := rfl
end
end DL

set_option maxHeartbeats 1000000
namespace RT
open PySem PySem.Spec PyProof.Rows
section
variable {prog : Program} {w : World} {A : Around} {E : Value → Shared → Prop} {s : Shared}
end
end RT
namespace DL
open PySem PySem.Spec PyProof.Rows L2
section
variable {X : Cx} {cls : Cls} {W : WX} {K : PySem.W.Frag}
theorem Bo.lsT {v : V} {d : D} {F H : Hp} {xs : List D} (s : Same F H) (b1 : Bo K cls F H v d) (eo : lsT d = some xs) : ∃ a vs, v = .ref a ∧ (SqL K H a vs ∨ SqT K H a vs) ∧ Rps K cls F vs xs := by
  cases d with
  | tp ys =>
    cases eo
    obtain ⟨a, vs, e1, h1, h2, r⟩ := b1.tpv s (xs := xs) rfl
    exact ⟨a, vs, e1, .inr h1, r⟩
  | ls ys =>
    obtain ⟨a', vs, rfl, h1, r⟩ := b1.sqK s (xs := xs) (by simpa [DL.lsT] using eo)
    exact ⟨a', vs, rfl, .inl h1, r⟩
  | bo ys =>
    obtain ⟨a', vs, rfl, h1, r⟩ := b1.sqK s (xs := xs) (by simp [DL.lsT] at eo ⊢; first | exact eo | (obtain ⟨e1, e2⟩ := eo; exact ⟨e1, e2⟩))
    exact ⟨a', vs, rfl, .inl h1, r⟩
  | _ => simp [DL.lsT] at eo
def eTRev2 (fa : Env → Res D) : Env → Res D := fun g => (fa g).bind fun d => match lsT (opd d) with
  | some xs => .ok (.tp xs.reverse)
  | none => .bad
@[simp] theorem eTRev2_ (fa : Env → Res D) (g : Env) : eTRev2 fa g = (fa g).bind fun d => match lsT (opd d) with
  | some xs => .ok (.tp xs.reverse)
  | none => .bad := rfl
end
end DL

namespace DL
open PySem PySem.Spec PyProof.Rows L2
section
variable {X : Cx} {cls : Cls} {W : WX} {K : PySem.W.Frag} {F H F' H' : Hp} {O : List Addr}
def eTR1 (fa : Env → Res D) : Env → Res D := fun g => (fa g).bind fun d => match opd d with
  | .int n => if rgOk n ∧ n ≤ 1000000 then .ok (.tp (rng 0 n.toNat)) else .bad
  | _ => .bad
@[simp] theorem eTR1_ (fa : Env → Res D) (g : Env) : eTR1 fa g = (fa g).bind fun d => match opd d with
  | .int n => if rgOk n ∧ n ≤ 1000000 then .ok (.tp (rng 0 n.toNat)) else .bad
  | _ => .bad := rfl
def opShr : D → D → Option D
  | .int i, .int j => if 0 ≤ j then some (.int (i / 2 ^ j.toNat)) else none
  | _, _ => none
def opAnd : D → D → Option D
  | .int i, .int j => if j = 1 then some (.int (i % 2)) else none
  | _, _ => none
@[simp] theorem opShr_int {i j : Int} (h : 0 ≤ j) : opShr (.int i) (.int j) = some (.int (i / 2 ^ j.toNat)) := if_pos h
@[simp] theorem opAnd_int {i : Int} : opAnd (.int i) (.int 1) = some (.int (i % 2)) := rfl
theorem Ows.appendR : ∀ {vs ws : List V} {xs ys : List D} {O : List Addr}, Ows K cls F H vs xs O → Rps K cls F ws ys → Ows K cls F H (vs ++ ws) (xs ++ ys) O
  | _, _, _, _, _, .nil, r => r.toOws
  | _, _, _, _, _, .cons h r dj e, r2 => .cons h (Ows.appendR r r2) dj e
end
section
variable {K : PySem.W.Frag} {cls : Cls} {W : WX} {X : Cx} {F H F' H' F1 H1 : Hp} {O O1 : List Addr} {Q : VK} {a b e : Expr} {es : List Expr} {fa fb fc : Env → Res D} {pos : Pos}
def sExt (i : Nat) (fa : Env → Res D) : Env → Out := fun g => match g[i]? with
  | some (.ol xs) => (fa g).st g fun d => match lsv (opd d) with
    | some ys => if xs.length + ys.length ≤ lim then .nx (g.set i (.ol (xs ++ ys))) else .bad
    | none => .bad
  | _ => .bad
@[simp] theorem sExt_ (i : Nat) (fa : Env → Res D) (g : Env) : sExt i fa g = match g[i]? with
  | some (.ol xs) => (fa g).st g fun d => match lsv (opd d) with
    | some ys => if xs.length + ys.length ≤ lim then .nx (g.set i (.ol (xs ++ ys))) else .bad
    | none => .bad
  | _ => .bad := rfl
theorem js_ext {i : Nat} {x : Str} {npos apos cpos : Pos} (hN : X.N[i]? = some x) (hv : Vis X.env.scope x) (ha : JE X cls W a fa) (hd : (x == ("__debug__" : Str)) = false := by decide) (hcd : (x == ("__classdict__" : Str)) = false := by decide)
    (hbase : attributeBase (.Name x npos) "extend" X.env (eval (.Name x npos) X.env) = eval (.Name x npos) X.env := by rfl)
    (hfew : ((backTo cpos (starEach (a :: []) X.env)).all (fun x => !x.1) && (backToKw cpos (keywordEach [] X.env)).all (fun x => x.1.isSome)
      && decide ((a :: []).length + ([] : List Keyword).length + (if ([] : List Keyword).isEmpty then 0 else 1) < 30)) = true := by rfl)
    (hline : (apos.endLine == cpos.line) = true := by rfl) (hs : starEach (a :: []) X.env = (false, eval a X.env) :: starEach [] X.env := by rfl) (hplain : (backTo cpos (starEach [] X.env)).any (·.1) = false := by rfl)
    (hsw : swapsWith (.Call (.Attribute (.Name x npos) "extend" apos) [a] [] cpos) none pos.line X.env = pure false := by rfl) :
    JS X cls W (.Expr (.Call (.Attribute (.Name x npos) "extend" apos) [a] [] cpos) pos) (sExt i fa) := by
  obtain ⟨t, p, d⟩ := ha.ex
  refine ⟨_, ps_expr (pe_bm PySem.F.plainAttrs_list PySem.F.slot_list_extend PySem.F.type_list_extend mt_extend (pe_var hN hv hd hcd) (pa_cons p pa_nil hs) hbase hfew hline hs hplain) hsw, ?_⟩
  intro D σ F H g O s st p
  rw [sExt_] at p
  split at p
  · rename_i xs eg
    obtain ⟨q, vs, O1, h1, h2, h2', h3, h4, h5, h6, h7⟩ := st.lst eg
    refine ⟨.ref q, h1, .inl ⟨rfl, vs, SqL.of h2⟩, ?_⟩
    refine d.go s st (fun c e F' H' y => by rw [e] at p; exact p σ F' H' O (y.sext fun a h => .inl h) (st.ext y)) (fun e => by rw [e] at p; exact p) fun dd e v F1 H1 x b => ?_
    rw [e, Res.st_ok] at p
    split at p
    · rename_i ys el
      split at p
      · rename_i hl
        obtain ⟨bb, zs, rfl, k1, k2⟩ := b.lsv x.fh el
        refine ⟨q, bb, vs, zs, rfl, rfl, x.hh _ _ h2, k1, by rw [h4.len, k2.len]; exact lim_ok hl, ?_⟩
        obtain ⟨O'', z1, z2⟩ := h7 F1 H1 (vs ++ zs) (xs ++ ys) O1 x ((h4.ext x).appendR k2) h3 (fun a z => .inl z)
        exact p σ F1 _ O'' z2 z1
      · exact p.elim
    · exact p.elim
  · exact p.elim
end
end DL

namespace DL
open PySem PySem.Spec PyProof.Rows L2 TL PySem.W
section
variable {K : PySem.W.Frag} {cls : Cls} {X : Cx} {F H F' H' F1 H1 : Hp} {O O1 : List Addr} {Q : VK}
def rMinD (K : PySem.W.Frag) : List V → Hp → VK → Prop := fun vs H Q => ∃ (a : Addr) (xs : List V) (p : PyData) (ps : List PyData), vs = [V.ref a] ∧ SqL K H a xs ∧ DpAll K H xs (p :: ps) ∧ AlikeAll (p :: ps) ∧ PyData.depthAll (p :: ps) ≤ 60 ∧
  ∀ (i : Nat) y q, xs[i]? = some y → (p :: ps)[i]? = some q → q = minD p ps → Q y H
theorem vals_at : ∀ {xs : List V} {us : List Value}, Vals xs us → ∀ (i : Nat) (u : Value), us[i]? = some u → ∃ x, xs[i]? = some x ∧ RelV x u
  | _, _, .nil, i, u, h => by simp at h
  | _, _, .cons r rs, 0, u, h => by simp at h; subst h; exact ⟨_, rfl, r⟩
  | _, _, .cons r rs, i + 1, u, h => by
    obtain ⟨x, h1, h2⟩ := vals_at rs i u (by simpa using h)
    exact ⟨x, by simpa using h1, h2⟩
theorem readsAll_one {h : Heap} : ∀ {us : List Value} {ps : List PyData} {as : List Addr}, ReadsAll h us ps as → ∀ (i : Nat) (u : Value), us[i]? = some u → ∃ q bs, ps[i]? = some q ∧ Reads h u q bs
  | _, _, _, .nil, i, u, e => by simp at e
  | _, _, _, .cons r rs, 0, u, e => by simp at e; subst e; exact ⟨_, _, rfl, r⟩
  | _, _, _, .cons r rs, i + 1, u, e => by
    obtain ⟨q, bs, h1, h2⟩ := readsAll_one rs i u (by simpa using e)
    exact ⟨q, bs, by simpa using h1, h2⟩
theorem minD_mem : ∀ (ps : List PyData) (p : PyData), minD p ps ∈ p :: ps
  | [], p => List.mem_cons_self ..
  | q :: ps, p => by
    have h : minD p (q :: ps) = minD (if dataLt q p then q else p) ps := rfl
    rw [h]
    have := minD_mem ps (if dataLt q p then q else p)
    rcases List.mem_cons.mp this with e | e
    · rw [e]
      split <;> simp
    · exact List.mem_cons_of_mem _ (List.mem_cons_of_mem _ e)
theorem cr_minD (hc : X.calm = true) (hu : X.A.units + 65 < cLine) : CallR X (.builtin "min") (rMinD X.K) := by
  intro pins s σ H vs us Q I r h
  obtain ⟨a, xs, p, ps, rfl, hs, hd, ha, hdp, q⟩ := h
  obtain ⟨its, rv, hl, hz⟩ := I.list hs
  obtain ⟨u, rfl, ru⟩ := vals1 r
  obtain rfl : u = Value.ref a := ru
  obtain ⟨as, hr⟩ := Dp.readsAll I (p :: ps) xs its hd rv
  refine min_list_data (vs := its.toArray) (I.ok.hd hc) hl.isList (by simpa using hr) ha (by omega) fun i v h' tk bs hv hrd hk => ?_
  have hv' : its[i]? = some v := by simpa using hv
  obtain ⟨x, hx, rx⟩ := vals_at rv i v hv'
  obtain ⟨e, bs', he, hre⟩ := readsAll_one hr i v hv'
  have em : e ∈ p :: ps := List.mem_of_getElem? he
  have eq : e = minD p ps := alike_unique _ _ _ _ _ (ha.1 _ em _ (minD_mem ps p)) (Reads.keeps hk hre) hrd
  exact ⟨x, H, I.kept hk, rx, q i x e hx he eq⟩
def rMin3 (K : PySem.W.Frag) : List V → Hp → VK → Prop := fun vs H Q => rMin K vs H Q ∨ rMinD K vs H Q
theorem cr_min3 (hc : X.calm = true) (hu : X.A.units + 65 < cLine) : CallR X (.builtin "min") (rMin3 X.K) := by
  intro pins s σ H vs us Q I r h
  rcases h with h | h
  · exact cr_min hc pins s σ H vs us Q I r h
  · exact cr_minD hc hu pins s σ H vs us Q I r h
mutual
/-- texts, numbers, truth values, and tuples of these -/
def flt : D → Bool
  | .int _ => true
  | .bl _ => true
  | .str _ => true
  | .tp xs => flts xs
  | _ => false
def flts : List D → Bool
  | [] => true
  | d :: ds => flt d && flts ds
end
mutual
theorem flt_inj : ∀ {a b : D} {p : PyData}, flt a = true → flt b = true → toPy a = some p → toPy b = some p → a = b
  | .int _, b, p, _, h2, h3, h4 => by
    simp [toPy] at h3; subst h3
    cases b <;> simp [toPy, flt] at h2 h4 ⊢ <;> first | exact h4.symm | (obtain ⟨_, _, h⟩ := h4; cases h)
  | .bl _, b, p, _, h2, h3, h4 => by
    simp [toPy] at h3; subst h3
    cases b <;> simp [toPy, flt] at h2 h4 ⊢ <;> first | exact h4.symm | (obtain ⟨_, _, h⟩ := h4; cases h)
  | .str _, b, p, _, h2, h3, h4 => by
    simp [toPy] at h3; subst h3
    cases b <;> simp [toPy, flt] at h2 h4 ⊢ <;> first | exact h4.symm | (obtain ⟨_, _, h⟩ := h4; cases h)
  | .tp xs, b, p, h1, h2, h3, h4 => by
    simp [toPy] at h3
    obtain ⟨ps, k1, rfl⟩ := h3
    match b, h2, h4 with
    | .tp ys, h2, h4 =>
      simp [toPy] at h4
      rw [flts_inj (by simpa [flt] using h1) (by simpa [flt] using h2) k1 h4]
    | .int _, _, h4 => simp [toPy] at h4
    | .bl _, _, h4 => simp [toPy] at h4
    | .str _, _, h4 => simp [toPy] at h4
  | .non, _, _, h1, _, _, _ => by simp [flt] at h1
  | .un, _, _, h1, _, _, _ => by simp [flt] at h1
  | .sc _, _, _, h1, _, _, _ => by simp [flt] at h1
  | .ls _, _, _, h1, _, _, _ => by simp [flt] at h1
  | .ob _ _, _, _, h1, _, _, _ => by simp [flt] at h1
  | .ol _, _, _, h1, _, _, _ => by simp [flt] at h1
  | .bo _, _, _, h1, _, _, _ => by simp [flt] at h1
  | .od _ _, _, _, h1, _, _, _ => by simp [flt] at h1
  | .bd _ _, _, _, h1, _, _, _ => by simp [flt] at h1
  | .oo _ _ _, _, _, h1, _, _, _ => by simp [flt] at h1
  | .bb _ _, _, _, h1, _, _, _ => by simp [flt] at h1
  | .rf _, _, _, h1, _, _, _ => by simp [flt] at h1
theorem flts_inj : ∀ {a b : List D} {p : List PyData}, flts a = true → flts b = true → toPys a = some p → toPys b = some p → a = b
  | [], b, p, _, h2, h3, h4 => by
    simp [toPys] at h3; subst h3
    cases b with
    | nil => rfl
    | cons d ds =>
      unfold toPys at h4
      cases q1 : toPy d <;> cases q2 : toPys ds <;> rw [q1, q2] at h4 <;> cases h4
  | a :: as, b, p, h1, h2, h3, h4 => by
    simp [flts] at h1
    unfold toPys at h3
    cases q1 : toPy a with
    | none => rw [q1] at h3; cases h3
    | some p1 =>
      cases q2 : toPys as with
      | none => rw [q1, q2] at h3; cases h3
      | some p2 =>
        rw [q1, q2] at h3
        cases h3
        cases b with
        | nil => simp [toPys] at h4
        | cons d ds =>
          simp [flts] at h2
          unfold toPys at h4
          cases r1 : toPy d with
          | none => rw [r1] at h4; cases h4
          | some p3 =>
            cases r2 : toPys ds with
            | none => rw [r1, r2] at h4; cases h4
            | some p4 =>
              rw [r1, r2] at h4
              cases h4
              rw [flt_inj h1.1 h2.1 q1 r1, flts_inj h1.2 h2.2 q2 r2]
end
theorem flt_some : ∀ {a : D} {p : PyData}, flt a = true → toPy a = some p → p ≠ .none
  | a, p, h, e, z => by
    subst z
    cases a <;> simp [flt, toPy] at h e
theorem toPys_get : ∀ {ds : List D} {ps : List PyData}, toPys ds = some ps → ∀ (i : Nat) (d : D), ds[i]? = some d → ∃ p, ps[i]? = some p ∧ toPy d = some p
  | [], _, _, i, d, h => by simp at h
  | a :: as, ps, h, i, d, e => by
    unfold toPys at h
    cases q1 : toPy a with
    | none => rw [q1] at h; cases h
    | some p1 =>
      cases q2 : toPys as with
      | none => rw [q1, q2] at h; cases h
      | some p2 =>
        rw [q1, q2] at h
        cases h
        cases i with
        | zero => simp at e; subst e; exact ⟨_, rfl, q1⟩
        | succ i =>
          obtain ⟨p, h1, h2⟩ := toPys_get q2 i d (by simpa using e)
          exact ⟨p, by simpa using h1, h2⟩
theorem flts_mem : ∀ {ds : List D}, flts ds = true → ∀ d ∈ ds, flt d = true
  | [], _, d, h => by simp at h
  | a :: as, h, d, hd => by
    simp [flts] at h
    rcases List.mem_cons.mp hd with rfl | hd
    · exact h.1
    · exact flts_mem h.2 d hd
def mfold : D → PyData → List D → List PyData → D
  | d, p, e :: ds, q :: ps => if dataLt q p = true then mfold e q ds ps else mfold d p ds ps
  | d, _, _, _ => d
theorem mfold_spec : ∀ (ds : List D) (ps : List PyData) (d : D) (p : PyData), toPy d = some p → toPys ds = some ps → mfold d p ds ps ∈ d :: ds ∧ toPy (mfold d p ds ps) = some (minD p ps)
  | [], ps, d, p, h1, h2 => by
    simp [toPys] at h2; subst h2
    exact ⟨List.mem_cons_self .., h1⟩
  | e :: ds, ps, d, p, h1, h2 => by
    unfold toPys at h2
    cases q1 : toPy e with
    | none => rw [q1] at h2; cases h2
    | some q =>
      cases q2 : toPys ds with
      | none => rw [q1, q2] at h2; cases h2
      | some ps2 =>
        rw [q1, q2] at h2
        cases h2
        have hm : minD p (q :: ps2) = minD (if dataLt q p = true then q else p) ps2 := rfl
        rw [hm]
        unfold mfold
        split
        · obtain ⟨k1, k2⟩ := mfold_spec ds ps2 e q q1 q2
          exact ⟨List.mem_cons_of_mem _ k1, k2⟩
        · obtain ⟨k1, k2⟩ := mfold_spec ds ps2 d p h1 q2
          refine ⟨?_, k2⟩
          rcases List.mem_cons.mp k1 with k | k
          · rw [k]; exact List.mem_cons_self ..
          · exact List.mem_cons_of_mem _ (List.mem_cons_of_mem _ k)
def caMin3 (ds : List D) : Option D := match ds with
  | [d] => match sqK d with
    | some (.tp x :: xs) => match toPys (.tp x :: xs) with
      | some (p :: ps) => if flts (.tp x :: xs) = true ∧ ((p :: ps).all fun a => (p :: ps).all fun b => alike a b) = true ∧ PyData.depthAll (p :: ps) ≤ 60 then some (mfold (.tp x) p xs ps) else none
      | _ => none
    | _ => caMin ds
  | ds => caMin ds
theorem ok_min3 : CaOk K cls (rMin3 K) caMin3 := by
  intro F H vs ds d Q s b e q
  unfold caMin3 at e
  split at e
  · rename_i d0
    split at e
    · rename_i x xs0 h1
      split at e
      · rename_i p ps h2
        split at e
        · rename_i hn
          cases e
          obtain ⟨hf, hal, hdp⟩ := hn
          obtain ⟨v, rfl, b1⟩ := b.one
          obtain ⟨a, ws, rfl, h3, r⟩ := b1.sqK s h1
          have hdd := Rps.dp s r h2
          have hpn : ∀ y ∈ p :: ps, ∃ d ∈ D.tp x :: xs0, toPy d = some y := fun y hy => by
            obtain ⟨i, hi⟩ := List.getElem?_of_mem hy
            have hlen : (D.tp x :: xs0).length = (p :: ps).length := by
              have : ∀ {ds : List D} {ps : List PyData}, toPys ds = some ps → ds.length = ps.length := fun {ds} => by
                induction ds with
                | nil => intro ps h; simp [toPys] at h; subst h; rfl
                | cons a as ih =>
                  intro ps h
                  unfold toPys at h
                  cases q1 : toPy a with
                  | none => rw [q1] at h; cases h
                  | some p1 =>
                    cases q2 : toPys as with
                    | none => rw [q1, q2] at h; cases h
                    | some p2 => rw [q1, q2] at h; cases h; simp [ih q2]
              exact this h2
            have hil : i < (D.tp x :: xs0).length := by rw [hlen]; exact (List.getElem?_eq_some_iff.mp hi).1
            obtain ⟨y', k1, k2⟩ := toPys_get h2 i _ (List.getElem?_eq_getElem hil)
            rw [hi] at k1
            cases k1
            exact ⟨_, List.getElem_mem hil, k2⟩
          refine .inr ⟨a, ws, p, ps, rfl, h3, hdd, ⟨fun y hy z hz => List.all_eq_true.mp (List.all_eq_true.mp hal y hy) z hz, fun y hy => ?_⟩, hdp, fun i y e hy he hm => ?_⟩
          · obtain ⟨d, d1, d2⟩ := hpn y hy
            exact flt_some (flts_mem hf d d1) d2
          · obtain ⟨dd, k1, k2⟩ : ∃ dd, (D.tp x :: xs0)[i]? = some dd ∧ Rp K cls F y dd := by
              have : ∀ {vs : List V} {ds : List D}, Rps K cls F vs ds → ∀ (i : Nat) y, vs[i]? = some y → ∃ dd, ds[i]? = some dd ∧ Rp K cls F y dd := fun {vs ds} r => by
                intro i
                induction i generalizing vs ds with
                | zero =>
                  intro y hy
                  cases r with
                  | nil => simp at hy
                  | cons a b => simp at hy; subst hy; exact ⟨_, rfl, a⟩
                | succ i ih =>
                  intro y hy
                  cases r with
                  | nil => simp at hy
                  | cons a b =>
                    obtain ⟨dd, z1, z2⟩ := ih b y (by simpa using hy)
                    exact ⟨dd, by simpa using z1, z2⟩
              exact this r i y hy
            obtain ⟨e', k3, k4⟩ := toPys_get h2 i dd k1
            rw [he] at k3
            cases k3
            have t1 : toPy (D.tp x) = some p ∧ toPys xs0 = some ps := by
              have h2' := h2
              unfold toPys at h2'
              cases q1 : toPy (D.tp x) with
              | none => rw [q1] at h2'; cases h2'
              | some p1 =>
                cases q2 : toPys xs0 with
                | none => rw [q1, q2] at h2'; cases h2'
                | some p2 => rw [q1, q2] at h2'; cases h2'; exact ⟨rfl, rfl⟩
            obtain ⟨m1, m2⟩ := mfold_spec xs0 ps (.tp x) p t1.1 t1.2
            have ee : dd = mfold (.tp x) p xs0 ps := flt_inj (flts_mem hf dd (List.mem_of_getElem? k1)) (flts_mem hf _ m1) k4 (by rw [m2, hm])
            rw [ee] at k2
            exact q y F H [] (.refl s) Fresh.nil (.inr ⟨.sh k2, rfl⟩)
        · cases e
      · cases e
    · exact .inl (ok_min F H vs _ d Q s b e q)
  · exact .inl (ok_min F H vs _ d Q s b e q)
theorem mfold_enc {α : Type} {f : α → D} {g : α → PyData} {lt : α → α → Bool} : ∀ (L : List α) (a : α), (∀ x ∈ a :: L, ∀ y ∈ a :: L, dataLt (g x) (g y) = lt x y) → mfold (f a) (g a) (L.map f) (L.map g) = f (L.foldl (fun m x => if lt x m = true then x else m) a)
  | [], a, _ => rfl
  | b :: L, a, h => by
    have hb := h b (by simp) a (by simp)
    simp only [List.map_cons, mfold, List.foldl_cons, hb]
    split
    · exact mfold_enc L b fun x hx y hy => h x (by simp at hx ⊢; rcases hx with e | e <;> simp [e]) y (by simp at hy ⊢; rcases hy with e | e <;> simp [e])
    · exact mfold_enc L a fun x hx y hy => h x (by simp at hx ⊢; rcases hx with e | e <;> simp [e]) y (by simp at hy ⊢; rcases hy with e | e <;> simp [e])
theorem toPys_enc {α : Type} {f : α → D} {g : α → PyData} (h : ∀ a, toPy (f a) = some (g a)) : ∀ L : List α, toPys (L.map f) = some (L.map g)
  | [] => rfl
  | a :: L => by rw [List.map_cons, List.map_cons, toPys, h a, toPys_enc h L]
theorem flts_enc {α : Type} {f : α → D} (h : ∀ a, flt (f a) = true) : ∀ L : List α, flts (L.map f) = true
  | [] => rfl
  | a :: L => by rw [List.map_cons, flts, h a, flts_enc h L]; rfl
theorem depth_enc {α : Type} {g : α → PyData} {n : Nat} (h : ∀ a, (g a).depth ≤ n) : ∀ L : List α, PyData.depthAll (L.map g) ≤ n
  | [] => by simp [PyData.depthAll]
  | a :: L => by
    have := h a
    have := depth_enc h L
    simp only [List.map_cons, PyData.depthAll]
    omega
theorem caMin3_enc {α : Type} {f : α → D} {g : α → PyData} {lt : α → α → Bool} (hf : ∀ a, ∃ xs, f a = .tp xs) (h1 : ∀ a, toPy (f a) = some (g a)) (h2 : ∀ a, flt (f a) = true) (h4 : ∀ a, (g a).depth ≤ 60) (a : α) (L : List α)
    (h3 : ∀ x ∈ a :: L, ∀ y ∈ a :: L, alike (g x) (g y) = true) (h5 : ∀ x ∈ a :: L, ∀ y ∈ a :: L, dataLt (g x) (g y) = lt x y) :
    caMin3 [.ls ((a :: L).map f)] = some (f (L.foldl (fun m x => if lt x m = true then x else m) a)) := by
  obtain ⟨xs, hx⟩ := hf a
  have e1 := toPys_enc h1 (a :: L)
  have e2 := flts_enc h2 (a :: L)
  have e3 := depth_enc h4 (a :: L)
  have e4 := mfold_enc (f := f) L a h5
  simp only [List.map_cons, hx] at e1 e2 e3 e4 ⊢
  simp only [caMin3, sqK, e1]
  refine (if_pos ⟨e2, ?_, e3⟩).trans (by rw [e4])
  rw [List.all_eq_true]
  intro y hy
  rw [List.all_eq_true]
  intro z hz
  rw [← List.map_cons] at hy hz
  obtain ⟨y', k1, rfl⟩ := List.mem_map.mp hy
  obtain ⟨z', k2, rfl⟩ := List.mem_map.mp hz
  exact h3 y' k1 z' k2
def pT (l : List Int) : PyData := .tuple (l.map .int)
theorem alikeAll_ints : ∀ l m : List Int, alikeAll (l.map .int) (m.map .int) = true
  | [], _ => by simp [alikeAll]
  | _ :: _, [] => by simp [alikeAll]
  | a :: l, b :: m => by simp [alikeAll, alike, alikeAll_ints l m]
theorem alike_T (l m : List Int) : alike (pT l) (pT m) = true := by simp only [pT, alike]; exact alikeAll_ints l m
theorem flts_ints : ∀ l : List Int, flts (l.map D.int) = true
  | [] => rfl
  | a :: l => by simp [flts, flt, flts_ints l]
theorem flt_T (l : List Int) : flt (.tp (l.map D.int)) = true := by simp only [flt]; exact flts_ints l
theorem depth_T (l : List Int) : (pT l).depth ≤ 1 := by
  have b : PyData.depthAll (l.map PyData.int) ≤ 0 := dep_map (p := PyData.int) (fun a => by simp [PyData.depth]) l
  simp only [pT, PyData.depth]; omega
theorem toks_ints_lt : ∀ l m : List Int, PyProof.Rows.lexLt itemOrd (keyToksAll (l.map .int)) (keyToksAll (m.map .int)) = HT.lexLt l m
  | [], [] => by rw [HT.lexLt_nil_nil]; simp [keyToksAll, lex_irrefl]
  | [], y :: ys => by
    rw [HT.lexLt_nil_cons, List.map_cons, toks_all_cons]
    simp only [keyToksAll, List.map_nil]
    rw [lex_diff (O := itemOrd) (by simp)]
    simp [itemLt]
  | x :: xs, [] => by
    rw [HT.lexLt_cons_nil, List.map_cons, toks_all_cons]
    simp only [keyToksAll, List.map_nil]
    rw [lex_diff (O := itemOrd) (by simp)]
    simp [itemLt]
  | x :: xs, y :: ys => by
    rw [HT.lexLt_cons, List.map_cons, List.map_cons]
    by_cases h : x = y
    · subst h
      rw [dataLt_all_yes (by simp [alike]) (by simp [PyData.eqv]), toks_ints_lt xs ys, if_pos rfl]
    · rw [dataLt_all_no (by simp [alike]) (by simp [PyData.eqv, h]), dataLt_int, if_neg h]
theorem lt_T (l m : List Int) : dataLt (pT l) (pT m) = HT.lexLt l m := by
  unfold pT
  rw [dataLt_tuple, toks_ints_lt]
def dNT (x : Int × List Int) : D := .tp [.int x.1, .tp (x.2.map D.int)]
theorem minF_spec {α : Type} (k : α → List Int) : ∀ (L : List α) (a : α), let m := L.foldl (fun m x => if HT.lexLt (k x) (k m) = true then x else m) a
    m ∈ a :: L ∧ ∀ x ∈ a :: L, HT.lexLt (k x) (k m) = false
  | [], a => ⟨List.mem_cons_self .., fun x hx => by
      simp at hx; subst hx
      have : HT.lexLt (k x) (k x) = false := by rw [← toks_ints_lt]; exact lex_irrefl _
      exact this⟩
  | b :: L, a => by
    have irr : ∀ x, HT.lexLt (k x) (k x) = false := fun x => by rw [← toks_ints_lt]; exact lex_irrefl _
    simp only [List.foldl_cons]
    by_cases c : HT.lexLt (k b) (k a) = true
    · rw [if_pos c]
      obtain ⟨h1, h2⟩ := minF_spec k L b
      refine ⟨List.mem_cons_of_mem _ h1, fun x hx => ?_⟩
      rcases List.mem_cons.mp hx with rfl | hx
      · exact NtL.lex_tr _ _ _ (h2 b (List.mem_cons_self ..)) (NtL.lex_asym _ _ c)
      · exact h2 x hx
    · rw [if_neg c]
      have c : HT.lexLt (k b) (k a) = false := by simpa using c
      obtain ⟨h1, h2⟩ := minF_spec k L a
      refine ⟨?_, fun x hx => ?_⟩
      · rcases List.mem_cons.mp h1 with h | h
        · rw [h]; exact List.mem_cons_self ..
        · exact List.mem_cons_of_mem _ (List.mem_cons_of_mem _ h)
      · rcases List.mem_cons.mp hx with rfl | hx
        · exact h2 x (List.mem_cons_self ..)
        · rcases List.mem_cons.mp hx with rfl | hx
          · exact NtL.lex_tr _ _ _ (h2 a (List.mem_cons_self ..)) c
          · exact h2 x (List.mem_cons_of_mem _ hx)
end
end DL

namespace DL
open PySem PySem.Spec PyProof.Rows L2 PySem.W
section
variable {K : PySem.W.Frag} {cls : Cls} {W : WX} {X : Cx} {F H F' H' F1 H1 : Hp} {O O1 : List Addr} {Q : VK} {a b e : Expr} {es : List Expr} {fa fb fc : Env → Res D} {fs : Env → Res (List D)} {pos : Pos}
def argB : D → Option (List Int)
  | .bo xs => intsOf xs
  | _ => none
def bAddr : List V → List D → List Addr
  | .ref a :: vs, .bo _ :: ds => a :: bAddr vs ds
  | _ :: vs, _ :: ds => bAddr vs ds
  | _, _ => []
def calD2 (g : List D → Res D) (ds : List D) : Res D :=
  if (ds.all fun d => shd1 d || (argB d).isSome) = true then match g (plns ds) with
    | .ok (.ls xs) => match intsOf xs with
      | some ns => if (ds.all fun d => !decide (argB d = some ns)) = true then .ok (.ls xs) else .bad
      | none => .bad
    | .xc c => .xc c
    | _ => .bad
  else .bad
theorem bAddr_spec : ∀ {vs : List V} {ds : List D}, Bos K cls F H vs ds → (ds.all fun d => shd1 d || (argB d).isSome) = true → ∀ a ∈ bAddr vs ds, ∃ d ∈ ds, ∃ ms : List Int, argB d = some ms ∧ H a = some (.lst (ms.map V.int))
  | _, _, .nil, _, a, h => by simp [bAddr] at h
  | _, _, .cons (vs := vs) (ds := ds) (.sh r) rs, hk, a, h => by
    rw [List.all_cons, Bool.and_eq_true] at hk
    have h' : a ∈ bAddr vs ds := by
      cases r <;> simpa [bAddr] using h
    obtain ⟨d, h1, h2⟩ := bAddr_spec rs hk.2 a h'
    exact ⟨d, List.mem_cons_of_mem _ h1, h2⟩
  | _, _, .cons (vs := vs) (ds := ds) (.bo (a := b) (ds := xs) hb r) rs, hk, a, h => by
    rw [List.all_cons, Bool.and_eq_true] at hk
    simp only [bAddr] at h
    rcases List.mem_cons.mp h with rfl | h
    · have h3 := hk.1
      simp only [shd1_bo, Bool.false_or, argB] at h3
      obtain ⟨ms, hm⟩ := Option.isSome_iff_exists.mp h3
      have e := intsOf_eq hm
      refine ⟨_, List.mem_cons_self .., ms, hm, ?_⟩
      rw [e] at r
      have : ∀ {us : List V} {ms : List Int}, Bos K cls F H us (ms.map D.int) → us = ms.map V.int := fun {us ms} => by
        induction ms generalizing us with
        | nil => intro h; cases h; rfl
        | cons n ns ih =>
          intro h
          cases h with
          | cons a b =>
            obtain rfl := a.int
            rw [ih b]; rfl
      rw [hb, this r]
    · obtain ⟨d, h1, h2⟩ := bAddr_spec rs hk.2 a h
      exact ⟨d, List.mem_cons_of_mem _ h1, h2⟩
  | _, _, .cons (.bd ..) rs, hk, a, h => by
    rw [List.all_cons, Bool.and_eq_true] at hk
    have := hk.1
    simp [argB] at this
  | _, _, .cons (.bb ..) rs, hk, a, h => by
    rw [List.all_cons, Bool.and_eq_true] at hk
    have := hk.1
    simp [argB] at this
theorem pln_rp {v : V} {d : D} (r : Rp K cls F v d) : pln d = d := by cases r <;> rfl
theorem plns_ints : ∀ ms : List Int, plns (ms.map D.int) = ms.map D.int
  | [] => rfl
  | m :: ms => by
    have e : pln (D.int m) = D.int m := by simp [pln]
    rw [List.map_cons, plns, e, plns_ints ms]
theorem bos_rps {F2 : Hp} (s : Same F F2) : ∀ {vs : List V} {ds : List D}, Bos K cls F H vs ds → (ds.all fun d => shd1 d || (argB d).isSome) = true → (∀ a ∈ bAddr vs ds, F2 a = H a) → Rps K cls F2 vs (plns ds)
  | _, _, .nil, _, _ => .nil
  | _, _, .cons (vs := vs) (ds := ds) (.sh r) rs, hk, hb => by
    rw [List.all_cons, Bool.and_eq_true] at hk
    simp only [plns]
    rw [pln_rp r]
    refine .cons (r.mono s) (bos_rps s rs hk.2 fun a ha => hb a ?_)
    cases r <;> simpa [bAddr] using ha
  | _, _, .cons (vs := vs) (ds := ds) (.bo (a := b) (ds := xs) h r) rs, hk, hb => by
    rw [List.all_cons, Bool.and_eq_true] at hk
    have h3 := hk.1
    simp only [shd1_bo, Bool.false_or, argB] at h3
    obtain ⟨ms, hm⟩ := Option.isSome_iff_exists.mp h3
    have e := intsOf_eq hm
    have this : ∀ {us : List V} {ms : List Int}, Bos K cls F H us (ms.map D.int) → us = ms.map V.int := fun {us ms} => by
      induction ms generalizing us with
      | nil => intro h; cases h; rfl
      | cons n ns ih =>
        intro h
        cases h with
        | cons a b =>
          obtain rfl := a.int
          rw [ih b]; rfl
    subst e
    rw [this r] at h
    simp only [plns, pln, plns_ints]
    refine .cons (.ls ((hb b (by simp [bAddr])).trans h) rps_ints) (bos_rps s rs hk.2 fun a ha => hb a ?_)
    simp [bAddr, ha]
  | _, _, .cons (.bd ..) rs, hk, _ => by
    rw [List.all_cons, Bool.and_eq_true] at hk
    have := hk.1
    simp [argB] at this
  | _, _, .cons (.bb ..) rs, hk, _ => by
    rw [List.all_cons, Bool.and_eq_true] at hk
    have := hk.1
    simp [argB] at this
theorem spD_call2 {n : Nat} {g : List D → Res D} {vs : List V} {ds : List D} {E : XK} (s : Same F H) (b : Bos K cls F H vs ds) (hn : ds.length = n)
    (p : match calD2 g ds with
      | .ok d => ∀ v F' H' O', Ext F H F' H' → Fresh H O' → Ow K cls F' H' v d O' → Q v H'
      | .xc c => ∀ F' H', Ext F H F' H' → E (excV cls c) none H'
      | .bad => False) : spD K cls n g vs H Q E := by
  classical
  unfold calD2 at p
  by_cases hk : (ds.all fun d => shd1 d || (argB d).isSome) = true
  · rw [if_pos hk] at p
    let F2 : Hp := fun a => if a ∈ bAddr vs ds then H a else F a
    have s2 : Same F F2 := fun a o h => by
      show (if a ∈ bAddr vs ds then H a else F a) = some o
      split
      · exact s a o h
      · exact h
    have s3 : Same F2 H := fun a o h => by
      have h' : (if a ∈ bAddr vs ds then H a else F a) = some o := h
      split at h'
      · exact h'
      · exact s a o h'
    have sp := bAddr_spec b hk
    refine ⟨F2, plns ds, s3, bos_rps s2 b hk fun a ha => if_pos ha, by rw [plns_len]; exact hn, ?_⟩
    -- back again
    have back : ∀ {F' H' : Hp}, Ext F2 H F' H' → Ext F H (fun a => if a ∈ bAddr vs ds ∧ F a = none then none else F' a) H' := fun {F' H'} x => by
      refine ⟨fun a o h => ?_, x.hh, fun a o h => ?_, fun a h1 h2 => ?_⟩
      · show (if a ∈ bAddr vs ds ∧ F a = none then none else F' a) = some o
        rw [if_neg (fun z => by rw [h] at z; cases z.2)]
        exact x.ff a o (s2 a o h)
      · have h' : (if a ∈ bAddr vs ds ∧ F a = none then none else F' a) = some o := h
        split at h'
        · cases h'
        · exact x.fh a o h'
      · show (if a ∈ bAddr vs ds ∧ F a = none then none else F' a) = none
        split
        · rfl
        · rename_i hz
          refine x.ow a ?_ h2
          show (if a ∈ bAddr vs ds then H a else F a) = none
          rw [if_neg (fun z => hz ⟨z, h1⟩)]
          exact h1
    cases e : g (plns ds) with
    | xc c => rw [e] at p; exact fun F' H' x => p _ H' (back x)
    | bad => rw [e] at p; exact p.elim
    | ok d =>
      rw [e] at p
      cases d with
      | ls xs =>
        simp only at p
        cases e2 : intsOf xs with
        | none => rw [e2] at p; exact p.elim
        | some ns =>
          rw [e2] at p
          dsimp only at p
          by_cases hz : (ds.all fun d => !decide (argB d = some ns)) = true
          · rw [if_pos hz] at p
            intro v F' H' O' x fr ow
            obtain rfl := intsOf_eq e2
            cases ow with
            | sh r =>
              cases r with
              | ls h r =>
                rename_i a ws
                have ew := r.ints
                refine p (.ref a) _ H' [] (back x) Fresh.nil (.sh (.ls (vs := ws) ?_ (by rw [ew]; exact rps_ints)))
                show (if a ∈ bAddr vs ds ∧ F a = none then none else F' a) = _
                rw [if_neg, h]
                rintro ⟨z1, z2⟩
                obtain ⟨d, d1, ms, d2, d3⟩ := sp a z1
                have h2 : F2 a = some (.lst (ms.map V.int)) := (if_pos z1).trans d3
                have h3 := x.ff a _ h2
                rw [h] at h3
                have h4 : ws = ms.map V.int := by injection h3 with h3; injection h3
                have h5 : ns = ms := by
                  have : ns.map V.int = ms.map V.int := by rw [← ew, h4]
                  exact List.map_inj_right (fun x y h => by injection h) |>.mp this
                have := List.all_eq_true.mp hz d d1
                rw [d2, h5] at this
                simp at this
          · rw [if_neg hz] at p; exact p.elim
      | _ => exact p.elim
  · rw [if_neg hk] at p; exact p.elim
def eOwn2 (g : List D → Res D) (fs : Env → Res (List D)) : Env → Res D := fun e => (fs e).bind fun ds => calD2 g ds
@[simp] theorem eOwn2_ (g : List D → Res D) (fs : Env → Res (List D)) (e : Env) : eOwn2 g fs e = (fs e).bind fun ds => calD2 g ds := rfl
theorem je_own2 {x : Str} {f : Addr} {fd : FuncData} {ps : List Str} {k n : Nat} {g : List D → Res D} {p : Pos} (c : Cn X W k) (G : FnOk X.prog X.w X.K X.mg X.base (L2.CX X.prog X.w) k f fd ps (spD X.K cls n g))
    (hm : X.mg x = some (.ref f)) (hk : PySem.W.keepIn X.K (.ref f) = true) (hb : Binds X.K fd ps []) (ha : JA X cls W (e :: es) fs) (hn : ∀ g ds, fs g = .ok ds → ds.length = n) (hg : Gl X x := by rfl)
    (hdb : (x == ("__debug__" : Str)) = false := by decide) (he : starEach (e :: es) X.env = (false, eval e X.env) :: starEach es X.env := by rfl) (hpl : (backTo pos (starEach es X.env)).any (·.1) = false := by rfl) :
    JE X cls W (.Call (.Name x p) (e :: es) [] pos) (eOwn2 g fs) := by
  obtain ⟨ta, pa, da⟩ := ha.ex
  refine ⟨_, pe_callS G c.hr hg hm hk hb (fun σ => passAt c.tk σ) pa hdb he hpl, ?_⟩
  intro σ F H env O Q s st p
  rw [eOwn2_] at p
  refine da.go s st (fun c e => by rw [e] at p; exact p) (fun e => by rw [e] at p; exact p) fun ds e vs F1 H1 x1 b1 => ?_
  rw [e] at p
  simp only [Res.bind] at p
  refine spD_call2 x1.fh b1 (hn env ds e) ?_
  cases eo : calD2 g ds with
  | ok d => rw [eo] at p; exact fun v F' H' O' y fr ow => p v F' H' O' (x1.trans y) (fr.mono x1.hh) (.inl ow)
  | xc c => rw [eo] at p; exact fun F' H' y => p F' H' (x1.trans y)
  | bad => rw [eo] at p; exact p
end
end DL

namespace DL
open PySem PySem.Spec PyProof.Rows L2 TL PySem.W
section
variable {K : PySem.W.Frag} {cls : Cls} {X : Cx} {F H F' H' F1 H1 : Hp} {O O1 : List Addr} {Q : VK}
theorem dpAll_ints {K : PySem.W.Frag} {H : Hp} : ∀ ns : List Int, DpAll K H (ns.map V.int) (ns.map PyData.int)
  | [] => .nil
  | n :: ns => .cons (.int n) (dpAll_ints ns)
def caMax3 (ds : List D) : Option D := match ds with
  | [.tp xs] => match intsOf xs with
    | some (n :: ns) => some (.int (ns.foldl max n))
    | _ => none
  | ds => caMax ds
@[simp] theorem caMax3_tp (n : Int) (ns : List Int) : caMax3 [.tp (.int n :: ns.map D.int)] = some (.int (ns.foldl max n)) := by
  have : intsOf (D.int n :: ns.map D.int) = some (n :: ns) := intsOf_map (n :: ns)
  simp [caMax3, this]
end
end DL

namespace PySem
open Sem (wp)
open AutoSeq1 (wpAny_loadPart')
theorem own_enumT (l : Addr) (items : Array Value) (n : Nat) (dct : Option Addr) (sl : Array (Option Value)) :
    Meets (Builtin.«enumerate.__new__» ⟨[.type "enumerate", .ref l], []⟩) (fun _ R s => s.heap.get? l = some { cls := .type "tuple", dict := dct, data := .seq items n, slots := sl } ∧
      R (.ok (.ret (.ref (s.heap.push { cls := .type "tuple_iterator", data := .fields #[.ref l, .int 0 0] }).objs.size)))
        { s with heap := (s.heap.push { cls := .type "tuple_iterator", data := .fields #[.ref l, .int 0 0] }).push { cls := .type "enumerate", data := .fields #[.none, .bool false, .ref s.heap.objs.size, rawInt 0, .none, .none] } }) :=
  .of_wp fun prog w A R s h => by
    obtain ⟨hp, g, d, tk, os⟩ := s; obtain ⟨hl, h⟩ := h
    have hsub := sub_enumerate
    have hL : Heap.IsTuple (Shared.heap ⟨hp, g, d, tk, os⟩) l items := ⟨_, hl, rfl, n, rfl⟩
    wp_walk using wpAny_loadPart' hl
    refine wpAny_stack_any fun st => wpAny_pure ?_
    split
    · rename_i c _ _ _ _ _
      cases (c == Value.type "enumerate")
      · wp_walk using wpAny_loadPart' hl, wpAny_pyIter_tuple hL
        exact ⟨_, rfl, h⟩
      · wp_walk using wpAny_loadPart' hl, wpAny_pyIter_tuple hL
        exact ⟨_, rfl, h⟩
    · wp_walk using wpAny_loadPart' hl, wpAny_pyIter_tuple hL
      exact ⟨_, rfl, h⟩
section
variable {prog : Program} {w : World} {A : Around} {E : Value → Shared → Prop} {s : Shared}
theorem own_call_enumT {l : Addr} {items : Array Value} {Q : Value → Shared → Prop} (hL : s.heap.IsTuple l items)
    (h : ∀ h', IsEnum h' (s.heap.objs.size + 1) s.heap.objs.size 0 .none → h'.IsTupleIter s.heap.objs.size l 0 → h'.objs.size = s.heap.objs.size + 2 →
      (∀ b o, s.heap.get? b = some o → h'.get? b = some o) → Q (.ref (s.heap.objs.size + 1)) { s with heap := h' }) :
    wpAny (model prog w) A (call (.type "enumerate") [.ref l]) Q E s := by
  obtain ⟨⟨c, dct, dt, sl⟩, hl, hc, n, hd⟩ := hL
  replace hc : c = .type "tuple" := hc
  replace hd : dt = .seq items n := hd
  subst hc hd
  refine callType_new F.called_enumerate (by decide) (F.typeCall_enumerate_1 _) (F.newCall_enumerate_1 _) (fun obj => F.args_object_init_2 obj _) F.entry_enumerate_new
    (own_enumT l items n dct sl) ⟨hl, ?_⟩
  have hz : (s.heap.push { cls := .type "tuple_iterator", data := .fields #[.ref l, .int 0 0] }).objs.size = s.heap.objs.size + 1 := Heap.size_push ..
  show _ ∧ _
  rw [hz]
  have he : IsEnum ((s.heap.push { cls := .type "tuple_iterator", data := .fields #[.ref l, .int 0 0] }).push
      { cls := .type "enumerate", data := .fields #[.none, .bool false, .ref s.heap.objs.size, rawInt 0, .none, .none] }) (s.heap.objs.size + 1) s.heap.objs.size 0 .none := by
    have := Heap.get?_push_size (s.heap.push { cls := .type "tuple_iterator", data := .fields #[.ref l, .int 0 0] })
      (o := { cls := .type "enumerate", data := .fields #[.none, .bool false, .ref s.heap.objs.size, rawInt 0, .none, .none] }) rfl
    rw [hz] at this; exact this
  refine ⟨⟨_, he, rfl⟩, h _ he ⟨_, Heap.get?_push_of_some _ (Heap.get?_push_size _ rfl), rfl, rfl⟩ (by rw [Heap.size_push, hz]) fun b o x => Heap.get?_push_of_some _ (Heap.get?_push_of_some _ x)⟩
theorem own_enum_endT {e it l : Addr} {i : Nat} {items : Array Value} {old : Value} {Q : Option Value → Shared → Prop} (hh : A.handled = none)
    (he : IsEnum s.heap e it i old) (hit : s.heap.IsTupleIter it l i) (hl : s.heap.IsTuple l items) (hx : items[i]? = none)
    (hQ : ∀ h', Heap.ExtBut it s.heap h' → Q none { s with heap := h' }) : wpAny (model prog w) A (pyNext (.ref e)) Q E s := by
  have hT : s.TypeIs (.ref e) "enumerate" := ⟨_, he, rfl⟩
  unfold pyNext
  refine wpAny_bind (wpAny_attempt (wpAny_callSpecial?_slot (name := Str.ofString "__next__") hT F.slot_enumerate_next
    (wpAny_call_entry F.slot_enumerate_next hT F.entry_enumerate_next ?_ (F.args_enumerate_next_1 _))))
  show wpAny _ _ (field (.ref e) 2 >>= _) _ _ _
  refine wpAny_bind (wpAny_field he rfl (x := .ref it) rfl ?_)
  refine wpAny_bind (wpAny_nextOf_tuple_end hh hit hl hx fun h' x he' hx' => ?_)
  obtain ⟨o, ho, hc⟩ := hx'
  refine wpAny_bind (wpAny_isInstance (T := "StopIteration") (b := true) ⟨o, ho, hc⟩ isSubtype_stop ?_)
  exact wpAny_pure (hQ _ he')
end
end PySem
namespace DL
open PySem PySem.Spec PyProof.Rows L2 TL PySem.W
def ItU (K : PySem.W.Frag) (a : Addr) : It :=
  ⟨fun i H => ∃ (xs : List V) (x : V), SqT K H a xs ∧ xs[i]? = some x, fun i H v H' => ∃ T x, v = .ref T ∧ H T = none ∧ H' = upd H T (.tup [.int (i : Nat), x]) ∧ ∀ xs, SqT K H a xs → xs[i]? = some x, fun i H => ∃ xs : List V, SqT K H a xs ∧ xs.length ≤ i⟩
theorem turn_enumU {P : Program} {w : World} {K : PySem.W.Frag} {elts : List Expr} {kk : Nat} {tpos : Pos} (a e it : Addr) :
    Turn P w K (.Tuple elts kk tpos) (ItU K a) [e, it] e (fun i h => (∃ old, IsEnum h e it ((i : Nat) : Int) old) ∧ h.IsTupleIter it a i ∧ e ≠ it) where
  mem := by simp
  obj := fun i h st b hb => by
    obtain ⟨⟨old, he⟩, ⟨o, ho, hc, hd⟩, _⟩ := st
    have e' : b = e ∨ b = it := by simpa using hb
    rcases e' with z | z
    · rw [z]; exact ⟨_, he, fun v q => nomatch q⟩
    · rw [z]; exact ⟨o, ho, fun v q => by rw [hd] at q; cases q⟩
  keep := fun i h h' st k => let ⟨⟨old, he⟩, hi, hne⟩ := st; ⟨⟨old, k e (by simp) _ he⟩, hi.at fun o q => k it (by simp) o q, hne⟩
  item := by
    intro X hP hw hK hc i pins s σ H E I hf st hg
    subst hP hw hK
    obtain ⟨⟨old, he⟩, hit, hne⟩ := st
    obtain ⟨xs, x, hq, hx⟩ := hg
    obtain ⟨its, rv, p, hz⟩ := I.tuple hq
    have p' : s.heap.IsTuple a its.toArray := p
    obtain ⟨u, hu, ru⟩ := rv.get hx
    have hel : e < s.heap.objs.size := Heap.lt_size he
    have hil : it < s.heap.objs.size := by obtain ⟨_, q, _⟩ := hit; exact Heap.lt_size q
    have hai : a ≠ it := fun z => by
      subst z
      obtain ⟨o1, q1, c1, _⟩ := hit
      obtain ⟨o2, q2, c2, _⟩ := p'
      rw [q1] at q2; cases q2
      rw [c1] at c2
      exact absurd (Value.type.inj c2) (by decide)
    have hea : e ≠ a := fun z => by
      subst z
      obtain ⟨o2, q2, c2, _⟩ := p'
      have q1 := he
      unfold IsEnum at q1
      rw [q1] at q2; cases q2
      exact absurd (Value.type.inj c2) (by decide)
    have hlen := rv.length
    have hil2 : i < its.toArray.size := by
      have := (List.getElem?_eq_some_iff.mp hu).1
      simpa using this
    refine wpAny_pyNext_enum_itemD (Draws.tuple (A := X.A.in1) (I.ok.hd hc) it a hai its.toArray) he ⟨hit, p'⟩ hil2 hne (by simp [hne, hea]) fun y h' tk hy ho hst' hT hsz hk => ?_
    obtain rfl : y = u := by
      have e1 : its[i]? = some y := by simpa using hy
      rw [hu] at e1; cases e1; rfl
    refine ⟨_, rfl, wpAny_letOwnedTupleGo_enum (s := { s with heap := h', toks := tk + 1 }) ho fun h'' he' sb => ?_⟩
    have hT2 : h''.get? s.heap.objs.size = some { cls := .type "tuple", data := .seq #[.int i tk, y] } := (sb.2 _ (Nat.ne_of_gt hel)).trans hT
    have new : ObjOk X.prog X.w (upd H s.heap.objs.size (.tup [.int (i : Nat), x])) h'' s.heap.objs.size (.tup [.int (i : Nat), x]) :=
      ⟨by show 2 ≤ sizeLine; decide, [.int i tk, y], .cons ⟨_, rfl⟩ (.cons ru .nil), ⟨_, hT2, rfl, _, rfl⟩⟩
    have I1 : Inv X pins σ (upd H s.heap.objs.size (.tup [.int (i : Nat), x])) { s with heap := h'', toks := tk + 1 } :=
      I.turnedNew (ch := [e, it]) (fun b ob hb q => (sb.2 b (fun z => hb (by simp [z]))).trans (hk b ob (fun z => hb (by simp [z])) (fun z => hb (by simp [z])) q)) hf (Nat.le_refl _) new
    refine ⟨.ref s.heap.objs.size, _, I1, rfl, ⟨_, x, rfl, I.hok.fresh (Nat.le_refl _), rfl, fun ys hy => by rw [I.tuple_inj hy hq]; exact hx⟩, ⟨⟨y, ?_⟩, hst'.1.at fun o q => (sb.2 it (Ne.symm hne)).trans q, hne⟩, fun b hb => ?_⟩
    · have e1 : ((i + 1 : Nat) : Int) = (i : Int) + 1 := by omega
      rw [e1]; exact he'
    · have hb' : b < s.heap.objs.size := by
        have e' : b = e ∨ b = it := by simpa using hb
        rcases e' with z | z
        · rw [z]; exact hel
        · rw [z]; exact hil
      rw [upd_ne (Nat.ne_of_lt hb')]
      exact (hf b hb).1
  done := by
    intro X hP hw hK hc i pins s σ H E I hf st hg
    subst hP hw hK
    obtain ⟨⟨old, he⟩, hit, hne⟩ := st
    obtain ⟨xs, hq, hx⟩ := hg
    obtain ⟨its, rv, p, hz⟩ := I.tuple hq
    have p' : s.heap.IsTuple a its.toArray := p
    obtain ⟨f0, f1, f2, f3, f4, f5⟩ := hf it (by simp)
    have hl := rv.length
    exact own_enum_endT (I.ok.hd hc) he hit p' (by simp; omega) fun h' eb => ⟨rfl, I.turned (t' := s.toks) (fun b o hb q => eb b o hb q) f0 f1 f3 f4 f5⟩
  self := fun A i s Q E st h => let ⟨⟨_, he⟩, _⟩ := st; wpAny_pyIter_enum he h
def iEnumU (K : PySem.W.Frag) (ta : TA) : TI := fun σ H R => ta σ H fun vs H1 => ∃ a xs, vs = [.ref a] ∧ SqT K H1 a xs ∧ R (ItU K a) H1
theorem pi_enumU {X : Cx} {e : Expr} {ta : TA} {p pos tpos : Pos} {elts : List Expr} {kk : Nat} (hg : Gl X "enumerate") (hm : X.mg "enumerate" = none) (ha : PA X [e] ta) (hs : starEach [e] X.env = [(false, eval e X.env)] := by rfl) :
    PI X (.Tuple elts kk tpos) (.Call (.Name "enumerate" p) [e] [] pos) (iEnumU X.K ta) := by
  refine ⟨fun pins s σ H R I h => ?_⟩
  refine Call_ (ld_blt I hg hm boot_enumerate (PyProof.Rows.callWith_type1 (thn (ha.run pos pins s σ H _ I h) fun us s1 ⟨vs, H1, I1, r1, q1⟩ => ?_) hs rfl))
  obtain ⟨a, xs, ex, hq, q⟩ := q1
  subst ex
  cases r1 with
  | cons r rr =>
    cases rr
    cases r
    obtain ⟨its, rv, p', hz⟩ := I1.tuple hq
    have p2 : s1.heap.IsTuple a its.toArray := p'
    refine own_call_enumT p2 fun h' he hit hsz hk => wpAny_pyIter_enum he ?_
    have I2 : Inv X pins σ H1 { s1 with heap := h' } := I1.kept (t' := s1.toks) hk
    refine ⟨s1.heap.objs.size + 1, [s1.heap.objs.size + 1, s1.heap.objs.size], _, _, H1, rfl, I2, turn_enumU a (s1.heap.objs.size + 1) s1.heap.objs.size, ⟨⟨.none, he⟩, hit, Nat.succ_ne_self _⟩, fun b hb => ?_, q⟩
    have e' : b = s1.heap.objs.size + 1 ∨ b = s1.heap.objs.size := by simpa using hb
    have hle : s1.heap.objs.size ≤ b := by
      rcases e' with z | z
      · rw [z]; exact Nat.le_add_right _ _
      · rw [z]; exact Nat.le_refl _
    exact I1.fpOk hle (I1.hok.fresh hle)
section
variable {K : PySem.W.Frag} {cls : Cls} {W : WX} {X : Cx} {F H F' H' F1 H1 : Hp} {O O1 : List Addr} {a : Expr} {fs : Env → Res (List D)} {pos : Pos}
theorem feeds_enumU {a : Addr} {vs : List V} {ds : List D} (h : SqT K F a vs) (r : Rps K cls F vs ds) : Feeds K cls F (ItU K a) (enm 0 ds) where
  go := fun i d e F' H' s1 s2 => by
    obtain ⟨d', e1, rfl⟩ := enm_get e
    obtain ⟨v, h1, h2⟩ := r.get e1
    have h' : SqT K H' a vs := sameT (s1.trans s2) h
    refine ⟨⟨vs, v, h', h1⟩, fun x H'' y => ?_⟩
    obtain ⟨T, w, e1, e2, e3, y⟩ := y
    subst e1 e3
    have := y vs h'
    rw [h1] at this
    cases this
    have px := Ext.put (o := .tup [.int ((0 + i : Nat) : Int), v]) s2 e2
    rw [Nat.zero_add] at px ⊢
    exact ⟨_, px, .tp (SqT.of upd_same) (.cons (.int _) (.cons (h2.mono (s1.trans px.ff)) .nil))⟩
  stop := fun F' H' s1 s2 => ⟨vs, sameT (s1.trans s2) h, by rw [enm_len, r.len]; exact Nat.le_refl _⟩
def iEnm3 (fs : Env → Res (List D)) : Env → Res (List D) := fun g => (fs g).bind fun ds => match ds with
  | [d] => (Res.of (sqS d)).bind fun xs => .ok (enm 0 xs)
  | _ => .bad
@[simp] theorem iEnm3_ (fs : Env → Res (List D)) (g : Env) : iEnm3 fs g = (fs g).bind fun ds => match ds with
  | [d] => (Res.of (sqS d)).bind fun xs => .ok (enm 0 xs)
  | _ => .bad := rfl
theorem ji_enm3 {p tpos : Pos} {elts : List Expr} {kk : Nat} (hm : X.mg "enumerate" = none) (ha : JA X cls W [a] fs) (hg : Gl X "enumerate" := by rfl) (hs : starEach [a] X.env = [(false, eval a X.env)] := by rfl) :
    JI X cls W (.Tuple elts kk tpos) (.Call (.Name "enumerate" p) [a] [] pos) (iEnm3 fs) := by
  obtain ⟨t, p, d⟩ := ha.ex
  refine ⟨_, pi_or (pi_enum hg hm p hs) (pi_enumU hg hm p hs), ?_⟩
  intro σ F H g O R s st p
  rw [iEnm3_] at p
  cases ea : fs g with
  | xc c =>
    rw [ea] at p
    exact .inl (d.go s st (fun c e => by rw [ea] at e; cases e; exact p) (fun e => by rw [ea] at e; cases e) fun d e => by rw [ea] at e; cases e)
  | bad => rw [ea] at p; exact p.elim
  | ok dd =>
    rw [ea] at p
    simp only [Res.bind] at p
    split at p
    · rename_i d1
      have side : (∃ xs, lsS d1 = some xs ∧ sqS d1 = some xs) ∨ (∃ xs, tpv d1 = some xs ∧ sqS d1 = some xs) ∨ sqS d1 = none := by
        cases d1 <;> simp
      rcases side with ⟨xs, e1, e2⟩ | ⟨xs, e1, e2⟩ | e2
      · rw [e2] at p
        refine .inl (d.go s st (fun c e => by rw [ea] at e; cases e) (fun e => by rw [ea] at e; cases e) fun ds e vs F1 H1 x b => ?_)
        rw [ea] at e; cases e
        obtain ⟨v, rfl, b1⟩ := b.one
        obtain ⟨a, vs, rfl, h, r⟩ := b1.lsS e1
        exact ⟨a, vs, rfl, x.fh.seq h, p _ F1 H1 x (feeds_enum h r)⟩
      · rw [e2] at p
        refine .inr (d.go s st (fun c e => by rw [ea] at e; cases e) (fun e => by rw [ea] at e; cases e) fun ds e vs F1 H1 x b => ?_)
        rw [ea] at e; cases e
        obtain ⟨v, rfl, b1⟩ := b.one
        obtain ⟨a, vs, rfl, h, h', r⟩ := b1.tpv x.fh e1
        exact ⟨a, vs, rfl, h, p _ F1 H1 x (feeds_enumU h' r)⟩
      · rw [e2] at p; exact p.elim
    · exact p.elim
end
end DL

namespace DL
open PySem PySem.Spec PyProof.Rows L2 TL PySem.W
section
variable {K : PySem.W.Frag} {cls : Cls} {W : WX} {X : Cx} {pos : Pos}
def sClr (i : Nat) : Env → Out := fun g => match g[i]? with
  | some (.ol _) => .nx (g.set i (.ol []))
  | _ => .bad
@[simp] theorem sClr_ (i : Nat) (g : Env) : sClr i g = match g[i]? with
  | some (.ol _) => .nx (g.set i (.ol []))
  | _ => .bad := rfl
end
end DL

namespace DL
open PySem PySem.Spec PyProof.Rows L2 TL PySem.W
section
variable {K : PySem.W.Frag} {cls : Cls} {X : Cx} {F H F' H' F1 H1 : Hp} {O O1 : List Addr} {Q : VK}
def leP {α : Type} (a b : α × PyData) : Bool := !dataLt b.2 a.2
def isT1 : PyData → Bool
  | .tuple (_ :: _) => true
  | _ => false
def isO1 : PyData → Bool
  | .none => false
  | .tuple _ => false
  | _ => true
def sortD (xs : List D) : Option D := match toPys xs with
  | some ps => if (ps.all fun a => ps.all fun b => alike a b) = true ∧ (ps.all isT1 || ps.all isO1) = true ∧ (ps.all fun p => decide (p.depth ≤ 60)) = true then some (.ol (((xs.zip ps).mergeSort leP).map (·.1))) else none
  | none => none
def caSorted4 (ds : List D) : Option D := match ds with
  | [d] => match sqK d with
    | some (.ls y :: xs) => sortD (.ls y :: xs)
    | some (.tp (.int i :: .tp y :: r) :: xs) => sortD (.tp (.int i :: .tp y :: r) :: xs)
    | _ => caSorted3 ds
  | ds => caSorted3 ds
@[simp] theorem caSorted4_tp (ns : List Int) : caSorted4 [.tp (ns.map D.int)] = some (.ol ((srt ns).map D.int)) := by
  simp [caSorted4]
@[simp] theorem caSorted4_ls (ns : List Int) : caSorted4 [.ls (ns.map D.int)] = some (.ol ((srt ns).map D.int)) := by
  cases ns with
  | nil => simp [caSorted4]; rfl
  | cons a l => simp [caSorted4]; exact caSorted3_ls (a :: l)
@[simp] theorem caSorted4_bo (ns : List Int) : caSorted4 [.bo (ns.map D.int)] = some (.ol ((srt ns).map D.int)) := by
  cases ns with
  | nil => simp [caSorted4]; rfl
  | cons a l => simp [caSorted4]; exact caSorted3_bo (a :: l)
end
end DL

namespace DL
open PySem PySem.Spec PyProof.Rows L2 TL PySem.W
section
variable {K : PySem.W.Frag} {cls : Cls} {W : WX} {X : Cx} {F H F' H' F1 H1 : Hp} {O O1 : List Addr} {Q : VK} {a b e : Expr} {es : List Expr} {fa fb fc : Env → Res D} {fs : Env → Res (List D)} {pos : Pos}
def sIns (i : Nat) (fs : Env → Res (List D)) : Env → Out := fun g => match g[i]? with
  | some (.ol xs) => (fs g).st g fun ds => match ds with
    | [.int j, .int n] => match intsOf xs with
      | some ns => if 0 ≤ j ∧ j ≤ 1000000000 ∧ xs.length < lim then .nx (g.set i (.ol ((ns.take j.toNat ++ [n] ++ ns.drop j.toNat).map D.int))) else .bad
      | none => .bad
    | _ => .bad
  | _ => .bad
@[simp] theorem sIns_ (i : Nat) (fs : Env → Res (List D)) (g : Env) : sIns i fs g = match g[i]? with
  | some (.ol xs) => (fs g).st g fun ds => match ds with
    | [.int j, .int n] => match intsOf xs with
      | some ns => if 0 ≤ j ∧ j ≤ 1000000000 ∧ xs.length < lim then .nx (g.set i (.ol ((ns.take j.toNat ++ [n] ++ ns.drop j.toNat).map D.int))) else .bad
      | none => .bad
    | _ => .bad
  | _ => .bad := rfl
def sDel (i : Nat) (fa : Env → Res D) : Env → Out := fun g => match g[i]? with
  | some (.ol xs) => (fa g).st g fun d => match opd d with
    | .int z => match ixN xs.length z with
      | some k => match xs[k]? with
        | some y => if own1 y = false ∧ xs.length ≤ lim then .nx (g.set i (.ol (xs.eraseIdx k))) else .bad
        | none => .bad
      | none => .bad
    | _ => .bad
  | _ => .bad
@[simp] theorem sDel_ (i : Nat) (fa : Env → Res D) (g : Env) : sDel i fa g = match g[i]? with
  | some (.ol xs) => (fa g).st g fun d => match opd d with
    | .int z => match ixN xs.length z with
      | some k => match xs[k]? with
        | some y => if own1 y = false ∧ xs.length ≤ lim then .nx (g.set i (.ol (xs.eraseIdx k))) else .bad
        | none => .bad
      | none => .bad
    | _ => .bad
  | _ => .bad := rfl
end
end DL

set_option maxHeartbeats 1000000
namespace DL
def iotaR (n : Nat) : List Int := (List.range n).map fun i : Nat => (n : Int) - 1 - (i : Int)
end DL
namespace RR
open PySem PySem.Spec PyProof.Rows
section
variable {prog : Program} {w : World} {A : Around} {E : Value → Shared → Prop} {s : Shared}
end
end RR
namespace DL
open PySem PySem.Spec PyProof.Rows L2
section
variable {X : Cx} {cls : Cls} {W : WX} {K : PySem.W.Frag}
variable {e : Expr} {te : L2.St → Hp → (Int → Int → Hp → Prop) → Prop}
def eLRR1 (fa : Env → Res D) : Env → Res D := fun g => (fa g).bind fun d => match opd d with
  | .int n => if rgOk n ∧ n ≤ 1000000 then .ok (.ol ((iotaR n.toNat).map D.int)) else .bad
  | _ => .bad
@[simp] theorem eLRR1_ (fa : Env → Res D) (g : Env) : eLRR1 fa g = (fa g).bind fun d => match opd d with
  | .int n => if rgOk n ∧ n ≤ 1000000 then .ok (.ol ((iotaR n.toNat).map D.int)) else .bad
  | _ => .bad := rfl
end
end DL

namespace DL
open PySem PySem.Spec PyProof.Rows L2
section
variable {P : Program} {w : World} {A : Around} {E : Value → Shared → Prop} {s : Shared}
end
end DL

namespace DL
open PySem PySem.Spec PyProof.Rows L2
section
variable {X : Cx} {cls : Cls} {W : WX} {K : PySem.W.Frag} {F H F' H' : Hp}
def tpI (d : D) : Option (List Int) := match opd d with
  | .tp xs => intsOf xs
  | _ => none
@[simp] theorem tpI_tp (ns : List Int) : tpI (.tp (ns.map D.int)) = some ns := by simp [tpI]
def eLenSetT (fa : Env → Res D) : Env → Res D := fun g => (fa g).bind fun d => match tpI d with
  | some ns => if ns.length ≤ 4000 then .ok (.int (sset ns).length) else .bad
  | none => .bad
@[simp] theorem eLenSetT_ (fa : Env → Res D) (g : Env) : eLenSetT fa g = (fa g).bind fun d => match tpI d with
  | some ns => if ns.length ≤ 4000 then .ok (.int (sset ns).length) else .bad
  | none => .bad := rfl
end
end DL

namespace DL
open PySem PySem.Spec PyProof.Rows L2
section
variable {κ β : Type} [DecidableEq κ]
def valG (kvs : List (κ × β)) (k : κ) : Option β := (kvs.find? fun kv => decide (kv.1 = k)).map (·.2)
def putG (kvs : List (κ × β)) (k : κ) (v : β) : List (κ × β) :=
  if (kvs.any fun kv => decide (kv.1 = k)) = true then kvs.map (fun kv => if kv.1 = k then (kv.1, v) else kv) else kvs ++ [(k, v)]
end
inductive PR (R : V → D → Prop) : List (Key × V) → List (Key × D) → Prop
  | nil : PR R [] []
  | cons {k : Key} {v : V} {d : D} {l : List (Key × V)} {m : List (Key × D)} : R v d → PR R l m → PR R ((k, v) :: l) ((k, d) :: m)
section
variable {R : V → D → Prop}
theorem PR.any {l : List (Key × V)} {m : List (Key × D)} (h : PR R l m) (k : Key) : (l.any fun kv => decide (kv.1 = k)) = m.any fun kv => decide (kv.1 = k) := by
  induction h with
  | nil => rfl
  | cons r _ ih => simp only [List.any_cons, ih]
theorem PR.rep {l : List (Key × V)} {m : List (Key × D)} (h : PR R l m) (k : Key) {v : V} {d : D} (r : R v d) : PR R (l.map fun kv => if kv.1 = k then (kv.1, v) else kv) (m.map fun kv => if kv.1 = k then (kv.1, d) else kv) := by
  induction h with
  | nil => exact .nil
  | @cons j v' d' l m r' t ih =>
    simp only [List.map_cons]
    by_cases q : j = k
    · rw [if_pos q, if_pos q]; exact .cons r ih
    · rw [if_neg q, if_neg q]; exact .cons r' ih
theorem PR.snoc {l : List (Key × V)} {m : List (Key × D)} (h : PR R l m) (k : Key) {v : V} {d : D} (r : R v d) : PR R (l ++ [(k, v)]) (m ++ [(k, d)]) := by
  induction h with
  | nil => exact .cons r .nil
  | cons r' t ih => exact .cons r' ih
theorem PR.put {l : List (Key × V)} {m : List (Key × D)} (h : PR R l m) (k : Key) {v : V} {d : D} (r : R v d) : PR R (putK l k v) (putG m k d) := by
  unfold putK putG
  rw [h.any k]
  split
  · exact h.rep k r
  · exact h.snoc k r
end
section
variable {K : PySem.W.Frag} {cls : Cls} {F H F' H' : Hp} {X : Cx} {W : WX} {O : List Addr}
def eDic : Env → Res D := fun _ => .ok (.od [] [])
@[simp] theorem eDic_ (g : Env) : eDic g = .ok (.od [] []) := rfl
theorem Sts.dct {g : Env} {i : Nat} {ks : List Key} {xs : List D} {σ : L2.St} (st : Sts K cls F H σ g O) (e : g[i]? = some (.od ks xs)) : ∃ p vs O1, σ[i]? = some (some (.ref p)) ∧ H p = some (.dK (ks.zip vs)) ∧ ks.length = vs.length ∧ F p = none ∧ Ows K cls F H vs xs O1 ∧
    ∀ (F' H' : Hp) (ks' : List Key) (ws : List V) (ys : List D), Ext F H F' H' → Rps K cls F' ws ys → ks'.length = ws.length →
      ∃ O'', Sts K cls F' (upd H' p (.dK (ks'.zip ws))) σ (g.set i (.od ks' ys)) O'' ∧ SExt F H O F' (upd H' p (.dK (ks'.zip ws))) O'' := by
  obtain ⟨P, h1, h2, h3, _⟩ := st.at i (List.getElem?_eq_some_iff.mp e).1
  rcases h2 with ⟨h2, _⟩ | ⟨v, d, h2, h2', ow⟩
  · rw [e] at h2; cases h2
  · rw [e] at h2'; cases h2'
    cases ow with
    | sh r => cases r
    | @od p _ vs _ O1 f1 f2 fl f3 f4 =>
      refine ⟨p, vs, O1, h2, f2, fl, f1, f4, fun F' H' ks' ws ys x w hl => ?_⟩
      have hp : F' p = none := x.ow p f1 (by rw [f2]; exact fun e => nomatch e)
      have up : ∀ b, b ≠ p → upd H' p (.dK (ks'.zip ws)) b = H' b := fun b hb => upd_ne hb
      obtain ⟨O'', q1, q2⟩ := h3 F' (upd H' p (.dK (ks'.zip ws))) (.ref p) (.od ks' ys) [p] (fun b hb hn => by
          obtain ⟨e1, e2⟩ := x.get (st.dom b hb).1 (st.dom b hb).2
          exact ⟨(up b fun z => hn (by simp [z])).trans e1, e2⟩) x.ff
        (.od (O := []) hp upd_same hl (fun h => nomatch h) w.toOws) (fun a ha hO => by
          rcases List.mem_cons.mp ha with rfl | ha
          · simp
          · exact nomatch ha)
      rw [set_self h2] at q1
      refine ⟨O'', q1, x.ff, fun b o q => ?_, fun b o q hn => ?_, fun b h1 h2 _ => x.ow b h1 h2, fun b hb => ?_⟩
      · rw [up b fun z => by rw [z, hp] at q; cases q]; exact x.fh b o q
      · rw [up b fun z => hn (z ▸ h1 p (by simp))]; exact x.hh b o q
      · rcases q2 b hb with z | z
        · exact .inl z
        · rcases List.mem_cons.mp z with rfl | z
          · exact .inl (h1 _ (by simp))
          · exact nomatch z
def sDSet (i : Nat) (fk fa : Env → Res D) : Env → Out := fun g => ((fa g).bind kp).st g fun d => match g[i]? with
  | some (.od ks xs) => (fk g).st g fun k => match opd k with
    | .int k => if xs.all (fun d => !own1 d) = true ∧ own1 d = false ∧ ks.length < lim then .nx (g.set i (.od ((putG (ks.zip xs) (.inl k) d).map (·.1)) ((putG (ks.zip xs) (.inl k) d).map (·.2)))) else .bad
    | _ => .bad
  | _ => .bad
@[simp] theorem sDSet_ (i : Nat) (fk fa : Env → Res D) (g : Env) : sDSet i fk fa g = ((fa g).bind kp).st g fun d => match g[i]? with
  | some (.od ks xs) => (fk g).st g fun k => match opd k with
    | .int k => if xs.all (fun d => !own1 d) = true ∧ own1 d = false ∧ ks.length < lim then .nx (g.set i (.od ((putG (ks.zip xs) (.inl k) d).map (·.1)) ((putG (ks.zip xs) (.inl k) d).map (·.2)))) else .bad
    | _ => .bad
  | _ => .bad := rfl
end
def ddV (l : List (Int × D)) : List D := l.map (·.2)
end DL
namespace DL
end DL

namespace DL
open PySem PySem.Spec PyProof.Rows L2
section
variable {K : PySem.W.Frag} {cls : Cls} {W : WX} {X : Cx} {F H F' H' : Hp} {O : List Addr} {a b e tg iter elt : Expr} {fs : Env → Res (List D)} {fa fb : Env → Res D} {pos : Pos}
def sAsgI (i : Nat) (fa : Env → Res D) : Env → Out := fun g => ((fa g).bind kp).st g fun d => match d with
  | .ol xs => if nods xs = true then .nx (g.set i (.ol (frzs xs))) else .bad
  | _ => .bad
@[simp] theorem sAsgI_ (i : Nat) (fa : Env → Res D) (g : Env) : sAsgI i fa g = ((fa g).bind kp).st g fun d => match d with
  | .ol xs => if nods xs = true then .nx (g.set i (.ol (frzs xs))) else .bad
  | _ => .bad := rfl
def sSwp (i : Nat) (fk fl fa : Env → Res D) : Env → Out := fun g => ((fa g).bind kp).st g fun d => if nod d = true then match frz d, g[i]? with
  | .tp [d1, d2], some (.ol xs) => match fk g with
    | .ok k => match opd k with
      | .int k => match ixN xs.length k with
        | some j => match fl (g.set i (.ol (xs.set j d1))) with
          | .ok l => match opd l with
            | .int l => match ixN (xs.set j d1).length l with
              | some m => .nx (g.set i (.ol ((xs.set j d1).set m d2)))
              | none => .bad
            | _ => .bad
          | _ => .bad
        | none => .bad
      | _ => .bad
    | _ => .bad
  | _, _ => .bad else .bad
@[simp] theorem sSwp_ (i : Nat) (fk fl fa : Env → Res D) (g : Env) : sSwp i fk fl fa g = ((fa g).bind kp).st g fun d => if nod d = true then match frz d, g[i]? with
  | .tp [d1, d2], some (.ol xs) => match fk g with
    | .ok k => match opd k with
      | .int k => match ixN xs.length k with
        | some j => match fl (g.set i (.ol (xs.set j d1))) with
          | .ok l => match opd l with
            | .int l => match ixN (xs.set j d1).length l with
              | some m => .nx (g.set i (.ol ((xs.set j d1).set m d2)))
              | none => .bad
            | _ => .bad
          | _ => .bad
        | none => .bad
      | _ => .bad
    | _ => .bad
  | _, _ => .bad else .bad := rfl
def sAug2 (op : Int → Int → Int) (i j1 j2 : Nat) (fa : Env → Res D) : Env → Out := fun g => match g[i]?, g[j1]?, g[j2]? with
  | some (.ol xs), some (.int k1), some (.int k2) => match ixN xs.length k1 with
    | some z => match xs[z]? with
      | some (.ol ys) => if 0 ≤ k2 ∧ k2 < 1000000000 then match ys[k2.toNat]? with
        | some (.int n) => (fa g).st g fun d => match opd d with
          | .int b => .nx (g.set i (.ol (xs.set z (.ol (ys.set k2.toNat (.int (op n b)))))))
          | _ => .bad
        | _ => .bad else .bad
      | _ => .bad
    | none => .bad
  | _, _, _ => .bad
@[simp] theorem sAug2_ (op : Int → Int → Int) (i j1 j2 : Nat) (fa : Env → Res D) (g : Env) : sAug2 op i j1 j2 fa g = match g[i]?, g[j1]?, g[j2]? with
  | some (.ol xs), some (.int k1), some (.int k2) => match ixN xs.length k1 with
    | some z => match xs[z]? with
      | some (.ol ys) => if 0 ≤ k2 ∧ k2 < 1000000000 then match ys[k2.toNat]? with
        | some (.int n) => (fa g).st g fun d => match opd d with
          | .int b => .nx (g.set i (.ol (xs.set z (.ol (ys.set k2.toNat (.int (op n b)))))))
          | _ => .bad
        | _ => .bad else .bad
      | _ => .bad
    | none => .bad
  | _, _, _ => .bad := rfl
end
end DL

namespace DL
open PySem PySem.Spec PyProof.Rows L2
section
variable {K : PySem.W.Frag} {cls : Cls} {W : WX} {X : Cx} {F H F' H' : Hp} {O : List Addr} {a b e tg iter elt : Expr} {fs : Env → Res (List D)} {fa fb : Env → Res D} {pos : Pos}
def opAddS (a b : D) : Option D := match sqK a, sqK b with
    | some xs, some ys => if xs.length + ys.length ≤ lim then some (.ol (xs ++ ys)) else none
    | _, _ => none
@[simp] theorem opAddS_sl {xs ys : List D} (h : xs.length + ys.length ≤ lim) : opAddS (.sc xs) (.ls ys) = some (.ol (xs ++ ys)) := if_pos h
end
end DL

namespace PySem
open Sem (wp)
section
variable {prog : Program} {w : World} {A : Around} {E : Value → Shared → Prop} {s : Shared}
end
end PySem
namespace DL
open PySem PySem.Spec PyProof.Rows L2 TL PySem.W
section
variable {K : PySem.W.Frag} {cls : Cls} {W : WX} {X : Cx} {F H F' H' F1 H1 : Hp} {O O1 : List Addr} {a b : Expr} {fs : Env → Res (List D)} {pos : Pos}
def iZp2 (fs : Env → Res (List D)) : Env → Res (List D) := fun g => (fs g).bind fun ds => match ds with
  | [d, e] => (Res.of (lsS d)).bind fun xs => (Res.of (sqS e)).bind fun ys => .ok (zipD xs ys)
  | _ => .bad
@[simp] theorem iZp2_ (fs : Env → Res (List D)) (g : Env) : iZp2 fs g = (fs g).bind fun ds => match ds with
  | [d, e] => (Res.of (lsS d)).bind fun xs => (Res.of (sqS e)).bind fun ys => .ok (zipD xs ys)
  | _ => .bad := rfl
end
end DL

namespace DL
open PySem PySem.Spec PyProof.Rows L2 TL PySem.W
section
variable {K : PySem.W.Frag} {cls : Cls} {W : WX} {X : Cx} {F H F' H' F1 H1 : Hp} {O O1 : List Addr} {a b : Expr} {fs : Env → Res (List D)} {pos : Pos}
def zpA : D → D → Option (List D)
  | .tp xs, .tp ys => some (zipD xs ys)
  | d, e => match lsS d, sqS e with
    | some xs, some ys => some (zipD xs ys)
    | _, _ => none
@[simp] theorem zpA_tt {xs ys : List D} : zpA (.tp xs) (.tp ys) = some (zipD xs ys) := rfl
@[simp] theorem zpA_lt {xs ys : List D} : zpA (.ls xs) (.tp ys) = some (zipD xs ys) := rfl
@[simp] theorem zpA_ll {xs ys : List D} : zpA (.ls xs) (.ls ys) = some (zipD xs ys) := rfl
def iZp3 (fs : Env → Res (List D)) : Env → Res (List D) := fun g => (fs g).bind fun ds => match ds with
  | [d, e] => Res.of (zpA d e)
  | _ => .bad
@[simp] theorem iZp3_ (fs : Env → Res (List D)) (g : Env) : iZp3 fs g = (fs g).bind fun ds => match ds with
  | [d, e] => Res.of (zpA d e)
  | _ => .bad := rfl
end
end DL

namespace DL
open PySem L2
section
variable {K : PySem.W.Frag} {cls : Cls} {W : WX} {X : Cx} {a : Expr} {fa : Env → Res D}
def eFrz (fa : Env → Res D) : Env → Res D := fun g => ((fa g).bind kp).bind fun d => if nod d = true then .ok (frz d) else .bad
@[simp] theorem eFrz_ (fa : Env → Res D) (g : Env) : eFrz fa g = ((fa g).bind kp).bind fun d => if nod d = true then .ok (frz d) else .bad := rfl
theorem de_frzE {t : TE} (ha : DE K cls W t fa) : DE K cls W t (eFrz fa) := by
  intro σ F H g O Q s st p
  rw [eFrz_] at p
  refine ha.goO s st (fun c e => ?_) (fun e => by rw [e] at p; exact p) fun d e v F1 H1 O1 x fr w => ?_
  · have e' : (fa g).bind kp = .xc c := by rw [e]; rfl
    rw [e'] at p
    exact p
  · rw [e] at p
    simp only [Res.bind] at p
    split at p
    · rename_i n
      have no : ∀ a ∈ O1, F1 a = none := fun a ha => (w.dom a ha).1
      exact p v _ H1 [] (addF_ext x fr no) Fresh.nil (.inl (.sh (w.freeze (addF_same no) addF_at n)))
    · exact p.elim
theorem je_frzE (ha : JE X cls W a fa) : JE X cls W a (eFrz fa) := by
  obtain ⟨t, p, d⟩ := ha.ex
  exact ⟨t, p, de_frzE d⟩
end
end DL

namespace DL
open PySem PySem.Spec PyProof.Rows L2 TL PySem.W
section
variable {K : PySem.W.Frag} {cls : Cls} {W : WX} {X : Cx} {F H F' H' F1 H1 : Hp} {O O1 : List Addr} {Q : VK} {a b e : Expr} {es : List Expr} {fa fb fc : Env → Res D} {fs : Env → Res (List D)} {pos : Pos}
def sIns2 (i : Nat) (fs : Env → Res (List D)) : Env → Out := fun g => match g[i]? with
  | some (.ol xs) => (fs g).st g fun ds => match ds with
    | [.int j, d] => if 0 ≤ j ∧ j ≤ 1000000000 ∧ xs.length < lim ∧ xs.all (fun d => !own1 d) = true ∧ shd1 d = true then .nx (g.set i (.ol (xs.take j.toNat ++ [d] ++ xs.drop j.toNat))) else .bad
    | _ => .bad
  | _ => .bad
@[simp] theorem sIns2_ (i : Nat) (fs : Env → Res (List D)) (g : Env) : sIns2 i fs g = match g[i]? with
  | some (.ol xs) => (fs g).st g fun ds => match ds with
    | [.int j, d] => if 0 ≤ j ∧ j ≤ 1000000000 ∧ xs.length < lim ∧ xs.all (fun d => !own1 d) = true ∧ shd1 d = true then .nx (g.set i (.ol (xs.take j.toNat ++ [d] ++ xs.drop j.toNat))) else .bad
    | _ => .bad
  | _ => .bad := rfl
end
end DL

namespace DL
open PySem PySem.Spec PyProof.Rows L2 TL PySem.W
section
variable {K : PySem.W.Frag} {cls : Cls} {W : WX} {X : Cx} {F H F' H' F1 H1 : Hp} {O O1 : List Addr} {Q : VK} {a b e tg : Expr} {es : List Expr} {fa fb fc : Env → Res D} {fs : Env → Res (List D)} {pos : Pos}
def sRvs (i : Nat) : Env → Out := fun g => match g[i]? with
  | some (.ol xs) => if xs.all (fun d => !own1 d) = true then .nx (g.set i (.ol xs.reverse)) else .bad
  | _ => .bad
@[simp] theorem sRvs_ (i : Nat) (g : Env) : sRvs i g = match g[i]? with
  | some (.ol xs) => if xs.all (fun d => !own1 d) = true then .nx (g.set i (.ol xs.reverse)) else .bad
  | _ => .bad := rfl
def iRvA (fa : Env → Res D) : Env → Res (List D) := fun g => (fa g).bind fun a => (Res.of (sqS (opd a))).bind fun xs => .ok xs.reverse
@[simp] theorem iRvA_ (fa : Env → Res D) (g : Env) : iRvA fa g = (fa g).bind fun a => (Res.of (sqS (opd a))).bind fun xs => .ok xs.reverse := rfl
def opXor : D → D → Option D
  | .int i, .int j => if j = 1 ∧ 0 ≤ i then some (.int (if i % 2 = 0 then i + 1 else i - 1)) else none
  | _, _ => none
@[simp] theorem opXor_int {i : Int} (h : 0 ≤ i) : opXor (.int i) (.int 1) = some (.int (if i % 2 = 0 then i + 1 else i - 1)) := if_pos ⟨rfl, h⟩
end
end DL

namespace DL
open PySem PySem.Spec PyProof.Rows L2 TL PySem.W
section
variable {K : PySem.W.Frag} {cls : Cls} {W : WX} {X : Cx} {F H F' H' F1 H1 : Hp} {O O1 : List Addr} {Q : VK} {a b e tg : Expr} {es : List Expr} {fa fb fc : Env → Res D} {fs : Env → Res (List D)} {pos : Pos}
def sAugE (op : Int → Int → Int) (i : Nat) (fk fa : Env → Res D) : Env → Out := fun g => match g[i]? with
  | some (.ol xs) => (fk g).st g fun k => match opd k with
    | .int k => if 0 ≤ k ∧ k < 1000000000 then match xs[k.toNat]? with
      | some (.int n) => (fa g).st g fun d => match opd d with
        | .int b => .nx (g.set i (.ol (xs.set k.toNat (.int (op n b)))))
        | _ => .bad
      | _ => .bad else .bad
    | _ => .bad
  | _ => .bad
@[simp] theorem sAugE_ (op : Int → Int → Int) (i : Nat) (fk fa : Env → Res D) (g : Env) : sAugE op i fk fa g = match g[i]? with
  | some (.ol xs) => (fk g).st g fun k => match opd k with
    | .int k => if 0 ≤ k ∧ k < 1000000000 then match xs[k.toNat]? with
      | some (.int n) => (fa g).st g fun d => match opd d with
        | .int b => .nx (g.set i (.ol (xs.set k.toNat (.int (op n b)))))
        | _ => .bad
      | _ => .bad else .bad
    | _ => .bad
  | _ => .bad := rfl
end
end DL

namespace DL
open PySem PySem.Spec PyProof.Rows L2 TL PySem.W
section
variable {K : PySem.W.Frag} {cls : Cls} {X : Cx} {F H F' H' F1 H1 : Hp} {O O1 : List Addr} {Q : VK}
def rMinT (K : PySem.W.Frag) : List V → Hp → VK → Prop := fun vs H Q => ∃ (a : Addr) (n : Int) (ns : List Int), vs = [V.ref a] ∧ SqT K H a ((n :: ns).map V.int) ∧ Q (.int (ns.foldl min n)) H
theorem cr_minT (hc : X.calm = true) (hu : X.A.units + 65 < cLine) : CallR X (.builtin "min") (rMinT X.K) := by
  intro pins s σ H vs us Q I r h
  obtain ⟨a, n, ns, rfl, hs, q⟩ := h
  obtain ⟨its, rv, hl, hz⟩ := I.tuple hs
  obtain ⟨u, rfl, ru⟩ := vals1 r
  obtain rfl : u = Value.ref a := ru
  have hl' : s.heap.IsTuple a its.toArray := hl
  obtain ⟨as, hr⟩ := Dp.readsAll I ((n :: ns).map .int) _ its (dpAll_ints (n :: ns)) rv
  have ha : AlikeAll ((n :: ns).map PyData.int) := ⟨fun x hx y hy => by
    obtain ⟨i, _, rfl⟩ := List.mem_map.mp hx
    obtain ⟨j, _, rfl⟩ := List.mem_map.mp hy
    simp [alike], fun x hx => by
    obtain ⟨i, _, rfl⟩ := List.mem_map.mp hx
    simp⟩
  have hd : PyData.depthAll ((n :: ns).map PyData.int) ≤ 0 := dep_map (p := PyData.int) (fun a => by simp [PyData.depth]) (n :: ns)
  refine min_tuple_data (vs := its.toArray) (x := .int n) (xs := ns.map .int) (I.ok.hd hc) hl' (by simpa using hr) ha (by simp only [List.map_cons] at hd; omega) fun i v h' tk bs hv hrd hk => ?_
  have hv' : its[i]? = some v := by simpa using hv
  obtain ⟨x, hx, rx⟩ := vals_at rv i v hv'
  obtain ⟨e, bs', he, hre⟩ := readsAll_one hr i v hv'
  have em : e ∈ (n :: ns).map PyData.int := List.mem_of_getElem? he
  have eq : e = minD (.int n) (ns.map .int) := alike_unique _ _ _ _ _ (ha.1 _ em _ (minD_mem _ _)) (Reads.keeps hk hre) hrd
  rw [minD_ints] at eq
  rw [List.getElem?_map] at hx he
  cases hq : (n :: ns)[i]? with
  | none => rw [hq] at hx; cases hx
  | some m =>
    rw [hq] at hx he
    cases hx
    cases he
    have : m = ns.foldl min n := by injection eq
    exact ⟨.int m, H, I.kept hk, rx, by rw [this]; exact q⟩
def rMin4 (K : PySem.W.Frag) : List V → Hp → VK → Prop := fun vs H Q => rMin3 K vs H Q ∨ rMinT K vs H Q
theorem cr_min4 (hc : X.calm = true) (hu : X.A.units + 65 < cLine) : CallR X (.builtin "min") (rMin4 X.K) := by
  intro pins s σ H vs us Q I r h
  rcases h with h | h
  · exact cr_min3 hc hu pins s σ H vs us Q I r h
  · exact cr_minT hc hu pins s σ H vs us Q I r h
def caMin4 (ds : List D) : Option D := match ds with
  | [.tp xs] => match intsOf xs with
    | some (n :: ns) => some (.int (ns.foldl min n))
    | _ => none
  | ds => caMin3 ds
theorem ok_min4 : CaOk K cls (rMin4 K) caMin4 := by
  intro F H vs ds d Q s b e q
  unfold caMin4 at e
  split at e
  · rename_i xs
    split at e
    · rename_i n ns h
      cases e
      obtain ⟨v, rfl, b1⟩ := b.one
      obtain rfl := intsOf_eq h
      obtain ⟨a, vs, rfl, h3, _, r⟩ := b1.tpv s (xs := (n :: ns).map D.int) rfl
      obtain rfl := r.ints
      exact .inr ⟨a, n, ns, rfl, h3, pi1 s (.int _) q⟩
    · cases e
  · exact .inl (ok_min3 F H vs _ d Q s b e q)
@[simp] theorem caMin4_tp (n : Int) (ns : List Int) : caMin4 [.tp (.int n :: ns.map D.int)] = some (.int (ns.foldl min n)) := by
  have : intsOf (D.int n :: ns.map D.int) = some (n :: ns) := intsOf_map (n :: ns)
  simp [caMin4, this]
end
end DL

namespace DL
open PySem PySem.Spec PyProof.Rows L2 TL PySem.W
section
variable {K : PySem.W.Frag} {cls : Cls} {X : Cx} {F H F' H' F1 H1 : Hp} {O O1 : List Addr} {Q : VK}
def caSum4 (ds : List D) : Option D := match ds with
  | [.tp xs] => match intsOf xs with
    | some ns => some (.int ns.sum)
    | _ => none
  | ds => caSum ds
@[simp] theorem caSum4_tp (ns : List Int) : caSum4 [.tp (ns.map D.int)] = some (.int ns.sum) := by
  have : intsOf (ns.map D.int) = some ns := intsOf_map ns
  simp [caSum4, this]
end
end DL

namespace DL
open PySem PySem.Spec PyProof.Rows L2 TL PySem.W
section
variable {K : PySem.W.Frag} {cls : Cls} {W : WX} {X : Cx} {F H F' H' F1 H1 : Hp} {O O1 : List Addr} {Q : VK} {pos : Pos}
def unX : Out → Out
  | .xc _ _ => .bad
  | o => o
def sTryN (fb : Env → Out) (fh : Nat → Env → Out) : Env → Out := fun g => match fb g with
  | .xc c g' => unX (fh c g')
  | o => o
@[simp] theorem sTryN_ (fb : Env → Out) (fh : Nat → Env → Out) (g : Env) : sTryN fb fh g = match fb g with
  | .xc c g' => unX (fh c g')
  | o => o := rfl
end
end DL

namespace DL
open PySem PySem.Spec PyProof.Rows L2 TL PySem.W
section
variable {K : PySem.W.Frag} {cls : Cls} {X : Cx} {F H F' H' F1 H1 : Hp} {O O1 : List Addr} {Q : VK}
def cLt2 : D → D → Option Bool
  | .tp xs, .tp ys => match intsOf xs, intsOf ys with
    | some ns, some ms => some (HT.lexLt ns ms)
    | _, _ => none
  | a, b => cLt a b
@[simp] theorem cLt2_tp (ns ms : List Int) : cLt2 (.tp (ns.map D.int)) (.tp (ms.map D.int)) = some (HT.lexLt ns ms) := by
  have h1 : intsOf (ns.map D.int) = some ns := intsOf_map ns
  have h2 : intsOf (ms.map D.int) = some ms := intsOf_map ms
  simp [cLt2, h1, h2]
end
end DL

namespace DL
open PySem PySem.Spec PyProof.Rows L2 TL PySem.W
section
variable {K : PySem.W.Frag} {cls : Cls} {W : WX} {X : Cx} {F H F' H' F1 H1 : Hp} {O O1 : List Addr} {Q : VK} {e : Expr} {es : List Expr} {fs : Env → Res (List D)} {pos : Pos} {i j : Nat}
def PostRP (K : PySem.W.Frag) (cls : Cls) (W : WX) (i j : Nat) (D : Ends) (F H : Hp) (O : List Addr) : Out → Prop
  | .nx g => ∃ p xs, g[i]? = some (.int p) ∧ g[j]? = some (.ol xs) ∧ ∀ v a F' H' O', SExt F H O F' H' O' → Ow K cls F' H' v (.ol xs) O' → H' a = none → D.rt (.ref a) (upd H' a (.tup [.int p, v]))
  | .xc c g => ∀ σ' F' H' O', SExt F H O F' H' O' → Sts K cls F' H' σ' g O' → W (excV cls c) none σ' H'
  | _ => False
theorem PostRP.mono {D : Ends} {r : Out} (x : SExt F H O F1 H1 O1) (p : PostRP K cls W i j D F H O r) : PostRP K cls W i j D F1 H1 O1 r := by
  cases r with
  | nx g =>
    obtain ⟨a, xs, h1, h2, h3⟩ := p
    exact ⟨a, xs, h1, h2, fun v b F' H' O' y => h3 v b F' H' O' (x.trans y)⟩
  | xc c g => exact fun σ' F' H' O' y => p σ' F' H' O' (x.trans y)
  | rt d => exact p
  | bk g => exact p
  | ct g => exact p
  | bad => exact p
def DSRP (K : PySem.W.Frag) (cls : Cls) (W : WX) (i j : Nat) (t : TS) (f : Env → Out) : Prop :=
  ∀ D σ F H g O, Same F H → Sts K cls F H σ g O → PostRP K cls W i j D F H O (f g) → t D σ H
structure JSE (X : Cx) (cls : Cls) (W : WX) (i j : Nat) (st : List Stmt) (f : Env → Out) : Prop where
  ex : ∃ t, PSs X st t ∧ DSRP X.K cls W i j t f
def sEnd : Env → Out := fun g => .nx g
@[simp] theorem sEnd_ (g : Env) : sEnd g = .nx g := rfl
def sUnp (i j : Nat) (g : List D → Res (Int × List D)) (fs : Env → Res (List D)) : Env → Out := fun env => (fs env).st env fun ds => if shd ds = true then match g ds with
  | .ok (p, xs) => .nx ((env.set i (.int p)).set j (.ol xs))
  | .xc c => .xc c env
  | .bad => .bad else .bad
@[simp] theorem sUnp_ (i j : Nat) (g : List D → Res (Int × List D)) (fs : Env → Res (List D)) (env : Env) : sUnp i j g fs env = (fs env).st env fun ds => if shd ds = true then match g ds with
  | .ok (p, xs) => .nx ((env.set i (.int p)).set j (.ol xs))
  | .xc c => .xc c env
  | .bad => .bad else .bad := rfl
end
end DL

namespace DL
open PySem PySem.Spec PyProof.Rows L2 TL PySem.W
end DL

namespace DL
open PySem PySem.Spec PyProof.Rows L2 TL PySem.W
def leT (ns ms : List Int) : Bool := Ob.lexAt (fun j => decide (ns.getD j 0 = ms.getD j 0)) (fun j => decide (ns.getD j 0 ≤ ms.getD j 0)) (decide (ns.length ≤ ms.length)) 0 (min ns.length ms.length)
section
variable {K : PySem.W.Frag} {cls : Cls} {W : WX} {X : Cx} {F H F' H' F1 H1 : Hp} {O O1 : List Addr} {Q : VK} {a b c d e : Expr} {fa fb fc fd fe : Env → Res D} {pos : Pos}
def cLe2 : D → D → Option Bool
  | .tp xs, .tp ys => match intsOf xs, intsOf ys with
    | some ns, some ms => some (leT ns ms)
    | _, _ => none
  | a, b => cLe a b
@[simp] theorem cLe2_tp (ns ms : List Int) : cLe2 (.tp (ns.map D.int)) (.tp (ms.map D.int)) = some (leT ns ms) := by
  have h1 : intsOf (ns.map D.int) = some ns := intsOf_map ns
  have h2 : intsOf (ms.map D.int) = some ms := intsOf_map ms
  simp [cLe2, h1, h2]
def lLast (op : D → D → Option Bool) (f : Env → Res D) (b : D) (g : Env) : Res Bool := (f g).bind fun c => .of (op (opd b) (opd c))
def lNext (op : D → D → Option Bool) (f : Env → Res D) (k : D → Env → Res Bool) (b : D) (g : Env) : Res Bool := (f g).bind fun c => (Res.of (op (opd b) (opd c))).bind fun kk => if kk = true then k c g else .ok false
def lHead (f : Env → Res D) (k : D → Env → Res Bool) (g : Env) : Res Bool := (f g).bind fun b => k b g
@[simp] theorem lLast_ (op : D → D → Option Bool) (f : Env → Res D) (b : D) (g : Env) : lLast op f b g = (f g).bind fun c => .of (op (opd b) (opd c)) := rfl
@[simp] theorem lNext_ (op : D → D → Option Bool) (f : Env → Res D) (k : D → Env → Res Bool) (b : D) (g : Env) : lNext op f k b g = (f g).bind fun c => (Res.of (op (opd b) (opd c))).bind fun kk => if kk = true then k c g else .ok false := rfl
@[simp] theorem lHead_ (f : Env → Res D) (k : D → Env → Res Bool) (g : Env) : lHead f k g = (f g).bind fun b => k b g := rfl
end
end DL

namespace DL
open PySem PySem.Spec PyProof.Rows L2 TL PySem.W
section
variable {K : PySem.W.Frag} {cls : Cls} {W : WX} {X : Cx} {F H F' H' F1 H1 : Hp} {O O1 : List Addr} {Q : VK} {a b : Expr} {fa fb : Env → Res D} {pos : Pos}
def caStr : List D → Option D
  | [.int i] => if i.natAbs.log2 < 1920 then some (.str (toString i)) else none
  | _ => none
theorem ok_str : CaOk K cls (fun xs H Q => ∃ i : Int, xs = [.int i] ∧ i.natAbs.log2 < 1920 ∧ Q (.str (toString i)) H) caStr := by
  intro F H vs ds d Q s b e q
  unfold caStr at e
  split at e
  · split at e
    · rename_i i h
      cases e
      obtain ⟨v, rfl, b1⟩ := b.one
      obtain rfl := b1.int
      exact ⟨_, rfl, h, pi1 s (.str _) q⟩
    · cases e
  · cases e
theorem caStr_i {i : Int} (h : i.natAbs.log2 < 1920) : caStr [.int i] = some (.str (toString i)) := if_pos h
def eJoin (fa fb : Env → Res D) : Env → Res D := fun g => (fa g).bind fun d => match opd d with
  | .str x => (fb g).bind fun e => match sqL (opd e) with
    | some xs => match strsOf xs with
      | some ys => if (ys.map (·.length)).sum + ys.length * x.length ≤ 16777216 then .ok (.str (Txt.join x ys)) else .bad
      | none => .bad
    | none => .bad
  | _ => .bad
@[simp] theorem eJoin_ (fa fb : Env → Res D) (g : Env) : eJoin fa fb g = (fa g).bind fun d => match opd d with
  | .str x => (fb g).bind fun e => match sqL (opd e) with
    | some xs => match strsOf xs with
      | some ys => if (ys.map (·.length)).sum + ys.length * x.length ≤ 16777216 then .ok (.str (Txt.join x ys)) else .bad
      | none => .bad
    | none => .bad
  | _ => .bad := rfl
theorem je_join {o : Expr} {apos : Pos} (ho : JE X cls W o fa) (ha : JE X cls W a fb) (hs : starEach [a] X.env = [(false, eval a X.env)] := by rfl) (hbase : attributeBase o "join" X.env (eval o X.env) = eval o X.env := by rfl) (hline : (apos.endLine == pos.line) = true := by rfl) :
    JE X cls W (.Call (.Attribute o "join" apos) [a] [] pos) (eJoin fa fb) := by
  obtain ⟨to, po, eo⟩ := ho.ex
  obtain ⟨ta, pa, ea⟩ := ha.ex
  refine ⟨_, pe_join po pa hs hbase hline, ?_⟩
  intro σ F H g O Q s st p
  rw [eJoin_] at p
  refine eo.go s st (fun c e => by rw [e] at p; exact p) (fun e => by rw [e] at p; exact p) fun d e v F1 H1 x1 b1 => ?_
  rw [e] at p
  simp only [Res.bind] at p
  split at p
  · rename_i x ex
    rw [ex] at b1
    obtain rfl := b1.str
    refine ⟨⟨x, rfl⟩, ?_⟩
    refine ea.go x1.fh (st.ext x1) (fun c e => by rw [e] at p; exact fun F' H' y => p F' H' (x1.trans y)) (fun e => by rw [e] at p; exact p) fun d2 e2 v2 F2 H2 x2 b2 => ?_
    rw [e2] at p
    simp only [Res.bind] at p
    split at p
    · rename_i xs exs
      split at p
      · rename_i ys eys
        split at p
        · rename_i hz
          obtain ⟨q, vs, rfl, hq, r⟩ := b2.sqL x2.fh exs
          obtain rfl := strsOf_eq eys
          obtain rfl := r.strs
          exact ⟨x, q, ys, rfl, rfl, .inl hq, hz, p _ F2 H2 [] (x1.trans x2) Fresh.nil (.inl (.sh (.str _)))⟩
        · exact p.elim
      · exact p.elim
    · exact p.elim
  · exact p.elim
end
end DL

namespace DL
open PySem PySem.Spec PyProof.Rows L2 TL PySem.W
section
variable {K : PySem.W.Frag} {cls : Cls} {W : WX} {X : Cx} {F H F' H' F1 H1 : Hp} {O O1 : List Addr} {Q : VK} {a b tg iter : Expr} {fa fb : Env → Res D} {pos : Pos}
def caIntS : List D → Option D
  | [.str x] => match PySem.intText? x with
    | some n => if x.length ≤ 640 then some (.int n) else none
    | none => none
  | _ => none
theorem ok_intS : CaOk K cls (fun xs H Q => ∃ a n, xs = [.str a] ∧ PySem.intText? a = some n ∧ a.length ≤ 640 ∧ Q (.int n) H) caIntS := by
  intro F H vs ds d Q s b e q
  unfold caIntS at e
  split at e
  · split at e
    · rename_i n hn
      split at e
      · rename_i hl
        cases e
        obtain ⟨v, rfl, b1⟩ := b.one
        obtain rfl := b1.str
        exact ⟨_, _, rfl, hn, hl, pi1 s (.int _) q⟩
      · cases e
    · cases e
  · cases e
def cInC : D → D → Option Bool
  | .str x, .str z => match x.cps.toList with
    | [c] => some (decide (c ∈ z.cps.toList))
    | _ => none
  | _, _ => none
theorem ok_inC : C2Ok K cls (fun x y H Q => ∃ (c : Nat) (z : Str), x = .str ⟨#[c]⟩ ∧ y = .str z ∧ Q (.bl (decide (c ∈ z.cps.toList))) H) cInC := by
  intro F H x y a b d Q s b1 b2 e q
  cases a with
  | str u =>
    cases b with
    | str z =>
      obtain rfl := b1.str
      obtain rfl := b2.str
      simp only [cInC] at e
      cases hc : u.cps.toList with
      | nil => rw [hc] at e; cases e
      | cons c l =>
        rw [hc] at e
        cases l with
        | cons c2 l => cases e
        | nil =>
          cases e
          refine ⟨c, z, ?_, rfl, q⟩
          have : u = ⟨#[c]⟩ := by
            cases u with
            | mk arr =>
              simp only at hc
              congr 1
              exact Array.toList_inj.mp (by simpa using hc)
          rw [this]
    | _ => simp [cInC] at e
  | _ => simp [cInC] at e
def eSlS (fa : Env → Res D) (lo hi : Env → Res (Option Int)) : Env → Res D := fun g => (fa g).bind fun a => (lo g).bind fun l => (hi g).bind fun h => match opd a with
  | .str z => if z.length ≤ lim then .ok (.str (cutS z l h)) else .bad
  | _ => .bad
@[simp] theorem eSlS_ (fa : Env → Res D) (lo hi : Env → Res (Option Int)) (g : Env) : eSlS fa lo hi g = (fa g).bind fun a => (lo g).bind fun l => (hi g).bind fun h => match opd a with
  | .str z => if z.length ≤ lim then .ok (.str (cutS z l h)) else .bad
  | _ => .bad := rfl
theorem je_slS {lo hi : Option Expr} {fl fh : Env → Res (Option Int)} {p2 : Pos} (ha : JE X cls W a fa) (hl : JP X cls W lo fl) (hh : JP X cls W hi fh) : JE X cls W (.Subscript a (.Slice lo hi none p2) pos) (eSlS fa fl fh) := by
  obtain ⟨ta, pa, da⟩ := ha.ex
  obtain ⟨tl, pl, dl⟩ := hl.ex
  obtain ⟨th, ph, dh⟩ := hh.ex
  refine ⟨_, pe_slice sl_str pa pl ph, ?_⟩
  intro σ F H g O Q s st p
  rw [eSlS_] at p
  refine da.go s st (fun c e => by rw [e] at p; exact p) (fun e => by rw [e] at p; exact p) fun d e v F1 H1 x1 b1 => ?_
  rw [e] at p
  simp only [Res.bind] at p
  refine dl σ F1 H1 g O _ x1.fh (st.ext x1) ?_
  cases el : fl g with
  | bad => rw [el] at p; exact p.elim
  | xc c => rw [el] at p; exact fun F' H' x => p F' H' (x1.trans x)
  | ok l =>
    rw [el] at p
    simp only [] at p ⊢
    intro F2 H2 x2
    refine dh σ F2 H2 g O _ x2.fh ((st.ext x1).ext x2) ?_
    cases eh : fh g with
    | bad => rw [eh] at p; exact p.elim
    | xc c => rw [eh] at p; exact fun F' H' x => p F' H' ((x1.trans x2).trans x)
    | ok h =>
      rw [eh] at p
      simp only [] at p ⊢
      intro F3 H3 x3
      split at p
      · rename_i z ez
        rw [ez] at b1
        obtain rfl := b1.str
        split at p
        · rename_i hz
          exact ⟨z, rfl, lim_ok hz, p _ F3 H3 [] (x1.trans (x2.trans x3)) Fresh.nil (.inl (.sh (.str _)))⟩
        · exact p.elim
      · exact p.elim
def sgs (x : Str) : List D := x.cps.toList.map fun c => D.str ⟨#[c]⟩
theorem sgs_len (x : Str) : (sgs x).length = x.cps.size := by unfold sgs; simp
theorem feeds_str (x : Str) : Feeds K cls F (Its x) (sgs x) where
  go := fun i d e F' H' s1 s2 => by
    unfold sgs at e
    rw [List.getElem?_map, Array.getElem?_toList] at e
    cases ec : x.cps[i]? with
    | none => rw [ec] at e; cases e
    | some c =>
      rw [ec] at e
      cases e
      have hi : i < x.cps.size := (Array.getElem?_eq_some_iff.mp ec).1
      refine ⟨hi, fun y H'' z => ?_⟩
      obtain ⟨e1, c', e2, e3⟩ := z
      subst e1 e3
      rw [ec] at e2
      cases e2
      exact ⟨F', .refl s2, .str _⟩
  stop := fun F' H' s1 s2 => by rw [sgs_len]; exact Nat.le_refl _
def iStrD (fa : Env → Res D) : Env → Res (List D) := fun g => (fa g).bind fun a => match opd a with
  | .str x => .ok (sgs x)
  | _ => .bad
@[simp] theorem iStrD_ (fa : Env → Res D) (g : Env) : iStrD fa g = (fa g).bind fun a => match opd a with
  | .str x => .ok (sgs x)
  | _ => .bad := rfl
theorem ji_str (ha : JE X cls W iter fa) : JI X cls W tg iter (iStrD fa) := by
  obtain ⟨t, p, d⟩ := ha.ex
  refine ⟨_, pi_str p, ?_⟩
  intro σ F H g O R s st p
  rw [iStrD_] at p
  refine d.go s st (fun c e => by rw [e] at p; exact p) (fun e => by rw [e] at p; exact p) fun dd e v F1 H1 x1 b1 => ?_
  rw [e] at p
  simp only [Res.bind] at p
  split at p
  · rename_i x ex
    rw [ex] at b1
    obtain rfl := b1.str
    exact ⟨x, rfl, p _ F1 H1 x1 (feeds_str x)⟩
  · exact p.elim
def eSplit (fa fb : Env → Res D) : Env → Res D := fun g => (fa g).bind fun d => match opd d with
  | .str x => (fb g).bind fun e => match opd e with
    | .str y => if (y.length == 0) = false ∧ x.length + 2 ≤ lim then .ok (.ol ((Txt.split x y).map D.str)) else .bad
    | _ => .bad
  | _ => .bad
@[simp] theorem eSplit_ (fa fb : Env → Res D) (g : Env) : eSplit fa fb g = (fa g).bind fun d => match opd d with
  | .str x => (fb g).bind fun e => match opd e with
    | .str y => if (y.length == 0) = false ∧ x.length + 2 ≤ lim then .ok (.ol ((Txt.split x y).map D.str)) else .bad
    | _ => .bad
  | _ => .bad := rfl
theorem je_split {o : Expr} {apos : Pos} (ho : JE X cls W o fa) (ha : JE X cls W a fb) (hs : starEach [a] X.env = [(false, eval a X.env)] := by rfl) (hbase : attributeBase o "split" X.env (eval o X.env) = eval o X.env := by rfl) (hline : (apos.endLine == pos.line) = true := by rfl) :
    JE X cls W (.Call (.Attribute o "split" apos) [a] [] pos) (eSplit fa fb) := by
  obtain ⟨to, po, eo⟩ := ho.ex
  obtain ⟨ta, pa, ea⟩ := ha.ex
  refine ⟨_, pe_split po pa hs hbase hline, ?_⟩
  intro σ F H g O Q s st p
  rw [eSplit_] at p
  refine eo.go s st (fun c e => by rw [e] at p; exact p) (fun e => by rw [e] at p; exact p) fun d e v F1 H1 x1 b1 => ?_
  rw [e] at p
  simp only [Res.bind] at p
  split at p
  · rename_i x ex
    rw [ex] at b1
    obtain rfl := b1.str
    refine ⟨⟨x, rfl⟩, ?_⟩
    refine ea.go x1.fh (st.ext x1) (fun c e => by rw [e] at p; exact fun F' H' y => p F' H' (x1.trans y)) (fun e => by rw [e] at p; exact p) fun d2 e2 v2 F2 H2 x2 b2 => ?_
    rw [e2] at p
    simp only [Res.bind] at p
    split at p
    · rename_i y ey
      rw [ey] at b2
      obtain rfl := b2.str
      split at p
      · rename_i hz
        refine ⟨x, y, rfl, rfl, hz.1, lim_ok hz.2, fun q hq => ?_⟩
        have r : Ows X.K cls F2 H2 ((Txt.split x y).map V.str) ((Txt.split x y).map D.str) [] := (rps_strs (ns := Txt.split x y)).toOws
        exact p _ F2 _ [q] ((x1.trans x2).trans (Ext.own x2.fh hq)) (fresh_new ((x1.trans x2).hh.free hq)) (.inl (ow_new x2.fh hq r))
      · exact p.elim
    · exact p.elim
  · exact p.elim
end
end DL

namespace DL
open PySem PySem.Spec PyProof.Rows L2 PySem.W
section
variable {X : Cx} {cls : Cls} {K : PySem.W.Frag} {pins : List (Addr × Obj)} {s : Shared} {σ : L2.St} {H F H' F' : Hp} {Q : VK} {W : WX}
variable {e : Expr} {te : TE} {p apos cpos pos : Pos}
end
section
variable {K : PySem.W.Frag} {cls : Cls} {W : WX} {X : Cx} {F H F' H' F1 H1 : Hp} {O O1 : List Addr} {Q : VK} {a o e : Expr} {es : List Expr} {fa fo : Env → Res D} {fs : Env → Res (List D)} {pos apos cpos p : Pos} {k n : Nat}
def keyInts : List L2.Key → Option (List Int)
  | [] => some []
  | .inl i :: ks => (keyInts ks).map (i :: ·)
  | .inr _ :: _ => none
def eSortK (fa : Env → Res D) : Env → Res D := fun g => (fa g).bind fun d => match opd d with
  | .bd ks _ => match keyInts ks with
    | some ns => .ok (.ol ((srt ns).map D.int))
    | none => .bad
  | _ => .bad
@[simp] theorem eSortK_ (fa : Env → Res D) (g : Env) : eSortK fa g = (fa g).bind fun d => match opd d with
  | .bd ks _ => match keyInts ks with
    | some ns => .ok (.ol ((srt ns).map D.int))
    | none => .bad
  | _ => .bad := rfl
variable {m : Str} {C f : Addr} {fd : FuncData} {ps : List Str} {sp : Sp} {t : TA} {ta : TE} {E : L2.St → XK} {CX : CXT}
def eMeth (c : Nat) (g : List D → Res D) (fo : Env → Res D) (fs : Env → Res (List D)) : Env → Res D := fun e => (fo e).bind fun d => match opd d with
  | .ob c' fl => if c' = c then (fs e).bind fun ds => calD g (.ob c' fl :: ds) else .bad
  | _ => .bad
@[simp] theorem eMeth_ (c : Nat) (g : List D → Res D) (fo : Env → Res D) (fs : Env → Res (List D)) (e : Env) : eMeth c g fo fs e = (fo e).bind fun d => match opd d with
  | .ob c' fl => if c' = c then (fs e).bind fun ds => calD g (.ob c' fl :: ds) else .bad
  | _ => .bad := rfl
def eIndexT (fa fb : Env → Res D) : Env → Res D := fun g => (fa g).bind fun d => match opd d with
  | .ls xs => match tupsOf xs with
    | some L => (fb g).bind fun e => match opd e with
      | .tp ys => match intsOf ys with
        | some l => if l ∈ L then .ok (.int (L.idxOf l : Nat)) else .bad
        | none => .bad
      | _ => .bad
    | none => .bad
  | _ => .bad
@[simp] theorem eIndexT_ (fa fb : Env → Res D) (g : Env) : eIndexT fa fb g = (fa g).bind fun d => match opd d with
  | .ls xs => match tupsOf xs with
    | some L => (fb g).bind fun e => match opd e with
      | .tp ys => match intsOf ys with
        | some l => if l ∈ L then .ok (.int (L.idxOf l : Nat)) else .bad
        | none => .bad
      | _ => .bad
    | none => .bad
  | _ => .bad := rfl
end
end DL

namespace DL
open PySem PySem.Spec PyProof.Rows L2 TL PySem.W
section
variable {K : PySem.W.Frag} {cls : Cls} {X : Cx}
def cIsB : D → D → Option Bool
  | .bl a, .bl b => some (a == b)
  | _, _ => none
def cNotB : D → D → Option Bool
  | .bl a, .bl b => some (!(a == b))
  | _, _ => none
@[simp] theorem cIsB_bl (a b : Bool) : cIsB (.bl a) (.bl b) = some (a == b) := rfl
@[simp] theorem cNotB_bl (a b : Bool) : cNotB (.bl a) (.bl b) = some (!(a == b)) := rfl
end
end DL

namespace DL
open PySem PySem.Spec PyProof.Rows L2 TL PySem.W
section
variable {K : PySem.W.Frag} {cls : Cls} {X : Cx} {F H F' H' F1 H1 : Hp} {O O1 : List Addr} {Q : VK}
def cGt2 : D → D → Option Bool
  | .tp xs, .tp ys => match intsOf xs, intsOf ys with
    | some ns, some ms => some (HT.lexLt ms ns)
    | _, _ => none
  | a, b => cGt a b
@[simp] theorem cGt2_tp (ns ms : List Int) : cGt2 (.tp (ns.map D.int)) (.tp (ms.map D.int)) = some (HT.lexLt ms ns) := by
  have h1 : intsOf (ns.map D.int) = some ns := intsOf_map ns
  have h2 : intsOf (ms.map D.int) = some ms := intsOf_map ms
  simp [cGt2, h1, h2]
end
end DL

namespace DL
open PySem PySem.Spec PyProof.Rows L2 TL PySem.W
section
variable {K : PySem.W.Frag} {cls : Cls} {W : WX} {X : Cx} {F H F' H' F1 H1 : Hp} {O O1 : List Addr} {Q : VK} {o e f : Expr} {fo fk fx : Env → Res D} {apos cpos : Pos}
def eDG2 (fo fk fx : Env → Res D) : Env → Res D := fun g => (fo g).bind fun a => match opd a with
  | .bd ks ds => (fk g).bind fun b => (fx g).bind fun z => match opd b with
    | .int k => .ok ((valG (ks.zip ds) (.inl k)).getD (opd z))
    | _ => .bad
  | _ => .bad
@[simp] theorem eDG2_ (fo fk fx : Env → Res D) (g : Env) : eDG2 fo fk fx g = (fo g).bind fun a => match opd a with
  | .bd ks ds => (fk g).bind fun b => (fx g).bind fun z => match opd b with
    | .int k => .ok ((valG (ks.zip ds) (.inl k)).getD (opd z))
    | _ => .bad
  | _ => .bad := rfl
end
end DL

namespace DL
open PySem PySem.Spec PyProof.Rows L2 TL PySem.W
section
variable {K : PySem.W.Frag} {cls : Cls} {W : WX} {X : Cx} {F H F' H' F1 H1 : Hp} {O O1 : List Addr} {Q : VK} {a b e o : Expr} {fa fb fo : Env → Res D} {pos apos cpos : Pos}
def rRemD (K : PySem.W.Frag) : V → List V → Hp → VK → Prop := fun x xs H Q => ∃ (l : Addr) (vs : List V) (y : V) (ds : List PyData) (d : PyData) (j : Nat), x = .ref l ∧ xs = [y] ∧ H l = some (.lst vs) ∧ vs.length ≤ 1000000 ∧ DpAll K H vs ds ∧ Dp K H y d ∧ PyData.plainAll ds = true ∧ d.plain = true ∧ d.depth ≤ 60 ∧ SeqAt.dataPlace ds d = some j ∧ Q .non (upd H l (.lst (vs.eraseIdx j)))
theorem erase_len {α : Type} (l : List α) (j : Nat) : (l.eraseIdx j).length ≤ l.length := List.length_eraseIdx_le ..
theorem mt_removeD (hu : X.A.units + 65 < cLine) : MtM X "list.remove" (rRemD X.K) := by
  intro pins s σ H x xs v us Q I rx rxs h
  obtain ⟨l, vs, y, ds, d, j, rfl, rfl, hH, hlen, hds, hy, pds, pd, dd, hj, q⟩ := h
  cases rx
  obtain ⟨u, rfl, ru⟩ := rxs.one
  obtain ⟨z, its, n, r, hl, e⟩ := I.lstM hH
  obtain ⟨as, rs⟩ := Dp.readsAll I ds vs its hds r
  obtain ⟨bs, r1⟩ := Dp.reads I d y u hy ru
  have hvl := r.length
  have hsl := sizeLine_eq
  refine SeqAt.remove_list_data (vs := its.toArray) ⟨_, e, rfl, n, rfl⟩ (by simpa using rs) r1 pds pd (by omega) hj (by rw [List.size_toArray]; omega) ?_
  refine ⟨.non, _, I.lset (its' := its.eraseIdx j) (t' := s.toks) hH e ?_ (r.eraseIdx j) ?_, rfl, q⟩
  · show its.toArray.eraseIdxIfInBounds j = (its.eraseIdx j).toArray
    rw [List.eraseIdxIfInBounds_toArray]
  · have := erase_len vs j
    omega
def sRem (i : Nat) (fa : Env → Res D) : Env → Out := fun g => match g[i]? with
  | some (.ol xs) => (fa g).st g fun d => match toPys xs, toPy (opd d) with
    | some ps, some pd => if xs.length ≤ 1000000 ∧ PyData.plainAll ps = true ∧ pd.plain = true ∧ pd.depth ≤ 60 then match SeqAt.dataPlace ps pd with
      | some k => match xs[k]? with
        | some y => if own1 y = false then .nx (g.set i (.ol (xs.eraseIdx k))) else .bad
        | none => .bad
      | none => .bad
      else .bad
    | _, _ => .bad
  | _ => .bad
@[simp] theorem sRem_ (i : Nat) (fa : Env → Res D) (g : Env) : sRem i fa g = match g[i]? with
  | some (.ol xs) => (fa g).st g fun d => match toPys xs, toPy (opd d) with
    | some ps, some pd => if xs.length ≤ 1000000 ∧ PyData.plainAll ps = true ∧ pd.plain = true ∧ pd.depth ≤ 60 then match SeqAt.dataPlace ps pd with
      | some k => match xs[k]? with
        | some y => if own1 y = false then .nx (g.set i (.ol (xs.eraseIdx k))) else .bad
        | none => .bad
      | none => .bad
      else .bad
    | _, _ => .bad
  | _ => .bad := rfl
theorem ows_dp : ∀ {vs : List V} {ds : List D} {O : List Addr} {ps : List PyData}, Same F H → Ows K cls F H vs ds O → toPys ds = some ps → DpAll K H vs ps
  | _, _, _, ps, _, .nil, e => by
    simp [toPys] at e
    subst e
    exact .nil
  | _, _, _, ps, s, .cons (ds := ds) a b dj q, e => by
    unfold toPys at e
    split at e
    · rename_i p1 p2 e1 e2
      cases e
      cases a with
      | sh r => exact .cons (r.dp s e1) (ows_dp s b e2)
      | _ => simp [toPy] at e1
    · cases e
theorem js_remove {i k : Nat} {x : Str} {npos : Pos} (c : Cn X W k) (hN : X.N[i]? = some x) (hv : Vis X.env.scope x) (ha : JE X cls W a fa) (hd : (x == ("__debug__" : Str)) = false := by decide) (hcd : (x == ("__classdict__" : Str)) = false := by decide)
    (hbase : attributeBase (.Name x npos) "remove" X.env (eval (.Name x npos) X.env) = eval (.Name x npos) X.env := by rfl)
    (hfew : ((backTo cpos (starEach (a :: []) X.env)).all (fun x => !x.1) && (backToKw cpos (keywordEach [] X.env)).all (fun x => x.1.isSome)
      && decide ((a :: []).length + ([] : List Keyword).length + (if ([] : List Keyword).isEmpty then 0 else 1) < 30)) = true := by rfl)
    (hline : (apos.endLine == cpos.line) = true := by rfl) (hs : starEach (a :: []) X.env = (false, eval a X.env) :: starEach [] X.env := by rfl) (hplain : (backTo cpos (starEach [] X.env)).any (·.1) = false := by rfl)
    (hsw : swapsWith (.Call (.Attribute (.Name x npos) "remove" apos) [a] [] cpos) none pos.line X.env = pure false := by rfl) :
    JS X cls W (.Expr (.Call (.Attribute (.Name x npos) "remove" apos) [a] [] cpos) pos) (sRem i fa) := by
  obtain ⟨t, p, d⟩ := ha.ex
  refine ⟨_, ps_expr (pe_bm PySem.F.plainAttrs_list PySem.F.slot_list_remove PySem.F.type_list_remove (mt_removeD c.eq65) (pe_var hN hv hd hcd) (pa_cons p pa_nil hs) hbase hfew hline hs hplain) hsw, ?_⟩
  intro En σ F H g O s st p
  rw [sRem_] at p
  split at p
  · rename_i xs eg
    obtain ⟨q, vs, O1, h1, h2, h2', h3, h4, h5, h6, h7⟩ := st.lst eg
    refine ⟨.ref q, h1, .inl ⟨rfl, vs, SqL.of h2⟩, ?_⟩
    refine d.go s st (fun c e F' H' y => by rw [e] at p; exact p σ F' H' O (y.sext fun a h => .inl h) (st.ext y)) (fun e => by rw [e] at p; exact p) fun dd e v F1 H1 x b => ?_
    rw [e, Res.st_ok] at p
    split at p
    · rename_i ps pd eps epd
      split at p
      · rename_i hn
        obtain ⟨n1, n2, n3, n4⟩ := hn
        split at p
        · rename_i kk ek
          split at p
          · rename_i yd ey
            split at p
            · rename_i hw
              obtain ⟨u, u1, u2, u3⟩ := (h4.ext x).erase ey hw
              refine ⟨q, vs, v, ps, pd, kk, rfl, rfl, x.hh _ _ h2, by rw [h4.len]; exact n1, ows_dp x.fh (h4.ext x) eps, b.dp x.fh epd, n2, n3, n4, ek, ?_⟩
              obtain ⟨O'', z1, z2⟩ := h7 F1 H1 (vs.eraseIdx kk) (xs.eraseIdx kk) O1 x u3 h3 (fun a z => .inl z)
              exact p σ F1 _ O'' z2 z1
            · exact p.elim
          · exact p.elim
        · exact p.elim
      · exact p.elim
    · exact p.elim
  · exact p.elim
end
end DL

namespace DL
open PySem PySem.Spec PyProof.Rows L2 TL PySem.W
section
variable {K : PySem.W.Frag} {cls : Cls} {W : WX} {X : Cx} {F H F' H' F1 H1 : Hp} {O O1 : List Addr} {Q : VK} {a b e c : Expr} {es : List Expr} {fa fe : Env → Res D} {ft : Env → Res Bool} {fs : Env → Res (List D)} {pos : Pos}
def PostM (K : PySem.W.Frag) (cls : Cls) (W : WX) (En : Ends) (σ : L2.St) (F H : Hp) (q : Addr) (us : List V) : Res (Option D) → Prop
  | .ok none => ∀ F' H', Ext F H F' H' → En.nx σ H'
  | .ok (some d) => ∀ v F' H', Ext F H F' H' → Rp K cls F' v d → En.nx σ (upd H' q (.lst (us ++ [v])))
  | .xc c => ∀ F' H', Ext F H F' H' → W (excV cls c) none σ H'
  | .bad => False
theorem PostM.mono {En : Ends} {σ : L2.St} {q : Addr} {us : List V} {r : Res (Option D)} (x : Ext F H F1 H1) (h : PostM K cls W En σ F H q us r) : PostM K cls W En σ F1 H1 q us r := by
  cases r with
  | ok o =>
    cases o with
    | none => exact fun F' H' y => h F' H' (x.trans y)
    | some d => exact fun v F' H' y r => h v F' H' (x.trans y) r
  | xc c => exact fun F' H' y => h F' H' (x.trans y)
  | bad => exact h
structure JM (X : Cx) (cls : Cls) (W : WX) (sts : List Stmt) (f : Env → Res (Option D)) : Prop where
  ex : ∃ t, PSs X sts t ∧ ∀ (En : Ends) (σ : L2.St) (F H : Hp) (g : Env) (O : List Addr) (q : Addr) (us : List V), Same F H → Sts X.K cls F H σ g O → σ[0]? = some (some (.ref q)) → H q = some (.lst us) → us.length < lim → PostM X.K cls W En σ F H q us (f g) → t En σ H
def mApp (fa : Env → Res D) : Env → Res (Option D) := fun g => (fa g).bind fun d => if shd1 (opd d) = true then .ok (some (opd d)) else .bad
def mIf (ft : Env → Res Bool) (f : Env → Res (Option D)) : Env → Res (Option D) := fun g => (ft g).bind fun k => if k = true then f g else .ok none
theorem jm_app {x : Str} {npos apos cpos : Pos} (hN : X.N[0]? = some x) (hv : Vis X.env.scope x) (ha : JE X cls W a fa) (hd : (x == ("__debug__" : Str)) = false := by decide) (hcd : (x == ("__classdict__" : Str)) = false := by decide)
    (hbase : attributeBase (.Name x npos) "append" X.env (eval (.Name x npos) X.env) = eval (.Name x npos) X.env := by rfl)
    (hfew : ((backTo cpos (starEach (a :: []) X.env)).all (fun x => !x.1) && (backToKw cpos (keywordEach [] X.env)).all (fun x => x.1.isSome)
      && decide ((a :: []).length + ([] : List Keyword).length + (if ([] : List Keyword).isEmpty then 0 else 1) < 30)) = true := by rfl)
    (hline : (apos.endLine == cpos.line) = true := by rfl) (hs : starEach (a :: []) X.env = (false, eval a X.env) :: starEach [] X.env := by rfl) (hplain : (backTo cpos (starEach [] X.env)).any (·.1) = false := by rfl)
    (hsw : swapsWith (.Call (.Attribute (.Name x npos) "append" apos) [a] [] cpos) none pos.line X.env = pure false := by rfl) :
    JM X cls W [.Expr (.Call (.Attribute (.Name x npos) "append" apos) [a] [] cpos) pos] (mApp fa) := by
  obtain ⟨t, p, d⟩ := ha.ex
  refine ⟨_, pss_one (ps_expr (pe_bm PySem.F.plainAttrs_list PySem.F.slot_list_append PySem.F.type_list_append mt_append (pe_var hN hv hd hcd) (pa_cons p pa_nil hs) hbase hfew hline hs hplain) hsw), ?_⟩
  intro En σ F H g O q us s st h0 hq hl p
  refine ⟨.ref q, h0, .inl ⟨rfl, us, SqL.of hq⟩, ?_⟩
  unfold mApp at p
  refine d.go s st (fun c e => by rw [e] at p; exact p) (fun e => by rw [e] at p; exact p) fun dd e v F1 H1 x b => ?_
  rw [e] at p
  simp only [Res.bind] at p
  split at p
  · rename_i hsd
    exact ⟨q, us, v, rfl, rfl, x.hh _ _ hq, lim_lt hl, p v F1 H1 x (b.toRp hsd)⟩
  · exact p.elim
theorem jm_if {sts : List Stmt} {f : Env → Res (Option D)} (hc : JT X cls W c ft) (h : JM X cls W sts f) : JM X cls W [.If c sts [] pos] (mIf ft f) := by
  obtain ⟨tc, pc, dc⟩ := hc.ex
  obtain ⟨t1, p1, d1⟩ := h.ex
  refine ⟨_, pss_one (ps_if pc p1 pss_nil), ?_⟩
  intro En σ F H g O q us s st h0 hq hl p
  unfold mIf at p
  refine dc.go s st (fun c e => by rw [e] at p; exact p) (fun e => by rw [e] at p; exact p) fun k e F1 H1 x => ?_
  rw [e] at p
  simp only [Res.bind] at p
  cases k with
  | true =>
    rw [if_pos rfl] at p ⊢
    exact d1 En σ F1 H1 g O q us x.fh (st.ext x) h0 (x.hh _ _ hq) hl (p.mono x)
  | false =>
    rw [if_neg (by decide)] at p ⊢
    exact p F1 H1 x
def spM (K : PySem.W.Frag) (cls : Cls) (n : Nat) (g : List D → Res (Option D)) : Sp := fun vs H Q E => ∃ F q us vs' ds, vs = .ref q :: vs' ∧ Same F H ∧ H q = some (.lst us) ∧ us.length < lim ∧ Rps K cls F vs' ds ∧ ds.length = n ∧
  match g ds with
  | .ok none => ∀ F' H', Ext F H F' H' → Q .non H'
  | .ok (some d) => ∀ v F' H', Ext F H F' H' → Rp K cls F' v d → Q .non (upd H' q (.lst (us ++ [v])))
  | .xc c => ∀ F' H', Ext F H F' H' → E (excV cls c) none H'
  | .bad => False
def runM (f : Env → Res (Option D)) (n : Nat) (ds : List D) : Res (Option D) := f (.un :: ds ++ List.replicate (n - (ds.length + 1)) .un)
theorem fnM_ok {P : Program} {w : World} {mg : Str → Option Value} {base : Heap} {x qual : Str} {st : Stmt} {f : Addr} {fd : FuncData} {N ps : List Str} {k n : Nat} {g : List D → Res (Option D)} {fb : Env → Res (Option D)}
    (Fn : Fun K x qual st f fd) (S : FnScope N ps (defScope st)) (hn : ps.length = n + 1)
    (hbody : ∀ (cdv : Value) (A : Around) (outer : List PySem.Env) (s : Shared) (H : Hp) (E : XK), Cn (cxOf (L2.CX P w) P w K mg base N qual (defScope st) f cdv A outer s H E) (fun c d _ H => E c d H) k →
      JM (cxOf (L2.CX P w) P w K mg base N qual (defScope st) f cdv A outer s H E) cls (fun c d _ H => E c d H) (defBody st) fb)
    (heq : ∀ ds, ds.length = n → g ds = .bad ∨ runM fb N.length ds = g ds) : FnOk P w K mg base (L2.CX P w) (k + 1) f fd ps (spM K cls n g) := by
  refine Fn.okX S (fun vs H Q E h => ?_) (fun cdv A outer s H vs Q E hr h => ?_)
  · obtain ⟨F, q, us, vs', ds, rfl, _, _, _, r, h1, _⟩ := h
    rw [List.length_cons, r.len, h1, hn]
  · obtain ⟨F, q, us, vs', ds, rfl, sm, hq, hu, r, hl, h⟩ := h
    obtain ⟨t, p, d⟩ := (hbody cdv A outer s H E ⟨takes_of rfl rfl rfl rfl, passes_of rfl, rfl, S.nd, hr⟩).ex
    have s0 : Sts K cls F H (L2.start N (V.ref q :: vs')) (.un :: ds ++ List.replicate (N.length - (ds.length + 1)) .un) [] := by
      unfold L2.start
      rw [List.length_cons, r.len, List.map_cons, List.cons_append, List.cons_append]
      exact .un (sts_start r _)
    refine ⟨t, p, d _ _ F H _ [] q us sm s0 (by unfold L2.start; rfl) hq hu ?_⟩
    rcases heq ds hl with e | e
    · rw [e] at h; exact h.elim
    · rw [← e] at h
      unfold runM at h
      cases z : fb (.un :: ds ++ List.replicate (N.length - (ds.length + 1)) .un) with
      | ok o =>
        rw [z] at h
        cases o with
        | none => exact fun F' H' y => h F' H' y
        | some d => exact fun v F' H' y r => h v F' H' y r
      | xc c => rw [z] at h; exact fun F' H' y => h F' H' y
      | bad => rw [z] at h; exact h.elim
def sPut (i : Nat) (g : List D → Res (Option D)) (fs : Env → Res (List D)) : Env → Out := fun env => match env[i]? with
  | some (.ol xs) => (fs env).st env fun ds => if shd ds = true ∧ xs.length < lim then match g ds with
    | .ok none => .nx env
    | .ok (some d) => .nx (env.set i (.ol (xs ++ [d])))
    | .xc c => .xc c env
    | .bad => .bad else .bad
  | _ => .bad
@[simp] theorem sPut_ (i : Nat) (g : List D → Res (Option D)) (fs : Env → Res (List D)) (env : Env) : sPut i g fs env = match env[i]? with
  | some (.ol xs) => (fs env).st env fun ds => if shd ds = true ∧ xs.length < lim then match g ds with
    | .ok none => .nx env
    | .ok (some d) => .nx (env.set i (.ol (xs ++ [d])))
    | .xc c => .xc c env
    | .bad => .bad else .bad
  | _ => .bad := rfl
theorem js_put {x fn : Str} {f : Addr} {fd : FuncData} {ps : List Str} {i k n : Nat} {g : List D → Res (Option D)} {p px pc : Pos} (c : Cn X W k) (G : FnOk X.prog X.w X.K X.mg X.base (L2.CX X.prog X.w) k f fd ps (spM X.K cls n g))
    (hm : X.mg fn = some (.ref f)) (hk : PySem.W.keepIn X.K (.ref f) = true) (hb : Binds X.K fd ps []) (hN : X.N[i]? = some x) (hv : Vis X.env.scope x) (ha : JA X cls W es fs) (hn : ∀ g ds, fs g = .ok ds → ds.length = n)
    (hd : (x == ("__debug__" : Str)) = false := by decide) (hcd : (x == ("__classdict__" : Str)) = false := by decide) (hg : Gl X fn := by rfl)
    (hdb : (fn == ("__debug__" : Str)) = false := by decide) (he : starEach (.Name x px :: es) X.env = (false, eval (.Name x px) X.env) :: starEach es X.env := by rfl) (hpl : (backTo pc (starEach es X.env)).any (·.1) = false := by rfl)
    (hsw : swapsWith (.Call (.Name fn p) (.Name x px :: es) [] pc) none pos.line X.env = pure false := by rfl) :
    JS X cls W (.Expr (.Call (.Name fn p) (.Name x px :: es) [] pc) pos) (sPut i g fs) := by
  obtain ⟨ta, pa, da⟩ := ha.ex
  refine ⟨_, ps_expr (pe_callS G c.hr hg hm hk hb (fun σ => passAt c.tk σ) (pa_cons (pe_var hN hv hd hcd) pa he) hdb he hpl) hsw, ?_⟩
  intro En σ F H env O s st p
  rw [sPut_] at p
  split at p
  · rename_i xs eg
    obtain ⟨q, vs, O1, h1, h2, h2', h3, h4, h5, h6, h7⟩ := st.lst eg
    refine ⟨.ref q, h1, ?_⟩
    refine da.go s st (fun c e => by rw [e] at p; exact fun F' H' x => xc_st st p F' H' x) (fun e => by rw [e] at p; exact p) fun ds e ws F1 H1 x1 b1 => ?_
    rw [e, Res.st_ok] at p
    split at p
    · rename_i hc
      obtain ⟨c1, c2⟩ := hc
      refine ⟨F1, q, vs, ws, ds, rfl, x1.fh, x1.hh _ _ h2, by rw [h4.len]; exact c2, b1.toRps c1, hn env ds e, ?_⟩
      cases eo : g ds with
      | ok o =>
        rw [eo] at p
        cases o with
        | none => exact fun F' H' y => p σ F' H' O ((x1.trans y).sext fun a h => .inl h) (st.ext (x1.trans y))
        | some d =>
          intro v F' H' y r
          have xy := x1.trans y
          obtain ⟨O'', z1, z2⟩ := h7 F' H' (vs ++ [v]) (xs ++ [d]) (O1 ++ []) xy ((h4.ext xy).snoc (.sh r) fun a q1 q2 => nomatch q2) (fun z => by
            rcases List.mem_append.mp z with z | z
            · exact h3 z
            · exact nomatch z) (fun a z => (List.mem_append.mp z).imp id fun z => nomatch z)
          exact p σ F' _ O'' z2 z1
      | xc c => rw [eo] at p; exact fun F' H' y => p σ F' H' O ((x1.trans y).sext fun a h => .inl h) (st.ext (x1.trans y))
      | bad => rw [eo] at p; exact p
    · exact p.elim
  · exact p.elim
end
end DL

namespace DL
open PySem PySem.Spec PyProof.Rows L2 TL PySem.W
section
variable {K : PySem.W.Frag} {cls : Cls} {W : WX} {X : Cx} {a : Expr} {fa : Env → Res D} {i : Nat}
def eView (i : Nat) (fa : Env → Res D) : Env → Res D := fun g => (fa (frzAt g i)).bind fun d => if flat d = true then .ok d else .bad
@[simp] theorem eView_ (i : Nat) (fa : Env → Res D) (g : Env) : eView i fa g = (fa (frzAt g i)).bind fun d => if flat d = true then .ok d else .bad := rfl
end
end DL

noncomputable section
namespace Lw
open DL
def f_law_cell : Env → Out := sSeq (sIf (tC2 cLt (eVar 1) (eCall caLen (aCons (eVar 0) (aNil)))) (sRet (eBin opMod (eBin opIx (eVar 0) (eVar 1)) (eBin opPow (eC (.int 10)) (eC (.int 60))))) (sNil)) (sRet (eC (.int 0)))
def g_law_cell : List D → Res D := runF f_law_cell 2
def f_law_mixed : Env → Out := sSeq (sAsgF 2 (eBin opMod (eBin opMul (eBin opAdd (eBin opAdd (eVar 0) (eBin opMul (eC (.int 7919)) (eVar 1))) (eC (.int 1))) (eC (.int 48271))) (eC (.int 2147483647)))) (sSeq (sAsgF 3 (eBin opMod (eBin opAdd (eBin opAdd (eBin opMul (eVar 2) (eVar 2)) (eBin opMul (eC (.int 40692)) (eVar 1))) (eC (.int 3))) (eC (.int 2147483629)))) (sRet (eBin opDiv (eBin opMod (eBin opMul (eVar 3) (eVar 3)) (eC (.int 2147483587))) (eC (.int 8)))))
def g_law_mixed : List D → Res D := runF f_law_mixed 4
def f_law_draws_c1 : Env → Res D := eBin opMod (eVar 9) (eBin opPow (eC (.int 10)) (eC (.int 60)))
def f_law_draws_c2 : Env → Res D := eBin opAdd (eBin opMul (eC (.int 7)) (eVar 6)) (eC (.int 5))
def f_law_draws_l3 : Env → Out := sSeq (sAsgF 7 (eBin opMod (eVar 6) (eCall caMax2 (aCons (eC (.int 1)) (aCons (eVar 2) (aNil)))))) (sIf (tC2 cGt (eVar 2) (eC (.int 0))) (sSet 5 (eVar 7) (eBin opMod (eBin opAdd (eBin opMul (eBin opIx (eVar 5) (eVar 7)) (eC (.int 31))) (eBin opIx (eVar 0) (eVar 6))) (eBin opPow (eC (.int 10)) (eC (.int 60))))) (sNil))
def f_law_draws_l4 : Env → Out := sIf (tAn (tC2 cEq (eVar 3) (eC (.int 0))) (tC2 cGt (eVar 4) (eC (.int 0)))) (sSeq (sApp 8 (eBin opMod (eVar 4) (eC (.int 210)))) (sAsgF 4 (eBin opDiv (eVar 4) (eC (.int 210))))) (sApp 8 (eOwn g_law_mixed (aCons (eBin opIx (eVar 5) (eVar 6)) (aCons (eVar 6) (aNil)))))
def f_law_draws : Env → Out := sSeq (sAsgF 4 (eBin opMod (eCall caSum (aCons (eLc (iSeq (eSl (eVar 0) (ePart (some (eVar 1))) (ePart none))) [9] (gtN 9) (tYesG) f_law_draws_c1) (aNil))) (eBin opPow (eC (.int 10)) (eC (.int 60))))) (sSeq (sAsg 5 (eLc (iRg1 (aCons (eVar 2) (aNil))) [6] (gtN 6) (tYesG) f_law_draws_c2)) (sSeq (sFor (iRg2 (aCons (eVar 1) (aCons (eCall caLen (aCons (eVar 0) (aNil))) (aNil)))) (gtN 6) f_law_draws_l3) (sSeq (sAsg 8 (eLst (aNil))) (sSeq (sFor (iRg1 (aCons (eVar 2) (aNil))) (gtN 6) f_law_draws_l4) (sRetV 8)))))
def g_law_draws : List D → Res D := runF f_law_draws 10
def f_law_ties_l1 : Env → Out := sSeq (sAsgF 5 (eBin opMod (eBin opIx (eVar 0) (eVar 4)) (eVar 1))) (sSeq (sAsgF 6 (eBin opMod (eBin opDiv (eBin opIx (eVar 0) (eVar 4)) (eVar 1)) (eVar 1))) (sSeq (sIf (tAn (tTr (eVar 2)) (tC2 cLt (eVar 4) (eBin opSub (eVar 1) (eC (.int 1))))) (sSeq (sAsgF 7 (eTup (aConsO (eBin opMod (eBin opIx (eVar 0) (eVar 4)) (eBin opAdd (eVar 4) (eC (.int 1)))) (aConsO (eBin opAdd (eVar 4) (eC (.int 1))) (aNil))))) (sSeq (sAsgF 5 (eBin opIx (eVar 7) (eBin opMod (eBin opDiv (eBin opIx (eVar 0) (eVar 4)) (eC (.int 105))) (eC (.int 2))))) (sAsgF 6 (eBin opIx (eVar 7) (eBin opSub (eC (.int 1)) (eBin opMod (eBin opDiv (eBin opIx (eVar 0) (eVar 4)) (eC (.int 105))) (eC (.int 2)))))))) (sNil)) (sApp 3 (eTup (aConsO (eVar 5) (aConsO (eVar 6) (aNil)))))))
def f_law_ties : Env → Out := sSeq (sAsg 3 (eLst (aNil))) (sSeq (sFor (iRg1 (aCons (eCall caLen (aCons (eVar 0) (aNil))) (aNil))) (gtN 4) f_law_ties_l1) (sSeq (sAsgF 8 (eBin opMod (eCall caSum (aCons (eVar 0) (aNil))) (eCall caMax2 (aCons (eC (.int 1)) (aCons (eCall caLen (aCons (eVar 3) (aNil))) (aNil)))))) (sRet (eBin opAdd (eSl (eVar 3) (ePart (some (eVar 8))) (ePart none)) (eSl (eVar 3) (ePart none) (ePart (some (eVar 8))))))))
def g_law_ties : List D → Res D := runF f_law_ties 9
def f_law_web : Env → Out := sSeq (sAsgF 3 (eOwn g_law_cell (aCons (eVar 0) (aCons (eC (.int 0)) (aNil))))) (sSeq (sAsgF 4 (eBin opAdd (eC (.int 1)) (eBin opMod (eVar 3) (eVar 1)))) (sSeq (sAsgF 5 (eCall caMin2 (aCons (eVar 2) (aCons (eBin opAdd (eBin opMod (eBin opDiv (eVar 3) (eVar 1)) (eBin opAdd (eVar 2) (eC (.int 1)))) (eBin opMul (eBin opMod (eBin opDiv (eVar 3) (eC (.int 97))) (eC (.int 2))) (eVar 4))) (aNil))))) (sSeq (sAsgF 6 (eOwn g_law_draws (aCons (eVar 0) (aCons (eC (.int 1)) (aCons (eVar 5) (aCons (eBin opMod (eBin opDiv (eVar 3) (eC (.int 194))) (eC (.int 2))) (aNil))))))) (sRet (eTup (aConsO (eVar 4) (aConsO (eOwn g_law_ties (aCons (eVar 6) (aCons (eVar 4) (aCons (eB (tC2 cGt (eBin opMod (eBin opDiv (eVar 3) (eC (.int 388))) (eC (.int 3))) (eC (.int 0)))) (aNil))))) (aNil))))))))
def g_law_web : List D → Res D := runF f_law_web 7
end Lw
end

namespace Lw
open DL
theorem cell_ok (s : List Int) (k : Int) (hk : 0 ≤ k) : ∃ c : Int, 0 ≤ c ∧ c < e60 ∧ g_law_cell [.sc (s.map D.int), .int k] = .ok (.int c) := by
  by_cases h : k < s.length
  · obtain ⟨a, e, _⟩ := DL.atI_of hk h
    refine ⟨a % e60, Int.emod_nonneg _ (by have := e60_pos; omega), Int.emod_lt_of_pos _ e60_pos, ?_⟩
    simp [g_law_cell, runF, f_law_cell, h, e]
  · refine ⟨0, by omega, e60_pos, ?_⟩
    simp [g_law_cell, runF, f_law_cell, h]
def mix1 (c k : Int) : Int := (c + 7919 * k + 1) * 48271 % 2147483647
def mix2 (c k : Int) : Int := (mix1 c k * mix1 c k + 40692 * k + 3) % 2147483629
def mixF (c k : Int) : Int := mix2 c k * mix2 c k % 2147483587 / 8
theorem mix1_b (c k : Int) : 0 ≤ mix1 c k ∧ mix1 c k < 2147483647 := by unfold mix1; omega
theorem mix2_b (c k : Int) : 0 ≤ mix2 c k ∧ mix2 c k < 2147483629 := by unfold mix2; omega
theorem mixF_nn (c k : Int) : 0 ≤ mixF c k := by unfold mixF; omega
theorem mixed_ok (c k : Int) : g_law_mixed [.int c, .int k] = .ok (.int (mixF c k)) := by
  have h1 := mix1_b c k
  have h2 := mix2_b c k
  have e1 : (c + 7919 * k + 1) * 48271 % 2147483647 = mix1 c k := rfl
  have e2 : (mix1 c k * mix1 c k + 40692 * k + 3) % 2147483629 = mix2 c k := rfl
  have e3 : mix2 c k * mix2 c k % 2147483587 / 8 = mixF c k := rfl
  have a1 : -18446744073709551616 < mix1 c k := by omega
  have a2 : mix1 c k < 18446744073709551616 := by omega
  have b1 : -18446744073709551616 < mix2 c k := by omega
  have b2 : mix2 c k < 18446744073709551616 := by omega
  simp [g_law_mixed, runF, f_law_mixed, e1, a1, a2, e2, b1, b2, e3]
end Lw

namespace Lw
open DL
theorem draws_l4 (x0 x1 x6 x7 x9 : D) (F : List Int) (T count way : Int) (h2 : count ≤ 1000) (hF : F.length = count.toNat) (hT : 0 ≤ T) :
    ∃ (g' : Env) (l : List Int), forL (gtN 6) f_law_draws_l4 (rng 0 count.toNat) [x0, x1, .int count, .int way, .int T, .ol (F.map D.int), x6, x7, .ol [], x9] = .nx g' ∧ l.length = count.toNat ∧ (∀ x ∈ l, 0 ≤ x) ∧ g'[8]? = some (.ol (l.map D.int)) := by
  obtain ⟨g', e, T', l, k, hT', hl, hp, rfl⟩ := for_rngN (s := 6) (b := f_law_draws_l4) (lo := 0) (n := count.toNat)
    (fun i g => ∃ (T : Int) (l : List Int) (k : D), 0 ≤ T ∧ l.length = i ∧ (∀ x ∈ l, 0 ≤ x) ∧ g = [x0, x1, .int count, .int way, .int T, .ol (F.map D.int), k, x7, .ol (l.map D.int), x9])
    (g := [x0, x1, .int count, .int way, .int T, .ol (F.map D.int), x6, x7, .ol [], x9]) ⟨T, [], x6, hT, rfl, by simp, rfl⟩ (fun i g hi ⟨T, l, k, hT, hl, hp, hg⟩ => by
      subst hg
      obtain ⟨a, ea, _⟩ := DL.atI_of (l := F) (i := (i : Int)) (by omega) (by omega)
      have hlim : l.length < lim := by rw [lim_eq]; omega
      have hm := mixed_ok a (i : Int)
      by_cases q : way = 0
      · by_cases q2 : 0 < T
        · refine ⟨[x0, x1, .int count, .int way, .int (T / 210), .ol (F.map D.int), .int (0 + (i : Int)), x7, .ol ((l ++ [T % 210]).map D.int), x9], .inl ?_, T / 210, l ++ [T % 210], _, by omega, by simp [hl], ?_, rfl⟩
          · simp [f_law_draws_l4, q, q2, hlim]
          · intro x hx
            rcases List.mem_append.mp hx with h | h
            · exact hp x h
            · simp at h; omega
        · refine ⟨[x0, x1, .int count, .int way, .int T, .ol (F.map D.int), .int (0 + (i : Int)), x7, .ol ((l ++ [mixF a (i : Int)]).map D.int), x9], .inl ?_, T, l ++ [mixF a (i : Int)], _, hT, by simp [hl], ?_, rfl⟩
          · simp [f_law_draws_l4, q, q2, ea, hm, hlim]
          · intro x hx
            rcases List.mem_append.mp hx with h | h
            · exact hp x h
            · simp at h; rw [h]; exact mixF_nn a i
      · refine ⟨[x0, x1, .int count, .int way, .int T, .ol (F.map D.int), .int (0 + (i : Int)), x7, .ol ((l ++ [mixF a (i : Int)]).map D.int), x9], .inl ?_, T, l ++ [mixF a (i : Int)], _, hT, by simp [hl], ?_, rfl⟩
        · simp [f_law_draws_l4, q, ea, hm, hlim]
        · intro x hx
          rcases List.mem_append.mp hx with h | h
          · exact hp x h
          · simp at h; rw [h]; exact mixF_nn a i)
  exact ⟨_, l, e, hl, hp, rfl⟩
theorem draws_l3 (s : List Int) (start count : Int) (x3 x4 x6 x7 x8 x9 : D) (F : List Int) (hs : s.length ≤ 63) (h0 : 0 ≤ start) (hF : F.length = count.toNat) :
    ∃ (g' : Env) (F' : List Int) (y6 y7 : D), forL (gtN 6) f_law_draws_l3 (rng start (s.length - start).toNat) [.sc (s.map D.int), .int start, .int count, x3, x4, .ol (F.map D.int), x6, x7, x8, x9] = .nx g' ∧ F'.length = count.toNat ∧
      g' = [.sc (s.map D.int), .int start, .int count, x3, x4, .ol (F'.map D.int), y6, y7, x8, x9] := by
  obtain ⟨g', e, F', y6, y7, h1, h2⟩ := for_rngN (s := 6) (b := f_law_draws_l3) (lo := start) (n := (s.length - start).toNat)
    (fun i g => ∃ (F : List Int) (y6 y7 : D), F.length = count.toNat ∧ g = [.sc (s.map D.int), .int start, .int count, x3, x4, .ol (F.map D.int), y6, y7, x8, x9])
    (g := [.sc (s.map D.int), .int start, .int count, x3, x4, .ol (F.map D.int), x6, x7, x8, x9]) ⟨F, x6, x7, hF, rfl⟩ (fun i g hi ⟨F, y6, y7, hF, hg⟩ => by
      subst hg
      obtain ⟨c, ec, _⟩ := DL.atI_of (l := s) (i := start + (i : Int)) (by omega) (by omega)
      have hmax : 0 < max 1 count := by omega
      by_cases hc : 0 < count
      · have hat : (start + (i : Int)) % max 1 count < count := by
          have := Int.emod_lt_of_pos (start + (i : Int)) hmax
          omega
        have hat0 : 0 ≤ (start + (i : Int)) % max 1 count := Int.emod_nonneg _ (by omega)
        obtain ⟨a, ea, _⟩ := DL.atI_of (l := F) (i := (start + (i : Int)) % max 1 count) hat0 (by omega)
        have hix : L2.ixN (F.map D.int).length ((start + (i : Int)) % max 1 count) = some ((start + (i : Int)) % max 1 count).toNat := ixN_nat hat0 (by simp; omega)
        refine ⟨[.sc (s.map D.int), .int start, .int count, x3, x4, .ol ((F.set ((start + (i : Int)) % max 1 count).toNat ((a * 31 + c) % e60)).map D.int), .int (start + (i : Int)), .int ((start + (i : Int)) % max 1 count), x8, x9], .inl ?_, _, _, _, ?_, rfl⟩
        · simp at hix
          simp [f_law_draws_l3, hmax, hc, ea, ec, hix]
        · simp [hF]
      · refine ⟨[.sc (s.map D.int), .int start, .int count, x3, x4, .ol (F.map D.int), .int (start + (i : Int)), .int ((start + (i : Int)) % max 1 count), x8, x9], .inl ?_, _, _, _, hF, rfl⟩
        simp [f_law_draws_l3, hmax, hc])
  exact ⟨g', F', y6, y7, e, h1, h2⟩
theorem draws_ok (s : List Int) (hs : s.length ≤ 63) (start count way : Int) (h0 : 0 ≤ start) (h0' : start ≤ 1000) (h1 : 0 ≤ count) (h2 : count ≤ 1000) :
    ∃ l : List Int, l.length = count.toNat ∧ (∀ x ∈ l, 0 ≤ x) ∧ g_law_draws [.sc (s.map D.int), .int start, .int count, .int way] = .ok (.ol (l.map D.int)) := by
  have hc1 : ∀ (g : Env) (l : List Int), 9 < g.length → lcL (gtN 9) tYesG f_law_draws_c1 g (l.map D.int) = .ok ((l.map (· % e60)).map D.int) := fun g l hg => by
    rw [← map_int]
    refine lcL_mapN l fun a _ => ?_
    simp [f_law_draws_c1, hg]
  have hc2 : ∀ (g : Env), 6 < g.length → lcL (gtN 6) tYesG f_law_draws_c2 g (rng 0 count.toNat) = .ok (((List.range count.toNat).map fun i : Nat => 7 * (i : Int) + 5).map D.int) := fun g hg => by
    rw [← map_int]
    unfold rng
    refine lcL_mapN _ fun a _ => ?_
    simp [f_law_draws_c2, hg]
  obtain ⟨g3, F', y6, y7, e3, hF', rfl⟩ := draws_l3 s start count (.int way) (.int (((s.drop start.toNat).map (· % e60)).sum % e60)) .un .un .un .un ((List.range count.toNat).map fun i : Nat => 7 * (i : Int) + 5) hs h0 (by simp)
  obtain ⟨g4, l, e4, hl, hp, e8⟩ := draws_l4 (.sc (s.map D.int)) (.int start) y6 y7 .un F' (((s.drop start.toNat).map (· % e60)).sum % e60) count way h2 hF' (Int.emod_nonneg _ (by have := e60_pos; omega))
  refine ⟨l, hl, hp, ?_⟩
  have b1 : (cut s (some start) none).length ≤ lim := Nat.le_trans (cut_len s _ _) (by rw [lim_eq]; omega)
  have b2 : (rng 0 count.toNat).length ≤ lim := by rw [rng_len, lim_eq]; omega
  have b3 : rgOk count := rgOk_of (by omega) (by omega)
  have b4 : rgOk start := rgOk_of (by omega) (by omega)
  have b5 : rgOk (s.length : Int) := rgOk_of (by omega) (by omega)
  simp only [cut_from s start h0] at b1
  simp [g_law_draws, runF, f_law_draws, hc1, hc2, cut_from s start h0, b1, b2, b3, b4, b5, e3, e4, e8, -List.map_drop, -List.map_map, -List.length_drop]
end Lw

namespace Lw
open DL
def EndsOk (n : Int) (l : List (Int × Int)) : Prop := ∀ p ∈ l, (0 ≤ p.1 ∧ p.1 < n) ∧ 0 ≤ p.2 ∧ p.2 < n
theorem EndsOk.app {n : Int} {l m : List (Int × Int)} (h : EndsOk n l) (h' : EndsOk n m) : EndsOk n (l ++ m) := fun p hp => (List.mem_append.mp hp).elim (h p) (h' p)
theorem EndsOk.one {n : Int} {a b : Int} (h : (0 ≤ a ∧ a < n) ∧ 0 ≤ b ∧ b < n) : EndsOk n [(a, b)] := fun p hp => by simp at hp; subst hp; exact h
theorem ties_l1 (ds : List Int) (places : Int) (hang : Bool) (x5 x6 x7 x8 : D) (hd : ds.length ≤ 1000) (hp : 1 ≤ places) (hp2 : places ≤ 1000) :
    ∃ (g' : Env) (l : List (Int × Int)), forL (gtN 4) f_law_ties_l1 (rng 0 ds.length) [.ls (ds.map D.int), .int places, .bl hang, .ol [], .un, x5, x6, x7, x8] = .nx g' ∧ l.length = ds.length ∧ EndsOk places l ∧ ∃ y4 y5 y6 y7, g' = [.ls (ds.map D.int), .int places, .bl hang, .ol (l.map dP), y4, y5, y6, y7, x8] := by
  obtain ⟨g', e, l, h1, h2, h3⟩ := for_rngN (s := 4) (b := f_law_ties_l1) (lo := 0) (n := ds.length)
    (fun i g => ∃ (l : List (Int × Int)), l.length = i ∧ EndsOk places l ∧ ∃ y4 y5 y6 y7, g = [.ls (ds.map D.int), .int places, .bl hang, .ol (l.map dP), y4, y5, y6, y7, x8])
    (g := [.ls (ds.map D.int), .int places, .bl hang, .ol [], .un, x5, x6, x7, x8]) ⟨[], rfl, (fun _ h => nomatch h), _, _, _, _, rfl⟩ (fun i g hi ⟨l, hl, he, y4, y5, y6, y7, hg⟩ => by
      subst hg
      obtain ⟨a, ea, _⟩ := DL.atI_of (l := ds) (i := (i : Int)) (by omega) (by omega)
      have hlim : l.length < lim := by rw [lim_eq]; omega
      have hpp : 0 < places := by omega
      have hp3 : places < 1073741824 := by omega
      have o1 := Int.emod_nonneg a (by omega : places ≠ 0)
      have o2 := Int.emod_lt_of_pos a hpp
      have p1 := Int.emod_nonneg (a / places) (by omega : places ≠ 0)
      have p2 := Int.emod_lt_of_pos (a / places) hpp
      have plain : f_law_ties_l1 [.ls (ds.map D.int), .int places, .bl hang, .ol (l.map dP), .int (i : Int), y5, y6, y7, x8] = .nx [.ls (ds.map D.int), .int places, .bl hang, .ol ((l ++ [(a % places, a / places % places)]).map dP), .int (i : Int), .int (a % places), .int (a / places % places), y7, x8] ∨ (hang = true ∧ (i : Int) < places - 1) := by
        by_cases hh : hang = true ∧ (i : Int) < places - 1
        · exact .inr hh
        · left
          cases hang with
          | false => simp [f_law_ties_l1, ea, hpp, hp3, hlim]
          | true =>
            have : ¬ (i : Int) < places - 1 := fun z => hh ⟨rfl, z⟩
            simp [f_law_ties_l1, ea, hpp, hp3, hlim, this]
      rcases plain with h | ⟨hh, hi2⟩
      · refine ⟨_, .inl (by simpa using h), l ++ [(a % places, a / places % places)], by simp [hl], he.app (.one ⟨⟨o1, o2⟩, p1, p2⟩), _, _, _, _, rfl⟩
      · subst hh
        have hk : 0 < (i : Int) + 1 := by omega
        have q1 := Int.emod_nonneg a (by omega : (i : Int) + 1 ≠ 0)
        have q2 := Int.emod_lt_of_pos a hk
        rcases Int.emod_two_eq (a / 105) with z | z
        · refine ⟨[.ls (ds.map D.int), .int places, .bl true, .ol ((l ++ [(a % ((i : Int) + 1), (i : Int) + 1)]).map dP), .int (i : Int), .int (a % ((i : Int) + 1)), .int ((i : Int) + 1), .tp [.int (a % ((i : Int) + 1)), .int ((i : Int) + 1)], x8], .inl ?_, _, by simp [hl], he.app (.one ⟨⟨q1, by omega⟩, by omega, by omega⟩), _, _, _, _, rfl⟩
          simp [f_law_ties_l1, ea, hpp, hp3, hlim, hi2, hk, z]
        · refine ⟨[.ls (ds.map D.int), .int places, .bl true, .ol ((l ++ [((i : Int) + 1, a % ((i : Int) + 1))]).map dP), .int (i : Int), .int ((i : Int) + 1), .int (a % ((i : Int) + 1)), .tp [.int (a % ((i : Int) + 1)), .int ((i : Int) + 1)], x8], .inl ?_, _, by simp [hl], he.app (.one ⟨⟨by omega, by omega⟩, q1, by omega⟩), _, _, _, _, rfl⟩
          simp [f_law_ties_l1, ea, hpp, hp3, hlim, hi2, hk, z])
  exact ⟨g', l, e, h1, h2, h3⟩
theorem cut_mem {α : Type} {l : List α} {lo hi : Option Int} {a : α} (h : a ∈ cut l lo hi) : a ∈ l := by
  unfold cut at h
  exact List.mem_of_mem_drop (List.mem_of_mem_take h)
theorem EndsOk.cut {n : Int} {l : List (Int × Int)} (h : EndsOk n l) (lo hi : Option Int) : EndsOk n (cut l lo hi) := fun p hp => h p (cut_mem hp)
theorem ties_ok (ds : List Int) (places : Int) (hang : Bool) (hd : ds.length ≤ 1000) (hp : 1 ≤ places) (hp2 : places ≤ 1000) :
    ∃ l : List (Int × Int), l.length = ds.length ∧ EndsOk places l ∧ g_law_ties [.ls (ds.map D.int), .int places, .bl hang] = .ok (.ol (l.map dP)) := by
  obtain ⟨g', l, e, h1, h2, y4, y5, y6, y7, rfl⟩ := ties_l1 ds places hang .un .un .un .un hd hp hp2
  have hmax : 0 < max 1 (l.length : Int) := by omega
  have t0 : 0 ≤ ds.sum % max 1 (l.length : Int) := Int.emod_nonneg _ (by omega)
  have b1 : rgOk (ds.length : Int) := rgOk_of (by omega) (by omega)
  have b2 : (l.drop (ds.sum % max 1 (l.length : Int)).toNat).length + (l.take (ds.sum % max 1 (l.length : Int)).toNat).length ≤ lim := by
    rw [List.length_drop, List.length_take, lim_eq]; omega
  refine ⟨l.drop (ds.sum % max 1 (l.length : Int)).toNat ++ l.take (ds.sum % max 1 (l.length : Int)).toNat, ?_, ?_, ?_⟩
  · rw [List.length_append, List.length_drop, List.length_take]; omega
  · exact EndsOk.app (fun p hp => h2 p (List.mem_of_mem_drop hp)) (fun p hp => h2 p (List.mem_of_mem_take hp))
  · simp [g_law_ties, runF, f_law_ties, b1, e, hmax, cut_from l _ t0, cut_to l _ t0, b2, -List.map_drop, -List.map_take, -List.length_drop, -List.length_take, -List.map_map]
end Lw

namespace Lw
open DL
theorem web_ok (s : List Int) (hs : s.length ≤ 63) (most count : Int) (h1 : 1 ≤ most) (h2 : most ≤ 1000) (h3 : 0 ≤ count) (h4 : count ≤ 1000) :
    ∃ (p : Int) (l : List (Int × Int)), 1 ≤ p ∧ p ≤ most ∧ (l.length : Int) ≤ count ∧ EndsOk p l ∧ g_law_web [.sc (s.map D.int), .int most, .int count] = .ok (.tp [.int p, .ls (l.map dP)]) := by
  obtain ⟨c, c0, c1, ec⟩ := cell_ok s 0 (by omega)
  have m0 := Int.emod_nonneg c (by omega : most ≠ 0)
  have m1 := Int.emod_lt_of_pos c (by omega : 0 < most)
  have n0 := Int.emod_nonneg (c / most) (by omega : count + 1 ≠ 0)
  have n1 := Int.emod_lt_of_pos (c / most) (by omega : 0 < count + 1)
  have z0 := Int.emod_nonneg (c / 97) (by omega : (2 : Int) ≠ 0)
  have z1 := Int.emod_lt_of_pos (c / 97) (by omega : 0 < (2 : Int))
  have q0 : 0 ≤ c / 97 % 2 * (1 + c % most) := Int.mul_nonneg z0 (by omega)
  obtain ⟨ds, d1, d2, d3⟩ := draws_ok s hs 1 (min count (c / most % (count + 1) + c / 97 % 2 * (1 + c % most))) (c / 194 % 2) (by omega) (by omega) (by omega) (by omega)
  obtain ⟨l, l1, l2, l3⟩ := ties_ok ds (1 + c % most) (decide (0 < c / 388 % 3)) (by omega) (by omega) (by omega)
  refine ⟨1 + c % most, l, by omega, by omega, by omega, l2, ?_⟩
  have a0 : 0 < most := by omega
  have a1 : most < 1073741824 := by omega
  have a2 : 0 < count + 1 := by omega
  have a3 : -18446744073709551616 < c / 97 % 2 := by omega
  have a4 : c / 97 % 2 < 18446744073709551616 := by omega
  simp [g_law_web, runF, f_law_web, ec, a0, a1, a2, a3, a4, d3, l3]
end Lw

noncomputable section
namespace Lw
open DL
end Lw
end

namespace Lw
open DL L2
end Lw

namespace Lw
open DL L2
end Lw

noncomputable section
namespace Lw
open DL
def f_Web_init_l1 : Env → Out := sIf (tOr_ (tNo (tCh cLe cLt (eC (.int 0)) (eVar 3) (eVar 1))) (tNo (tCh cLe cLt (eC (.int 0)) (eVar 4) (eVar 1)))) (sRaise 1) (sNil)
def f_Web_init : Env → Out := sSeq (sIf (tOr_ (tNo (tCh cLe cLe (eC (.int 1)) (eVar 1) (eC (.int 14)))) (tC2 cGt (eCall caLen (aCons (eVar 2) (aNil))) (eC (.int 30)))) (sRaise 1) (sNil)) (sSeq (sFor (iSeq (eVar 2)) (gtT 2 (gtCons (gtN 3) (gtCons (gtN 4) (gtNil)))) f_Web_init_l1) (sSeq (sFld 0 14 0 (eVar 1)) (sFld 0 14 1 (eCall caList (aCons (eVar 2) (aNil))))))
def g_Web_init : List D → Res (List D) := mirI f_Web_init 14 5
def f_made_set_l1 : Env → Out := sSeq (sIf (tOr_ (tC2 cLe (eVar 3) (eVar 2)) (tC2 cGe (eVar 3) (eCall caLen (aCons (eUn (opFld 14 1) (eVar 0)) (aNil))))) (sRaise 2) (sNil)) (sAsgF 2 (eVar 3))
def f_made_set : Env → Out := sSeq (sAsgF 2 (eUn opNeg (eC (.int 1)))) (sSeq (sFor (iSeq (eVar 1)) (gtN 3) f_made_set_l1) (sRet (eCall caTuple (aCons (eVar 1) (aNil)))))
def g_made_set : List D → Res D := runF f_made_set 4
end Lw
end

namespace Lw
open DL
theorem web_init_l1 (p : Int) (x0 x2 : D) : ∀ (l : List (Int × Int)) (y3 y4 : D), EndsOk p l →
    ∃ z3 z4, forL (gtT 2 (gtCons (gtN 3) (gtCons (gtN 4) (gtNil)))) f_Web_init_l1 (l.map dP) [x0, .int p, x2, y3, y4] = .nx [x0, .int p, x2, z3, z4]
  | [], y3, y4, _ => ⟨y3, y4, by simp [forL]⟩
  | (a, b) :: l, y3, y4, h => by
    obtain ⟨⟨h1, h2⟩, h3, h4⟩ := h (a, b) (List.mem_cons_self ..)
    obtain ⟨z3, z4, e⟩ := web_init_l1 p x0 x2 l (.int a) (.int b) fun q hq => h q (List.mem_cons_of_mem _ hq)
    refine ⟨z3, z4, ?_⟩
    rw [← e]
    simp at h1 h2 h3 h4
    simp [forL, f_Web_init_l1, h1, h2, h3, h4]
theorem web_init_ok (p : Int) (l : List (Int × Int)) (h1 : 1 ≤ p) (h2 : p ≤ 14) (h3 : l.length ≤ 30) (h4 : EndsOk p l) : g_Web_init [.int p, .ls (l.map dP)] = .ok [.int p, .ol (l.map dP)] := by
  refine mirI_eq fun x => ?_
  obtain ⟨z3, z4, e⟩ := web_init_l1 p (.oo (some x) 14 []) (.ls (l.map dP)) l .un .un h4
  have h5 : ¬ (30 < (l.length : Int)) := by omega
  simp [runI, f_Web_init, h1, h2, h5, e, outI]
def goodAux (count : Int) : Int → List Int → Bool
  | _, [] => true
  | a, x :: l => !(decide (x ≤ a)) && !(decide (x ≥ count)) && goodAux count x l
def goodB (count : Int) (l : List Int) : Bool := goodAux count (-1) l
theorem made_set_l1 (p : Int) (ts : List (Int × Int)) (x1 : D) : ∀ (l : List Int) (a : Int) (y3 : D),
    (goodAux ts.length a l = true ∧ ∃ z2 z3, forL (gtN 3) f_made_set_l1 (l.map D.int) [.ob 14 [.int p, .ls (ts.map dP)], x1, .int a, y3] = .nx [.ob 14 [.int p, .ls (ts.map dP)], x1, z2, z3]) ∨
    (goodAux ts.length a l = false ∧ ∃ g, forL (gtN 3) f_made_set_l1 (l.map D.int) [.ob 14 [.int p, .ls (ts.map dP)], x1, .int a, y3] = .xc 2 g)
  | [], a, y3 => .inl ⟨rfl, .int a, y3, by simp [forL]⟩
  | x :: l, a, y3 => by
    by_cases c1 : x ≤ a
    · exact .inr ⟨by simp [goodAux, c1], by simp [forL, f_made_set_l1, c1]⟩
    · by_cases c2 : (ts.length : Int) ≤ x
      · exact .inr ⟨by simp [goodAux, c2], by simp [forL, f_made_set_l1, c1, c2]⟩
      · have e : goodAux ts.length a (x :: l) = goodAux ts.length x l := by simp [goodAux, c1, c2]
        have e2 : forL (gtN 3) f_made_set_l1 ((x :: l).map D.int) [.ob 14 [.int p, .ls (ts.map dP)], x1, .int a, y3] = forL (gtN 3) f_made_set_l1 (l.map D.int) [.ob 14 [.int p, .ls (ts.map dP)], x1, .int x, .int x] := by
          simp [forL, f_made_set_l1, c1, c2]
        rw [e, e2]
        exact made_set_l1 p ts x1 l x (.int x)
theorem made_set_ls (p : Int) (ts : List (Int × Int)) (l : List Int) : g_made_set [.ob 14 [.int p, .ls (ts.map dP)], .ls (l.map D.int)] = if goodB ts.length l = true then .ok (.tp (l.map D.int)) else .xc 2 := by
  rcases made_set_l1 p ts (.ls (l.map D.int)) l (-1) .un with ⟨h, z2, z3, e⟩ | ⟨h, g, e⟩
  · simp [g_made_set, runF, f_made_set, e, goodB, h]
  · simp [g_made_set, runF, f_made_set, e, goodB, h]
theorem made_set_tp (p : Int) (ts : List (Int × Int)) (l : List Int) : g_made_set [.ob 14 [.int p, .ls (ts.map dP)], .tp (l.map D.int)] = if goodB ts.length l = true then .ok (.tp (l.map D.int)) else .xc 2 := by
  rcases made_set_l1 p ts (.tp (l.map D.int)) l (-1) .un with ⟨h, z2, z3, e⟩ | ⟨h, g, e⟩
  · simp [g_made_set, runF, f_made_set, e, goodB, h]
  · simp [g_made_set, runF, f_made_set, e, goodB, h]
end Lw

noncomputable section
namespace Lw
open DL
def f_marks_over_c1 : Env → Res D := eIf (tC2 cEq (eVar 8) (eVar 7)) (eVar 6) (eVar 8)
def f_marks_over_l1 : Env → Out := sSeq (sAsgT (gtT 2 (gtCons (gtN 4) (gtCons (gtN 5) (gtNil)))) (eBin opIx (eUn (opFld 14 1) (eVar 0)) (eVar 3))) (sSeq (sAsgF 6 (eCall caMin2 (aCons (eBin opIx (eVar 2) (eVar 4)) (aCons (eBin opIx (eVar 2) (eVar 5)) (aNil))))) (sSeq (sAsgF 7 (eCall caMax2 (aCons (eBin opIx (eVar 2) (eVar 4)) (aCons (eBin opIx (eVar 2) (eVar 5)) (aNil))))) (sAsgF 2 (eLc (iSeq (eVar 2)) [8] (gtN 8) (tYesG) f_marks_over_c1))))
def f_marks_over : Env → Out := sSeq (sAsgF 2 (eLR1 (eUn (opFld 14 0) (eVar 0)))) (sSeq (sFor (iSeq (eVar 1)) (gtN 3) f_marks_over_l1) (sRetV 2))
def g_marks_over : List D → Res D := runF f_marks_over 9
def f_joined_ends : Env → Out := sSeq (sAsgF 4 (eOwn g_marks_over (aCons (eVar 0) (aCons (eOwn g_made_set (aCons (eVar 0) (aCons (eVar 1) (aNil)))) (aNil))))) (sRet (eB (tC2 cEq (eBin opIx (eVar 4) (eVar 2)) (eBin opIx (eVar 4) (eVar 3)))))
def g_joined_ends : List D → Res D := runF f_joined_ends 5
end Lw
end

namespace Lw
open DL L2
def nth (m : List Int) (i : Int) : Int := m.getD i.toNat 0
theorem nth_at {m : List Int} {i : Int} (h0 : 0 ≤ i) (h1 : i < m.length) : atI m i = some (nth m i) := by
  obtain ⟨a, e, e2⟩ := DL.atI_of h0 h1
  rw [e]; simp [nth, List.getD_eq_getElem?_getD, e2]
def tieAt (ts : List (Int × Int)) (i : Int) : Int × Int := ts.getD i.toNat (0, 0)
theorem tie_at {ts : List (Int × Int)} {i : Int} (h0 : 0 ≤ i) (h1 : i < ts.length) : atI ts i = some (tieAt ts i) ∧ tieAt ts i ∈ ts := by
  obtain ⟨a, e, e2⟩ := DL.atI_of h0 h1
  have : tieAt ts i = a := by simp [tieAt, List.getD_eq_getElem?_getD, e2]
  rw [this]
  exact ⟨e, List.mem_of_getElem? e2⟩
def stepM (m : List Int) (t : Int × Int) : List Int := m.map fun x => if x = max (nth m t.1) (nth m t.2) then min (nth m t.1) (nth m t.2) else x
def marksM (p : Nat) (ts : List (Int × Int)) (l : List Int) : List Int := l.foldl (fun m t => stepM m (tieAt ts t)) (iota p)
theorem stepM_len (m : List Int) (t : Int × Int) : (stepM m t).length = m.length := by simp [stepM]
theorem foldM_len (ts : List (Int × Int)) : ∀ (l m : List Int), (l.foldl (fun m t => stepM m (tieAt ts t)) m).length = m.length
  | [], m => rfl
  | t :: l, m => by rw [List.foldl_cons, foldM_len ts l, stepM_len]
theorem marksM_len (p : Nat) (ts : List (Int × Int)) (l : List Int) : (marksM p ts l).length = p := by simp [marksM, foldM_len]
def InT (n : Nat) (l : List Int) : Prop := ∀ t ∈ l, 0 ≤ t ∧ t < n
theorem goodAux_in (n : Nat) : ∀ (l : List Int) (a : Int), -1 ≤ a → goodAux n a l = true → InT n l
  | [], _, _, _ => fun _ h => nomatch h
  | x :: l, a, ha, h => by
    simp only [goodAux, Bool.and_eq_true, Bool.not_eq_true', decide_eq_false_iff_not] at h
    obtain ⟨⟨h1, h2⟩, h3⟩ := h
    intro t ht
    rcases List.mem_cons.mp ht with rfl | ht
    · omega
    · exact goodAux_in n l x (by omega) h3 t ht
theorem good_in {n : Nat} {l : List Int} (h : goodB n l = true) : InT n l := goodAux_in n l (-1) (by omega) h
theorem marks_l1 (p : Int) (ts : List (Int × Int)) (hE : EndsOk p ts) (hp : p ≤ 1000) (x1 : D) : ∀ (l m : List Int) (y3 y4 y5 y6 y7 y8 : D), (m.length : Int) = p → InT ts.length l → y8 = .un →
    ∃ z3 z4 z5 z6 z7, forL (gtN 3) f_marks_over_l1 (l.map D.int) [.ob 14 [.int p, .ls (ts.map dP)], x1, .ls (m.map D.int), y3, y4, y5, y6, y7, y8] = .nx [.ob 14 [.int p, .ls (ts.map dP)], x1, .ls ((l.foldl (fun m t => stepM m (tieAt ts t)) m).map D.int), z3, z4, z5, z6, z7, .un]
  | [], m, y3, y4, y5, y6, y7, y8, _, _, h8 => ⟨y3, y4, y5, y6, y7, by subst h8; simp [forL]⟩
  | t :: l, m, y3, y4, y5, y6, y7, y8, hm, hl, h8 => by
    subst h8
    obtain ⟨t0, t1⟩ := hl t (List.mem_cons_self ..)
    obtain ⟨e1, e2⟩ := tie_at t0 t1
    obtain ⟨⟨a0, a1⟩, b0, b1⟩ := hE _ e2
    have ea := nth_at (m := m) a0 (by omega)
    have eb := nth_at (m := m) b0 (by omega)
    obtain ⟨z3, z4, z5, z6, z7, ih⟩ := marks_l1 p ts hE hp x1 l (stepM m (tieAt ts t)) (.int t) (.int (tieAt ts t).1) (.int (tieAt ts t).2) (.int (min (nth m (tieAt ts t).1) (nth m (tieAt ts t).2))) (.int (max (nth m (tieAt ts t).1) (nth m (tieAt ts t).2))) .un (by rw [stepM_len]; exact hm) (fun t h => hl t (List.mem_cons_of_mem _ h)) rfl
    refine ⟨z3, z4, z5, z6, z7, ?_⟩
    rw [List.foldl_cons, ← ih]
    have lc : lcL (gtN 8) tYesG f_marks_over_c1 [.ob 14 [.int p, .ls (ts.map dP)], x1, .ls (m.map D.int), .int t, .int (tieAt ts t).1, .int (tieAt ts t).2, .int (min (nth m (tieAt ts t).1) (nth m (tieAt ts t).2)), .int (max (nth m (tieAt ts t).1) (nth m (tieAt ts t).2)), .un] (m.map D.int) = .ok ((stepM m (tieAt ts t)).map D.int) := by
      unfold stepM
      rw [← map_int]
      refine lcL_mapN m fun x _ => ?_
      by_cases hx : x = max (nth m (tieAt ts t).1) (nth m (tieAt ts t).2) <;> simp [f_marks_over_c1, hx]
    have hlim : m.length ≤ lim := by rw [lim_eq]; omega
    simp [forL, f_marks_over_l1, e1, ea, eb, lc, hlim]
theorem marks_ok_tp (p : Int) (ts : List (Int × Int)) (hE : EndsOk p ts) (h1 : 1 ≤ p) (h2 : p ≤ 1000) (l : List Int) (hl : InT ts.length l) : g_marks_over [.ob 14 [.int p, .ls (ts.map dP)], .tp (l.map D.int)] = .ok (.ls ((marksM p.toNat ts l).map D.int)) := by
  obtain ⟨z3, z4, z5, z6, z7, e⟩ := marks_l1 p ts hE h2 (.tp (l.map D.int)) l (iota p.toNat) .un .un .un .un .un .un (by simp; omega) hl rfl
  have hr : rgOk p := rgOk_of (by omega) (by omega)
  have h3 : p ≤ 1000000 := by omega
  simp [g_marks_over, runF, f_marks_over, hr, h3, rng_iota, e, marksM]
theorem marks_ok_ls (p : Int) (ts : List (Int × Int)) (hE : EndsOk p ts) (h1 : 1 ≤ p) (h2 : p ≤ 1000) (l : List Int) (hl : InT ts.length l) : g_marks_over [.ob 14 [.int p, .ls (ts.map dP)], .ls (l.map D.int)] = .ok (.ls ((marksM p.toNat ts l).map D.int)) := by
  obtain ⟨z3, z4, z5, z6, z7, e⟩ := marks_l1 p ts hE h2 (.ls (l.map D.int)) l (iota p.toNat) .un .un .un .un .un .un (by simp; omega) hl rfl
  have hr : rgOk p := rgOk_of (by omega) (by omega)
  have h3 : p ≤ 1000000 := by omega
  simp [g_marks_over, runF, f_marks_over, hr, h3, rng_iota, e, marksM]
theorem joined_ends_tp (p : Int) (ts : List (Int × Int)) (hE : EndsOk p ts) (h1 : 1 ≤ p) (h2 : p ≤ 1000) (l : List Int) (a b : Int) (ha : 0 ≤ a ∧ a < p) (hb : 0 ≤ b ∧ b < p) :
    g_joined_ends [.ob 14 [.int p, .ls (ts.map dP)], .tp (l.map D.int), .int a, .int b] = if goodB ts.length l = true then .ok (.bl (decide (nth (marksM p.toNat ts l) a = nth (marksM p.toNat ts l) b))) else .xc 2 := by
  have ms := made_set_tp p ts l
  by_cases h : goodB ts.length l = true
  · rw [if_pos h] at ms ⊢
    have mo := marks_ok_tp p ts hE h1 h2 l (good_in h)
    have ea := nth_at (m := marksM p.toNat ts l) ha.1 (by rw [marksM_len]; omega)
    have eb := nth_at (m := marksM p.toNat ts l) hb.1 (by rw [marksM_len]; omega)
    simp [g_joined_ends, runF, f_joined_ends, ms, mo, ea, eb]
  · rw [if_neg h] at ms ⊢
    simp [g_joined_ends, runF, f_joined_ends, ms]
end Lw

noncomputable section
namespace Lw
open DL
def f_law_marks_l1 : Env → Out := sIf (tC2 cEq (eBin opIx (eVar 3) (eVar 9)) (eVar 7)) (sSet 3 (eVar 9) (eVar 8)) (sNil)
def f_law_marks_l2 : Env → Out := sSeq (sAsgT (gtT 2 (gtCons (gtN 5) (gtCons (gtN 6) (gtNil)))) (eBin opIx (eVar 1) (eVar 4))) (sIf (tC2 cNe (eBin opIx (eVar 3) (eVar 5)) (eBin opIx (eVar 3) (eVar 6))) (sSeq (sAsgF 7 (eBin opIx (eVar 3) (eVar 6))) (sSeq (sAsgF 8 (eBin opIx (eVar 3) (eVar 5))) (sFor (iRg1 (aCons (eVar 0) (aNil))) (gtN 9) f_law_marks_l1))) (sNil))
def f_law_marks : Env → Out := sSeq (sAsg 3 (eLR1 (eVar 0))) (sSeq (sFor (iSeq (eVar 2)) (gtN 4) f_law_marks_l2) (sRetV 3))
def g_law_marks : List D → Res D := runF f_law_marks 10
end Lw
end

namespace Lw
open DL L2
def stepL (m : List Int) (t : Int × Int) : List Int := if nth m t.1 = nth m t.2 then m else m.map fun x => if x = nth m t.2 then nth m t.1 else x
def marksL (p : Nat) (ts : List (Int × Int)) (l : List Int) : List Int := l.foldl (fun m t => stepL m (tieAt ts t)) (iota p)
theorem stepL_len (m : List Int) (t : Int × Int) : (stepL m t).length = m.length := by unfold stepL; split <;> simp
theorem foldL_len (ts : List (Int × Int)) : ∀ (l m : List Int), (l.foldl (fun m t => stepL m (tieAt ts t)) m).length = m.length
  | [], m => rfl
  | t :: l, m => by rw [List.foldl_cons, foldL_len ts l, stepL_len]
theorem marksL_len (p : Nat) (ts : List (Int × Int)) (l : List Int) : (marksL p ts l).length = p := by simp [marksL, foldL_len]
theorem lmarks_l1 (p : Int) (x1 x2 x4 x5 x6 : D) (gone kept : Int) : ∀ (rest pre : List Int) (y9 : D),
    ∃ z9, forL (gtN 9) f_law_marks_l1 (rng pre.length rest.length) [.int p, x1, x2, .ol ((pre ++ rest).map D.int), x4, x5, x6, .int gone, .int kept, y9] = .nx [.int p, x1, x2, .ol ((pre ++ rest.map fun x => if x = gone then kept else x).map D.int), x4, x5, x6, .int gone, .int kept, z9]
  | [], pre, y9 => ⟨y9, by simp [rng_zero, forL]⟩
  | x :: rest, pre, y9 => by
    have e1 : atI (pre ++ x :: rest) (pre.length : Int) = some x := by rw [DL.atI_natG (j := pre.length) rfl (by simp)]; simp
    have e2 : ixN (pre.length + (rest.length + 1)) (pre.length : Int) = some pre.length := by rw [ixN_nat (by omega) (by omega)]; simp
    have hr : rng (pre.length : Int) (x :: rest).length = .int pre.length :: rng ((pre.length : Int) + 1) rest.length := rng_succ ..
    obtain ⟨z9, ih⟩ := lmarks_l1 p x1 x2 x4 x5 x6 gone kept rest (pre ++ [if x = gone then kept else x]) (.int pre.length)
    have el : (((pre ++ [if x = gone then kept else x]).length : Nat) : Int) = (pre.length : Int) + 1 := by simp
    rw [el] at ih
    refine ⟨z9, ?_⟩
    rw [hr]
    have step : f_law_marks_l1 [.int p, x1, x2, .ol (pre.map D.int ++ D.int x :: rest.map D.int), x4, x5, x6, .int gone, .int kept, .int pre.length] = .nx [.int p, x1, x2, .ol (pre.map D.int ++ D.int (if x = gone then kept else x) :: rest.map D.int), x4, x5, x6, .int gone, .int kept, .int pre.length] := by
      have e1' : atI (List.map D.int pre ++ D.int x :: List.map D.int rest) (pre.length : Int) = some (.int x) := by rw [DL.atI_natG (j := pre.length) rfl (by simp)]; simp
      by_cases h : x = gone
      · subst h
        simp [f_law_marks_l1, e1', e2]
      · simp [f_law_marks_l1, e1', h]
    simpa [forL, step] using ih

theorem lmarks_l2 (p : Int) (hp : 1 ≤ p) (hp2 : p ≤ 1000) (ts : List (Int × Int)) (hE : EndsOk p ts) (x2 : D) : ∀ (l m : List Int) (y4 y5 y6 y7 y8 y9 : D), (m.length : Int) = p → InT ts.length l →
    ∃ z4 z5 z6 z7 z8 z9, forL (gtN 4) f_law_marks_l2 (l.map D.int) [.int p, .ls (ts.map dP), x2, .ol (m.map D.int), y4, y5, y6, y7, y8, y9] = .nx [.int p, .ls (ts.map dP), x2, .ol ((l.foldl (fun m t => stepL m (tieAt ts t)) m).map D.int), z4, z5, z6, z7, z8, z9]
  | [], m, y4, y5, y6, y7, y8, y9, _, _ => ⟨y4, y5, y6, y7, y8, y9, by simp [forL]⟩
  | t :: l, m, y4, y5, y6, y7, y8, y9, hm, hl => by
    obtain ⟨t0, t1⟩ := hl t (List.mem_cons_self ..)
    obtain ⟨e1, e2⟩ := tie_at t0 t1
    obtain ⟨⟨a0, a1⟩, b0, b1⟩ := hE _ e2
    have ea := nth_at (m := m) a0 (by omega)
    have eb := nth_at (m := m) b0 (by omega)
    have hr : rgOk p := rgOk_of (by omega) (by omega)
    have hl' : InT ts.length l := fun t h => hl t (List.mem_cons_of_mem _ h)
    rw [List.foldl_cons]
    by_cases h : nth m (tieAt ts t).1 = nth m (tieAt ts t).2
    · obtain ⟨z4, z5, z6, z7, z8, z9, ih⟩ := lmarks_l2 p hp hp2 ts hE x2 l m (.int t) (.int (tieAt ts t).1) (.int (tieAt ts t).2) y7 y8 y9 hm hl'
      refine ⟨z4, z5, z6, z7, z8, z9, ?_⟩
      have es : stepL m (tieAt ts t) = m := if_pos h
      rw [es, ← ih]
      have st : f_law_marks_l2 [.int p, .ls (ts.map dP), x2, .ol (m.map D.int), .int t, y5, y6, y7, y8, y9] = .nx [.int p, .ls (ts.map dP), x2, .ol (m.map D.int), .int t, .int (tieAt ts t).1, .int (tieAt ts t).2, y7, y8, y9] := by
        simp [f_law_marks_l2, e1, ea, eb, h]
      simp [forL, st]
    · have es : stepL m (tieAt ts t) = m.map fun x => if x = nth m (tieAt ts t).2 then nth m (tieAt ts t).1 else x := if_neg h
      obtain ⟨w9, iw⟩ := lmarks_l1 p (.ls (ts.map dP)) x2 (.int t) (.int (tieAt ts t).1) (.int (tieAt ts t).2) (nth m (tieAt ts t).2) (nth m (tieAt ts t).1) m [] y9
      obtain ⟨z4, z5, z6, z7, z8, z9, ih⟩ := lmarks_l2 p hp hp2 ts hE x2 l (stepL m (tieAt ts t)) (.int t) (.int (tieAt ts t).1) (.int (tieAt ts t).2) (.int (nth m (tieAt ts t).2)) (.int (nth m (tieAt ts t).1)) w9 (by rw [stepL_len]; exact hm) hl'
      refine ⟨z4, z5, z6, z7, z8, z9, ?_⟩
      rw [← ih]
      have hpn : p.toNat = m.length := by omega
      simp only [List.length_nil, List.nil_append, Int.ofNat_zero, ← hpn] at iw
      rw [← es] at iw
      have st : f_law_marks_l2 [.int p, .ls (ts.map dP), x2, .ol (m.map D.int), .int t, y5, y6, y7, y8, y9] = .nx [.int p, .ls (ts.map dP), x2, .ol ((stepL m (tieAt ts t)).map D.int), .int t, .int (tieAt ts t).1, .int (tieAt ts t).2, .int (nth m (tieAt ts t).2), .int (nth m (tieAt ts t).1), w9] := by
        simp [f_law_marks_l2, e1, ea, eb, h, hr, iw]
      simp [forL, st]
theorem lmarks_ok (p : Int) (ts : List (Int × Int)) (hE : EndsOk p ts) (h1 : 1 ≤ p) (h2 : p ≤ 1000) (l : List Int) (hl : InT ts.length l) : g_law_marks [.int p, .ls (ts.map dP), .ls (l.map D.int)] = .ok (.ol ((marksL p.toNat ts l).map D.int)) := by
  obtain ⟨z4, z5, z6, z7, z8, z9, e⟩ := lmarks_l2 p h1 h2 ts hE (.ls (l.map D.int)) l (iota p.toNat) .un .un .un .un .un .un (by simp; omega) hl
  have hr : rgOk p := rgOk_of (by omega) (by omega)
  have h3 : p ≤ 1000000 := by omega
  simp [g_law_marks, runF, f_law_marks, hr, h3, rng_iota, e, marksL]
def SameP (p : Nat) (m m' : List Int) : Prop := ∀ i j : Int, 0 ≤ i → i < p → 0 ≤ j → j < p → (nth m i = nth m j ↔ nth m' i = nth m' j)
theorem nth_map {m : List Int} {f : Int → Int} {i : Int} (h0 : 0 ≤ i) (h1 : i < m.length) : nth (m.map f) i = f (nth m i) := by
  unfold nth
  have : i.toNat < m.length := by omega
  simp [List.getD_eq_getElem?_getD, List.getElem?_map, List.getElem?_eq_getElem this]
theorem same_step {p : Nat} {m m' : List Int} {t : Int × Int} (h : SameP p m m') (hm : m.length = p) (hm' : m'.length = p) (ht : (0 ≤ t.1 ∧ t.1 < p) ∧ 0 ≤ t.2 ∧ t.2 < p) : SameP p (stepM m t) (stepL m' t) := by
  obtain ⟨⟨a0, a1⟩, b0, b1⟩ := ht
  intro i j i0 i1 j0 j1
  have hab := h t.1 t.2 a0 a1 b0 b1
  have hia := h i t.1 i0 i1 a0 a1
  have hib := h i t.2 i0 i1 b0 b1
  have hja := h j t.1 j0 j1 a0 a1
  have hjb := h j t.2 j0 j1 b0 b1
  have hij := h i j i0 i1 j0 j1
  unfold stepM stepL
  rw [nth_map i0 (by omega), nth_map j0 (by omega)]
  by_cases c : nth m' t.1 = nth m' t.2
  · rw [if_pos c]
    have c' := hab.mpr c
    rw [← hij]
    rw [show max (nth m t.1) (nth m t.2) = nth m t.2 by omega, show min (nth m t.1) (nth m t.2) = nth m t.2 by omega]
    by_cases q1 : nth m i = nth m t.2 <;> by_cases q2 : nth m j = nth m t.2 <;> simp [q1, q2]
  · rw [if_neg c, nth_map i0 (by omega), nth_map j0 (by omega)]
    have c' : ¬ nth m t.1 = nth m t.2 := fun z => c (hab.mp z)
    generalize nth m t.1 = a at *
    generalize nth m t.2 = b at *
    generalize nth m' t.1 = a' at *
    generalize nth m' t.2 = b' at *
    generalize nth m i = x at *
    generalize nth m j = y at *
    generalize nth m' i = x' at *
    generalize nth m' j = y' at *
    rcases Int.le_total a b with z | z
    · rw [show max a b = b by omega, show min a b = a by omega]
      by_cases u1 : x = b <;> by_cases u2 : y = b <;> by_cases u3 : x' = b' <;> by_cases u4 : y' = b' <;> simp_all <;> omega
    · rw [show max a b = a by omega, show min a b = b by omega]
      by_cases u1 : x = a <;> by_cases u2 : y = a <;> by_cases u3 : x' = b' <;> by_cases u4 : y' = b' <;> simp_all <;> omega
end Lw

namespace Lw
open DL L2
theorem same_fold (p : Nat) (ts : List (Int × Int)) (hE : EndsOk p ts) : ∀ (l m m' : List Int), SameP p m m' → m.length = p → m'.length = p → InT ts.length l → SameP p (l.foldl (fun m t => stepM m (tieAt ts t)) m) (l.foldl (fun m t => stepL m (tieAt ts t)) m')
  | [], _, _, h, _, _, _ => h
  | t :: l, m, m', h, hm, hm', hl => by
    obtain ⟨t0, t1⟩ := hl t (List.mem_cons_self ..)
    exact same_fold p ts hE l _ _ (same_step h hm hm' (hE _ (tie_at t0 t1).2)) (by rw [stepM_len]; exact hm) (by rw [stepL_len]; exact hm') fun t h => hl t (List.mem_cons_of_mem _ h)
theorem same_marks (p : Nat) (ts : List (Int × Int)) (hE : EndsOk p ts) (l : List Int) (hl : InT ts.length l) : SameP p (marksM p ts l) (marksL p ts l) :=
  same_fold p ts hE l _ _ (fun _ _ _ _ _ _ => Iff.rfl) (by simp) (by simp) hl
theorem nth_mem {m : List Int} {i : Int} (h0 : 0 ≤ i) (h1 : i < m.length) : nth m i ∈ m := by
  have : i.toNat < m.length := by omega
  unfold nth
  rw [List.getD_eq_getElem?_getD, List.getElem?_eq_getElem this]
  exact List.getElem_mem this
theorem mem_nth {m : List Int} {x : Int} (h : x ∈ m) : ∃ i : Int, 0 ≤ i ∧ i < m.length ∧ nth m i = x := by
  obtain ⟨i, hi, e⟩ := List.mem_iff_getElem.mp h
  refine ⟨i, by omega, by omega, ?_⟩
  unfold nth
  simp [List.getD_eq_getElem?_getD, List.getElem?_eq_getElem hi, e]
theorem sset_one {m : List Int} (h : 1 ≤ m.length) : (sset m).length = 1 ↔ ∀ i : Int, 0 ≤ i → i < m.length → nth m i = nth m 0 := by
  constructor
  · intro e i i0 i1
    obtain ⟨x, hx⟩ := List.length_eq_one_iff.mp e
    have a := (sset_mem (nth m i) m).mpr (nth_mem i0 i1)
    have b := (sset_mem (nth m 0) m).mpr (nth_mem (Int.le_refl 0) (by omega))
    rw [hx] at a b
    rw [List.mem_singleton.mp a, List.mem_singleton.mp b]
  · intro k
    have : sset m = [nth m 0] := rise_uniq (sset_rise m) (by simp) fun x => by
      rw [sset_mem, List.mem_singleton]
      constructor
      · intro hx
        obtain ⟨i, i0, i1, rfl⟩ := mem_nth hx
        exact k i i0 i1
      · rintro rfl
        exact nth_mem (Int.le_refl 0) (by omega)
    rw [this]; rfl
def up (lo : Int) : Nat → List Int
  | 0 => []
  | k + 1 => lo :: up (lo + 1) k
end Lw

namespace Lw
open DL L2
inductive Conn (es : List (Int × Int)) : Int → Int → Prop
  | refl (a : Int) : Conn es a a
  | tie {a b : Int} : (a, b) ∈ es → Conn es a b
  | symm {a b : Int} : Conn es a b → Conn es b a
  | trans {a b c : Int} : Conn es a b → Conn es b c → Conn es a c
theorem Conn.mono {es fs : List (Int × Int)} (h : ∀ e ∈ es, e ∈ fs) {a b : Int} (c : Conn es a b) : Conn fs a b := by
  induction c with
  | refl a => exact .refl a
  | tie h' => exact .tie (h _ h')
  | symm _ ih => exact ih.symm
  | trans _ _ ih1 ih2 => exact ih1.trans ih2
theorem Conn.le {es fs : List (Int × Int)} (h : ∀ e ∈ es, Conn fs e.1 e.2) {a b : Int} (c : Conn es a b) : Conn fs a b := by
  induction c with
  | refl a => exact .refl a
  | tie h' => exact h _ h'
  | symm _ ih => exact ih.symm
  | trans _ _ ih1 ih2 => exact ih1.trans ih2
theorem conn_snoc {es : List (Int × Int)} {t : Int × Int} {i j : Int} : Conn (es ++ [t]) i j ↔ Conn es i j ∨ (Conn es i t.1 ∧ Conn es t.2 j) ∨ (Conn es i t.2 ∧ Conn es t.1 j) := by
  constructor
  · intro c
    induction c with
    | refl a => exact .inl (.refl a)
    | tie h =>
      rcases List.mem_append.mp h with h | h
      · exact .inl (.tie h)
      · simp at h
        subst h
        exact .inr (.inl ⟨.refl _, .refl _⟩)
    | symm _ ih =>
      rcases ih with h | ⟨h1, h2⟩ | ⟨h1, h2⟩
      · exact .inl h.symm
      · exact .inr (.inr ⟨h2.symm, h1.symm⟩)
      · exact .inr (.inl ⟨h2.symm, h1.symm⟩)
    | trans _ _ ih1 ih2 =>
      rcases ih1 with h | ⟨h1, h2⟩ | ⟨h1, h2⟩ <;> rcases ih2 with k | ⟨k1, k2⟩ | ⟨k1, k2⟩
      · exact .inl (h.trans k)
      · exact .inr (.inl ⟨h.trans k1, k2⟩)
      · exact .inr (.inr ⟨h.trans k1, k2⟩)
      · exact .inr (.inl ⟨h1, h2.trans k⟩)
      · exact .inl ((h1.trans (h2.trans k1).symm).trans k2)
      · exact .inl (h1.trans k2)
      · exact .inr (.inr ⟨h1, h2.trans k⟩)
      · exact .inl (h1.trans k2)
      · exact .inl ((h1.trans (h2.trans k1).symm).trans k2)
  · have m : ∀ {a b}, Conn es a b → Conn (es ++ [t]) a b := fun c => c.mono fun e h => List.mem_append_left _ h
    have ht : Conn (es ++ [t]) t.1 t.2 := .tie (List.mem_append_right _ (by simp))
    rintro (h | ⟨h1, h2⟩ | ⟨h1, h2⟩)
    · exact m h
    · exact ((m h1).trans ht).trans (m h2)
    · exact ((m h1).trans ht.symm).trans (m h2)
theorem conn_nil {i j : Int} (c : Conn [] i j) : i = j := by
  induction c with
  | refl a => rfl
  | tie h => exact (nomatch h)
  | symm _ ih => exact ih.symm
  | trans _ _ ih1 ih2 => exact ih1.trans ih2
def mk (p : Nat) (es : List (Int × Int)) : List Int := es.foldl stepL (iota p)
theorem mk_len (p : Nat) (es : List (Int × Int)) : (mk p es).length = p := by
  have : ∀ (es : List (Int × Int)) (m : List Int), (es.foldl stepL m).length = m.length := by
    intro es
    induction es with
    | nil => intro m; rfl
    | cons t es ih => intro m; rw [List.foldl_cons, ih, stepL_len]
  unfold mk
  rw [this]; simp
theorem mk_snoc (p : Nat) (es : List (Int × Int)) (t : Int × Int) : mk p (es ++ [t]) = stepL (mk p es) t := by simp [mk, List.foldl_append]
theorem marksL_mk (p : Nat) (ts : List (Int × Int)) (l : List Int) : marksL p ts l = mk p (l.map (tieAt ts)) := by unfold marksL mk; rw [List.foldl_map]
theorem nth_iota {p : Nat} {i : Int} (h0 : 0 ≤ i) (h1 : i < p) : nth (iota p) i = i := by
  have : i.toNat < p := by omega
  unfold nth iota
  rw [List.getD_eq_getElem?_getD, List.getElem?_map, List.getElem?_range this]
  simp; omega
theorem stepL_same {m : List Int} {t : Int × Int} {i j : Int} (hi : 0 ≤ i ∧ i < m.length) (hj : 0 ≤ j ∧ j < m.length) :
    nth (stepL m t) i = nth (stepL m t) j ↔ nth m i = nth m j ∨ (nth m i = nth m t.1 ∧ nth m t.2 = nth m j) ∨ (nth m i = nth m t.2 ∧ nth m t.1 = nth m j) := by
  unfold stepL
  by_cases c : nth m t.1 = nth m t.2
  · rw [if_pos c, c]
    constructor
    · exact .inl
    · rintro (h | ⟨h1, h2⟩ | ⟨h1, h2⟩)
      · exact h
      · exact h1.trans h2
      · exact h1.trans h2
  · rw [if_neg c, nth_map hi.1 hi.2, nth_map hj.1 hj.2]
    generalize nth m t.1 = a at *
    generalize nth m t.2 = b at *
    generalize nth m i = x at *
    generalize nth m j = y at *
    by_cases u1 : x = b <;> by_cases u2 : y = b <;> simp [u1, u2] <;> omega
theorem mk_conn (p : Nat) : ∀ (n : Nat) (es : List (Int × Int)), es.length = n → EndsOk p es → ∀ i j : Int, 0 ≤ i → i < p → 0 ≤ j → j < p → (nth (mk p es) i = nth (mk p es) j ↔ Conn es i j)
  | 0, es, hn, hE, i, j, i0, i1, j0, j1 => by
    obtain rfl := List.eq_nil_of_length_eq_zero hn
    show nth (iota p) i = nth (iota p) j ↔ _
    rw [nth_iota i0 i1, nth_iota j0 j1]
    constructor
    · rintro rfl; exact .refl _
    · exact conn_nil
  | n + 1, es, hn, hE, i, j, i0, i1, j0, j1 => by
    have hne : es ≠ [] := by intro z; subst z; simp at hn
    have hsp := List.dropLast_concat_getLast hne
    generalize es.dropLast = fs at hsp
    generalize es.getLast hne = t at hsp
    subst hsp
    have hf : EndsOk p fs := fun e h => hE e (List.mem_append_left _ h)
    have ht := hE t (List.mem_append_right _ (by simp))
    have ih := mk_conn p n fs (by simpa using hn) hf
    rw [mk_snoc, stepL_same ⟨i0, by rw [mk_len]; exact i1⟩ ⟨j0, by rw [mk_len]; exact j1⟩, conn_snoc, ih i j i0 i1 j0 j1, ih i t.1 i0 i1 ht.1.1 ht.1.2, ih t.2 j ht.2.1 ht.2.2 j0 j1, ih i t.2 i0 i1 ht.2.1 ht.2.2, ih t.1 j ht.1.1 ht.1.2 j0 j1]
end Lw

namespace Lw
open DL L2
theorem nodup_le : ∀ {l m : List Int}, l.Nodup → (∀ x ∈ l, x ∈ m) → l.length ≤ m.length
  | [], m, _, _ => Nat.zero_le _
  | x :: l, m, h, k => by
    have hx := k x (List.mem_cons_self ..)
    obtain ⟨h1, h2⟩ := List.nodup_cons.mp h
    have := nodup_le (l := l) (m := m.erase x) h2 fun y hy => (List.mem_erase_of_ne (fun (z : y = x) => h1 (by rw [← z]; exact hy))).mpr (k y (List.mem_cons_of_mem _ hy))
    rw [List.length_erase_of_mem hx] at this
    have hp : 0 < m.length := List.length_pos_of_mem hx
    simp only [List.length_cons]
    omega
theorem idx_nth {m : List Int} {x : Int} (h : x ∈ m) : ((m.idxOf x : Nat) : Int) < m.length ∧ nth m (m.idxOf x : Nat) = x := by
  have hl := List.idxOf_lt_length_of_mem h
  refine ⟨by omega, ?_⟩
  unfold nth
  simp [List.getD_eq_getElem?_getD, List.getElem?_eq_getElem hl, List.getElem_idxOf]
theorem sset_le {m m' : List Int} (hl : m.length = m'.length) (h : ∀ i j : Int, 0 ≤ i → i < m.length → 0 ≤ j → j < m.length → nth m i = nth m j → nth m' i = nth m' j) : (sset m').length ≤ (sset m).length := by
  have : (sset m').length ≤ ((sset m).map fun x => nth m' (m.idxOf x : Nat)).length := by
    refine nodup_le (rise_nodup (sset_rise m')) fun y hy => ?_
    obtain ⟨i, i0, i1, rfl⟩ := mem_nth ((sset_mem y m').mp hy)
    have hx : nth m i ∈ m := nth_mem i0 (by omega)
    obtain ⟨k1, k2⟩ := idx_nth hx
    refine List.mem_map.mpr ⟨nth m i, (sset_mem _ m).mpr hx, ?_⟩
    exact h _ i (by omega) k1 i0 (by omega) k2
  simpa using this
theorem same_cnt {p : Nat} {m m' : List Int} (h : SameP p m m') (hm : m.length = p) (hm' : m'.length = p) : (sset m).length = (sset m').length :=
  Nat.le_antisymm (sset_le (by omega) fun i j i0 i1 j0 j1 e => (h i j i0 (by omega) j0 (by omega)).mpr e) (sset_le (by omega) fun i j i0 i1 j0 j1 e => (h i j i0 (by omega) j0 (by omega)).mp e)
def cnt (p : Nat) (es : List (Int × Int)) : Nat := (sset (mk p es)).length
theorem cnt_le {p : Nat} {es fs : List (Int × Int)} (h1 : EndsOk p es) (h2 : EndsOk p fs) (h : ∀ e ∈ es, Conn fs e.1 e.2) : cnt p fs ≤ cnt p es := by
  refine sset_le (by rw [mk_len, mk_len]) fun i j i0 i1 j0 j1 e => ?_
  rw [mk_len] at i1 j1
  rw [mk_conn p _ es rfl h1 i j i0 i1 j0 j1] at e
  exact (mk_conn p _ fs rfl h2 i j i0 i1 j0 j1).mpr (e.le h)
theorem cnt_eq {p : Nat} {es fs : List (Int × Int)} (h1 : EndsOk p es) (h2 : EndsOk p fs) (h : ∀ e ∈ es, Conn fs e.1 e.2) (h' : ∀ e ∈ fs, Conn es e.1 e.2) : cnt p es = cnt p fs :=
  Nat.le_antisymm (cnt_le h2 h1 h') (cnt_le h1 h2 h)
theorem cnt_set {p : Nat} {es fs : List (Int × Int)} (h1 : EndsOk p es) (h2 : EndsOk p fs) (h : ∀ e, e ∈ es ↔ e ∈ fs) : cnt p es = cnt p fs :=
  cnt_eq h1 h2 (fun e he => .tie ((h e).mp he)) fun e he => .tie ((h e).mpr he)
theorem cnt_nil (p : Nat) : cnt p [] = p := by
  show (sset (iota p)).length = p
  rw [rise_uniq (sset_rise (iota p)) (m := iota p) ?_ fun k => sset_mem k _]
  · simp
  · unfold iota
    rw [List.pairwise_map]
    exact List.pairwise_lt_range.imp fun h => by omega
theorem cnt_same {p : Nat} {es : List (Int × Int)} {t : Int × Int} (h : EndsOk p (es ++ [t])) (c : Conn es t.1 t.2) : cnt p (es ++ [t]) = cnt p es := by
  refine cnt_eq h (fun e he => h e (List.mem_append_left _ he)) (fun e he => ?_) fun e he => .tie (List.mem_append_left _ he)
  rcases List.mem_append.mp he with z | z
  · exact .tie z
  · simp at z; subst z; exact c
theorem sset_step {m : List Int} {t : Int × Int} (h1 : 0 ≤ t.1 ∧ t.1 < m.length) (h2 : 0 ≤ t.2 ∧ t.2 < m.length) (n : nth m t.1 ≠ nth m t.2) : (sset (stepL m t)).length + 1 = (sset m).length := by
  have hb : nth m t.2 ∈ sset m := (sset_mem _ m).mpr (nth_mem h2.1 h2.2)
  have nd := rise_nodup (sset_rise m)
  have e : sset (stepL m t) = (sset m).erase (nth m t.2) := by
    refine rise_uniq (sset_rise _) ((sset_rise m).sublist List.erase_sublist) fun k => ?_
    rw [sset_mem, nd.mem_erase_iff, sset_mem]
    unfold stepL
    rw [if_neg n, List.mem_map]
    constructor
    · rintro ⟨x, hx, rfl⟩
      by_cases c : x = nth m t.2
      · rw [if_pos c]; exact ⟨n, nth_mem h1.1 h1.2⟩
      · rw [if_neg c]; exact ⟨c, hx⟩
    · rintro ⟨c, hx⟩
      exact ⟨k, hx, if_neg c⟩
  rw [e, List.length_erase_of_mem hb]
  have := List.length_pos_of_mem hb
  omega
theorem cnt_new {p : Nat} {es : List (Int × Int)} {t : Int × Int} (h : EndsOk p (es ++ [t])) (c : ¬ Conn es t.1 t.2) : cnt p (es ++ [t]) + 1 = cnt p es := by
  have ht := h t (by simp)
  have hf : EndsOk p es := fun e he => h e (List.mem_append_left _ he)
  unfold cnt
  rw [mk_snoc]
  refine sset_step ⟨ht.1.1, by rw [mk_len]; exact ht.1.2⟩ ⟨ht.2.1, by rw [mk_len]; exact ht.2.2⟩ fun e => c ?_
  exact (mk_conn p _ es rfl hf t.1 t.2 ht.1.1 ht.1.2 ht.2.1 ht.2.2).mp e
theorem cnt_pos {p : Nat} (hp : 1 ≤ p) (es : List (Int × Int)) : 1 ≤ cnt p es := by
  have : nth (mk p es) 0 ∈ sset (mk p es) := (sset_mem _ _).mpr (nth_mem (Int.le_refl 0) (by rw [mk_len]; omega))
  exact List.length_pos_of_mem this
theorem snoc_of {α : Type} {es : List α} {n : Nat} (h : es.length = n + 1) : ∃ fs t, es = fs ++ [t] ∧ fs.length = n := by
  have hne : es ≠ [] := by intro z; subst z; simp at h
  exact ⟨es.dropLast, es.getLast hne, (List.dropLast_concat_getLast hne).symm, by simp; omega⟩
theorem cnt_lo (p : Nat) : ∀ (n : Nat) (es : List (Int × Int)), es.length = n → EndsOk p es → p ≤ cnt p es + n
  | 0, es, hn, hE => by
    obtain rfl := List.eq_nil_of_length_eq_zero hn
    rw [cnt_nil]; omega
  | n + 1, es, hn, hE => by
    obtain ⟨fs, t, rfl, hl⟩ := snoc_of hn
    have ih := cnt_lo p n fs hl fun e he => hE e (List.mem_append_left _ he)
    by_cases c : Conn fs t.1 t.2
    · rw [cnt_same hE c]; omega
    · have := cnt_new hE c; omega
theorem cnt_one {p : Nat} (hp : 1 ≤ p) {es : List (Int × Int)} (hE : EndsOk p es) : cnt p es = 1 ↔ ∀ i j : Int, 0 ≤ i → i < p → 0 ≤ j → j < p → Conn es i j := by
  unfold cnt
  rw [sset_one (by rw [mk_len]; exact hp), mk_len]
  constructor
  · intro h i j i0 i1 j0 j1
    exact (mk_conn p _ es rfl hE i j i0 i1 j0 j1).mp ((h i i0 i1).trans (h j j0 j1).symm)
  · intro h i i0 i1
    exact (mk_conn p _ es rfl hE i 0 i0 i1 (by omega) (by omega)).mpr (h i 0 i0 i1 (by omega) (by omega))
def tiesAt (ts : List (Int × Int)) (l : List Int) : List (Int × Int) := l.map (tieAt ts)
theorem tiesAt_ok {p : Int} {ts : List (Int × Int)} (hE : EndsOk p ts) {l : List Int} (hl : InT ts.length l) : EndsOk p (tiesAt ts l) := fun e he => by
  obtain ⟨t, ht, rfl⟩ := List.mem_map.mp he
  obtain ⟨t0, t1⟩ := hl t ht
  exact hE _ (tie_at t0 t1).2
theorem cntM (p : Nat) (ts : List (Int × Int)) (hE : EndsOk p ts) (l : List Int) (hl : InT ts.length l) : (sset (marksM p ts l)).length = cnt p (tiesAt ts l) := by
  rw [same_cnt (same_marks p ts hE l hl) (marksM_len ..) (marksL_len ..), marksL_mk]; rfl
theorem nthM (p : Nat) (ts : List (Int × Int)) (hE : EndsOk p ts) (l : List Int) (hl : InT ts.length l) (i j : Int) (i0 : 0 ≤ i) (i1 : i < p) (j0 : 0 ≤ j) (j1 : j < p) : nth (marksM p ts l) i = nth (marksM p ts l) j ↔ Conn (tiesAt ts l) i j := by
  rw [same_marks p ts hE l hl i j i0 i1 j0 j1, marksL_mk]
  exact mk_conn p _ _ rfl (tiesAt_ok hE hl) i j i0 i1 j0 j1
theorem nthL (p : Nat) (ts : List (Int × Int)) (hE : EndsOk p ts) (l : List Int) (hl : InT ts.length l) (i j : Int) (i0 : 0 ≤ i) (i1 : i < p) (j0 : 0 ≤ j) (j1 : j < p) : nth (marksL p ts l) i = nth (marksL p ts l) j ↔ Conn (tiesAt ts l) i j := by
  rw [marksL_mk]
  exact mk_conn p _ _ rfl (tiesAt_ok hE hl) i j i0 i1 j0 j1
def treeB (p : Int) (ts : List (Int × Int)) (l : List Int) : Bool := decide ((l.length : Int) = p - 1) && goodB ts.length l && decide (cnt p.toNat (tiesAt ts l) = 1)
end Lw

noncomputable section
namespace Lw
open DL
def f_is_tree_l1 : Env → Out := sSeq (sIf (tOr_ (tC2 cLe (eVar 3) (eVar 2)) (tC2 cGe (eVar 3) (eCall caLen (aCons (eUn (opFld 14 1) (eVar 0)) (aNil))))) (sRet (eC (.bl false))) (sNil)) (sAsgF 2 (eVar 3))
def f_is_tree : Env → Out := sSeq (sIf (tC2 cNe (eCall caLen (aCons (eVar 1) (aNil))) (eBin opSub (eUn (opFld 14 0) (eVar 0)) (eC (.int 1)))) (sRet (eC (.bl false))) (sNil)) (sSeq (sAsgF 2 (eUn opNeg (eC (.int 1)))) (sSeq (sFor (iSeq (eVar 1)) (gtN 3) f_is_tree_l1) (sRet (eB (tC2 cEq (eLenSet (eOwn g_marks_over (aCons (eVar 0) (aCons (eVar 1) (aNil))))) (eC (.int 1)))))))
def g_is_tree : List D → Res D := runF f_is_tree 4
end Lw
end

namespace Lw
open DL L2
theorem tree_l1 (p : Int) (ts : List (Int × Int)) (x1 : D) : ∀ (l : List Int) (a : Int) (y3 : D),
    (goodAux ts.length a l = true ∧ ∃ z2 z3, forL (gtN 3) f_is_tree_l1 (l.map D.int) [.ob 14 [.int p, .ls (ts.map dP)], x1, .int a, y3] = .nx [.ob 14 [.int p, .ls (ts.map dP)], x1, z2, z3]) ∨
    (goodAux ts.length a l = false ∧ forL (gtN 3) f_is_tree_l1 (l.map D.int) [.ob 14 [.int p, .ls (ts.map dP)], x1, .int a, y3] = .rt (.bl false))
  | [], a, y3 => .inl ⟨rfl, .int a, y3, by simp [forL]⟩
  | x :: l, a, y3 => by
    by_cases c1 : x ≤ a
    · exact .inr ⟨by simp [goodAux, c1], by simp [forL, f_is_tree_l1, c1]⟩
    · by_cases c2 : (ts.length : Int) ≤ x
      · exact .inr ⟨by simp [goodAux, c2], by simp [forL, f_is_tree_l1, c1, c2]⟩
      · have e : goodAux ts.length a (x :: l) = goodAux ts.length x l := by simp [goodAux, c1, c2]
        have e2 : forL (gtN 3) f_is_tree_l1 ((x :: l).map D.int) [.ob 14 [.int p, .ls (ts.map dP)], x1, .int a, y3] = forL (gtN 3) f_is_tree_l1 (l.map D.int) [.ob 14 [.int p, .ls (ts.map dP)], x1, .int x, .int x] := by
          simp [forL, f_is_tree_l1, c1, c2]
        rw [e, e2]
        exact tree_l1 p ts x1 l x (.int x)
theorem is_tree_ls (p : Int) (ts : List (Int × Int)) (hE : EndsOk p ts) (h1 : 1 ≤ p) (h2 : p ≤ 1000) (l : List Int) : g_is_tree [.ob 14 [.int p, .ls (ts.map dP)], .ls (l.map D.int)] = .ok (.bl (treeB p ts l)) := by
  by_cases c : (l.length : Int) = p - 1
  · rcases tree_l1 p ts (.ls (l.map D.int)) l (-1) .un with ⟨h, z2, z3, e⟩ | ⟨h, e⟩
    · have hg : goodB ts.length l = true := h
      have mo := marks_ok_ls p ts hE h1 h2 l (good_in hg)
      have hz : p ≤ 4000 := by omega
      have hE' : EndsOk (p.toNat : Int) ts := by rw [show (p.toNat : Int) = p by omega]; exact hE
      have hc := cntM p.toNat ts hE' l (good_in hg)
      simp [g_is_tree, runF, f_is_tree, c, e, mo, marksM_len, hz, treeB, hg, hc]
      omega
    · have hg : goodB ts.length l = false := h
      simp [g_is_tree, runF, f_is_tree, c, e, treeB, hg]
  · simp [g_is_tree, runF, f_is_tree, c, treeB]
theorem is_tree_tp (p : Int) (ts : List (Int × Int)) (hE : EndsOk p ts) (h1 : 1 ≤ p) (h2 : p ≤ 1000) (l : List Int) : g_is_tree [.ob 14 [.int p, .ls (ts.map dP)], .tp (l.map D.int)] = .ok (.bl (treeB p ts l)) := by
  by_cases c : (l.length : Int) = p - 1
  · rcases tree_l1 p ts (.tp (l.map D.int)) l (-1) .un with ⟨h, z2, z3, e⟩ | ⟨h, e⟩
    · have hg : goodB ts.length l = true := h
      have mo := marks_ok_tp p ts hE h1 h2 l (good_in hg)
      have hz : p ≤ 4000 := by omega
      have hE' : EndsOk (p.toNat : Int) ts := by rw [show (p.toNat : Int) = p by omega]; exact hE
      have hc := cntM p.toNat ts hE' l (good_in hg)
      simp [g_is_tree, runF, f_is_tree, c, e, mo, marksM_len, hz, treeB, hg, hc]
      omega
    · have hg : goodB ts.length l = false := h
      simp [g_is_tree, runF, f_is_tree, c, e, treeB, hg]
  · simp [g_is_tree, runF, f_is_tree, c, treeB]
end Lw

noncomputable section
namespace Lw
open DL
def f_law_tree_by_l1 : Env → Out := sSeq (sPop 7 3 (eBin opMod (eOwn g_law_mixed (aCons (eVar 2) (aCons (eBin opAdd (eC (.int 500)) (eVar 6)) (aNil)))) (eCall caLen (aCons (eVar 3) (aNil))))) (sSeq (sAsgT (gtT 2 (gtCons (gtN 8) (gtCons (gtN 9) (gtNil)))) (eBin opIx (eVar 1) (eVar 7))) (sIf (tC2 cNe (eBin opIx (eVar 5) (eVar 8)) (eBin opIx (eVar 5) (eVar 9))) (sSeq (sApp 4 (eVar 7)) (sAsgF 5 (eOwn g_law_marks (aCons (eVar 0) (aCons (eVar 1) (aCons (eVar 4) (aNil))))))) (sNil)))
def f_law_tree_by : Env → Out := sSeq (sAsg 3 (eLR1 (eCall caLen (aCons (eVar 1) (aNil))))) (sSeq (sAsg 4 (eLst (aNil))) (sSeq (sAsgF 5 (eLR1 (eVar 0))) (sSeq (sFor (iRg1 (aCons (eCall caLen (aCons (eVar 1) (aNil))) (aNil))) (gtN 6) f_law_tree_by_l1) (sSeq (sIf (tC2 cGt (eLenSet (eVar 5)) (eC (.int 1))) (sRet (eC .non)) (sNil)) (sRet (eCall caTuple (aCons (eCall caSorted3 (aCons (eVar 4) (aNil))) (aNil))))))))
def g_law_tree_by : List D → Res D := runF f_law_tree_by 10
end Lw
end

namespace Lw
open DL L2
theorem goodAux_of {n : Int} : ∀ {l : List Int} {a : Int}, (∀ x ∈ l, a < x ∧ x < n) → l.Pairwise (· < ·) → goodAux n a l = true
  | [], _, _, _ => rfl
  | x :: l, a, h, hp => by
    obtain ⟨h1, h2⟩ := List.pairwise_cons.mp hp
    have hx := h x (List.mem_cons_self ..)
    simp only [goodAux, Bool.and_eq_true, Bool.not_eq_true', decide_eq_false_iff_not]
    exact ⟨⟨by omega, by omega⟩, goodAux_of (fun y hy => ⟨h1 y hy, (h y (List.mem_cons_of_mem _ hy)).2⟩) h2⟩
theorem good_of {n : Nat} {l : List Int} (h : InT n l) (hp : l.Pairwise (· < ·)) : goodB n l = true :=
  goodAux_of (fun x hx => ⟨by have := h x hx; omega, (h x hx).2⟩) hp
theorem srt_mem {l : List Int} {x : Int} : x ∈ srt l ↔ x ∈ l := (srt_perm l).mem_iff
theorem srt_lt {l : List Int} (h : l.Nodup) : (srt l).Pairwise (· < ·) := by
  have h1 := srt_sorted l
  have h2 : (srt l).Nodup := (srt_perm l).nodup_iff.mpr h
  exact (h1.and h2).imp fun ⟨a, b⟩ => by omega
theorem srt_good {n : Nat} {l : List Int} (h : InT n l) (hn : l.Nodup) : goodB n (srt l) = true := good_of (fun t ht => h t (srt_mem.mp ht)) (srt_lt hn)
theorem tiesAt_mem {ts : List (Int × Int)} {l m : List Int} (h : ∀ x, x ∈ l ↔ x ∈ m) : ∀ e, e ∈ tiesAt ts l ↔ e ∈ tiesAt ts m := fun e => by
  unfold tiesAt
  simp only [List.mem_map, h]
theorem iota_nodup (n : Nat) : (iota n).Nodup := by
  unfold iota
  exact List.Pairwise.map _ (fun a b h => by omega) List.nodup_range
theorem iota_mem {n : Nat} {x : Int} : x ∈ iota n ↔ 0 ≤ x ∧ x < n := by
  unfold iota
  simp only [List.mem_map, List.mem_range]
  constructor
  · rintro ⟨a, h, rfl⟩; omega
  · intro ⟨h0, h1⟩; exact ⟨x.toNat, by omega, by omega⟩
theorem nd_erase {l : List Int} {k : Nat} {x : Int} (h : l.Nodup) (hx : l[k]? = Option.some x) : x ∉ l.eraseIdx k := by
  obtain ⟨hk, e⟩ := List.getElem?_eq_some_iff.mp hx
  have hs : l = l.take k ++ x :: l.drop (k + 1) := by rw [← e]; simp
  rw [List.eraseIdx_eq_take_drop_succ]
  rw [hs, List.nodup_append] at h
  obtain ⟨h1, h2, h3⟩ := h
  intro m
  rcases List.mem_append.mp m with z | z
  · exact h3 x z x (by simp) rfl
  · exact (List.nodup_cons.mp h2).1 z
theorem mem_erase17 {l : List Int} {k : Nat} {x y : Int} (hx : l[k]? = Option.some x) (hy : y ∈ l) (h : y ≠ x) : y ∈ l.eraseIdx k := by
  obtain ⟨hk, e⟩ := List.getElem?_eq_some_iff.mp hx
  have hs : l = l.take k ++ x :: l.drop (k + 1) := by rw [← e]; simp
  rw [List.eraseIdx_eq_take_drop_succ]
  rw [hs] at hy
  rcases List.mem_append.mp hy with z | z
  · exact List.mem_append.mpr (.inl z)
  · rcases List.mem_cons.mp z with z | z
    · exact absurd z h
    · exact List.mem_append.mpr (.inr z)
structure Grown (p : Nat) (ts : List (Int × Int)) (i : Nat) (left some : List Int) : Prop where
  len : left.length + i = ts.length
  nd : left.Nodup
  lin : InT ts.length left
  snd : some.Nodup
  sin : InT ts.length some
  sl : ∀ x ∈ some, x ∉ left
  ct : cnt p (tiesAt ts some) + some.length = p
  al : ∀ t : Int, 0 ≤ t ∧ t < ts.length → t ∉ left → Conn (tiesAt ts some) (tieAt ts t).1 (tieAt ts t).2
theorem tree_by_l1 (p : Nat) (hp : 1 ≤ p) (hp2 : p ≤ 1000) (ts : List (Int × Int)) (hE : EndsOk p ts) (ht : ts.length ≤ 1000) (c : Int) (i : Nat) (hi : i < ts.length) (left some : List Int) (h : Grown p ts i left some) (y7 y8 y9 : D) :
    ∃ (left' some' : List Int) (z7 z8 z9 : D), Grown p ts (i + 1) left' some' ∧ f_law_tree_by_l1 [.int p, .ls (ts.map dP), .int c, .ol (left.map D.int), .ol (some.map D.int), .ls ((marksL p ts some).map D.int), .int i, y7, y8, y9] = .nx [.int p, .ls (ts.map dP), .int c, .ol (left'.map D.int), .ol (some'.map D.int), .ls ((marksL p ts some').map D.int), .int i, z7, z8, z9] := by
  have hl := h.len
  have hlp : (0 : Int) < left.length := by omega
  have hlpN : 0 < left.length := by omega
  have z0 := Int.emod_nonneg (mixF c (500 + (i : Int))) (by omega : (left.length : Int) ≠ 0)
  have z1 := Int.emod_lt_of_pos (mixF c (500 + (i : Int))) hlp
  have hm := mixed_ok c (500 + (i : Int))
  have hix : ixN left.length (mixF c (500 + (i : Int)) % (left.length : Int)) = Option.some (mixF c (500 + (i : Int)) % (left.length : Int)).toNat := ixN_nat z0 z1
  have hk : (mixF c (500 + (i : Int)) % (left.length : Int)).toNat < left.length := by omega
  generalize (mixF c (500 + (i : Int)) % (left.length : Int)).toNat = k at hix hk
  obtain ⟨x, hx⟩ : ∃ x, left[k]? = Option.some x := ⟨left[k], List.getElem?_eq_getElem hk⟩
  have hxl := h.lin x (List.mem_of_getElem? hx)
  obtain ⟨e1, e2⟩ := tie_at hxl.1 hxl.2
  obtain ⟨⟨a0, a1⟩, b0, b1⟩ := hE _ e2
  have ml : (marksL p ts some).length = p := marksL_len ..
  have ea := nth_at (m := marksL p ts some) a0 (by omega)
  have eb := nth_at (m := marksL p ts some) b0 (by omega)
  have hc := nthL p ts hE some h.sin (tieAt ts x).1 (tieAt ts x).2 a0 a1 b0 b1
  have hn := nd_erase h.nd hx
  have sle : some.length ≤ ts.length := by
    have := nodup_le (l := some) (m := iota ts.length) h.snd fun y hy => iota_mem.mpr (h.sin y hy)
    simpa using this
  have lim1 : some.length < lim := by rw [lim_eq]; omega
  have lim2 : left.length ≤ lim := by rw [lim_eq]; omega
  have hy : (List.map D.int left)[k]? = Option.some (.int x) := by rw [List.getElem?_map, hx]; rfl
  have he : (List.map D.int left).eraseIdx k = (left.eraseIdx k).map D.int := by rw [List.eraseIdx_eq_take_drop_succ, List.eraseIdx_eq_take_drop_succ]; simp
  have lin' : InT ts.length (left.eraseIdx k) := fun y hy => h.lin y ((List.eraseIdx_sublist left k).subset hy)
  have len' : (left.eraseIdx k).length + (i + 1) = ts.length := by rw [List.length_eraseIdx_of_lt hk]; omega
  by_cases q : nth (marksL p ts some) (tieAt ts x).1 = nth (marksL p ts some) (tieAt ts x).2
  · refine ⟨left.eraseIdx k, some, .int x, .int (tieAt ts x).1, .int (tieAt ts x).2, ⟨len', h.nd.sublist (List.eraseIdx_sublist ..), lin', h.snd, h.sin, fun y hy hz => h.sl y hy ((List.eraseIdx_sublist left k).subset hz), h.ct, fun t ht hz => by
      by_cases c : t = x
      · subst c; exact hc.mp q
      · exact h.al t ht fun z => hz (mem_erase17 hx z c)⟩, ?_⟩
    simp [f_law_tree_by_l1, hm, hlp, hlpN, hix, hx, he, lim2, e1, ea, eb, q]
  · have sin' : InT ts.length (some ++ [x]) := fun y hy => by
      rcases List.mem_append.mp hy with z | z
      · exact h.sin y z
      · simp at z; subst z; exact hxl
    have lm := lmarks_ok p ts hE (by omega) (by omega) (some ++ [x]) sin'
    rw [Int.toNat_natCast] at lm
    have ct' : cnt p (tiesAt ts (some ++ [x])) + (some ++ [x]).length = p := by
      have eT : tiesAt ts (some ++ [x]) = tiesAt ts some ++ [tieAt ts x] := by simp [tiesAt]
      have := cnt_new (p := p) (es := tiesAt ts some) (t := tieAt ts x) (by rw [← eT]; exact tiesAt_ok hE sin') (fun z => q (hc.mpr z))
      have := h.ct
      rw [eT]
      simp
      omega
    refine ⟨left.eraseIdx k, some ++ [x], .int x, .int (tieAt ts x).1, .int (tieAt ts x).2, ⟨len', h.nd.sublist (List.eraseIdx_sublist ..), lin', ?_, sin', fun y hy hz => ?_, ct', fun t ht hz => by
      have eT : tiesAt ts (some ++ [x]) = tiesAt ts some ++ [tieAt ts x] := by simp [tiesAt]
      rw [eT]
      by_cases c : t = x
      · subst c; exact .tie (List.mem_append.mpr (.inr (List.mem_singleton.mpr rfl)))
      · exact (h.al t ht fun z => hz (mem_erase17 hx z c)).mono fun e he => List.mem_append.mpr (.inl he)⟩, ?_⟩
    · rw [List.nodup_append]
      refine ⟨h.snd, by simp, fun a ha b hb e => ?_⟩
      simp at hb
      subst hb
      subst e
      exact h.sl a ha (List.mem_of_getElem? hx)
    · rcases List.mem_append.mp hy with z | z
      · exact h.sl y z ((List.eraseIdx_sublist left k).subset hz)
      · simp at z; subst z; exact hn hz
    · simp at lm
      simp [f_law_tree_by_l1, hm, hlp, hlpN, hix, hx, he, lim1, lim2, e1, ea, eb, q, lm, calD]
theorem grown_start (p : Nat) (ts : List (Int × Int)) : Grown p ts 0 (iota ts.length) [] := ⟨by simp, iota_nodup _, fun x hx => iota_mem.mp hx, by simp, fun _ h => (nomatch h), fun _ h => (nomatch h), by simp [tiesAt, cnt_nil], fun t ht hz => absurd (iota_mem.mpr ht) hz⟩
theorem tree_by_all (p : Int) (ts : List (Int × Int)) (hE : EndsOk p ts) (h1 : 1 ≤ p) (h2 : p ≤ 1000) (ht : ts.length ≤ 1000) (c : Int) :
    (g_law_tree_by [.int p, .ls (ts.map dP), .int c] = .ok .non ∧ 1 < cnt p.toNat ts) ∨ ∃ l : List Int, treeB p ts l = true ∧ g_law_tree_by [.int p, .ls (ts.map dP), .int c] = .ok (.tp (l.map D.int)) := by
  obtain ⟨P, rfl⟩ : ∃ P : Nat, p = P := ⟨p.toNat, by omega⟩
  have hr : rgOk (ts.length : Int) := rgOk_of (by omega) (by omega)
  have hr2 : rgOk (P : Int) := rgOk_of (by omega) (by omega)
  have h3 : (P : Int) ≤ 1000000 := by omega
  have h4 : ts.length ≤ 1000000 := by omega
  have h3' : P ≤ 1000000 := by omega
  have h4' : (ts.length : Int) ≤ 1000000 := by omega
  obtain ⟨g', e, left, so, z6, z7, z8, z9, hG, rfl⟩ := for_rngN (s := 6) (b := f_law_tree_by_l1) (lo := 0) (n := ts.length)
    (fun i g => ∃ (left so : List Int) (y6 y7 y8 y9 : D), Grown P ts i left so ∧ g = [.int P, .ls (ts.map dP), .int c, .ol (left.map D.int), .ol (so.map D.int), .ls ((marksL P ts so).map D.int), y6, y7, y8, y9])
    (g := [.int P, .ls (ts.map dP), .int c, .ol ((iota ts.length).map D.int), .ol [], .ls ((iota P).map D.int), .un, .un, .un, .un]) ⟨_, [], _, _, _, _, grown_start P ts, rfl⟩ (fun i g hi ⟨left, so, y6, y7, y8, y9, hG, hg⟩ => by
      subst hg
      obtain ⟨left', so', z7, z8, z9, hG', e⟩ := tree_by_l1 P (by omega) (by omega) ts hE ht c i hi left so hG y7 y8 y9
      exact ⟨_, .inl (by simpa using e), left', so', _, _, _, _, hG', rfl⟩)
  rw [rng_iota] at e
  have hm := hG.ct
  have hmem : ∀ e, e ∈ tiesAt ts so → e ∈ ts := fun e he => by
    obtain ⟨t, ht, rfl⟩ := List.mem_map.mp he
    obtain ⟨t0, t1⟩ := hG.sin t ht
    exact (tie_at t0 t1).2
  have hcl : cnt P ts ≤ cnt P (tiesAt ts so) := cnt_le (tiesAt_ok hE hG.sin) hE fun e he => .tie (hmem e he)
  have hcs : (sset (marksL P ts so)).length = cnt P (tiesAt ts so) := by rw [marksL_mk]; rfl
  have h5 : P ≤ 4000 := by omega
  have sle : so.length ≤ ts.length := by
    have := nodup_le (l := so) (m := iota ts.length) hG.snd fun y hy => iota_mem.mpr (hG.sin y hy)
    simpa using this
  have hs1 : (srt so).length ≤ lim := by rw [srt_len, lim_eq]; omega
  have hs2 : so.length ≤ lim := by rw [lim_eq]; omega
  have cp := cnt_pos (p := P) (by omega) (tiesAt ts so)
  by_cases q : 1 < cnt P (tiesAt ts so)
  · left
    have lf : left = [] := List.length_eq_zero_iff.mp (by have := hG.len; omega)
    have hle : cnt P (tiesAt ts so) ≤ cnt P ts := cnt_le hE (tiesAt_ok hE hG.sin) fun e he => by
      obtain ⟨i, hi, he'⟩ := List.mem_iff_getElem.mp he
      have e2 : tieAt ts (i : Int) = e := by simp [tieAt, List.getD_eq_getElem?_getD, List.getElem?_eq_getElem hi, he']
      rw [← e2]
      exact hG.al (i : Int) ⟨by omega, by omega⟩ (by rw [lf]; exact List.not_mem_nil)
    refine ⟨?_, by rw [Int.toNat_natCast]; omega⟩
    have q' : (1 : Int) < (cnt P (tiesAt ts so) : Nat) := by omega
    simp [g_law_tree_by, runF, f_law_tree_by, hr, hr2, h3, h4, h3', h4', rng_iota, e, marksL_len, hcs, h5, q']
  · right
    have q1 : cnt P (tiesAt ts so) = 1 := by omega
    refine ⟨srt so, ?_, ?_⟩
    · have : cnt P (tiesAt ts (srt so)) = 1 := by
        rw [← q1]
        exact cnt_set (tiesAt_ok hE fun t ht => hG.sin t (srt_mem.mp ht)) (tiesAt_ok hE hG.sin) (tiesAt_mem fun x => srt_mem)
      simp only [treeB, Int.toNat_natCast, this, srt_good hG.sin hG.snd, srt_len, decide_true, Bool.and_true, decide_eq_true_eq]
      omega
    · simp [g_law_tree_by, runF, f_law_tree_by, hr, hr2, h3, h4, h3', h4', rng_iota, e, marksL_len, hcs, h5, q1, srt_len, hs2]
theorem tree_by_ok (p : Int) (ts : List (Int × Int)) (hE : EndsOk p ts) (h1 : 1 ≤ p) (h2 : p ≤ 1000) (ht : ts.length ≤ 1000) (c : Int) :
    g_law_tree_by [.int p, .ls (ts.map dP), .int c] = .ok .non ∨ ∃ l : List Int, treeB p ts l = true ∧ g_law_tree_by [.int p, .ls (ts.map dP), .int c] = .ok (.tp (l.map D.int)) := by
  rcases tree_by_all p ts hE h1 h2 ht c with h | h
  · exact .inl h.1
  · exact .inr h
end Lw

noncomputable section
namespace Lw
open DL
def f_look_at_tree : Env → Out := sIf (tNo (tTr (eOwn g_is_tree (aCons (eVar 0) (aCons (eVar 1) (aNil)))))) (sRaise 4) (sNil)
def g_look_at_tree : List D → Res D := runF f_look_at_tree 2
def f_without_tie_c1 : Env → Res D := eVar 2
def f_without_tie_c1t : Env → Res Bool := tC2 cNe (eVar 2) (eVar 1)
def f_without_tie : Env → Out := sRet (eCall caTuple (aCons (eLc (iSeq (eVar 0)) [2] (gtN 2) (f_without_tie_c1t) f_without_tie_c1) (aNil)))
def g_without_tie : List D → Res D := runF f_without_tie 3
end Lw
end

noncomputable section
namespace Lw
open DL
def f_cut_of_c1 : Env → Res D := eVar 4
def f_cut_of_c1t : Env → Res Bool := tC2 cNe (eBin opIx (eVar 3) (eBin opIx (eVar 5) (eC (.int 0)))) (eBin opIx (eVar 3) (eBin opIx (eVar 5) (eC (.int 1))))
def f_cut_of : Env → Out := sSeq (sExp (eOwn g_look_at_tree (aCons (eVar 0) (aCons (eVar 1) (aNil))))) (sSeq (sIf (tC2 cNIn (eVar 2) (eVar 1)) (sRaise 5) (sNil)) (sSeq (sAsgF 3 (eOwn g_marks_over (aCons (eVar 0) (aCons (eOwn g_without_tie (aCons (eVar 1) (aCons (eVar 2) (aNil)))) (aNil))))) (sRet (eCall caTuple (aCons (eLc (iEnm (aCons (eUn (opFld 14 1) (eVar 0)) (aNil))) [4, 5] (gtT 2 (gtCons (gtN 4) (gtCons (gtN 5) (gtNil)))) (f_cut_of_c1t) f_cut_of_c1) (aNil))))))
def g_cut_of : List D → Res D := runF f_cut_of 6
end Lw
end

namespace Lw
open DL L2
def LT (o : D) (l : List Int) : Prop := o = .ls (l.map D.int) ∨ o = .tp (l.map D.int)
def wo (l : List Int) (t : Int) : List Int := l.filter fun x => !decide (x = t)
theorem wo_in {n : Nat} {l : List Int} (h : InT n l) (t : Int) : InT n (wo l t) := fun x hx => h x ((List.mem_filter.mp hx).1)
theorem wo_len (l : List Int) (t : Int) : (wo l t).length ≤ l.length := List.length_filter_le ..
theorem is_tree_LT {o : D} (p : Int) (ts : List (Int × Int)) (hE : EndsOk p ts) (h1 : 1 ≤ p) (h2 : p ≤ 1000) (l : List Int) (ho : LT o l) : g_is_tree [.ob 14 [.int p, .ls (ts.map dP)], o] = .ok (.bl (treeB p ts l)) := by
  rcases ho with rfl | rfl
  · exact is_tree_ls p ts hE h1 h2 l
  · exact is_tree_tp p ts hE h1 h2 l
theorem LT_shd {o : D} {l : List Int} (ho : LT o l) : shd1 o = true ∧ brw o = o ∧ opd o = o := by rcases ho with rfl | rfl <;> simp
theorem look_ok {o : D} (p : Int) (ts : List (Int × Int)) (hE : EndsOk p ts) (h1 : 1 ≤ p) (h2 : p ≤ 1000) (l : List Int) (ho : LT o l) (h : treeB p ts l = true) : g_look_at_tree [.ob 14 [.int p, .ls (ts.map dP)], o] = .ok .non := by
  have e := is_tree_LT p ts hE h1 h2 l ho
  rcases ho with rfl | rfl <;> simp [g_look_at_tree, runF, f_look_at_tree, e, h]
theorem without_ok {o : D} (l : List Int) (ho : LT o l) (hl : l.length ≤ 1000) (t : Int) : g_without_tie [o, .int t] = .ok (.tp ((wo l t).map D.int)) := by
  have b1 : l.length ≤ lim := by rw [lim_eq]; omega
  have b2 : (wo l t).length ≤ lim := by have := wo_len l t; omega
  have lc : ∀ g : Env, 2 < g.length → g[1]? = some (.int t) → lcL (gtN 2) f_without_tie_c1t f_without_tie_c1 g (l.map D.int) = .ok ((wo l t).map D.int) := fun g hg e1 => by
    refine lcL_filterN l fun x _ => ?_
    have e2 : (g.set 2 (.int x))[2]? = some (.int x) := by rw [List.getElem?_set_self hg]
    have e3 : (g.set 2 (.int x))[1]? = some (.int t) := by rw [List.getElem?_set_ne (by decide)]; exact e1
    exact ⟨by simp [f_without_tie_c1t, e2, e3], fun _ => by simp [f_without_tie_c1, e2]⟩
  rcases ho with rfl | rfl <;> simp [g_without_tie, runF, f_without_tie, lc, b1, b2]
def onR (p : Nat) (ts : List (Int × Int)) (l : List Int) (t : Int) (x : Int) : Bool := !decide (nth (marksM p ts (wo l x)) (tieAt ts t).1 = nth (marksM p ts (wo l x)) (tieAt ts t).2)
theorem tree_parts {p : Int} {ts : List (Int × Int)} {l : List Int} (h : treeB p ts l = true) : (l.length : Int) = p - 1 ∧ goodB ts.length l = true ∧ InT ts.length l ∧ cnt p.toNat (tiesAt ts l) = 1 := by
  simp only [treeB, Bool.and_eq_true, decide_eq_true_eq] at h
  exact ⟨h.1.1, h.1.2, good_in h.1.2, h.2⟩
def inC (p : Nat) (ts : List (Int × Int)) (l : List Int) (t : Int) (x : Int) : Bool := !decide (nth (marksM p ts (wo l t)) (tieAt ts x).1 = nth (marksM p ts (wo l t)) (tieAt ts x).2)
def cutL (p : Int) (ts : List (Int × Int)) (l : List Int) (t : Int) : List Int := (iota ts.length).filter (inC p.toNat ts l t)
theorem enm_iota (ts : List (Int × Int)) : enm 0 (ts.map dP) = (iota ts.length).map fun i => (.tp [.int i, dP (tieAt ts i)] : D) := by
  have : ∀ (l pre : List (Int × Int)), ts = pre ++ l → enm pre.length (l.map dP) = (List.range l.length).map fun j => (.tp [.int ((pre.length + j : Nat) : Int), dP (tieAt ts ((pre.length + j : Nat) : Int))] : D) := by
    intro l
    induction l with
    | nil => intro pre _; simp [enm]
    | cons t l ih =>
      intro pre e
      have := ih (pre ++ [t]) (by rw [e]; simp)
      rw [List.map_cons, enm, List.length_cons, List.range_succ_eq_map, List.map_cons, List.map_map]
      simp only [List.length_append, List.length_cons, List.length_nil, Nat.zero_add] at this
      rw [this]
      have et : tieAt ts ((pre.length : Nat) : Int) = t := by simp [tieAt, e]
      simp only [Nat.add_zero, et]
      congr 1
      refine List.map_congr_left fun j _ => ?_
      simp only [Function.comp, Nat.succ_eq_add_one]
      rw [show pre.length + 1 + j = pre.length + (j + 1) by omega]
  have h := this ts [] rfl
  simp only [List.length_nil, Nat.zero_add] at h
  rw [h]
  unfold iota
  rw [List.map_map]
  rfl
theorem cut_ok {o : D} (p : Int) (ts : List (Int × Int)) (hE : EndsOk p ts) (h1 : 1 ≤ p) (h2 : p ≤ 1000) (ht : ts.length ≤ 1000) (l : List Int) (ho : LT o l) (h : treeB p ts l = true) (t : Int) :
    g_cut_of [.ob 14 [.int p, .ls (ts.map dP)], o, .int t] = if t ∈ l then .ok (.tp ((cutL p ts l t).map D.int)) else .xc 5 := by
  obtain ⟨k1, k2, k3, k4⟩ := tree_parts h
  have lk := look_ok p ts hE h1 h2 l ho h
  obtain ⟨s1, s2, s3⟩ := LT_shd ho
  by_cases c : t ∈ l
  · rw [if_pos c]
    have w := without_ok l ho (by omega) t
    have mo := marks_ok_tp p ts hE h1 h2 (wo l t) (wo_in k3 t)
    have ml : (marksM p.toNat ts (wo l t)).length = p.toNat := marksM_len ..
    have b1 : ts.length ≤ lim := by rw [lim_eq]; omega
    have b2 : (cutL p ts l t).length ≤ lim := by
      have := List.length_filter_le (inC p.toNat ts l t) (iota ts.length)
      unfold cutL
      rw [iota_len] at this
      omega
    have lc : ∀ x0 x1 x2 : D, lcL (gtT 2 (gtCons (gtN 4) (gtCons (gtN 5) (gtNil)))) f_cut_of_c1t f_cut_of_c1 [x0, x1, x2, .ls ((marksM p.toNat ts (wo l t)).map D.int), .un, .un] (enm 0 (ts.map dP)) = .ok ((cutL p ts l t).map D.int) := fun x0 x1 x2 => by
      rw [enm_iota]
      refine lcL_filter (iota ts.length) fun i hi => ?_
      obtain ⟨i0, i1⟩ := iota_mem.mp hi
      obtain ⟨e1, e2⟩ := tie_at i0 i1
      obtain ⟨⟨a0, a1⟩, b0, b1⟩ := hE _ e2
      have ea := nth_at (m := marksM p.toNat ts (wo l t)) a0 (by omega)
      have eb := nth_at (m := marksM p.toNat ts (wo l t)) b0 (by omega)
      exact ⟨[x0, x1, x2, .ls ((marksM p.toNat ts (wo l t)).map D.int), .int i, dP (tieAt ts i)], rfl, by simp [f_cut_of_c1t, ea, eb, inC], fun _ => by simp [f_cut_of_c1]⟩
    rcases ho with rfl | rfl <;> simp [g_cut_of, runF, f_cut_of, lk, c, w, mo, lc, b1, b2, enm_len]
  · rw [if_neg c]
    rcases ho with rfl | rfl <;> simp [g_cut_of, runF, f_cut_of, lk, c]
end Lw

noncomputable section
namespace Lw
open DL
def f_look_at_lengths : Env → Out := sIf (tC2 cNe (eCall caLen (aCons (eVar 1) (aNil))) (eCall caLen (aCons (eUn (opFld 14 1) (eVar 0)) (aNil)))) (sRaise 9) (sNil)
def g_look_at_lengths : List D → Res D := runF f_look_at_lengths 2
end Lw
end

namespace Lw
open DL L2
theorem look_lens_ok {o : D} (p : D) (ts : List D) (l : List Int) (ho : LT o l) (h : l.length = ts.length) : g_look_at_lengths [.ob 14 [p, .ls ts], o] = .ok .non := by
  rcases ho with rfl | rfl <;> simp [g_look_at_lengths, runF, f_look_at_lengths, h]
end Lw

noncomputable section
namespace Lw
open DL
end Lw
end

namespace Lw
open DL L2 TL
section
variable (L : List (List Int))
@[simp] theorem brws_T : brws (L.map dT) = L.map dT := (dulls dull_T L).1
@[simp] theorem frzs_T : frzs (L.map dT) = L.map dT := (dulls dull_T L).2.1
@[simp] theorem plns_T : plns (L.map dT) = L.map dT := (dulls dull_T L).2.2.1
@[simp] theorem nods_T : nods (L.map dT) = true := (dulls dull_T L).2.2.2.1
@[simp] theorem shd_T : shd (L.map dT) = true := (dulls dull_T L).2.2.2.2.1
@[simp] theorem ploks_T : ploks (L.map dT) = true := (dulls dull_T L).2.2.2.2.2
end
theorem goodAux_rise {n : Int} : ∀ {l : List Int} {a : Int}, goodAux n a l = true → (∀ x ∈ l, a < x) ∧ l.Pairwise (· < ·)
  | [], _, _ => ⟨fun _ h => (nomatch h), .nil⟩
  | x :: l, a, g => by
    simp only [goodAux, Bool.and_eq_true, Bool.not_eq_true', decide_eq_false_iff_not] at g
    obtain ⟨h1, h2⟩ := goodAux_rise g.2
    refine ⟨fun y hy => ?_, List.pairwise_cons.mpr ⟨h1, h2⟩⟩
    rcases List.mem_cons.mp hy with rfl | hy
    · omega
    · have := h1 y hy; omega
theorem good_iff {n : Nat} {l : List Int} : goodB n l = true ↔ InT n l ∧ l.Pairwise (· < ·) := ⟨fun h => ⟨good_in h, (goodAux_rise h).2⟩, fun h => good_of h.1 h.2⟩
theorem good_nodup {n : Nat} {l : List Int} (h : goodB n l = true) : l.Nodup := rise_nodup (good_iff.mp h).2
def allB (q : Nat) : Nat → List (List Int)
  | 0 => [[]]
  | k + 1 => allB q k ++ ((allB q k).filter fun l => decide (l.length < q)).map (· ++ [(k : Int)])
theorem allB_mem (q : Nat) : ∀ (k : Nat) (l : List Int), l ∈ allB q k ↔ l.length ≤ q ∧ goodB k l = true
  | 0, l => by
    simp only [allB, List.mem_singleton]
    constructor
    · rintro rfl; simp [goodB, goodAux]
    · rintro ⟨_, h⟩
      match l, good_in h with
      | [], _ => rfl
      | x :: l, h => have := h x (List.mem_cons_self ..); omega
  | k + 1, l => by
    simp only [allB, List.mem_append, List.mem_map, List.mem_filter, decide_eq_true_eq, allB_mem q k]
    constructor
    · rintro (⟨h1, h2⟩ | ⟨m, ⟨⟨h1, h2⟩, h3⟩, rfl⟩)
      · obtain ⟨k1, k2⟩ := good_iff.mp h2
        exact ⟨h1, good_of (fun t ht => by have := k1 t ht; omega) k2⟩
      · obtain ⟨k1, k2⟩ := good_iff.mp h2
        refine ⟨by simp; omega, good_of (fun t ht => ?_) ?_⟩
        · rcases List.mem_append.mp ht with z | z
          · have := k1 t z; omega
          · simp at z; omega
        · rw [List.pairwise_append]
          exact ⟨k2, List.pairwise_singleton _ _, fun a ha b hb => by simp at hb; have := k1 a ha; omega⟩
    · rintro ⟨h1, h2⟩
      obtain ⟨k1, k2⟩ := good_iff.mp h2
      by_cases hk : (k : Int) ∈ l
      · right
        have hne : l ≠ [] := List.ne_nil_of_mem hk
        have hs := List.dropLast_concat_getLast hne
        generalize l.dropLast = m at hs
        generalize l.getLast hne = x at hs
        subst hs
        rw [List.pairwise_append] at k2
        obtain ⟨p1, _, p3⟩ := k2
        have hx := k1 x (by simp)
        have ex : x = (k : Int) := by
          rcases List.mem_append.mp hk with z | z
          · have := p3 _ z x (by simp); omega
          · simp at z; exact z.symm
        subst ex
        refine ⟨m, ⟨⟨by simp at h1; omega, good_of (fun t ht => ?_) p1⟩, by simp at h1; omega⟩, rfl⟩
        have a := k1 t (List.mem_append_left _ ht)
        have b := p3 t ht (k : Int) (by simp)
        omega
      · left
        refine ⟨h1, good_of (fun t ht => ?_) k2⟩
        have := k1 t ht
        have ne : t ≠ (k : Int) := fun z => hk (z ▸ ht)
        omega
theorem allB_nodup (q : Nat) : ∀ k : Nat, (allB q k).Nodup
  | 0 => by simp [allB]
  | k + 1 => by
    simp only [allB]
    rw [List.nodup_append]
    refine ⟨allB_nodup q k, ?_, fun a ha b hb e => ?_⟩
    · refine List.Pairwise.map _ (fun a b h e => h ?_) ((allB_nodup q k).filter _)
      simpa using e
    · obtain ⟨m, _, rfl⟩ := List.mem_map.mp hb
      subst e
      have := good_in ((allB_mem q k _).mp ha).2 (k : Int) (by simp)
      omega
theorem tree_parts' {p : Nat} {ts : List (Int × Int)} {l : List Int} (h : treeB p ts l = true) : (l.length : Int) = p - 1 ∧ goodB ts.length l = true ∧ InT ts.length l ∧ cnt p (tiesAt ts l) = 1 := by
  simp only [treeB, Bool.and_eq_true, decide_eq_true_eq, Int.toNat_natCast] at h
  exact ⟨h.1.1, h.1.2, good_in h.1.2, h.2⟩
def trees (p : Nat) (ts : List (Int × Int)) : List (List Int) := srtL ((allB (p - 1) ts.length).filter (treeB p ts))
theorem trees_mem {p : Nat} (hp : 1 ≤ p) {ts : List (Int × Int)} {l : List Int} : l ∈ trees p ts ↔ treeB p ts l = true := by
  unfold trees
  rw [(srtL_perm _).mem_iff, List.mem_filter, allB_mem]
  constructor
  · exact fun h => h.2
  · intro h
    obtain ⟨k1, k2, _⟩ := tree_parts' h
    exact ⟨⟨by omega, k2⟩, h⟩
theorem trees_nodup (p : Nat) (ts : List (Int × Int)) : (trees p ts).Nodup := (srtL_perm _).nodup_iff.mpr ((allB_nodup _ _).filter _)
end Lw

noncomputable section
namespace Lw
open DL
def f_length_of_c1 : Env → Res D := eBin opIx (eVar 1) (eVar 3)
def f_length_of : Env → Out := sSeq (sExp (eOwn g_look_at_lengths (aCons (eVar 0) (aCons (eVar 1) (aNil))))) (sRet (eCall caSum (aCons (eLc (iSeq (eOwn g_made_set (aCons (eVar 0) (aCons (eVar 2) (aNil))))) [3] (gtN 3) (tYesG) f_length_of_c1) (aNil))))
def g_length_of : List D → Res D := runF f_length_of 4
end Lw
end

namespace Lw
open DL L2
def lsum60 (L l : List Int) : Int := (l.map (nth L)).sum
theorem length_of_ok {o w : D} (p : Int) (ts : List (Int × Int)) (L : List Int) (hL : L.length = ts.length) (ho : LT o L) (l : List Int) (hw : LT w l) (hl : l.length ≤ 1000) (hg : goodB ts.length l = true) :
    g_length_of [.ob 14 [.int p, .ls (ts.map dP)], o, w] = .ok (.int (lsum60 L l)) := by
  have lk := look_lens_ok (.int p) (ts.map dP) L ho (by simpa using hL)
  have ms : g_made_set [.ob 14 [.int p, .ls (ts.map dP)], w] = .ok (.tp (l.map D.int)) := by
    rcases hw with rfl | rfl
    · rw [made_set_ls, if_pos hg]
    · rw [made_set_tp, if_pos hg]
  have hin := good_in hg
  have b1 : l.length ≤ lim := by rw [lim_eq]; omega
  have lc : ∀ x0 x2 x3 : D, lcL (gtN 3) tYesG f_length_of_c1 [x0, o, x2, x3] (l.map D.int) = .ok ((l.map (nth L)).map D.int) := fun x0 x2 x3 => by
    rw [← map_int]
    refine lcL_mapN l fun t ht => ?_
    obtain ⟨t0, t1⟩ := hin t ht
    have ea := nth_at (m := L) t0 (by omega)
    rcases ho with rfl | rfl <;> simp [f_length_of_c1, ea]
  rcases hw with rfl | rfl <;> rcases ho with rfl | rfl <;> simp [g_length_of, runF, f_length_of, lk, ms, lc, b1, lsum60, -List.map_map]
end Lw

namespace Lw
open DL L2 TL
structure Ind (p : Nat) (ts : List (Int × Int)) (J : List Int) : Prop where
  nd : J.Nodup
  inn : InT ts.length J
  ct : cnt p (tiesAt ts J) + J.length = p
theorem tiesAt_snoc (ts : List (Int × Int)) (J : List Int) (t : Int) : tiesAt ts (J ++ [t]) = tiesAt ts J ++ [tieAt ts t] := by simp [tiesAt]
theorem conn_at {ts : List (Int × Int)} {J : List Int} {t : Int} (h : t ∈ J) : Conn (tiesAt ts J) (tieAt ts t).1 (tieAt ts t).2 := .tie (List.mem_map.mpr ⟨t, h, rfl⟩)
theorem conn_sub {ts : List (Int × Int)} {J S : List Int} (h : ∀ x ∈ J, x ∈ S) {a b : Int} (c : Conn (tiesAt ts J) a b) : Conn (tiesAt ts S) a b :=
  c.mono fun e he => by
    obtain ⟨t, ht, rfl⟩ := List.mem_map.mp he
    exact List.mem_map.mpr ⟨t, h t ht, rfl⟩
theorem Ind.snoc {p : Nat} {ts : List (Int × Int)} (hE : EndsOk p ts) {J : List Int} (h : Ind p ts J) {t : Int} (t0 : 0 ≤ t ∧ t < ts.length) (c : ¬ Conn (tiesAt ts J) (tieAt ts t).1 (tieAt ts t).2) : Ind p ts (J ++ [t]) := by
  have hin : InT ts.length (J ++ [t]) := fun x hx => by
    rcases List.mem_append.mp hx with z | z
    · exact h.inn x z
    · simp at z; subst z; exact t0
  refine ⟨?_, hin, ?_⟩
  · rw [List.nodup_append]
    refine ⟨h.nd, by simp, fun a ha b hb e => ?_⟩
    simp at hb
    subst hb
    subst e
    exact c (conn_at ha)
  · have := cnt_new (p := p) (es := tiesAt ts J) (t := tieAt ts t) (by rw [← tiesAt_snoc]; exact tiesAt_ok hE hin) c
    have := h.ct
    rw [tiesAt_snoc, List.length_append, List.length_singleton]
    omega
theorem ind_ext {p : Nat} {ts : List (Int × Int)} (hE : EndsOk p ts) : ∀ (S J : List Int), Ind p ts J → InT ts.length S → ∃ J', Ind p ts J' ∧ (∀ x ∈ J, x ∈ J') ∧ (∀ x ∈ J', x ∈ J ∨ x ∈ S) ∧ ∀ t ∈ S, Conn (tiesAt ts J') (tieAt ts t).1 (tieAt ts t).2
  | [], J, h, _ => ⟨J, h, fun _ h => h, fun _ h => .inl h, fun _ h => (nomatch h)⟩
  | t :: S, J, h, hS => by
    by_cases c : Conn (tiesAt ts J) (tieAt ts t).1 (tieAt ts t).2
    · obtain ⟨J', h1, h2, h3, h4⟩ := ind_ext hE S J h fun x hx => hS x (List.mem_cons_of_mem _ hx)
      refine ⟨J', h1, h2, fun x hx => (h3 x hx).imp id (List.mem_cons_of_mem _), fun x hx => ?_⟩
      rcases List.mem_cons.mp hx with rfl | hx
      · exact conn_sub h2 c
      · exact h4 x hx
    · obtain ⟨J', h1, h2, h3, h4⟩ := ind_ext hE S (J ++ [t]) (h.snoc hE (hS t (List.mem_cons_self ..)) c) fun x hx => hS x (List.mem_cons_of_mem _ hx)
      refine ⟨J', h1, fun x hx => h2 x (List.mem_append_left _ hx), fun x hx => ?_, fun x hx => ?_⟩
      · rcases h3 x hx with z | z
        · rcases List.mem_append.mp z with z | z
          · exact .inl z
          · simp at z; subst z; exact .inr (List.mem_cons_self ..)
        · exact .inr (List.mem_cons_of_mem _ z)
      · rcases List.mem_cons.mp hx with rfl | hx
        · exact conn_at (h2 x (List.mem_append_right _ (by simp)))
        · exact h4 x hx
theorem ind_nil (p : Nat) (ts : List (Int × Int)) : Ind p ts [] := ⟨by simp, fun _ h => (nomatch h), by simp [tiesAt, cnt_nil]⟩
theorem treeB_nat {p : Nat} {ts : List (Int × Int)} {l : List Int} : treeB p ts l = true ↔ (l.length : Int) = p - 1 ∧ goodB ts.length l = true ∧ cnt p (tiesAt ts l) = 1 := by
  simp only [treeB, Bool.and_eq_true, decide_eq_true_eq, Int.toNat_natCast, and_assoc]
theorem cnt_srt {p : Nat} {ts : List (Int × Int)} (hE : EndsOk p ts) {l : List Int} (h : InT ts.length l) : cnt p (tiesAt ts (srt l)) = cnt p (tiesAt ts l) :=
  cnt_set (tiesAt_ok hE fun t ht => h t (srt_mem.mp ht)) (tiesAt_ok hE h) (tiesAt_mem fun x => srt_mem)
theorem tree_ind {p : Nat} {ts : List (Int × Int)} {T : List Int} (h : treeB p ts T = true) (hp : 1 ≤ p) : Ind p ts T := by
  obtain ⟨h1, h2, h3⟩ := treeB_nat.mp h
  exact ⟨good_nodup h2, good_in h2, by omega⟩
theorem Ind.sub {p : Nat} {ts : List (Int × Int)} (hE : EndsOk p ts) {J K : List Int} (h : Ind p ts J) (hn : K.Nodup) (hs : ∀ x ∈ K, x ∈ J) : Ind p ts K := by
  have hK : InT ts.length K := fun x hx => h.inn x (hs x hx)
  refine ⟨hn, hK, ?_⟩
  obtain ⟨K', k1, k2, k3, k4⟩ := ind_ext hE K [] (ind_nil p ts) hK
  obtain ⟨J', j1, j2, j3, j4⟩ := ind_ext hE J K' k1 h.inn
  have hKK : K'.length ≤ K.length := nodup_le k1.nd fun x hx => (k3 x hx).elim (fun z => (nomatch z)) id
  have e1 : cnt p (tiesAt ts K') = cnt p (tiesAt ts K) := cnt_eq (tiesAt_ok hE k1.inn) (tiesAt_ok hE hK)
    (fun e he => by
      obtain ⟨t, ht, rfl⟩ := List.mem_map.mp he
      exact conn_at ((k3 t ht).elim (fun z => (nomatch z)) id))
    (fun e he => by
      obtain ⟨t, ht, rfl⟩ := List.mem_map.mp he
      exact k4 t ht)
  -- as many as there are: else J would have a ring
  have hJJ : J'.length = J.length := by
    have a : cnt p (tiesAt ts J') = cnt p (tiesAt ts J) := cnt_eq (tiesAt_ok hE j1.inn) (tiesAt_ok hE h.inn)
      (fun e he => by
        obtain ⟨t, ht, rfl⟩ := List.mem_map.mp he
        refine conn_at ?_
        rcases j3 t ht with z | z
        · exact hs t ((k3 t z).elim (fun z => (nomatch z)) id)
        · exact z)
      (fun e he => by
        obtain ⟨t, ht, rfl⟩ := List.mem_map.mp he
        exact j4 t ht)
    have := j1.ct
    have := h.ct
    omega
  have sub : ∀ x ∈ J', x ∈ J := fun x hx => by
    rcases j3 x hx with z | z
    · exact hs x ((k3 x z).elim (fun z => (nomatch z)) id)
    · exact z
  have all : ∀ x ∈ J, x ∈ J' := fun x hx => by
    rcases Classical.em (x ∈ J') with z | z
    · exact z
    · have := nodup_le (l := x :: J') (m := J) (List.nodup_cons.mpr ⟨z, j1.nd⟩) fun y hy => by
        rcases List.mem_cons.mp hy with rfl | hy
        · exact hx
        · exact sub y hy
      simp at this
      omega
  -- each of K is in K': else it would be put in to K' behind, though hung together
  have hKl : K.length ≤ K'.length := by
    refine nodup_le hn fun x hx => ?_
    rcases Classical.em (x ∈ K') with z | z
    · exact z
    · exfalso
      have hxJ := all x (hs x hx)
      -- J' less x hangs together what J' does
      have c := k4 x hx
      have i1 : InT ts.length (J'.erase x) := fun y hy => j1.inn y (List.mem_of_mem_erase hy)
      have sub2 : ∀ y ∈ K', y ∈ J'.erase x := fun y hy => (List.mem_erase_of_ne (fun (e : y = x) => z (by rw [← e]; exact hy))).mpr (j2 y hy)
      have e2 : cnt p (tiesAt ts (J'.erase x)) = cnt p (tiesAt ts J') := cnt_eq (tiesAt_ok hE i1) (tiesAt_ok hE j1.inn)
        (fun e he => by
          obtain ⟨t, ht, rfl⟩ := List.mem_map.mp he
          exact conn_at (List.mem_of_mem_erase ht))
        (fun e he => by
          obtain ⟨t, ht, rfl⟩ := List.mem_map.mp he
          by_cases ee : t = x
          · subst ee; exact conn_sub sub2 c
          · exact conn_at ((List.mem_erase_of_ne ee).mpr ht))
      have lo := cnt_lo p _ _ rfl (tiesAt_ok hE i1)
      have l2 : (tiesAt ts (J'.erase x)).length = J'.length - 1 := by rw [tiesAt, List.length_map, List.length_erase_of_mem hxJ]
      have hp := List.length_pos_of_mem hxJ
      have := j1.ct
      omega
  rw [← e1]
  have := k1.ct
  omega
end Lw

noncomputable section
namespace Lw
open DL
def f_alone_in_c1 : Env → Res D := eVar 2
def f_alone_in_c1t : Env → Res Bool := tC2 cNIn (eVar 2) (eVar 1)
def f_alone_in : Env → Out := sRet (eLc (iSeq (eVar 0)) [2] (gtN 2) (f_alone_in_c1t) f_alone_in_c1)
def g_alone_in : List D → Res D := runF f_alone_in 3
end Lw
end

namespace Lw
open DL L2 TL
def swap (l : List Int) (o i : Int) : List Int := srt (wo l o ++ [i])
theorem wo_mem {l : List Int} {t x : Int} : x ∈ wo l t ↔ x ∈ l ∧ x ≠ t := by simp [wo]
theorem wo_nodup {l : List Int} (h : l.Nodup) (t : Int) : (wo l t).Nodup := h.filter _
theorem swap_mem {l : List Int} {o i x : Int} : x ∈ swap l o i ↔ (x ∈ l ∧ x ≠ o) ∨ x = i := by
  unfold swap; rw [srt_mem, List.mem_append, wo_mem]; simp
theorem wo_erase {l : List Int} (h : l.Nodup) (t : Int) : wo l t = l.erase t := by
  rw [h.erase_eq_filter]
  unfold wo
  refine List.filter_congr fun x _ => ?_
  by_cases e : x = t <;> simp [e]
theorem wo_length {l : List Int} (h : l.Nodup) {t : Int} (ht : t ∈ l) : (wo l t).length + 1 = l.length := by
  rw [wo_erase h, List.length_erase_of_mem ht]
  have := List.length_pos_of_mem ht
  omega
theorem swap_tree {p : Nat} (hp : 1 ≤ p) {ts : List (Int × Int)} (hE : EndsOk p ts) {T : List Int} (hT : treeB p ts T = true) {o i : Int} (ho : o ∈ T) (hi : i ∉ T) (hr : 0 ≤ i ∧ i < ts.length) :
    treeB p ts (swap T o i) = true ↔ ¬ Conn (tiesAt ts (wo T o)) (tieAt ts i).1 (tieAt ts i).2 := by
  have hI := tree_ind hT hp
  obtain ⟨h1, h2, h3⟩ := treeB_nat.mp hT
  have hW := hI.sub hE (wo_nodup hI.nd o) (fun x hx => (wo_mem.mp hx).1)
  have hwl := wo_length hI.nd ho
  have hin : InT ts.length (wo T o ++ [i]) := fun x hx => by
    rcases List.mem_append.mp hx with z | z
    · exact hW.inn x z
    · simp at z; subst z; exact hr
  have hnd : (wo T o ++ [i]).Nodup := by
    rw [List.nodup_append]
    refine ⟨hW.nd, by simp, fun a ha b hb e => ?_⟩
    simp at hb
    subst hb; subst e
    exact hi (wo_mem.mp ha).1
  have hct := hW.ct
  have hEs : EndsOk p (tiesAt ts (wo T o) ++ [tieAt ts i]) := by rw [← tiesAt_snoc]; exact tiesAt_ok hE hin
  have e1 : cnt p (tiesAt ts (swap T o i)) = cnt p (tiesAt ts (wo T o) ++ [tieAt ts i]) := by unfold swap; rw [cnt_srt hE hin, tiesAt_snoc]
  rw [treeB_nat]
  constructor
  · rintro ⟨_, _, h⟩ c
    rw [e1, cnt_same hEs c] at h
    omega
  · intro c
    have := cnt_new hEs c
    refine ⟨?_, srt_good hin hnd, by rw [e1]; omega⟩
    unfold swap
    rw [srt_len, List.length_append, List.length_singleton]
    omega
def alone (a b : List Int) : List Int := a.filter fun x => !decide (x ∈ b)
theorem alone_ok {oa ob : D} (a b : List Int) (ha : LT oa a) (hb : LT ob b) (hl : a.length ≤ 1000) : g_alone_in [oa, ob] = .ok (.ol ((alone a b).map D.int)) := by
  have b1 : a.length ≤ lim := by rw [lim_eq]; omega
  have lc : ∀ x0 : D, lcL (gtN 2) f_alone_in_c1t f_alone_in_c1 [x0, ob, .un] (a.map D.int) = .ok ((alone a b).map D.int) := fun x0 => by
    refine lcL_filterN _ fun x _ => ?_
    exact ⟨by rcases hb with rfl | rfl <;> simp [f_alone_in_c1t], fun _ => by rcases hb with rfl | rfl <;> simp [f_alone_in_c1]⟩
  rcases ha with rfl | rfl <;> rcases hb with rfl | rfl <;> simp [g_alone_in, runF, f_alone_in, lc, b1]
end Lw

namespace Lw
open DL L2 TL
def gr (p : Nat) (ts : List (Int × Int)) : List Int → List Int → List Int
  | [], J => J
  | t :: s, J => if nth (marksM p ts (srt J)) (tieAt ts t).1 = nth (marksM p ts (srt J)) (tieAt ts t).2 then gr p ts s J else gr p ts s (J ++ [t])
theorem gr_app (p : Nat) (ts : List (Int × Int)) : ∀ (s r J : List Int), gr p ts (s ++ r) J = gr p ts r (gr p ts s J)
  | [], r, J => rfl
  | t :: s, r, J => by
    simp only [List.cons_append, gr]
    split
    · exact gr_app p ts s r J
    · exact gr_app p ts s r (J ++ [t])
theorem conn_srt {ts : List (Int × Int)} {J : List Int} {a b : Int} : Conn (tiesAt ts (srt J)) a b ↔ Conn (tiesAt ts J) a b :=
  ⟨conn_sub fun x hx => srt_mem.mp hx, conn_sub fun x hx => srt_mem.mpr hx⟩
theorem gr_test {p : Nat} {ts : List (Int × Int)} (hE : EndsOk p ts) {J : List Int} (hJ : InT ts.length J) {t : Int} (ht : 0 ≤ t ∧ t < ts.length) : nth (marksM p ts (srt J)) (tieAt ts t).1 = nth (marksM p ts (srt J)) (tieAt ts t).2 ↔ Conn (tiesAt ts J) (tieAt ts t).1 (tieAt ts t).2 := by
  obtain ⟨_, e2⟩ := tie_at ht.1 ht.2
  obtain ⟨⟨a0, a1⟩, b0, b1⟩ := hE _ e2
  rw [nthM p ts hE (srt J) (fun x hx => hJ x (srt_mem.mp hx)) _ _ a0 a1 b0 b1, conn_srt]
theorem gr_ok {p : Nat} {ts : List (Int × Int)} (hE : EndsOk p ts) : ∀ (s J : List Int), Ind p ts J → InT ts.length s → Ind p ts (gr p ts s J) ∧ (∃ K, gr p ts s J = J ++ K ∧ K.Sublist s) ∧ ∀ t ∈ s, Conn (tiesAt ts (gr p ts s J)) (tieAt ts t).1 (tieAt ts t).2
  | [], J, h, _ => ⟨h, ⟨[], by simp [gr], .refl _⟩, fun _ h => (nomatch h)⟩
  | t :: s, J, h, hs => by
    have ht := hs t (List.mem_cons_self ..)
    have hs' : InT ts.length s := fun x hx => hs x (List.mem_cons_of_mem _ hx)
    simp only [gr]
    by_cases c : nth (marksM p ts (srt J)) (tieAt ts t).1 = nth (marksM p ts (srt J)) (tieAt ts t).2
    · rw [if_pos c]
      obtain ⟨k1, ⟨K, k2, k3⟩, k4⟩ := gr_ok hE s J h hs'
      refine ⟨k1, ⟨K, k2, k3.cons t⟩, fun x hx => ?_⟩
      rcases List.mem_cons.mp hx with rfl | hx
      · exact conn_sub (fun y hy => by rw [k2]; exact List.mem_append_left _ hy) ((gr_test hE h.inn ht).mp c)
      · exact k4 x hx
    · rw [if_neg c]
      obtain ⟨k1, ⟨K, k2, k3⟩, k4⟩ := gr_ok hE s (J ++ [t]) (h.snoc hE ht fun z => c ((gr_test hE h.inn ht).mpr z)) hs'
      refine ⟨k1, ⟨t :: K, by rw [k2]; simp, k3.cons₂ t⟩, fun x hx => ?_⟩
      rcases List.mem_cons.mp hx with rfl | hx
      · exact conn_at (by rw [k2]; simp)
      · exact k4 x hx
theorem Ind.le {p : Nat} {ts : List (Int × Int)} (hE : EndsOk p ts) {K J : List Int} (hK : Ind p ts K) (hJ : Ind p ts J) (h : ∀ t ∈ K, Conn (tiesAt ts J) (tieAt ts t).1 (tieAt ts t).2) : K.length ≤ J.length := by
  have : cnt p (tiesAt ts J) ≤ cnt p (tiesAt ts K) := cnt_le (tiesAt_ok hE hK.inn) (tiesAt_ok hE hJ.inn) fun e he => by
    obtain ⟨t, ht, rfl⟩ := List.mem_map.mp he
    exact h t ht
  have := hK.ct
  have := hJ.ct
  omega
def bel (l : List Int) (x : Int) : Nat := (l.filter fun y => decide (y < x)).length
theorem bel_perm {l m : List Int} (h : l.Perm m) (x : Int) : bel l x = bel m x := (h.filter _).length_eq
theorem bel_app (l m : List Int) (x : Int) : bel (l ++ m) x = bel l x + bel m x := by simp [bel, List.filter_append]
theorem gale_lex : ∀ {a b : List Int}, a.Pairwise (· < ·) → b.Pairwise (· < ·) → a.length = b.length → (∀ x, bel b x ≤ bel a x) → a ≠ b → HT.lexLt a b = true
  | [], [], _, _, _, _, n => absurd rfl n
  | [], _ :: _, _, _, h, _, _ => by simp at h
  | _ :: _, [], _, _, h, _, _ => by simp at h
  | x :: a, y :: b, ha, hb, hl, hd, n => by
    obtain ⟨a1, a2⟩ := List.pairwise_cons.mp ha
    obtain ⟨b1, b2⟩ := List.pairwise_cons.mp hb
    rw [HT.lexLt_cons]
    by_cases e : x = y
    · subst e
      rw [if_pos rfl]
      refine gale_lex a2 b2 (by simpa using hl) (fun z => ?_) fun q => n (by rw [q])
      have := hd z
      simp only [bel, List.filter_cons] at this ⊢
      split at this
      · simpa using this
      · exact this
    · rw [if_neg e]
      refine decide_eq_true ?_
      rcases Int.lt_or_le x y with z | z
      · exact z
      · exfalso
        have hlt : y < x := by omega
        have := hd (y + 1)
        have h1 : bel (x :: a) (y + 1) = 0 := by
          unfold bel
          rw [List.length_eq_zero_iff, List.filter_eq_nil_iff]
          intro w hw
          rcases List.mem_cons.mp hw with rfl | hw
          · simp; omega
          · have := a1 w hw; simp; omega
        have h2 : 1 ≤ bel (y :: b) (y + 1) := by
          unfold bel
          rw [List.filter_cons_of_pos (by simp; omega)]
          simp
        omega
theorem filter_split {l : List Int} (h : l.Pairwise (· < ·)) (x : Int) : l = (l.filter fun y => decide (y < x)) ++ l.filter fun y => !decide (y < x) := by
  induction l with
  | nil => rfl
  | cons a l ih =>
    obtain ⟨h1, h2⟩ := List.pairwise_cons.mp h
    by_cases c : a < x
    · rw [List.filter_cons_of_pos (by simpa using c), List.filter_cons_of_neg (by simpa using c), List.cons_append, ← ih h2]
    · rw [List.filter_cons_of_neg (by simpa using c), List.filter_cons_of_pos (by simpa using c)]
      have : (l.filter fun y => decide (y < x)) = [] := List.filter_eq_nil_iff.mpr fun y hy => by have := h1 y hy; simp; omega
      rw [this, List.nil_append]
      congr 1
      refine (List.filter_eq_self.mpr fun y hy => ?_).symm
      have := h1 y hy; simp; omega
theorem filter_none {l : List Int} {q : Int → Bool} (h : ∀ x ∈ l, q x = false) : l.filter q = [] := List.filter_eq_nil_iff.mpr fun x hx => by rw [h x hx]; decide
theorem filter_all {l : List Int} {q : Int → Bool} (h : ∀ x ∈ l, q x = true) : l.filter q = l := List.filter_eq_self.mpr h
theorem gr_bel {p : Nat} {ts : List (Int × Int)} (hE : EndsOk p ts) {s J : List Int} (hJ : Ind p ts J) (hs : InT ts.length s) (hr : s.Pairwise (· < ·)) (x : Int) :
    bel (gr p ts s J) x + J.length = (gr p ts (s.filter fun y => decide (y < x)) J).length + bel J x := by
  have sp := filter_split hr x
  have h1 : InT ts.length (s.filter fun y => decide (y < x)) := fun y hy => hs y (List.mem_filter.mp hy).1
  have h2 : InT ts.length (s.filter fun y => !decide (y < x)) := fun y hy => hs y (List.mem_filter.mp hy).1
  have e : gr p ts s J = gr p ts (s.filter fun y => !decide (y < x)) (gr p ts (s.filter fun y => decide (y < x)) J) := by
    rw [← gr_app, ← sp]
  obtain ⟨i1, ⟨K1, k1, q1⟩, _⟩ := gr_ok hE (s.filter fun y => decide (y < x)) J hJ h1
  obtain ⟨i2, ⟨K2, k2, q2⟩, _⟩ := gr_ok hE (s.filter fun y => !decide (y < x)) (gr p ts (s.filter fun y => decide (y < x)) J) i1 h2
  rw [e, k2, k1, bel_app, bel_app, List.length_append]
  have b1 : bel K1 x = K1.length := by
    unfold bel
    rw [filter_all fun y hy => (List.mem_filter.mp (q1.subset hy)).2]
  have b2 : bel K2 x = 0 := by
    unfold bel
    rw [filter_none fun y hy => by have := (List.mem_filter.mp (q2.subset hy)).2; simpa using this]
    rfl
  omega
end Lw

namespace Lw
open DL L2 TL
def othL (n : Nat) (T : List Int) : List Int := (iota n).filter fun x => !decide (x ∈ T)
def farB (p : Nat) (ts : List (Int × Int)) (T : List Int) : List Int := gr p ts T (gr p ts (othL ts.length T) [])
def com (T S : List Int) : Nat := (S.filter fun x => decide (x ∈ T)).length
theorem len_split (l : List Int) (q : Int → Bool) : l.length = (l.filter q).length + (l.filter fun x => !q x).length := by
  induction l with
  | nil => rfl
  | cons a l ih => cases c : q a <;> simp [List.filter_cons, c, ih] <;> omega
theorem iota_rise (n : Nat) : (iota n).Pairwise (· < ·) := by
  unfold iota
  rw [List.pairwise_map]
  exact List.pairwise_lt_range.imp fun h => by omega
theorem oth_in (n : Nat) (T : List Int) : InT n (othL n T) := fun x hx => iota_mem.mp (List.mem_filter.mp hx).1
theorem oth_rise (n : Nat) (T : List Int) : (othL n T).Pairwise (· < ·) := (iota_rise n).filter _
theorem oth_mem {n : Nat} {T : List Int} {x : Int} : x ∈ othL n T ↔ (0 ≤ x ∧ x < n) ∧ x ∉ T := by simp [othL, iota_mem]
section
variable {p : Nat} (hp : 1 ≤ p) {ts : List (Int × Int)} (hE : EndsOk p ts) {T : List Int} (hT : treeB p ts T = true)
include hp hE hT
theorem far_parts : Ind p ts (farB p ts T) ∧ Ind p ts (gr p ts (othL ts.length T) []) ∧ (∀ x ∈ gr p ts (othL ts.length T) [], x ∈ othL ts.length T) ∧ (∀ t ∈ othL ts.length T, Conn (tiesAt ts (gr p ts (othL ts.length T) [])) (tieAt ts t).1 (tieAt ts t).2) ∧
    (∃ K, farB p ts T = gr p ts (othL ts.length T) [] ++ K ∧ K.Sublist T) ∧ (farB p ts T).length + 1 = p ∧ treeB p ts (srt (farB p ts T)) = true := by
  obtain ⟨t1, t2, t3⟩ := treeB_nat.mp hT
  have tin := good_in t2
  obtain ⟨i1, ⟨K1, k1, q1⟩, c1⟩ := gr_ok hE (othL ts.length T) [] (ind_nil p ts) (oth_in _ _)
  obtain ⟨i2, ⟨K2, k2, q2⟩, c2⟩ := gr_ok hE T _ i1 tin
  have cl : cnt p (tiesAt ts (farB p ts T)) ≤ cnt p (tiesAt ts T) := cnt_le (tiesAt_ok hE tin) (tiesAt_ok hE i2.inn) fun e he => by
    obtain ⟨t, ht, rfl⟩ := List.mem_map.mp he
    exact c2 t ht
  have cp := cnt_pos hp (tiesAt ts (farB p ts T))
  have ct : cnt p (tiesAt ts (farB p ts T)) + (farB p ts T).length = p := i2.ct
  refine ⟨i2, i1, fun x hx => ?_, c1, ⟨K2, k2, q2⟩, by omega, treeB_nat.mpr ⟨by rw [srt_len]; omega, srt_good i2.inn i2.nd, ?_⟩⟩
  · rw [k1] at hx; exact q1.subset (by simpa using hx)
  · have i2' : Ind p ts (farB p ts T) := i2
    rw [cnt_srt hE i2'.inn]; omega
theorem far_com : com T (srt (farB p ts T)) + (gr p ts (othL ts.length T) []).length + 1 = p := by
  obtain ⟨a1, a2, a3, a4, ⟨K, k1, k2⟩, a6, a7⟩ := far_parts hp hE hT
  have : com T (srt (farB p ts T)) = com T (farB p ts T) := ((srt_perm _).filter _).length_eq
  rw [this, k1]
  unfold com
  rw [List.filter_append, filter_none (l := gr p ts (othL ts.length T) []) fun x hx => by simpa using (oth_mem.mp (a3 x hx)).2, filter_all (l := K) fun x hx => by simpa using k2.subset hx]
  rw [k1] at a6
  simp at a6 ⊢
  omega
theorem oth_part {S : List Int} (hS : treeB p ts S = true) : Ind p ts (S.filter fun x => !decide (x ∈ T)) ∧ ∀ x ∈ S.filter (fun x => !decide (x ∈ T)), x ∈ othL ts.length T := by
  have hI := tree_ind hS hp
  refine ⟨hI.sub hE (hI.nd.sublist List.filter_sublist) fun x hx => (List.mem_filter.mp hx).1, fun x hx => ?_⟩
  obtain ⟨h1, h2⟩ := List.mem_filter.mp hx
  exact oth_mem.mpr ⟨hI.inn x h1, by simpa using h2⟩
theorem far_le {S : List Int} (hS : treeB p ts S = true) : com T (srt (farB p ts T)) ≤ com T S := by
  obtain ⟨a1, a2, a3, a4, _, a6, a7⟩ := far_parts hp hE hT
  have fc := far_com hp hE hT
  obtain ⟨i1, i2⟩ := oth_part hp hE hT hS
  have := Ind.le hE i1 a2 fun t ht => a4 t (i2 t ht)
  have ls := len_split S fun x => decide (x ∈ T)
  have sl := (treeB_nat.mp hS).1
  unfold com at *
  omega
theorem far_lex {S : List Int} (hS : treeB p ts S = true) (hc : com T S = com T (srt (farB p ts T))) (hn : S ≠ srt (farB p ts T)) : HT.lexLt (srt (farB p ts T)) S = true := by
  obtain ⟨a1, a2, a3, a4, _, a6, a7⟩ := far_parts hp hE hT
  have fc := far_com hp hE hT
  obtain ⟨i1, i2⟩ := oth_part hp hE hT hS
  obtain ⟨s1, s2, s3⟩ := treeB_nat.mp hS
  obtain ⟨t1, t2, t3⟩ := treeB_nat.mp hT
  have hI := tree_ind hS hp
  have tin := good_in t2
  have ls := len_split S fun x => decide (x ∈ T)
  refine gale_lex (srt_lt a1.nd) (good_iff.mp s2).2 (by rw [srt_len]; omega) (fun x => ?_) (Ne.symm hn)
  rw [bel_perm (srt_perm _) x]
  have g1 := gr_bel hE (ind_nil p ts) (oth_in ts.length T) (oth_rise ts.length T) x
  have g2 := gr_bel hE a2 tin (good_iff.mp t2).2 x
  have b0 : bel [] x = 0 := rfl
  simp only [List.length_nil] at g1
  obtain ⟨j1, _, j3⟩ := gr_ok hE ((othL ts.length T).filter fun y => decide (y < x)) [] (ind_nil p ts) (fun y hy => oth_in ts.length T y (List.mem_filter.mp hy).1)
  obtain ⟨m1, ⟨K, m2, _⟩, m3⟩ := gr_ok hE (T.filter fun y => decide (y < x)) _ a2 (fun y hy => tin y (List.mem_filter.mp hy).1)
  have sp := len_split (S.filter fun y => decide (y < x)) fun x => decide (x ∈ T)
  -- the others below
  have e1 : ((S.filter fun y => decide (y < x)).filter fun y => !decide (y ∈ T)).length ≤ (gr p ts ((othL ts.length T).filter fun y => decide (y < x)) []).length := by
    refine Ind.le hE (hI.sub hE ((hI.nd.sublist List.filter_sublist).sublist List.filter_sublist) fun y hy => (List.mem_filter.mp (List.mem_filter.mp hy).1).1) j1 fun t ht => j3 t ?_
    obtain ⟨h1, h2⟩ := List.mem_filter.mp ht
    obtain ⟨h3, h4⟩ := List.mem_filter.mp h1
    exact List.mem_filter.mpr ⟨oth_mem.mpr ⟨hI.inn t h3, by simpa using h2⟩, h4⟩
  -- those of the tree below
  have e2 : ((S.filter fun x => !decide (x ∈ T)) ++ ((S.filter fun y => decide (y < x)).filter fun y => decide (y ∈ T))).length ≤ (gr p ts (T.filter fun y => decide (y < x)) (gr p ts (othL ts.length T) [])).length := by
    refine Ind.le hE (hI.sub hE ?_ fun y hy => ?_) m1 fun t ht => ?_
    · rw [List.nodup_append]
      refine ⟨hI.nd.sublist List.filter_sublist, (hI.nd.sublist List.filter_sublist).sublist List.filter_sublist, fun a ha b hb e => ?_⟩
      subst e
      have h1 := (List.mem_filter.mp ha).2
      have h2 := (List.mem_filter.mp hb).2
      simp at h1 h2
      exact h1 h2
    · rcases List.mem_append.mp hy with z | z
      · exact (List.mem_filter.mp z).1
      · exact (List.mem_filter.mp (List.mem_filter.mp z).1).1
    · rcases List.mem_append.mp ht with z | z
      · exact conn_sub (fun y hy => by rw [m2]; exact List.mem_append_left _ hy) (a4 t (i2 t z))
      · obtain ⟨h1, h2⟩ := List.mem_filter.mp z
        exact m3 t (List.mem_filter.mpr ⟨by simpa using h2, (List.mem_filter.mp h1).2⟩)
  rw [List.length_append] at e2
  unfold com at *
  unfold farB at *
  have bs : bel S x = (S.filter fun y => decide (y < x)).length := rfl
  omega
end
theorem far_ahead {p : Nat} (hp : 1 ≤ p) {ts : List (Int × Int)} (hE : EndsOk p ts) {T : List Int} (hT : treeB p ts T = true) : ∃ L1 L2, trees p ts = L1 ++ srt (farB p ts T) :: L2 ∧ (∀ S ∈ L1, com T (srt (farB p ts T)) < com T S) ∧ ∀ S ∈ L2, com T (srt (farB p ts T)) ≤ com T S := by
  obtain ⟨a1, a2, a3, a4, _, a6, a7⟩ := far_parts hp hE hT
  obtain ⟨L1, L2, e⟩ := List.append_of_mem ((trees_mem hp).mpr a7)
  have hm : ∀ S, S ∈ L1 ∨ S ∈ L2 → treeB p ts S = true := fun S h => (trees_mem hp).mp (by rw [e]; rcases h with h | h <;> simp [h])
  have rs : Rise (trees p ts) := srtL_rise _
  have nd := trees_nodup p ts
  rw [e] at rs nd
  refine ⟨L1, L2, e, fun S hS => ?_, fun S hS => far_le hp hE hT (hm S (.inr hS))⟩
  have h1 := far_le hp hE hT (hm S (.inl hS))
  rcases Nat.lt_or_ge (com T (srt (farB p ts T))) (com T S) with h | h
  · exact h
  · exfalso
    have hne : S ≠ srt (farB p ts T) := by
      intro q
      rw [List.nodup_append] at nd
      exact nd.2.2 S hS _ (List.mem_cons_self ..) q
    have h2 := far_lex hp hE hT (hm S (.inl hS)) (by omega) hne
    have h3 := (List.pairwise_append.mp rs).2.2 S hS _ (List.mem_cons_self ..)
    rw [h2] at h3
    cases h3
end Lw

namespace Lw
open DL L2 TL
theorem tree_len {p : Nat} (hp : 1 ≤ p) {ts : List (Int × Int)} {N : List Int} (h : treeB p ts N = true) : N.length + 1 = p := by
  have := (treeB_nat.mp h).1
  omega
end Lw

noncomputable section
namespace Lw
open DL
def f_grown_l1 : Env → Out := sSeq (sAsgT (gtT 2 (gtCons (gtN 6) (gtCons (gtN 7) (gtNil)))) (eBin opIx (eUn (opFld 14 1) (eVar 0)) (eVar 5))) (sIf (tC2 cNe (eBin opIx (eVar 4) (eVar 6)) (eBin opIx (eVar 4) (eVar 7))) (sSeq (sApp 3 (eVar 5)) (sAsgF 4 (eOwn2 g_marks_over (aCons (eVar 0) (aCons (eVar 3) (aNil)))))) (sNil))
def f_grown : Env → Out := sSeq (sAsg 3 (eCall caList (aCons (eVar 1) (aNil)))) (sSeq (sAsgF 4 (eOwn2 g_marks_over (aCons (eVar 0) (aCons (eVar 3) (aNil))))) (sSeq (sFor (iSeq (eVar 2)) (gtN 5) f_grown_l1) (sRet (eCall caTuple (aCons (eCall caSorted3 (aCons (eVar 3) (aNil))) (aNil))))))
def g_grown : List D → Res D := runF f_grown 8
def f_least_tree : Env → Out := sSeq (sAsgF 1 (eOwn g_grown (aCons (eVar 0) (aCons (eTup (aNil)) (aCons (eLR1 (eCall caLen (aCons (eUn (opFld 14 1) (eVar 0)) (aNil)))) (aNil)))))) (sSeq (sIf (tC2 cLt (eCall caLen (aCons (eVar 1) (aNil))) (eBin opSub (eUn (opFld 14 0) (eVar 0)) (eC (.int 1)))) (sRaise 3) (sNil)) (sRetV 1))
def g_least_tree : List D → Res D := runF f_least_tree 2
end Lw
end

namespace Lw
open DL L2 TL
theorem blsOf_map : ∀ bs : List Bool, blsOf (bs.map D.bl) = some bs
  | [] => rfl
  | b :: bs => by simp [blsOf, blsOf_map bs]
theorem gr_testU {p : Nat} {ts : List (Int × Int)} (hE : EndsOk p ts) {J : List Int} (hJ : InT ts.length J) {t : Int} (ht : 0 ≤ t ∧ t < ts.length) : (nth (marksM p ts (srt J)) (tieAt ts t).1 = nth (marksM p ts (srt J)) (tieAt ts t).2) ↔ nth (marksM p ts J) (tieAt ts t).1 = nth (marksM p ts J) (tieAt ts t).2 := by
  obtain ⟨_, e2⟩ := tie_at ht.1 ht.2
  obtain ⟨⟨a0, a1⟩, b0, b1⟩ := hE _ e2
  rw [gr_test hE hJ ht, nthM p ts hE J hJ _ _ a0 a1 b0 b1]
theorem grown_l1 (p : Nat) (hp : 1 ≤ p) (hp2 : p ≤ 1000) (ts : List (Int × Int)) (hE : EndsOk p ts) (x1 x2 : D) : ∀ (l J : List Int) (y5 y6 y7 : D), InT ts.length l → Ind p ts J → J.length + l.length ≤ 5000 →
    ∃ z5 z6 z7, forL (gtN 5) f_grown_l1 (l.map D.int) [.ob 14 [.int p, .ls (ts.map dP)], x1, x2, .ol (J.map D.int), .ls ((marksM p ts J).map D.int), y5, y6, y7] = .nx [.ob 14 [.int p, .ls (ts.map dP)], x1, x2, .ol ((gr p ts l J).map D.int), .ls ((marksM p ts (gr p ts l J)).map D.int), z5, z6, z7]
  | [], J, y5, y6, y7, _, _, _ => ⟨y5, y6, y7, by simp [forL, gr]⟩
  | t :: l, J, y5, y6, y7, hl, hJ, hn => by
    obtain ⟨t0, t1⟩ := hl t (List.mem_cons_self ..)
    have hl' : InT ts.length l := fun x hx => hl x (List.mem_cons_of_mem _ hx)
    obtain ⟨e1, e2⟩ := tie_at t0 t1
    obtain ⟨⟨a0, a1⟩, b0, b1⟩ := hE _ e2
    have ml : (marksM p ts J).length = p := marksM_len ..
    have ea := nth_at (m := marksM p ts J) a0 (by omega)
    have eb := nth_at (m := marksM p ts J) b0 (by omega)
    have iff := gr_testU hE hJ.inn ⟨t0, t1⟩
    have bj : J.length < lim := by rw [lim_eq]; simp at hn; omega
    by_cases c : nth (marksM p ts J) (tieAt ts t).1 = nth (marksM p ts J) (tieAt ts t).2
    · obtain ⟨z5, z6, z7, ih⟩ := grown_l1 p hp hp2 ts hE x1 x2 l J (.int t) (.int (tieAt ts t).1) (.int (tieAt ts t).2) hl' hJ (by simp at hn ⊢; omega)
      refine ⟨z5, z6, z7, ?_⟩
      simp only [gr]
      rw [if_pos (iff.mpr c), ← ih]
      simp [forL, f_grown_l1, e1, ea, eb, c]
    · have hJ' := hJ.snoc hE ⟨t0, t1⟩ fun z => c (iff.mp ((gr_test hE hJ.inn ⟨t0, t1⟩).mpr z))
      have mo := marks_ok_ls p ts hE (by omega) (by omega) (J ++ [t]) hJ'.inn
      rw [Int.toNat_natCast] at mo
      simp only [List.map_append, List.map_cons, List.map_nil] at mo
      have q1 : argB (.bo (J.map D.int ++ [.int t])) = some (J ++ [t]) := by
        have : intsOf ((J ++ [t]).map D.int) = some (J ++ [t]) := intsOf_map _
        simpa [argB] using this
      have q2 : argB (.ob 14 [.int p, .ls (ts.map dP)]) = none := rfl
      have q3 : ¬ J ++ [t] = marksM p ts (J ++ [t]) := fun z => by
        have h1 := congrArg List.length z
        rw [marksM_len] at h1
        have h2 := hJ'.ct
        have h3 := cnt_pos hp (tiesAt ts (J ++ [t]))
        omega
      obtain ⟨z5, z6, z7, ih⟩ := grown_l1 p hp hp2 ts hE x1 x2 l (J ++ [t]) (.int t) (.int (tieAt ts t).1) (.int (tieAt ts t).2) hl' hJ' (by simp at hn ⊢; omega)
      refine ⟨z5, z6, z7, ?_⟩
      simp only [gr]
      rw [if_neg (fun z => c (iff.mp z)), ← ih]
      simp [forL, f_grown_l1, e1, ea, eb, c, bj, mo, calD2, q1, q2, q3]
def leastJ (p : Nat) (ts : List (Int × Int)) : List Int := gr p ts (iota ts.length) []
theorem leastJ_ind {p : Nat} {ts : List (Int × Int)} (hE : EndsOk p ts) : Ind p ts (leastJ p ts) ∧ ∀ t : Int, 0 ≤ t → t < ts.length → Conn (tiesAt ts (leastJ p ts)) (tieAt ts t).1 (tieAt ts t).2 := by
  obtain ⟨h1, _, h3⟩ := gr_ok hE (iota ts.length) [] (ind_nil p ts) fun x hx => iota_mem.mp hx
  exact ⟨h1, fun t t0 t1 => h3 t (iota_mem.mpr ⟨t0, t1⟩)⟩
theorem leastJ_len {p : Nat} (hp : 1 ≤ p) {ts : List (Int × Int)} (hE : EndsOk p ts) : (leastJ p ts).length + 1 ≤ p := by
  have h1 := (leastJ_ind hE).1.ct
  have := cnt_pos hp (tiesAt ts (leastJ p ts))
  omega
theorem least_tree_ok (p : Nat) (hp : 1 ≤ p) (hp2 : p ≤ 1000) (ts : List (Int × Int)) (hE : EndsOk p ts) (ht : ts.length ≤ 1000) :
    g_least_tree [.ob 14 [.int p, .ls (ts.map dP)]] = if (leastJ p ts).length + 1 = p then .ok (.tp ((srt (leastJ p ts)).map D.int)) else .xc 3 := by
  have hr : rgOk (ts.length : Int) := rgOk_of (by omega) (by omega)
  have mo := marks_ok_ls p ts hE (by omega) (by omega) [] (fun _ h => nomatch h)
  rw [Int.toNat_natCast] at mo
  simp only [List.map_nil] at mo
  have q1 : argB (.bo []) = some [] := rfl
  have q2 : argB (.ob 14 [.int p, .ls (ts.map dP)]) = none := rfl
  have q3 : ¬ [] = marksM p ts [] := fun z => by
    have h1 := congrArg List.length z
    rw [marksM_len] at h1
    simp at h1
    omega
  obtain ⟨z5, z6, z7, e⟩ := grown_l1 p hp hp2 ts hE (.tp []) (.ls ((iota ts.length).map D.int)) (iota ts.length) [] .un .un .un (fun x hx => iota_mem.mp hx) (ind_nil p ts) (by simp; omega)
  rw [show gr p ts (iota ts.length) [] = leastJ p ts from rfl] at e
  simp only [List.map_nil] at e
  have jl := leastJ_len hp hE
  have b1 : (srt (leastJ p ts)).length ≤ lim := by rw [srt_len, lim_eq]; omega
  have b2 : ts.length ≤ 1000000 := by omega
  have b2' : (ts.length : Int) ≤ 1000000 := by omega
  have cs := caSorted3_bo (leastJ p ts)
  have gg : g_grown [.ob 14 [.int p, .ls (ts.map dP)], .tp [], .ls ((iota ts.length).map D.int)] = .ok (.tp ((srt (leastJ p ts)).map D.int)) := by
    simp [g_grown, runF, f_grown, mo, e, cs, b1, calD2, q1, q2, q3]
  by_cases c : (leastJ p ts).length + 1 = p
  · rw [if_pos c]
    have c' : ¬ ((leastJ p ts).length : Int) < (p : Int) - 1 := by omega
    simp [g_least_tree, runF, f_least_tree, hr, rng_iota, b2, b2', gg, srt_len, c']
  · rw [if_neg c]
    have c' : ((leastJ p ts).length : Int) < (p : Int) - 1 := by omega
    simp [g_least_tree, runF, f_least_tree, hr, rng_iota, b2, b2', gg, srt_len, c']
theorem least_tree_is {p : Nat} (hp : 1 ≤ p) {ts : List (Int × Int)} (hE : EndsOk p ts) (h : (leastJ p ts).length + 1 = p) : treeB p ts (srt (leastJ p ts)) = true := by
  have hI := (leastJ_ind hE).1
  have := hI.ct
  refine treeB_nat.mpr ⟨by rw [srt_len]; omega, srt_good hI.inn hI.nd, ?_⟩
  rw [cnt_srt hE hI.inn]; omega
theorem least_tree_has {p : Nat} (hp : 1 ≤ p) {ts : List (Int × Int)} (hE : EndsOk p ts) {S : List Int} (hS : treeB p ts S = true) : (leastJ p ts).length + 1 = p := by
  have hI := tree_ind hS hp
  have := Ind.le hE hI (leastJ_ind hE).1 fun t ht => (leastJ_ind hE).2 t (hI.inn t ht).1 (hI.inn t ht).2
  have := tree_len hp hS
  have := leastJ_len hp hE
  omega
theorem least_lex {p : Nat} (hp : 1 ≤ p) {ts : List (Int × Int)} (hE : EndsOk p ts) {S : List Int} (hS : treeB p ts S = true) (hn : S ≠ srt (leastJ p ts)) : HT.lexLt (srt (leastJ p ts)) S = true := by
  have hI := tree_ind hS hp
  have hJ := (leastJ_ind hE).1
  have hl := least_tree_has hp hE hS
  have sl := tree_len hp hS
  refine gale_lex (srt_lt hJ.nd) (good_iff.mp (treeB_nat.mp hS).2.1).2 (by rw [srt_len]; omega) (fun x => ?_) (Ne.symm hn)
  rw [bel_perm (srt_perm _) x]
  have g1 := gr_bel hE (ind_nil p ts) (fun x hx => iota_mem.mp hx) (iota_rise ts.length) x
  have b0 : bel [] x = 0 := rfl
  simp only [List.length_nil] at g1
  obtain ⟨j1, _, j3⟩ := gr_ok hE ((iota ts.length).filter fun y => decide (y < x)) [] (ind_nil p ts) (fun y hy => iota_mem.mp (List.mem_filter.mp hy).1)
  have e1 : (S.filter fun y => decide (y < x)).length ≤ (gr p ts ((iota ts.length).filter fun y => decide (y < x)) []).length := by
    refine Ind.le hE (hI.sub hE (hI.nd.sublist List.filter_sublist) fun y hy => (List.mem_filter.mp hy).1) j1 fun t ht => j3 t ?_
    obtain ⟨h1, h2⟩ := List.mem_filter.mp ht
    exact List.mem_filter.mpr ⟨iota_mem.mpr (hI.inn t h1), h2⟩
  have bs : bel S x = (S.filter fun y => decide (y < x)).length := rfl
  unfold leastJ
  omega
def nxt (k : Nat) (s : List Int) : Int := if k = 0 then 0 else nth s (k - 1 : Nat) + 1
theorem lex_irr (a : List Int) : HT.lexLt a a = false := by
  cases q : HT.lexLt a a with
  | false => rfl
  | true => have := NtL.lex_asym _ _ q; rw [q] at this; cases this
end Lw

namespace Lw
open DL L2 TL
def lsum (L l : List Int) : Int := (l.map (nth L)).sum
theorem perm_sumI {l m : List Int} (h : l.Perm m) : l.sum = m.sum := by
  induction h with
  | nil => rfl
  | cons a _ ih => simp [ih]
  | swap a b l => simp; omega
  | trans _ _ h1 h2 => exact h1.trans h2
theorem lsum_perm {L l m : List Int} (h : l.Perm m) : lsum L l = lsum L m := by
  unfold lsum
  exact perm_sumI (h.map _)
def KLt (L : List Int) (t u : Int) : Prop := nth L t < nth L u ∨ (nth L t = nth L u ∧ t < u)
instance (L : List Int) (t u : Int) : Decidable (KLt L t u) := by unfold KLt; infer_instance
def cb (L l : List Int) (k : Int) : Nat := (l.filter fun t => decide (KLt L t k)).length
theorem cb_cons (L : List Int) (a : Int) (l : List Int) (k : Int) : cb L (a :: l) k = (if KLt L a k then 1 else 0) + cb L l k := by
  unfold cb
  rw [List.filter_cons]
  by_cases c : KLt L a k
  · simp [c]; omega
  · simp [c]
theorem bel_cons (a : Int) (l : List Int) (x : Int) : bel (a :: l) x = (if a < x then 1 else 0) + bel l x := by
  unfold bel
  rw [List.filter_cons]
  by_cases c : a < x
  · simp [c]; omega
  · simp [c]
theorem lsum_cons (L : List Int) (a : Int) (l : List Int) : lsum L (a :: l) = nth L a + lsum L l := by simp [lsum]
theorem cb_zero {L : List Int} {k : Int} : ∀ {l : List Int}, (∀ t ∈ l, ¬ KLt L t k) → cb L l k = 0
  | [], _ => rfl
  | a :: l, h => by
    rw [cb_cons, if_neg (h a (List.mem_cons_self ..)), cb_zero fun t ht => h t (List.mem_cons_of_mem _ ht)]
theorem dom_el (L : List Int) : ∀ {a b : List Int}, a.Pairwise (KLt L) → b.Pairwise (KLt L) → a.length = b.length → (∀ k, cb L b k ≤ cb L a k) → lsum L a ≤ lsum L b ∧ (lsum L a = lsum L b → ∀ x, bel b x ≤ bel a x)
  | [], [], _, _, _, _ => ⟨Int.le_refl _, fun _ _ => Nat.le_refl _⟩
  | [], _ :: _, _, _, h, _ => by simp at h
  | _ :: _, [], _, _, h, _ => by simp at h
  | a :: as, b :: bs, ha, hb, hl, hd => by
    obtain ⟨a1, a2⟩ := List.pairwise_cons.mp ha
    obtain ⟨b1, b2⟩ := List.pairwise_cons.mp hb
    have hab : ¬ KLt L b a := fun z => by
      have h1 := hd a
      rw [cb_cons, cb_cons, if_pos z, if_neg (by unfold KLt; omega), cb_zero (l := as) fun t ht q => by
        have := a1 t ht
        unfold KLt at this q
        omega] at h1
      omega
    obtain ⟨h1, h2⟩ := dom_el L a2 b2 (by simpa using hl) fun k => by
      have h1 := hd k
      rw [cb_cons, cb_cons] at h1
      by_cases c1 : KLt L a k
      · by_cases c2 : KLt L b k
        · rw [if_pos c1, if_pos c2] at h1; omega
        · rw [cb_zero (l := bs) fun t ht q => by
            have := b1 t ht
            unfold KLt at this q c2
            omega]
          exact Nat.zero_le _
      · have c2 : ¬ KLt L b k := by unfold KLt at c1 hab ⊢; omega
        rw [if_neg c1, if_neg c2] at h1; omega
    rw [lsum_cons, lsum_cons]
    unfold KLt at hab
    refine ⟨by omega, fun e x => ?_⟩
    have h3 := h2 (by omega) x
    rw [bel_cons, bel_cons]
    have : a ≤ b := by omega
    split <;> split <;> omega
theorem split_by {R : Int → Int → Prop} {q : Int → Bool} (hq : ∀ a b, R a b → q b = true → q a = true) : ∀ {l : List Int}, l.Pairwise R → l = l.filter q ++ l.filter fun y => !q y
  | [], _ => rfl
  | a :: l, h => by
    obtain ⟨h1, h2⟩ := List.pairwise_cons.mp h
    cases c : q a with
    | true =>
      rw [List.filter_cons_of_pos c, List.filter_cons_of_neg (by simp [c]), List.cons_append, ← split_by hq h2]
    | false =>
      rw [List.filter_cons_of_neg (by simp [c]), List.filter_cons_of_pos (by simp [c])]
      have : l.filter q = [] := List.filter_eq_nil_iff.mpr fun y hy z => by
        have := hq a y (h1 y hy) z
        rw [c] at this; cases this
      rw [this, List.nil_append]
      congr 1
      refine (List.filter_eq_self.mpr fun y hy => ?_).symm
      cases z : q y with
      | false => rfl
      | true =>
        have := hq a y (h1 y hy) z
        rw [c] at this; cases this
structure Ord (L : List Int) (n : Nat) (O : List Int) : Prop where
  pm : O.Perm (iota n)
  lt : O.Pairwise (KLt L)
theorem Ord.mem {L : List Int} {n : Nat} {O : List Int} (h : Ord L n O) {x : Int} : x ∈ O ↔ 0 ≤ x ∧ x < n := by rw [h.pm.mem_iff, iota_mem]
section
variable {L : List Int} {p : Nat} {ts : List (Int × Int)} {O : List Int}
theorem gr_cb (hE : EndsOk p ts) (hO : Ord L ts.length O) (k : Int) : cb L (gr p ts O []) k = (gr p ts (O.filter fun t => decide (KLt L t k)) []).length := by
  have sp := split_by (R := KLt L) (q := fun t => decide (KLt L t k)) (fun a b h hb => by
    simp only [decide_eq_true_eq] at hb ⊢
    unfold KLt at *
    omega) hO.lt
  have h1 : InT ts.length (O.filter fun t => decide (KLt L t k)) := fun y hy => hO.mem.mp (List.mem_filter.mp hy).1
  have h2 : InT ts.length (O.filter fun t => !decide (KLt L t k)) := fun y hy => hO.mem.mp (List.mem_filter.mp hy).1
  have e : gr p ts O [] = gr p ts (O.filter fun t => !decide (KLt L t k)) (gr p ts (O.filter fun t => decide (KLt L t k)) []) := by
    rw [← gr_app, ← sp]
  obtain ⟨i1, ⟨K1, k1, q1⟩, _⟩ := gr_ok hE (O.filter fun t => decide (KLt L t k)) [] (ind_nil p ts) h1
  obtain ⟨i2, ⟨K2, k2, q2⟩, _⟩ := gr_ok hE (O.filter fun t => !decide (KLt L t k)) _ i1 h2
  rw [e, k2, k1]
  unfold cb
  simp only [List.nil_append, List.filter_append, List.length_append]
  rw [filter_all (l := K1) fun y hy => (List.mem_filter.mp (q1.subset hy)).2, filter_none (l := K2) fun y hy => by have := (List.mem_filter.mp (q2.subset hy)).2; simpa using this]
  simp
theorem kru_ok (hp : 1 ≤ p) (hE : EndsOk p ts) (hO : Ord L ts.length O) : Ind p ts (gr p ts O []) ∧ (gr p ts O []).length + 1 ≤ p ∧ ((gr p ts O []).length + 1 = p → treeB p ts (srt (gr p ts O [])) = true) ∧ (∀ S, treeB p ts S = true → (gr p ts O []).length + 1 = p) ∧ (gr p ts O []).Pairwise (KLt L) := by
  obtain ⟨h1, ⟨K, k1, k2⟩, h3⟩ := gr_ok hE O [] (ind_nil p ts) fun x hx => hO.mem.mp hx
  have hc := h1.ct
  have hcp := cnt_pos hp (tiesAt ts (gr p ts O []))
  refine ⟨h1, by omega, fun e => ?_, fun S hS => ?_, ?_⟩
  · refine treeB_nat.mpr ⟨by rw [srt_len]; omega, srt_good h1.inn h1.nd, ?_⟩
    rw [cnt_srt hE h1.inn]; omega
  · have hI := tree_ind hS hp
    have := Ind.le hE hI h1 fun t ht => h3 t (hO.mem.mpr (hI.inn t ht))
    have := tree_len hp hS
    omega
  · rw [k1, List.nil_append]
    exact hO.lt.sublist k2
theorem kru_least (hp : 1 ≤ p) (hE : EndsOk p ts) (hO : Ord L ts.length O) {S : List Int} (hS : treeB p ts S = true) (hn : S ≠ srt (gr p ts O [])) :
    HT.lexLt (lsum L (srt (gr p ts O [])) :: srt (gr p ts O [])) (lsum L S :: S) = true := by
  obtain ⟨h1, h2, h3, h4, h5⟩ := kru_ok hp hE hO
  have hI := tree_ind hS hp
  have hl := h4 S hS
  have sl := tree_len hp hS
  have rS := (good_iff.mp (treeB_nat.mp hS).2.1).2
  have pS : (O.filter fun t => decide (t ∈ S)).Perm S := by
    refine (List.perm_ext_iff_of_nodup ((hO.pm.nodup_iff.mpr (iota_nodup _)).sublist List.filter_sublist) hI.nd).mpr fun x => ?_
    rw [List.mem_filter, hO.mem, decide_eq_true_eq]
    exact ⟨fun h => h.2, fun h => ⟨hI.inn x h, h⟩⟩
  have dom := dom_el L h5 (hO.lt.sublist (List.filter_sublist (p := fun t => decide (t ∈ S)))) (by rw [pS.length_eq]; omega) fun k => by
    rw [gr_cb hE hO k]
    obtain ⟨j1, _, j3⟩ := gr_ok hE (O.filter fun t => decide (KLt L t k)) [] (ind_nil p ts) (fun y hy => hO.mem.mp (List.mem_filter.mp hy).1)
    have hsub : ∀ y ∈ (O.filter fun t => decide (t ∈ S)).filter (fun t => decide (KLt L t k)), y ∈ S := fun y hy => pS.mem_iff.mp (List.mem_filter.mp hy).1
    refine Ind.le hE (hI.sub hE ((pS.nodup_iff.mpr hI.nd).sublist List.filter_sublist) hsub) j1 fun t ht => j3 t ?_
    exact List.mem_filter.mpr ⟨hO.mem.mpr (hI.inn t (hsub t ht)), (List.mem_filter.mp ht).2⟩
  rw [lsum_perm pS] at dom
  rw [lsum_perm (srt_perm (gr p ts O []))]
  rw [HT.lexLt_cons]
  by_cases e : lsum L (gr p ts O []) = lsum L S
  · rw [if_pos e]
    refine gale_lex (srt_lt h1.nd) rS (by rw [srt_len]; omega) (fun x => ?_) (Ne.symm hn)
    have := dom.2 e x
    rw [bel_perm pS] at this
    rw [bel_perm (srt_perm _)]
    exact this
  · rw [if_neg e]
    have := dom.1
    simp; omega
end
end Lw

noncomputable section
namespace Lw
open DL
def f_by_length_c1 : Env → Res D := eTup (aConsO (eVar 3) (aConsO (eVar 2) (aNil)))
def f_by_length_c2 : Env → Res D := eBin opIx (eVar 1) (eC (.int 1))
def f_by_length : Env → Out := sRet (eLc (iSeq (eCall caSorted3 (aCons (eLc (iEnm3 (aCons (eVar 0) (aNil))) [2, 3] (gtT 2 (gtCons (gtN 2) (gtCons (gtN 3) (gtNil)))) (tYesG) f_by_length_c1) (aNil)))) [1] (gtN 1) (tYesG) f_by_length_c2)
def g_by_length : List D → Res D := runF f_by_length 4
def f_heads_joined_c1 : Env → Res D := eIf (tC2 cEq (eVar 4) (eVar 3)) (eVar 2) (eVar 4)
def f_heads_joined : Env → Out := sSeq (sAsgF 2 (eBin opIx (eVar 0) (eBin opIx (eVar 1) (eC (.int 0))))) (sSeq (sAsgF 3 (eBin opIx (eVar 0) (eBin opIx (eVar 1) (eC (.int 1))))) (sRet (eLc (iSeq (eVar 0)) [4] (gtN 4) (tYesG) f_heads_joined_c1)))
def g_heads_joined : List D → Res D := runF f_heads_joined 5
end Lw
end

namespace Lw
open DL L2 TL
theorem enm_ints (L : List Int) : enm 0 (L.map D.int) = (iota L.length).map fun i => (.tp [.int i, .int (nth L i)] : D) := by
  have : ∀ (l pre : List Int), L = pre ++ l → enm pre.length (l.map D.int) = (List.range l.length).map fun j => (.tp [.int ((pre.length + j : Nat) : Int), .int (nth L ((pre.length + j : Nat) : Int))] : D) := by
    intro l
    induction l with
    | nil => intro pre _; simp [enm]
    | cons t l ih =>
      intro pre e
      have := ih (pre ++ [t]) (by rw [e]; simp)
      rw [List.map_cons, enm, List.length_cons, List.range_succ_eq_map, List.map_cons, List.map_map]
      simp only [List.length_append, List.length_cons, List.length_nil, Nat.zero_add] at this
      rw [this]
      have et : nth L ((pre.length : Nat) : Int) = t := by simp [nth, e]
      simp only [Nat.add_zero, et]
      congr 1
      refine List.map_congr_left fun j _ => ?_
      simp only [Function.comp, Nat.succ_eq_add_one]
      rw [show pre.length + 1 + j = pre.length + (j + 1) by omega]
  have h := this L [] rfl
  simp only [List.length_nil, Nat.zero_add] at h
  rw [h]
  unfold iota
  rw [List.map_map]
  rfl
def keyL (L : List Int) (t : Int) : List Int := [nth L t, t]
def ordOf (L : List Int) : List Int := (srtL ((iota L.length).map (keyL L))).map fun l => nth l 1
theorem keyL_lt {L : List Int} {t u : Int} : HT.lexLt (keyL L t) (keyL L u) = true ↔ KLt L t u := by
  unfold keyL KLt
  rw [HT.lexLt_cons, HT.lexLt_cons, HT.lexLt_nil_nil]
  by_cases e : nth L t = nth L u
  · rw [if_pos e]
    by_cases e2 : t = u
    · rw [if_pos e2]; simp; omega
    · rw [if_neg e2]; simp; omega
  · rw [if_neg e]; simp; omega
theorem nth_key (L : List Int) (t : Int) : nth (keyL L t) 1 = t := rfl
theorem ordOf_ord (L : List Int) : Ord L L.length (ordOf L) := by
  have pm : (ordOf L).Perm (iota L.length) := by
    unfold ordOf
    have h := (srtL_perm ((iota L.length).map (keyL L))).map fun l => nth l 1
    rw [List.map_map] at h
    have e : (iota L.length).map ((fun l => nth l 1) ∘ keyL L) = iota L.length := by
      conv => rhs; rw [← List.map_id (iota L.length)]
      exact List.map_congr_left fun t _ => nth_key L t
    rw [e] at h
    exact h
  refine ⟨pm, ?_⟩
  have nd : (ordOf L).Nodup := pm.nodup_iff.mpr (iota_nodup _)
  unfold ordOf at nd ⊢
  have nd' : (((srtL ((iota L.length).map (keyL L)))).map fun l => nth l 1).Pairwise (· ≠ ·) := nd
  rw [List.pairwise_map] at nd' ⊢
  refine List.Pairwise.imp_of_mem (fun {a b} ha hb h => ?_) (List.Pairwise.and nd' (srtL_rise _))
  obtain ⟨h1, h2⟩ := h
  have ka : ∃ t, a = keyL L t := by
    obtain ⟨t, _, rfl⟩ := List.mem_map.mp ((srtL_perm _).mem_iff.mp ha)
    exact ⟨t, rfl⟩
  have kb : ∃ t, b = keyL L t := by
    obtain ⟨t, _, rfl⟩ := List.mem_map.mp ((srtL_perm _).mem_iff.mp hb)
    exact ⟨t, rfl⟩
  obtain ⟨t, rfl⟩ := ka
  obtain ⟨u, rfl⟩ := kb
  rw [nth_key, nth_key] at h1 ⊢
  have h3 : ¬ KLt L u t := fun z => by rw [← keyL_lt, h2] at z; cases z
  unfold KLt at h3 ⊢
  omega
theorem by_length_ok {o : D} (L : List Int) (hL : L.length ≤ 1000) (ho : LT o L) : g_by_length [o] = .ok (.ol ((ordOf L).map D.int)) := by
  have b1 : L.length ≤ lim := by rw [lim_eq]; omega
  have lc : ∀ x0 x1 : D, lcL (gtT 2 (gtCons (gtN 2) (gtCons (gtN 3) (gtNil)))) tYesG f_by_length_c1 [x0, x1, .un, .un] (enm 0 (L.map D.int)) = .ok (((iota L.length).map (keyL L)).map dT) := fun x0 x1 => by
    rw [enm_ints, List.map_map]
    refine lcL_map _ fun t _ => ⟨[x0, x1, .int t, .int (nth L t)], rfl, by simp [f_by_length_c1, dT, keyL]⟩
  have cs := caSorted3_TL ((iota L.length).map (keyL L)) (.inr (by rw [List.all_eq_true]; intro l hl; obtain ⟨t, _, rfl⟩ := List.mem_map.mp hl; rfl))
  have b2 : (srtL ((iota L.length).map (keyL L))).length ≤ lim := by rw [srtL_len]; simpa using b1
  have b3 : (enm 0 (L.map D.int)).length ≤ lim := by rw [enm_len]; simpa using b1
  have lc2 : ∀ x0 x2 x3 : D, lcL (gtN 1) tYesG f_by_length_c2 [x0, .un, x2, x3] ((srtL ((iota L.length).map (keyL L))).map dT) = .ok ((ordOf L).map D.int) := fun x0 x2 x3 => by
    unfold ordOf
    rw [List.map_map]
    refine lcL_mapN _ fun l hl => ?_
    obtain ⟨t, _, rfl⟩ := List.mem_map.mp ((srtL_perm _).mem_iff.mp hl)
    simp [f_by_length_c2, dT, keyL, nth]
  rcases ho with rfl | rfl <;> simp [g_by_length, runF, f_by_length, lc, cs, lc2, b1, b2, enm_len, -List.map_map]
def hj (m : List Int) (t : Int × Int) : List Int := m.map fun x => if x = nth m t.2 then nth m t.1 else x
theorem hj_step (m : List Int) (t : Int × Int) : hj m t = stepL m t := by
  unfold hj stepL
  split
  · rename_i h
    conv => rhs; rw [← List.map_id m]
    refine List.map_congr_left fun x _ => ?_
    split
    · rename_i h2; rw [h2]; exact h
    · rfl
  · rfl
theorem hj_same {m : List Int} {t : Int × Int} (b0 : 0 ≤ t.2) (b1 : t.2 < m.length) : hj m t = m ↔ nth m t.1 = nth m t.2 := by
  constructor
  · intro h
    have := nth_map (m := m) (f := fun x => if x = nth m t.2 then nth m t.1 else x) b0 b1
    have e : nth (hj m t) t.2 = nth m t.1 := by
      unfold hj
      rw [this, if_pos rfl]
    rw [h] at e
    exact e.symm
  · intro h
    rw [hj_step]
    exact if_pos h
theorem heads_joined_ok (m : List Int) (hm : m.length ≤ 1000) (t : Int × Int) (a0 : 0 ≤ t.1) (a1 : t.1 < m.length) (b0 : 0 ≤ t.2) (b1 : t.2 < m.length) : g_heads_joined [.ls (m.map D.int), dP t] = .ok (.ol ((hj m t).map D.int)) := by
  have ea := nth_at (m := m) a0 a1
  have eb := nth_at (m := m) b0 b1
  have bl : m.length ≤ lim := by rw [lim_eq]; omega
  have lc : ∀ x0 x1 : D, lcL (gtN 4) tYesG f_heads_joined_c1 [x0, x1, .int (nth m t.1), .int (nth m t.2), .un] (m.map D.int) = .ok ((hj m t).map D.int) := fun x0 x1 => by
    unfold hj
    rw [← map_int]
    refine lcL_mapN m fun x _ => ?_
    by_cases c : x = nth m t.2 <;> simp [f_heads_joined_c1, c]
  simp [g_heads_joined, runF, f_heads_joined, dP, ea, eb, lc, bl]
theorem marksL_snoc (p : Nat) (ts : List (Int × Int)) (J : List Int) (t : Int) : marksL p ts (J ++ [t]) = hj (marksL p ts J) (tieAt ts t) := by
  rw [hj_step]
  simp [marksL, List.foldl_append]
end Lw

namespace Lw
open DL L2 TL
section
variable {p : Nat} {ts : List (Int × Int)}
theorem testL (hE : EndsOk p ts) {J : List Int} (hJ : InT ts.length J) {t : Int} (ht : 0 ≤ t ∧ t < ts.length) : nth (marksL p ts J) (tieAt ts t).1 = nth (marksL p ts J) (tieAt ts t).2 ↔ Conn (tiesAt ts J) (tieAt ts t).1 (tieAt ts t).2 := by
  obtain ⟨_, e2⟩ := tie_at ht.1 ht.2
  obtain ⟨⟨a0, a1⟩, b0, b1⟩ := hE _ e2
  exact nthL p ts hE J hJ _ _ a0 a1 b0 b1
end
end Lw

noncomputable section
namespace Lw
open DL
def f_cheapest_tree_l1 : Env → Out := sSeq (sAsgF 5 (eOwn g_heads_joined (aCons (eVar 3) (aCons (eBin opIx (eUn (opFld 14 1) (eVar 0)) (eVar 4)) (aNil))))) (sIf (tC2 cNe (eVar 5) (eVar 3)) (sSeq (sApp 2 (eVar 4)) (sAsgF 3 (eVar 5))) (sNil))
def f_cheapest_tree : Env → Out := sSeq (sExp (eOwn g_look_at_lengths (aCons (eVar 0) (aCons (eVar 1) (aNil))))) (sSeq (sAsg 2 (eLst (aNil))) (sSeq (sAsgF 3 (eLR1 (eUn (opFld 14 0) (eVar 0)))) (sSeq (sFor (iSeq (eOwn g_by_length (aCons (eVar 1) (aNil)))) (gtN 4) f_cheapest_tree_l1) (sSeq (sIf (tC2 cLt (eCall caLen (aCons (eVar 2) (aNil))) (eBin opSub (eUn (opFld 14 0) (eVar 0)) (eC (.int 1)))) (sRaise 3) (sNil)) (sRet (eCall caTuple (aCons (eCall caSorted3 (aCons (eVar 2) (aNil))) (aNil))))))))
def g_cheapest_tree : List D → Res D := runF f_cheapest_tree 6
end Lw
end

namespace Lw
open DL L2 TL
theorem marksL_same {p : Nat} {ts : List (Int × Int)} (hE : EndsOk p ts) {J : List Int} {t : Int} (ht : 0 ≤ t ∧ t < ts.length) : hj (marksL p ts J) (tieAt ts t) = marksL p ts J ↔ nth (marksL p ts J) (tieAt ts t).1 = nth (marksL p ts J) (tieAt ts t).2 := by
  obtain ⟨_, e2⟩ := tie_at ht.1 ht.2
  obtain ⟨⟨a0, a1⟩, b0, b1⟩ := hE _ e2
  exact hj_same b0 (by rw [marksL_len]; exact b1)
theorem cheap_l1 {w : D} (p : Nat) (hp : 1 ≤ p) (hp2 : p ≤ 1000) (ts : List (Int × Int)) (hE : EndsOk p ts) (hw : brw w = w) : ∀ (l J : List Int) (y4 y5 : D), InT ts.length l → Ind p ts J → J.length + l.length ≤ 5000 →
    ∃ z4 z5, forL (gtN 4) f_cheapest_tree_l1 (l.map D.int) [.ob 14 [.int p, .ls (ts.map dP)], w, .ol (J.map D.int), .ls ((marksL p ts J).map D.int), y4, y5] = .nx [.ob 14 [.int p, .ls (ts.map dP)], w, .ol ((gr p ts l J).map D.int), .ls ((marksL p ts (gr p ts l J)).map D.int), z4, z5]
  | [], J, y4, y5, _, _, _ => ⟨y4, y5, by simp [forL, gr]⟩
  | t :: l, J, y4, y5, hl, hJ, hn => by
    obtain ⟨t0, t1⟩ := hl t (List.mem_cons_self ..)
    have hl' : InT ts.length l := fun x hx => hl x (List.mem_cons_of_mem _ hx)
    obtain ⟨e1, e2⟩ := tie_at t0 t1
    obtain ⟨⟨a0, a1⟩, b0, b1⟩ := hE _ e2
    have ml := marksL_len p ts J
    have hjo := heads_joined_ok (marksL p ts J) (by omega) (tieAt ts t) a0 (by omega) b0 (by omega)
    simp only [dP] at hjo
    have same := marksL_same hE (J := J) ⟨t0, t1⟩
    have iff : (nth (marksM p ts (srt J)) (tieAt ts t).1 = nth (marksM p ts (srt J)) (tieAt ts t).2) ↔ hj (marksL p ts J) (tieAt ts t) = marksL p ts J := by
      rw [same, testL hE hJ.inn ⟨t0, t1⟩, gr_test hE hJ.inn ⟨t0, t1⟩]
    have bj : J.length < lim := by rw [lim_eq]; simp at hn; omega
    by_cases c : hj (marksL p ts J) (tieAt ts t) = marksL p ts J
    · obtain ⟨z4, z5, ih⟩ := cheap_l1 p hp hp2 ts hE hw l J (.int t) (.ls ((hj (marksL p ts J) (tieAt ts t)).map D.int)) hl' hJ (by simp at hn ⊢; omega)
      refine ⟨z4, z5, ?_⟩
      simp only [gr]
      rw [if_pos (iff.mpr c), ← ih]
      simp [forL, f_cheapest_tree_l1, e1, hjo, c]
    · have hJ' := hJ.snoc hE ⟨t0, t1⟩ fun z => c (iff.mp ((gr_test hE hJ.inn ⟨t0, t1⟩).mpr z))
      obtain ⟨z4, z5, ih⟩ := cheap_l1 p hp hp2 ts hE hw l (J ++ [t]) (.int t) (.ls ((hj (marksL p ts J) (tieAt ts t)).map D.int)) hl' hJ' (by simp at hn ⊢; omega)
      refine ⟨z4, z5, ?_⟩
      simp only [gr]
      rw [if_neg (fun z => c (iff.mp z)), ← ih, marksL_snoc]
      simp [forL, f_cheapest_tree_l1, e1, hjo, c, bj]
def kruT (p : Nat) (ts : List (Int × Int)) (L : List Int) : List Int := gr p ts (ordOf L) []
theorem cheap_ok {w : D} (p : Nat) (hp : 1 ≤ p) (hp2 : p ≤ 1000) (ts : List (Int × Int)) (hE : EndsOk p ts) (ht : ts.length ≤ 1000) (L : List Int) (hL : L.length = ts.length) (ho : LT w L) :
    g_cheapest_tree [.ob 14 [.int p, .ls (ts.map dP)], w] = if (kruT p ts L).length + 1 = p then .ok (.tp ((srt (kruT p ts L)).map D.int)) else .xc 3 := by
  have lk := look_lens_ok (.int p) (ts.map dP) L ho (by simpa using hL)
  have bo := by_length_ok L (by omega) ho
  have hO : Ord L ts.length (ordOf L) := by rw [← hL]; exact ordOf_ord L
  have hr : rgOk (p : Int) := rgOk_of (by omega) (by omega)
  have h3 : (p : Int) ≤ 1000000 := by omega
  have h3' : p ≤ 1000000 := by omega
  have ol : (ordOf L).length = ts.length := by have := hO.pm.length_eq; rw [iota_len] at this; exact this
  obtain ⟨z4, z5, e⟩ := cheap_l1 p hp hp2 ts hE (LT_shd ho).2.1 (ordOf L) [] .un .un (fun x hx => hO.mem.mp hx) (ind_nil p ts) (by simp; omega)
  rw [show gr p ts (ordOf L) [] = kruT p ts L from rfl, show marksL p ts [] = iota p from rfl] at e
  simp only [List.map_nil] at e
  have kl := (kru_ok hp hE hO).2.1
  rw [show gr p ts (ordOf L) [] = kruT p ts L from rfl] at kl
  have cs := caSorted3_bo (kruT p ts L)
  have b1 : (srt (kruT p ts L)).length ≤ lim := by rw [srt_len, lim_eq]; omega
  by_cases c : (kruT p ts L).length + 1 = p
  · rw [if_pos c]
    have c' : ¬ ((kruT p ts L).length : Int) < (p : Int) - 1 := by omega
    rcases ho with rfl | rfl <;> simp [g_cheapest_tree, runF, f_cheapest_tree, lk, hr, h3, h3', rng_iota, bo, e, c', cs, b1]
  · rw [if_neg c]
    have c' : ((kruT p ts L).length : Int) < (p : Int) - 1 := by omega
    rcases ho with rfl | rfl <;> simp [g_cheapest_tree, runF, f_cheapest_tree, lk, hr, h3, h3', rng_iota, bo, e, c']
theorem enc_int1 : Enc D.int 1 := ⟨.int, fun a => ⟨by simp [toPy], by simp [PySem.PyData.canLay0], by simp [PySem.PyData.depth]⟩, fun a b => by simp only [PySem.PyData.eqv]; by_cases e : a = b <;> simp [e]⟩
theorem enc_NT : Enc dNT 2 := enc_int1.pair enc_int.tp
end Lw

namespace Dt
def sm : Nat → (Nat → Int) → Int
  | 0, _ => 0
  | n + 1, f => sm n f + f n
def sg (i : Nat) : Int := if i % 2 = 0 then 1 else -1
abbrev Mx := Nat → Nat → Int
def del (i : Nat) (A : Mx) : Mx := fun r => A (if r < i then r else r + 1)
def det : Nat → Nat → Mx → Int
  | 0, _, _ => 1
  | n + 1, c, A => sm (n + 1) fun i => sg i * A i c * det n (c + 1) (del i A)
def upd (A : Mx) (k : Nat) (x : Nat → Int) : Mx := fun r => if r = k then x else A r
theorem upd_ne {A : Mx} {k r : Nat} {x : Nat → Int} (h : r ≠ k) : upd A k x r = A r := by simp [upd, h]
def pr : Nat → (Nat → Int) → Int
  | 0, _ => 1
  | n + 1, w => pr n w * w n
end Dt

namespace Dt
def ex (k : Nat) (ρ : Nat → Nat) (i : Nat) : Nat := if i < k then i else ρ (i - k)
structure Bar (n k : Nat) (A A' E : Mx) (s ahead : Int) : Prop where
  hs : det n 0 A = s * det n 0 A'
  ss : s = 1 ∨ s = -1
  ha : ahead = det k 0 A'
  hn : ahead ≠ 0
  hE : ∀ (m : Nat) (ρ γ : Nat → Nat), det (m + 1) 0 (fun i j => E (ρ i) (γ j)) = det (k + m + 1) 0 (fun i j => A' (ex k ρ i) (ex k γ j)) * ahead ^ m
def sw (k f i : Nat) : Nat := if i = k then f else if i = f then k else i
def nx (E : Mx) (k : Nat) (ahead : Int) : Mx := fun r c => (E r c * E k k - E r k * E k c) / ahead
end Dt

namespace Dt
def tr (A : Mx) : Mx := fun r j => A j r
end Dt

noncomputable section
namespace Lw
open DL
end Lw
end

namespace Lw
open DL L2 TL
def dR (l : List Int) : D := .ls (l.map D.int)
theorem dull_R (l : List Int) : dull (dR l) := by
  refine ⟨?_, ?_, ?_, ?_, ?_, ?_⟩ <;> simp [dR]
theorem bR (L : List (List Int)) : brws (L.map dR) = L.map dR ∧ frzs (L.map dR) = L.map dR ∧ plns (L.map dR) = L.map dR ∧ nods (L.map dR) = true ∧ shd (L.map dR) = true ∧ ploks (L.map dR) = true := dulls dull_R L
structure Sq (n : Nat) (L : List (List Int)) : Prop where
  len : L.length = n
  row : ∀ l ∈ L, l.length = n
end Lw

namespace Lw
open DL L2 TL
end Lw

namespace Dt
abbrev Ed := Nat × Nat
def iv (b : Prop) [Decidable b] : Int := if b then 1 else 0
def xv (e : Ed) (j : Nat) : Int := iv (j = e.1) - iv (j = e.2)
def Xm (m : Nat → Nat) (e : Ed) (i : Nat) : Int := iv (m e.1 = i) - iv (m e.2 = i)
def Rw (m : Nat → Nat) : List Ed → Mx
  | [], _, _ => 0
  | e :: es, i, j => Xm m e i * xv e j + Rw m es i j
def Mat (m : Nat → Nat) (es : List Ed) : Mx := fun i j => if m i = i then Rw m es i j else iv (j = i) - iv (j = m i)
def D (n : Nat) (m : Nat → Nat) (es : List Ed) : Int := det n 0 (Mat m es)
structure Lab (n : Nat) (m : Nat → Nat) : Prop where
  le : ∀ i, i ≤ n → m i ≤ n
  id : ∀ i, i ≤ n → m (m i) = m i
  top : m n = n
def mrg (a b : Nat) (m : Nat → Nat) (v : Nat) : Nat := if m v = a then b else m v
theorem Lab.mrg {n : Nat} {m : Nat → Nat} (h : Lab n m) {a b : Nat} (ha : a ≠ n) (hb : b ≤ n) (hm : m b = b) (hn : a ≠ b) : Lab n (mrg a b m) where
  le := fun i hi => by
    unfold Dt.mrg; split
    · exact hb
    · exact h.le i hi
  id := fun i hi => by
    unfold Dt.mrg
    by_cases q : m i = a
    · rw [if_pos q, hm, if_neg (fun z => hn z.symm)]
    · rw [if_neg q, h.id i hi, if_neg q]
  top := by
    unfold Dt.mrg
    rw [h.top, if_neg (fun z => ha z.symm)]
def Ker (n : Nat) (u v : Nat → Nat) : Prop := ∀ i j, i ≤ n → j ≤ n → (u i = u j ↔ v i = v j)
theorem mrg_eq {a b : Nat} {u : Nat → Nat} {i j : Nat} : mrg a b u i = mrg a b u j ↔ u i = u j ∨ (u i = a ∧ u j = b) ∨ (u i = b ∧ u j = a) := by
  unfold mrg
  by_cases h1 : u i = a <;> by_cases h2 : u j = a
  · rw [if_pos h1, if_pos h2]; exact ⟨fun _ => .inl (h1.trans h2.symm), fun _ => rfl⟩
  · rw [if_pos h1, if_neg h2]
    constructor
    · exact fun h => .inr (.inl ⟨h1, h.symm⟩)
    · rintro (h | h | h)
      · exact absurd (h ▸ h1) h2
      · exact h.2.symm
      · exact absurd h.2 h2
  · rw [if_neg h1, if_pos h2]
    constructor
    · exact fun h => .inr (.inr ⟨h, h2⟩)
    · rintro (h | h | h)
      · exact absurd (h.trans h2) h1
      · exact absurd h.1 h1
      · exact h.1
  · rw [if_neg h1, if_neg h2]
    constructor
    · exact .inl
    · rintro (h | h | h)
      · exact h
      · exact absurd h.1 h1
      · exact absurd h.2 h2
theorem Ker.mrg {n : Nat} {u v : Nat → Nat} (h : Ker n u v) {x y : Nat} (hx : x ≤ n) (hy : y ≤ n) : Ker n (mrg (u x) (u y) u) (mrg (v x) (v y) v) := fun i j hi hj => by
  rw [mrg_eq, mrg_eq, h i j hi hj, h i x hi hx, h j y hj hy, h i y hi hy, h j x hj hx]
theorem Ker.turn {n : Nat} {u : Nat → Nat} {x y : Nat} : Ker n (Dt.mrg (u x) (u y) u) (Dt.mrg (u y) (u x) u) := fun i j _ _ => by
  rw [mrg_eq, mrg_eq]
  constructor <;> (rintro (h | h | h); exact .inl h; exact .inr (.inr h); exact .inr (.inl h))
end Dt

noncomputable section
namespace Lw
open DL
def f_exchanges_of_c1 : Env → Res D := eTup (aConsO (eVar 3) (aConsO (eVar 4) (aNil)))
def f_exchanges_of_c1t : Env → Res Bool := tC2 cNe (eVar 4) (eVar 3)
def f_exchanges_of_l1 : Env → Out := sExt 2 (eLc (iSeq (eOwn g_cut_of (aCons (eVar 0) (aCons (eVar 1) (aCons (eVar 3) (aNil)))))) [4] (gtN 4) (f_exchanges_of_c1t) f_exchanges_of_c1)
def f_exchanges_of : Env → Out := sSeq (sExp (eOwn g_look_at_tree (aCons (eVar 0) (aCons (eVar 1) (aNil))))) (sSeq (sAsg 2 (eLst (aNil))) (sSeq (sFor (iSeq (eVar 1)) (gtN 3) f_exchanges_of_l1) (sRetV 2)))
def g_exchanges_of : List D → Res D := runF f_exchanges_of 5
def f_exchanged : Env → Out := sSeq (sExp (eOwn g_look_at_tree (aCons (eVar 0) (aCons (eVar 1) (aNil))))) (sSeq (sIf (tOr_ (tC2 cNIn (eVar 2) (eVar 1)) (tOr_ (tC2 cIn (eVar 3) (eVar 1)) (tNo (tCh cLe cLt (eC (.int 0)) (eVar 3) (eCall caLen (aCons (eUn (opFld 14 1) (eVar 0)) (aNil))))))) (sRaise 5) (sNil)) (sSeq (sAsgF 4 (eCall caTuple (aCons (eCall caSorted3 (aCons (eBin opAdd (eOwn g_without_tie (aCons (eVar 1) (aCons (eVar 2) (aNil)))) (eTup (aConsO (eVar 3) (aNil)))) (aNil))) (aNil)))) (sSeq (sIf (tNo (tTr (eOwn g_is_tree (aCons (eVar 0) (aCons (eVar 4) (aNil)))))) (sRaise 5) (sNil)) (sRetV 4))))
def g_exchanged : List D → Res D := runF f_exchanged 5
end Lw
end

namespace Lw
open DL L2 TL
def exB (p : Nat) (ts : List (Int × Int)) (T : List Int) (o i : Int) : Bool := decide (o ∈ T) && !decide (i ∈ T) && decide (0 ≤ i) && decide (i < ts.length) && treeB p ts (swap T o i)
theorem exB_iff {p : Nat} {ts : List (Int × Int)} {T : List Int} {o i : Int} : exB p ts T o i = true ↔ o ∈ T ∧ i ∉ T ∧ (0 ≤ i ∧ i < ts.length) ∧ treeB p ts (swap T o i) = true := by
  simp only [exB, Bool.and_eq_true, decide_eq_true_eq, Bool.not_eq_true', decide_eq_false_iff_not, and_assoc]
theorem exchanged_ok {w : D} (p : Nat) (hp : 1 ≤ p) (hp2 : p ≤ 1000) (ts : List (Int × Int)) (hE : EndsOk p ts) (T : List Int) (hT : treeB p ts T = true) (ho : LT w T) (o i : Int) :
    g_exchanged [.ob 14 [.int p, .ls (ts.map dP)], w, .int o, .int i] = if exB p ts T o i = true then .ok (.tp ((swap T o i).map D.int)) else .xc 5 := by
  have lk := look_ok p ts hE (by omega) (by omega) T ho hT
  have hTl := tree_len hp hT
  have wt := without_ok T ho (by omega) o
  have it := is_tree_tp p ts hE (by omega) (by omega) (swap T o i)
  have b2 := wo_len T o
  have b3 : (wo T o).length + 1 ≤ lim := by rw [lim_eq]; omega
  have b4 : (swap T o i).length ≤ lim := by unfold swap; rw [srt_len]; simp; omega
  have cs := caSorted3_tp (wo T o ++ [i])
  simp only [List.map_append, List.map_cons, List.map_nil] at cs
  have e : srt (wo T o ++ [i]) = swap T o i := rfl
  rw [e] at cs
  by_cases c1 : o ∈ T
  · by_cases c2 : i ∈ T
    · rw [if_neg (by rw [exB_iff]; exact fun h => h.2.1 c2)]
      rcases ho with rfl | rfl <;> simp [g_exchanged, runF, f_exchanged, lk, c1, c2]
    · by_cases c3 : 0 ≤ i
      · by_cases c4 : i < ts.length
        · cases c5 : treeB p ts (swap T o i) with
          | true =>
            rw [if_pos (exB_iff.mpr ⟨c1, c2, ⟨c3, c4⟩, c5⟩)]
            rcases ho with rfl | rfl <;> simp [g_exchanged, runF, f_exchanged, lk, c1, c2, c3, c4, wt, b3, cs, b4, it, c5]
          | false =>
            rw [if_neg (by rw [exB_iff, c5]; exact fun h => absurd h.2.2.2 (by decide))]
            rcases ho with rfl | rfl <;> simp [g_exchanged, runF, f_exchanged, lk, c1, c2, c3, c4, wt, b3, cs, b4, it, c5]
        · rw [if_neg (by rw [exB_iff]; exact fun h => c4 h.2.2.1.2)]
          rcases ho with rfl | rfl <;> simp [g_exchanged, runF, f_exchanged, lk, c1, c2, c3, c4]
      · rw [if_neg (by rw [exB_iff]; exact fun h => c3 h.2.2.1.1)]
        rcases ho with rfl | rfl <;> simp [g_exchanged, runF, f_exchanged, lk, c1, c2, c3]
  · rw [if_neg (by rw [exB_iff]; exact fun h => c1 h.1)]
    rcases ho with rfl | rfl <;> simp [g_exchanged, runF, f_exchanged, lk, c1]
def exOf (p : Nat) (ts : List (Int × Int)) (T : List Int) (o : Int) : List (Int × Int) := ((cutL p ts T o).filter fun x => !decide (x = o)).map fun i => (o, i)
def exAll (p : Nat) (ts : List (Int × Int)) (T : List Int) : List (Int × Int) := T.flatMap (exOf p ts T)
theorem exOf_len (p : Nat) (ts : List (Int × Int)) (T : List Int) (o : Int) : (exOf p ts T o).length ≤ ts.length := by
  unfold exOf cutL
  rw [List.length_map]
  have a := List.length_filter_le (fun x => !decide (x = o)) ((iota ts.length).filter (inC (p : Int).toNat ts T o))
  have b := List.length_filter_le (inC (p : Int).toNat ts T o) (iota ts.length)
  rw [iota_len] at b
  omega
theorem exch_l1 {w : D} (p : Nat) (hp : 1 ≤ p) (hp2 : p ≤ 100) (ts : List (Int × Int)) (hE : EndsOk p ts) (ht : ts.length ≤ 100) (T : List Int) (hT : treeB p ts T = true) (ho : LT w T) : ∀ (l : List Int) (S : List (Int × Int)) (y3 : D), (∀ o ∈ l, o ∈ T) → S.length + 100 * l.length ≤ 100000 →
    ∃ z3, forL (gtN 3) f_exchanges_of_l1 (l.map D.int) [.ob 14 [.int p, .ls (ts.map dP)], w, .ol (S.map dP), y3, .un] = .nx [.ob 14 [.int p, .ls (ts.map dP)], w, .ol ((S ++ l.flatMap (exOf p ts T)).map dP), z3, .un]
  | [], S, y3, _, _ => ⟨y3, by simp [forL]⟩
  | o :: l, S, y3, hl, hs => by
    have hm := hl o (List.mem_cons_self ..)
    have ct := cut_ok p ts hE (by omega) (by omega) (by omega) T ho hT o
    rw [if_pos hm] at ct
    have el := exOf_len p ts T o
    obtain ⟨z3, ih⟩ := exch_l1 p hp hp2 ts hE ht T hT ho l (S ++ exOf p ts T o) (.int o) (fun x hx => hl x (List.mem_cons_of_mem _ hx)) (by simp at hs ⊢; omega)
    refine ⟨z3, ?_⟩
    rw [List.flatMap_cons, ← List.append_assoc, ← ih]
    have lc : ∀ x2 : D, lcL (gtN 4) f_exchanges_of_c1t f_exchanges_of_c1 [.ob 14 [.int p, .ls (ts.map dP)], w, x2, .int o, .un] ((cutL p ts T o).map D.int) = .ok ((exOf p ts T o).map dP) := fun x2 => by
      unfold exOf
      rw [List.map_map]
      refine lcL_filterN _ fun x _ => ?_
      exact ⟨by rcases ho with rfl | rfl <;> simp [f_exchanges_of_c1t], fun _ => by rcases ho with rfl | rfl <;> simp [f_exchanges_of_c1]⟩
    have b1 : (cutL p ts T o).length ≤ lim := by
      have b := List.length_filter_le (inC (p : Int).toNat ts T o) (iota ts.length)
      rw [iota_len] at b
      unfold cutL
      rw [lim_eq]; omega
    have b2 : S.length + (exOf p ts T o).length ≤ lim := by rw [lim_eq]; simp at hs; omega
    rcases ho with rfl | rfl <;> simp [forL, f_exchanges_of_l1, ct, lc, b1, b2]
theorem exchanges_ok {w : D} (p : Nat) (hp : 1 ≤ p) (hp2 : p ≤ 100) (ts : List (Int × Int)) (hE : EndsOk p ts) (ht : ts.length ≤ 100) (T : List Int) (hT : treeB p ts T = true) (ho : LT w T) :
    g_exchanges_of [.ob 14 [.int p, .ls (ts.map dP)], w] = .ok (.ol ((exAll p ts T).map dP)) := by
  have lk := look_ok p ts hE (by omega) (by omega) T ho hT
  have hTl := tree_len hp hT
  obtain ⟨z3, e⟩ := exch_l1 p hp hp2 ts hE ht T hT ho T [] .un (fun _ h => h) (by simp; omega)
  simp only [List.map_nil, List.nil_append] at e
  rw [show T.flatMap (exOf p ts T) = exAll p ts T from rfl] at e
  rcases ho with rfl | rfl <;> simp [g_exchanges_of, runF, f_exchanges_of, lk, e]
theorem cut_ex {p : Nat} (hp : 1 ≤ p) {ts : List (Int × Int)} (hE : EndsOk p ts) {T : List Int} (hT : treeB p ts T = true) {o : Int} (ho : o ∈ T) (x : Int) : (x ∈ cutL p ts T o ∧ x ≠ o) ↔ exB p ts T o x = true := by
  have hI := tree_ind hT hp
  have hW : InT ts.length (wo T o) := wo_in hI.inn o
  have key : ∀ x : Int, 0 ≤ x → x < ts.length → (inC (p : Int).toNat ts T o x = true ↔ ¬ Conn (tiesAt ts (wo T o)) (tieAt ts x).1 (tieAt ts x).2) := fun x x0 x1 => by
    obtain ⟨_, e2⟩ := tie_at x0 x1
    obtain ⟨⟨a0, a1⟩, b0, b1⟩ := hE _ e2
    simp only [inC, Int.toNat_natCast, Bool.not_eq_true', decide_eq_false_iff_not]
    rw [nthM p ts hE (wo T o) hW _ _ a0 a1 b0 b1]
  rw [exB_iff]
  constructor
  · rintro ⟨h1, h2⟩
    unfold cutL at h1
    obtain ⟨k1, k2⟩ := List.mem_filter.mp h1
    obtain ⟨x0, x1⟩ := iota_mem.mp k1
    have c := (key x x0 x1).mp k2
    have hx : x ∉ T := fun z => c (conn_at (wo_mem.mpr ⟨z, h2⟩))
    exact ⟨ho, hx, ⟨x0, x1⟩, (swap_tree hp hE hT ho hx ⟨x0, x1⟩).mpr c⟩
  · rintro ⟨_, hx, ⟨x0, x1⟩, h⟩
    refine ⟨?_, fun e => hx (e ▸ ho)⟩
    unfold cutL
    exact List.mem_filter.mpr ⟨iota_mem.mpr ⟨x0, x1⟩, (key x x0 x1).mpr ((swap_tree hp hE hT ho hx ⟨x0, x1⟩).mp h)⟩
end Lw

namespace Lw
open DL L2 TL Classical
theorem Ind.cuts {p : Nat} {ts : List (Int × Int)} (hE : EndsOk p ts) {J : List Int} (h : Ind p ts J) {f : Int} (hf : f ∈ J) : ¬ Conn (tiesAt ts (wo J f)) (tieAt ts f).1 (tieAt ts f).2 := by
  intro c
  have hW := h.sub hE (wo_nodup h.nd f) (fun x hx => (wo_mem.mp hx).1)
  have e : cnt p (tiesAt ts (wo J f)) = cnt p (tiesAt ts J) := cnt_eq (tiesAt_ok hE hW.inn) (tiesAt_ok hE h.inn)
    (fun e he => by
      obtain ⟨t, ht, rfl⟩ := List.mem_map.mp he
      exact conn_at (wo_mem.mp ht).1)
    (fun e he => by
      obtain ⟨t, ht, rfl⟩ := List.mem_map.mp he
      by_cases q : t = f
      · subst q; exact c
      · exact conn_at (wo_mem.mpr ⟨ht, q⟩))
  have := h.ct
  have := hW.ct
  have := wo_length h.nd hf
  omega
theorem conn_snoc' {ts : List (Int × Int)} {J : List Int} {t : Int} {i j : Int} : Conn (tiesAt ts (J ++ [t])) i j ↔ Conn (tiesAt ts J) i j ∨ (Conn (tiesAt ts J) i (tieAt ts t).1 ∧ Conn (tiesAt ts J) (tieAt ts t).2 j) ∨ (Conn (tiesAt ts J) i (tieAt ts t).2 ∧ Conn (tiesAt ts J) (tieAt ts t).1 j) := by
  rw [tiesAt_snoc]; exact conn_snoc
theorem Ind.meet {p : Nat} {ts : List (Int × Int)} (hE : EndsOk p ts) {J : List Int} (h : Ind p ts J) {f : Int} (hf : f ∈ J) {K : List Int} (hK : ∀ x ∈ K, x ∈ J) {a b : Int} (c1 : Conn (tiesAt ts K) a b) (c2 : Conn (tiesAt ts (wo J f)) a b) : Conn (tiesAt ts (wo K f)) a b := by
  have c3 : Conn (tiesAt ts (wo K f ++ [f])) a b := conn_sub (fun x hx => by
    by_cases q : x = f
    · subst q; simp
    · exact List.mem_append_left _ (wo_mem.mpr ⟨hx, q⟩)) c1
  have up : ∀ {x y}, Conn (tiesAt ts (wo K f)) x y → Conn (tiesAt ts (wo J f)) x y := fun c => conn_sub (fun x hx => wo_mem.mpr ⟨hK x (wo_mem.mp hx).1, (wo_mem.mp hx).2⟩) c
  rcases conn_snoc'.mp c3 with c | ⟨d1, d2⟩ | ⟨d1, d2⟩
  · exact c
  · exact absurd ((up d1).symm.trans (c2.trans (up d2).symm)) (h.cuts hE hf)
  · exact absurd ((up d2).trans (c2.symm.trans (up d1))) (h.cuts hE hf)
theorem Ind.meets {p : Nat} {ts : List (Int × Int)} (hE : EndsOk p ts) {J : List Int} (h : Ind p ts J) {a b : Int} : ∀ (F : List Int), (∀ f ∈ F, f ∈ J ∧ Conn (tiesAt ts (wo J f)) a b) → ∀ K : List Int, (∀ x ∈ K, x ∈ J) → Conn (tiesAt ts K) a b → Conn (tiesAt ts (K.filter fun x => !decide (x ∈ F))) a b
  | [], _, K, _, c => by rw [List.filter_eq_self.mpr (by simp)]; exact c
  | f :: F, hF, K, hK, c => by
    have c1 := h.meet hE (hF f (List.mem_cons_self ..)).1 hK c (hF f (List.mem_cons_self ..)).2
    have := Ind.meets hE h F (fun g hg => hF g (List.mem_cons_of_mem _ hg)) (wo K f) (fun x hx => hK x (wo_mem.mp hx).1) c1
    refine conn_sub (fun x hx => ?_) this
    rw [List.mem_filter, wo_mem] at hx
    rw [List.mem_filter]
    refine ⟨hx.1.1, ?_⟩
    have h2 := hx.2
    simp at h2 ⊢
    exact ⟨hx.1.2, h2⟩
theorem swap_both {p : Nat} (hp : 1 ≤ p) {ts : List (Int × Int)} (hE : EndsOk p ts) {A U : List Int} (hA : treeB p ts A = true) (hU : treeB p ts U = true) {e : Int} (he : e ∈ A) (heU : e ∉ U) :
    ∃ f ∈ U, f ∉ A ∧ treeB p ts (swap A e f) = true ∧ treeB p ts (swap U f e) = true := by
  have hI := tree_ind hA hp
  have hJ := tree_ind hU hp
  obtain ⟨u1, u2, u3⟩ := treeB_nat.mp hU
  have er := hI.inn e he
  rcases Classical.em (∃ f ∈ U, ¬ Conn (tiesAt ts (wo A e)) (tieAt ts f).1 (tieAt ts f).2 ∧ ¬ Conn (tiesAt ts (wo U f)) (tieAt ts e).1 (tieAt ts e).2) with ⟨f, hf, c1, c2⟩ | no
  · have hfA : f ∉ A := fun z => c1 (conn_at (wo_mem.mpr ⟨z, fun q => heU (q ▸ hf)⟩))
    exact ⟨f, hf, hfA, (swap_tree hp hE hA he hfA (hJ.inn f hf)).mpr c1, (swap_tree hp hE hU hf heU er).mpr c2⟩
  · exfalso
    have hall : Conn (tiesAt ts U) (tieAt ts e).1 (tieAt ts e).2 := by
      obtain ⟨_, e2⟩ := tie_at er.1 er.2
      obtain ⟨a, b⟩ := hE _ e2
      exact (cnt_one hp (tiesAt_ok hE (good_in u2))).mp u3 _ _ a.1 a.2 b.1 b.2
    have c := hJ.meets hE (a := (tieAt ts e).1) (b := (tieAt ts e).2) (U.filter fun f => decide (¬ Conn (tiesAt ts (wo A e)) (tieAt ts f).1 (tieAt ts f).2)) (fun f hf => by
      obtain ⟨k1, k2⟩ := List.mem_filter.mp hf
      refine ⟨k1, ?_⟩
      rcases Classical.em (Conn (tiesAt ts (wo U f)) (tieAt ts e).1 (tieAt ts e).2) with z | z
      · exact z
      · exact absurd ⟨f, k1, by simpa using k2, z⟩ no) U (fun _ h => h) hall
    refine hI.cuts hE he (Conn.le (fun q hq => ?_) c)
    obtain ⟨t, ht, rfl⟩ := List.mem_map.mp hq
    obtain ⟨k1, k2⟩ := List.mem_filter.mp ht
    rcases Classical.em (Conn (tiesAt ts (wo A e)) (tieAt ts t).1 (tieAt ts t).2) with z | z
    · exact z
    · have : t ∈ U.filter fun f => decide (¬ Conn (tiesAt ts (wo A e)) (tieAt ts f).1 (tieAt ts f).2) := List.mem_filter.mpr ⟨k1, by simpa using z⟩
      simp only [this, decide_true, Bool.not_true] at k2
      exact absurd k2 (by simp)
end Lw

namespace Lw
open DL L2 TL
theorem exAll_mem {p : Nat} (hp : 1 ≤ p) {ts : List (Int × Int)} (hE : EndsOk p ts) {T : List Int} (hT : treeB p ts T = true) {o i : Int} : (o, i) ∈ exAll p ts T ↔ exB p ts T o i = true := by
  simp only [exAll, List.mem_flatMap, exOf, List.mem_map, List.mem_filter]
  constructor
  · rintro ⟨o', ho, i', ⟨h1, h2⟩, e⟩
    cases e
    exact (cut_ex hp hE hT ho i).mp ⟨h1, by simpa using h2⟩
  · intro h
    have ho := (exB_iff.mp h).1
    obtain ⟨h1, h2⟩ := (cut_ex hp hE hT ho i).mpr h
    exact ⟨o, ho, i, ⟨h1, by simpa using h2⟩, rfl⟩
theorem exAll_len (p : Nat) (ts : List (Int × Int)) (T : List Int) : (exAll p ts T).length ≤ T.length * ts.length := by
  have : ∀ l : List Int, (l.map fun o => (exOf p ts T o).length).sum ≤ l.length * ts.length := fun l => by
    induction l with
    | nil => simp
    | cons o l ih =>
      have := exOf_len p ts T o
      simp only [List.map_cons, List.sum_cons, List.length_cons, Nat.succ_mul]
      omega
  unfold exAll
  rw [List.length_flatMap]
  exact this T
def shorter (L : List Int) (x : Int × Int) : Bool := decide (nth L x.2 < nth L x.1)
def gains (p : Nat) (ts : List (Int × Int)) (L T : List Int) : List (Int × Int) := (exAll p ts T).filter (shorter L)
section
variable {p : Nat} (hp : 1 ≤ p) {ts : List (Int × Int)} (hE : EndsOk p ts) {T : List Int} (hT : treeB p ts T = true) (L : List Int)
include hp hE hT
omit hE in
theorem lsum_swap {o i : Int} (ho : o ∈ T) : lsum L (swap T o i) = lsum L T - nth L o + nth L i := by
  have hI := tree_ind hT hp
  have pm : (o :: wo T o).Perm T := by
    refine (List.perm_ext_iff_of_nodup (List.nodup_cons.mpr ⟨fun z => (wo_mem.mp z).2 rfl, wo_nodup hI.nd o⟩) hI.nd).mpr fun x => ?_
    rw [List.mem_cons, wo_mem]
    constructor
    · rintro (rfl | h)
      · exact ho
      · exact h.1
    · intro h
      by_cases e : x = o
      · exact .inl e
      · exact .inr ⟨h, e⟩
  unfold swap
  rw [lsum_perm (srt_perm _), ← lsum_perm pm, lsum_cons]
  unfold lsum
  rw [List.map_append, List.sum_append]
  simp
  omega
theorem no_gain (h : gains p ts L T = []) : ∀ (n : Nat) {U : List Int}, treeB p ts U = true → (alone U T).length ≤ n → lsum L T ≤ lsum L U
  | 0, U, hU, hn => by
    have e : U = T := by
      refine rise_uniq (good_iff.mp (treeB_nat.mp hU).2.1).2 (good_iff.mp (treeB_nat.mp hT).2.1).2 fun k => ?_
      have sub : ∀ x ∈ U, x ∈ T := fun x hx => by
        rcases Classical.em (x ∈ T) with z | z
        · exact z
        · have : x ∈ alone U T := List.mem_filter.mpr ⟨hx, by simpa using z⟩
          have := List.length_pos_of_mem this
          omega
      refine ⟨sub k, fun hk => ?_⟩
      rcases Classical.em (k ∈ U) with z | z
      · exact z
      · have := nodup_le (l := k :: U) (m := T) (List.nodup_cons.mpr ⟨z, (tree_ind hU hp).nd⟩) fun y hy => by
          rcases List.mem_cons.mp hy with rfl | hy
          · exact hk
          · exact sub y hy
        have h1 := tree_len hp hU
        have h2 := tree_len hp hT
        simp at this
        omega
    rw [e]; exact Int.le_refl _
  | n + 1, U, hU, hn => by
    match hA : alone U T with
    | [] => exact no_gain h n hU (by rw [hA]; simp)
    | f :: r =>
      have hf : f ∈ alone U T := by rw [hA]; exact List.mem_cons_self ..
      obtain ⟨f1, f2⟩ := List.mem_filter.mp hf
      have f2 : f ∉ T := by simpa using f2
      obtain ⟨g, g1, g2, g3, g4⟩ := swap_both hp hE hU hT f1 f2
      have hex : exB p ts T g f = true := exB_iff.mpr ⟨g1, f2, (tree_ind hU hp).inn f f1, g4⟩
      have ng : ¬ nth L f < nth L g := fun z => by
        have : (g, f) ∈ gains p ts L T := List.mem_filter.mpr ⟨(exAll_mem hp hE hT).mpr hex, by simpa [shorter] using z⟩
        rw [h] at this
        exact nomatch this
      have e1 : lsum L (swap U f g) = lsum L U - nth L f + nth L g := lsum_swap hp hU L f1
      have := no_gain h n g3 (by
        have hnd : (alone (swap U f g) T).Nodup := (tree_ind g3 hp).nd.filter _
        have hfn : f ∉ alone (swap U f g) T := fun z => by
          have := swap_mem.mp (List.mem_filter.mp z).1
          rcases this with ⟨_, z⟩ | z
          · exact z rfl
          · rw [z] at f2; exact f2 g1
        have := nodup_le (l := f :: alone (swap U f g) T) (m := alone U T) (List.nodup_cons.mpr ⟨hfn, hnd⟩) fun y hy => by
          rcases List.mem_cons.mp hy with rfl | hy
          · exact hf
          · obtain ⟨h1, h2⟩ := List.mem_filter.mp hy
            rcases swap_mem.mp h1 with ⟨z, _⟩ | z
            · exact List.mem_filter.mpr ⟨z, h2⟩
            · subst z; simp [g1] at h2
        simp at this
        omega)
      omega
theorem gain_iff : gains p ts L T = [] ↔ ∀ U, treeB p ts U = true → lsum L T ≤ lsum L U := by
  constructor
  · exact fun h U hU => no_gain hp hE hT L h _ hU (Nat.le_refl _)
  · intro h
    match hg : gains p ts L T with
    | [] => rfl
    | (o, i) :: r =>
      exfalso
      have hm : (o, i) ∈ gains p ts L T := by rw [hg]; exact List.mem_cons_self ..
      obtain ⟨h1, h2⟩ := List.mem_filter.mp hm
      have hx := exB_iff.mp ((exAll_mem hp hE hT).mp h1)
      have := h _ hx.2.2.2
      rw [lsum_swap hp hT L hx.1] at this
      have h2 : nth L i < nth L o := by simpa [shorter] using h2
      omega
end
end Lw

namespace Lw
open DL L2 TL
section
variable {p : Nat} {ts : List (Int × Int)}
theorem gr_q (hE : EndsOk p ts) {s J : List Int} (hJ : Ind p ts J) (hs : InT ts.length s) {q : Int → Bool} (sp : s = s.filter q ++ s.filter fun y => !q y) :
    ((gr p ts s J).filter q).length + J.length = (gr p ts (s.filter q) J).length + (J.filter q).length := by
  have h1 : InT ts.length (s.filter q) := fun y hy => hs y (List.mem_filter.mp hy).1
  have h2 : InT ts.length (s.filter fun y => !q y) := fun y hy => hs y (List.mem_filter.mp hy).1
  have e : gr p ts s J = gr p ts (s.filter fun y => !q y) (gr p ts (s.filter q) J) := by
    rw [← gr_app, ← sp]
  obtain ⟨i1, ⟨K1, k1, q1⟩, _⟩ := gr_ok hE (s.filter q) J hJ h1
  obtain ⟨i2, ⟨K2, k2, q2⟩, _⟩ := gr_ok hE (s.filter fun y => !q y) (gr p ts (s.filter q) J) i1 h2
  rw [e, k2, k1]
  simp only [List.filter_append, List.length_append]
  rw [filter_all (l := K1) fun y hy => (List.mem_filter.mp (q1.subset hy)).2, filter_none (l := K2) fun y hy => by have := (List.mem_filter.mp (q2.subset hy)).2; simpa using this]
  simp
  omega
theorem dom_q (hE : EndsOk p ts) {s J : List Int} (hJ : Ind p ts J) (hs : InT ts.length s) {q : Int → Bool} (sp : s = s.filter q ++ s.filter fun y => !q y) {T : List Int} (hT : Ind p ts T) (hJT : ∀ x ∈ J, x ∈ T) (hTs : ∀ x ∈ T, x ∈ J ∨ x ∈ s) :
    (T.filter q).length ≤ ((gr p ts s J).filter q).length := by
  have g := gr_q hE hJ hs sp
  have h1 : InT ts.length (s.filter q) := fun y hy => hs y (List.mem_filter.mp hy).1
  obtain ⟨i1, ⟨K1, k1, q1⟩, c1⟩ := gr_ok hE (s.filter q) J hJ h1
  have pJ : (T.filter fun x => decide (x ∈ J)).Perm J := by
    refine (List.perm_ext_iff_of_nodup (hT.nd.sublist List.filter_sublist) hJ.nd).mpr fun x => ?_
    rw [List.mem_filter, decide_eq_true_eq]
    exact ⟨fun h => h.2, fun h => ⟨hJT x h, h⟩⟩
  have eT : (T.filter q).length = (J.filter q).length + ((T.filter fun x => !decide (x ∈ J)).filter q).length := by
    rw [len_split (T.filter q) (fun x => decide (x ∈ J)), ← (pJ.filter q).length_eq, List.filter_filter, List.filter_filter, List.filter_filter, List.filter_filter]
    congr 1
    · congr 1; refine List.filter_congr fun x _ => ?_; rw [Bool.and_comm]
    · congr 1; refine List.filter_congr fun x _ => ?_; rw [Bool.and_comm]
  have hM : Ind p ts (J ++ (T.filter fun x => !decide (x ∈ J)).filter q) := by
    refine hT.sub hE ?_ fun x hx => ?_
    · refine List.nodup_append.mpr ⟨hJ.nd, (hT.nd.sublist List.filter_sublist).sublist List.filter_sublist, fun a ha b hb e => ?_⟩
      subst e
      have := (List.mem_filter.mp (List.mem_filter.mp hb).1).2
      simp [ha] at this
    · rcases List.mem_append.mp hx with h | h
      · exact hJT x h
      · exact (List.mem_filter.mp (List.mem_filter.mp h).1).1
  have le := hM.le hE i1 fun t ht => by
    rcases List.mem_append.mp ht with h | h
    · exact conn_at (by rw [k1]; exact List.mem_append_left _ h)
    · obtain ⟨h5, h6⟩ := List.mem_filter.mp h
      obtain ⟨h7, h8⟩ := List.mem_filter.mp h5
      refine c1 t (List.mem_filter.mpr ⟨?_, h6⟩)
      rcases hTs t h7 with h9 | h9
      · simp [h9] at h8
      · exact h9
  rw [List.length_append] at le
  omega
def gi (p : Nat) (ts : List (Int × Int)) (ins : List Int) : List Int → List Int → Option (List Int)
  | [], J => some J
  | t :: s, J => if nth (marksL p ts J) (tieAt ts t).1 = nth (marksL p ts J) (tieAt ts t).2 then (if t ∈ ins then none else gi p ts ins s J) else gi p ts ins s (J ++ [t])
theorem gi_app (ins : List Int) : ∀ (s r J : List Int), gi p ts ins (s ++ r) J = (gi p ts ins s J).bind (gi p ts ins r)
  | [], r, J => rfl
  | t :: s, r, J => by
    simp only [List.cons_append, gi]
    split
    · split
      · rfl
      · exact gi_app ins s r J
    · exact gi_app ins s r (J ++ [t])
theorem gi_out (hE : EndsOk p ts) (ins : List Int) : ∀ (s J : List Int), InT ts.length J → InT ts.length s → (∀ x ∈ s, x ∉ ins) → gi p ts ins s J = some (gr p ts s J)
  | [], J, _, _, _ => rfl
  | t :: s, J, hJ, hs, h => by
    have ht := hs t (List.mem_cons_self ..)
    have hs' : InT ts.length s := fun x hx => hs x (List.mem_cons_of_mem _ hx)
    have h' : ∀ x ∈ s, x ∉ ins := fun x hx => h x (List.mem_cons_of_mem _ hx)
    have e : (nth (marksL p ts J) (tieAt ts t).1 = nth (marksL p ts J) (tieAt ts t).2) ↔ (nth (marksM p ts (srt J)) (tieAt ts t).1 = nth (marksM p ts (srt J)) (tieAt ts t).2) := (testL hE hJ ht).trans (gr_test hE hJ ht).symm
    simp only [gi, gr]
    by_cases c : nth (marksL p ts J) (tieAt ts t).1 = nth (marksL p ts J) (tieAt ts t).2
    · rw [if_pos c, if_neg (h t (List.mem_cons_self ..)), if_pos (e.mp c)]
      exact gi_out hE ins s J hJ hs' h'
    · rw [if_neg c, if_neg fun z => c (e.mpr z)]
      exact gi_out hE ins s (J ++ [t]) (fun x hx => by
        rcases List.mem_append.mp hx with h | h
        · exact hJ x h
        · rw [List.mem_singleton.mp h]; exact ht) hs' h'
theorem ind_not {J : List Int} (hE : EndsOk p ts) {t : Int} (hJ : Ind p ts J) (ht : 0 ≤ t ∧ t < ts.length) (c : Conn (tiesAt ts J) (tieAt ts t).1 (tieAt ts t).2) : ¬ Ind p ts (J ++ [t]) := fun h => by
  have h1 := h.ct
  have h2 := hJ.ct
  have h3 := cnt_same (p := p) (es := tiesAt ts J) (t := tieAt ts t) (by rw [← tiesAt_snoc]; exact tiesAt_ok hE h.inn) c
  rw [tiesAt_snoc, h3] at h1
  simp at h1
  omega
theorem gi_in (hE : EndsOk p ts) (ins : List Int) : ∀ (s J : List Int), Ind p ts J → InT ts.length s → (∀ x ∈ s, x ∈ ins) → (gi p ts ins s J = some (J ++ s) ∧ Ind p ts (J ++ s)) ∨ (gi p ts ins s J = none ∧ ¬ Ind p ts (J ++ s))
  | [], J, hJ, _, _ => .inl ⟨by simp [gi], by simpa using hJ⟩
  | t :: s, J, hJ, hs, h => by
    have ht := hs t (List.mem_cons_self ..)
    have hs' : InT ts.length s := fun x hx => hs x (List.mem_cons_of_mem _ hx)
    have h' : ∀ x ∈ s, x ∈ ins := fun x hx => h x (List.mem_cons_of_mem _ hx)
    simp only [gi]
    have ea : J ++ t :: s = J ++ [t] ++ s := by simp
    by_cases c : nth (marksL p ts J) (tieAt ts t).1 = nth (marksL p ts J) (tieAt ts t).2
    · rw [if_pos c, if_pos (h t (List.mem_cons_self ..))]
      refine .inr ⟨rfl, fun z => ?_⟩
      have c' := (testL hE hJ.inn ht).mp c
      have z1 : Ind p ts (J ++ [t]) := z.sub hE (by
        have := z.nd
        rw [ea] at this
        exact (List.nodup_append.mp this).1) fun x hx => by rw [ea]; exact List.mem_append_left _ hx
      exact ind_not hE hJ ht c' z1
    · rw [if_neg c, ea]
      exact gi_in hE ins s (J ++ [t]) (hJ.snoc hE ht fun z => c ((testL hE hJ.inn ht).mpr z)) hs' h'
def grow (p : Nat) (ts : List (Int × Int)) (ins outs O : List Int) : Option (List Int) :=
  match gi p ts ins (ins ++ O.filter fun t => !decide (t ∈ ins) && !decide (t ∈ outs)) [] with
  | none => none
  | some J => if J.length + 1 < p then none else some (srt J)
def wth (p : Nat) (ts : List (Int × Int)) (ins outs : List Int) : List (List Int) := (trees p ts).filter fun T => ins.all (fun t => decide (t ∈ T)) && !outs.any (fun t => decide (t ∈ T))
theorem wth_mem (hp : 1 ≤ p) {ins outs T : List Int} : T ∈ wth p ts ins outs ↔ treeB p ts T = true ∧ (∀ t ∈ ins, t ∈ T) ∧ ∀ t ∈ outs, t ∉ T := by
  unfold wth
  rw [List.mem_filter, trees_mem hp]
  simp
theorem grow_ok (hp : 1 ≤ p) (hE : EndsOk p ts) {ins outs O : List Int} (hi : InT ts.length ins) (hn : ins.Nodup) (hO : O.Perm (iota ts.length)) (hd : ∀ x ∈ ins, x ∉ outs) :
    (grow p ts ins outs O = none ∧ wth p ts ins outs = []) ∨ ∃ J, Ind p ts ins ∧ J = gr p ts (O.filter fun t => !decide (t ∈ ins) && !decide (t ∈ outs)) ins ∧ grow p ts ins outs O = some (srt J) ∧ srt J ∈ wth p ts ins outs ∧ Ind p ts J := by
  have hOm : ∀ {x : Int}, x ∈ O ↔ 0 ≤ x ∧ x < ts.length := fun {x} => by rw [hO.mem_iff, iota_mem]
  have hs : InT ts.length (O.filter fun t => !decide (t ∈ ins) && !decide (t ∈ outs)) := fun x hx => hOm.mp (List.mem_filter.mp hx).1
  have nil : ∀ {l : List (List Int)}, (∀ a ∈ l, False) → l = [] := fun {l} h => List.eq_nil_iff_forall_not_mem.mpr h
  unfold grow
  rw [gi_app]
  rcases gi_in hE ins ins [] (ind_nil p ts) hi (fun _ h => h) with ⟨h1, h2⟩ | ⟨h1, h2⟩
  · simp only [List.nil_append] at h1 h2
    rw [h1]
    simp only [Option.bind_some]
    rw [gi_out hE ins _ ins hi hs (fun x hx => by have := (List.mem_filter.mp hx).2; simp at this; exact this.1)]
    obtain ⟨i1, ⟨K, k1, k2⟩, c1⟩ := gr_ok hE (O.filter fun t => !decide (t ∈ ins) && !decide (t ∈ outs)) ins h2 hs
    have hc := i1.ct
    have hcp := cnt_pos hp (tiesAt ts (gr p ts (O.filter fun t => !decide (t ∈ ins) && !decide (t ∈ outs)) ins))
    simp only
    by_cases c : (gr p ts (O.filter fun t => !decide (t ∈ ins) && !decide (t ∈ outs)) ins).length + 1 < p
    · left
      rw [if_pos c]
      refine ⟨rfl, nil fun T hT => ?_⟩
      obtain ⟨t1, t2, t3⟩ := (wth_mem hp).mp hT
      have hI := tree_ind t1 hp
      have := hI.le hE i1 fun t ht => by
        by_cases m : t ∈ ins
        · exact conn_at (by rw [k1]; exact List.mem_append_left _ m)
        · refine c1 t (List.mem_filter.mpr ⟨hOm.mpr (hI.inn t ht), ?_⟩)
          simp only [m, decide_false, Bool.not_false, Bool.true_and, Bool.not_eq_true', decide_eq_false_iff_not]
          exact fun z => t3 t z ht
      have := tree_len hp t1
      omega
    · right
      rw [if_neg c]
      refine ⟨_, h2, rfl, rfl, (wth_mem hp).mpr ⟨treeB_nat.mpr ⟨by rw [srt_len]; omega, srt_good i1.inn i1.nd, by rw [cnt_srt hE i1.inn]; omega⟩, fun t ht => srt_mem.mpr (by rw [k1]; exact List.mem_append_left _ ht), fun t ht z => ?_⟩, i1⟩
      have z := srt_mem.mp z
      rw [k1] at z
      rcases List.mem_append.mp z with z | z
      · exact hd t z ht
      · have := (List.mem_filter.mp (k2.subset z)).2
        simp [ht] at this
  · simp only [List.nil_append] at h2
    left
    rw [h1]
    refine ⟨rfl, nil fun T hT => ?_⟩
    obtain ⟨t1, t2, t3⟩ := (wth_mem hp).mp hT
    exact h2 ((tree_ind t1 hp).sub hE hn t2)
theorem wth_rise (ins outs : List Int) : Rise (wth p ts ins outs) := List.Pairwise.sublist List.filter_sublist (srtL_rise _)
theorem wth_nodup (ins outs : List Int) : (wth p ts ins outs).Nodup := (trees_nodup p ts).sublist List.filter_sublist
theorem first_of {L : List (List Int)} (hr : Rise L) (hn : L.Nodup) {R : List Int} (hR : R ∈ L) (h : ∀ T ∈ L, T ≠ R → HT.lexLt R T = true) : L.head? = some R := by
  match L, hR with
  | a :: L, hR =>
    by_cases e : a = R
    · rw [e]; rfl
    · exfalso
      have h1 := h a (List.mem_cons_self ..) e
      have h2 := (List.pairwise_cons.mp hr).1 R (by rcases List.mem_cons.mp hR with q | q; exact absurd q.symm e; exact q)
      rw [h1] at h2; cases h2
theorem least_law (hp : 1 ≤ p) (hE : EndsOk p ts) {ins outs : List Int} (hi : InT ts.length ins) (hn : ins.Nodup) (hd : ∀ x ∈ ins, x ∉ outs) : grow p ts ins outs (iota ts.length) = (wth p ts ins outs).head? := by
  rcases grow_ok hp hE hi hn (.refl _) hd with ⟨h1, h2⟩ | ⟨J, h0, h1, h2, h3, h4⟩
  · rw [h1, h2]; rfl
  · rw [h2]
    refine (first_of (wth_rise _ _) (wth_nodup _ _) h3 fun T hT ne => ?_).symm
    obtain ⟨t1, t2, t3⟩ := (wth_mem hp).mp hT
    have hI := tree_ind t1 hp
    obtain ⟨r1, _, _⟩ := (wth_mem hp).mp h3
    have l1 := tree_len hp t1
    have l2 := tree_len hp r1
    have hs : InT ts.length ((iota ts.length).filter fun t => !decide (t ∈ ins) && !decide (t ∈ outs)) := fun x hx => iota_mem.mp (List.mem_filter.mp hx).1
    refine gale_lex (good_iff.mp (treeB_nat.mp r1).2.1).2 (good_iff.mp (treeB_nat.mp t1).2.1).2 (by omega) (fun x => ?_) ne.symm
    rw [bel_perm (srt_perm J), h1]
    refine dom_q (s := (iota ts.length).filter fun t => !decide (t ∈ ins) && !decide (t ∈ outs)) hE h0 hs (q := fun y => decide (y < x)) (filter_split ((iota_rise _).filter _) x) hI t2 fun t ht => ?_
    by_cases m : t ∈ ins
    · exact .inl m
    · refine .inr (List.mem_filter.mpr ⟨iota_mem.mpr (hI.inn t ht), ?_⟩)
      simp only [m, decide_false, Bool.not_false, Bool.true_and, Bool.not_eq_true', decide_eq_false_iff_not]
      exact fun z => t3 t z ht
end
end Lw

namespace Lw
open DL L2 TL
def flt (ins : List Int) (k : Nat) (T : List Int) : List Int := T.filter fun x => decide (x < (k : Int)) && !decide (x ∈ ins)
section
variable {p : Nat} {ts : List (Int × Int)}
theorem one_of {L : List (List Int)} (nd : L.Nodup) {a : List Int} (h : ∀ x ∈ L, x = a) (ha : a ∈ L) : L.length = 1 := by
  match L, ha with
  | [x], _ => rfl
  | x :: y :: L, _ =>
    have e1 := h x (by simp)
    have e2 := h y (by simp)
    rw [e1, e2] at nd
    simp at nd
theorem wth_all (p : Nat) (ts : List (Int × Int)) : wth p ts [] [] = trees p ts := by
  unfold wth
  exact List.filter_eq_self.mpr fun T _ => by simp
end
end Lw

namespace Lw
open DL L2 TL
def dO' (l : List Int) : D := .ol (l.map D.int)
end Lw

namespace Lw
open DL L2 TL
theorem fO (T : List (List Int)) : frzs (T.map dO') = T.map dR ∧ nods (T.map dO') = true := by
  induction T with
  | nil => exact ⟨rfl, rfl⟩
  | cons a T ih => simp only [List.map_cons, frzs_cons, nods, nod, ih.1, ih.2]; exact ⟨by simp [dO', dR], by simp [dO']⟩
end Lw

noncomputable section
namespace Lw
open DL
end Lw
end

namespace Lw
open DL L2 TL
end Lw

namespace Lw
open DL L2 TL
theorem forL_step {tg : D → Env → Option Env} {b : Env → Out} {d : D} {ds : List D} {g g1 g' : Env} (h : tg d g = some g1) (hb : b g1 = .nx g') : forL tg b (d :: ds) g = forL tg b ds g' := by
  rw [forL_cons, h]
  simp only [hb]
end Lw

noncomputable section
namespace Lw
open DL
end Lw
end

namespace Lw
open DL L2
structure Canon (p : Nat) (m : List Int) : Prop where
  len : m.length = p
  le : ∀ i : Int, 0 ≤ i → i < p → 0 ≤ nth m i ∧ nth m i ≤ i ∧ nth m (nth m i) = nth m i
section
variable (L : List (List Int))
@[simp] theorem brws_OO : brws (L.map fun l => D.ol (l.map D.int)) = L.map fun l => .bo (l.map D.int) := by induction L <;> simp [*]
@[simp] theorem frzs_OO : frzs (L.map fun l => D.ol (l.map D.int)) = L.map fun l => .ls (l.map D.int) := by induction L <;> simp [*]
@[simp] theorem nods_OO : nods (L.map fun l => D.ol (l.map D.int)) = true := by induction L <;> simp [*]
@[simp] theorem shd_LL : shd (L.map fun l => D.ls (l.map D.int)) = true := by induction L <;> simp [*]
@[simp] theorem brws_LL : brws (L.map fun l => D.ls (l.map D.int)) = L.map fun l => .ls (l.map D.int) := by induction L <;> simp [*]
@[simp] theorem frzs_LL : frzs (L.map fun l => D.ls (l.map D.int)) = L.map fun l => .ls (l.map D.int) := by induction L <;> simp [*]
@[simp] theorem nods_LL : nods (L.map fun l => D.ls (l.map D.int)) = true := by induction L <;> simp [*]
theorem toPys_BB : toPys (L.map fun l => D.bo (l.map D.int)) = toPys (L.map fun l => D.ls (l.map D.int)) := by
  induction L with
  | nil => rfl
  | cons a L ih => simp [toPys, toPy_bo, ih]
end
@[simp] theorem pyEq_LL (L M : List (List Int)) : pyEq (.ls (L.map fun l => .ls (l.map D.int))) (.ls (M.map fun l => .ls (l.map D.int))) = some (decide (L = M)) := enc_int.ls.ls.eq (by omega) L M
@[simp] theorem pyEq_BL (L M : List (List Int)) : pyEq (.ls (L.map fun l => .bo (l.map D.int))) (.ls (M.map fun l => .ls (l.map D.int))) = some (decide (L = M)) := by
  rw [← pyEq_LL]
  simp [pyEq, toPy, toPys_BB]
end Lw

noncomputable section
namespace Lw
open DL
end Lw
end

namespace Lw
open DL L2 TL
def IntD (A : List (Int × D)) : Prop := ∀ x ∈ A, ∃ n : Int, x.2 = .int n
theorem IntD.put {A : List (Int × D)} (h : IntD A) (k n : Int) : IntD (putG A k (.int n)) := fun x hx => by
  unfold putG at hx
  split at hx
  · obtain ⟨y, hy, rfl⟩ := List.mem_map.mp hx
    by_cases q : y.1 = k
    · rw [if_pos q]; exact ⟨n, rfl⟩
    · rw [if_neg q]; exact h y hy
  · rcases List.mem_append.mp hx with hx | hx
    · exact h x hx
    · rw [List.mem_singleton.mp hx]; exact ⟨n, rfl⟩
theorem IntD.all {A : List (Int × D)} (h : IntD A) : ((ddV A).all fun d => !own1 d) = true ∧ brws (ddV A) = ddV A := by
  induction A with
  | nil => exact ⟨rfl, rfl⟩
  | cons a A ih =>
    obtain ⟨n, e⟩ := h a (List.mem_cons_self ..)
    obtain ⟨i1, i2⟩ := ih fun x hx => h x (List.mem_cons_of_mem _ hx)
    unfold ddV at *
    simp only [List.map_cons, List.all_cons, e, i1, brws_cons, i2]
    exact ⟨rfl, rfl⟩
end Lw

namespace Lw
open DL L2 TL
def unl (p : Nat) (ts : List (Int × Int)) (k : Nat) (s : List Int) : Bool := !decide (nth (marksL p ts s) (tieAt ts k).1 = nth (marksL p ts s) (tieAt ts k).2)
def fo (p : Nat) (ts : List (Int × Int)) : Nat → List (List Int)
  | 0 => [[]]
  | k + 1 => fo p ts k ++ ((fo p ts k).filter (unl p ts k)).map (· ++ [(k : Int)])
end Lw

noncomputable section
namespace Lw
open DL
end Lw
end

namespace Lw
open DL L2 TL
end Lw

namespace Dt
end Dt
namespace Lw
open DL L2 TL
def rwN (n : Nat) (x : Nat → Int) : List Int := (List.range n).map x
def rows (n : Nat) (A : Dt.Mx) : List (List Int) := (List.range n).map fun r => rwN n (A r)
end Lw

noncomputable section
namespace Lw
open DL
end Lw
end

namespace Lw
open DL L2 TL
def but (n : Nat) (t : Int) : List Int := (iota n).filter fun x => !decide (x = t)
end Lw

noncomputable section
namespace Lw
open DL
end Lw
end

namespace Lw
open DL L2 TL
def gI (a b : Int) : Int := (Int.gcd a b : Int)
section
variable {p : Nat} {ts : List (Int × Int)}
end
end Lw

noncomputable section
namespace Lw
open DL
end Lw
end

namespace Lw
open DL L2 TL
def TT (o : D) (L : List (List Int)) : Prop := o = .ls (L.map dR) ∨ o = .tp (L.map dT)
def frI (t b : Int) : Int × Int := if b < 0 then (-(t / gI t b), -(b / gI t b)) else (t / gI t b, b / gI t b)
end Lw

namespace Dt
end Dt

noncomputable section
namespace Lw
open DL
end Lw
end

namespace Lw
open DL L2 TL
section
variable {p : Nat} {ts : List (Int × Int)}
end
end Lw

namespace Lw
open DL L2 TL
theorem forL_nil {tg : D → Env → Option Env} {b : Env → Out} {g : Env} : forL tg b [] g = .nx g := rfl
theorem forL_ret {tg : D → Env → Option Env} {b : Env → Out} {d v : D} {ds : List D} {g g1 : Env} (h : tg d g = some g1) (hb : b g1 = .rt v) : forL tg b (d :: ds) g = .rt v := by
  rw [forL_cons, h]; simp only [hb]
end Lw

noncomputable section
namespace Lw
open DL
end Lw
end

namespace Lw
open DL L2 TL
end Lw

noncomputable section
namespace Lw
open DL
end Lw
end

noncomputable section
namespace Lw
open DL
end Lw
end

noncomputable section
namespace Lw
open DL
end Lw
end

namespace Dt
def pw (x : Nat → Int) : Mx := fun r k => x k ^ r
end Dt
noncomputable section
namespace Lw
open DL L2
end Lw
end

namespace Dw
open Dt
abbrev WE := Ed × Int
def Rw (m : Nat → Nat) : List WE → Mx
  | [], _, _ => 0
  | e :: es, i, j => e.2 * (Xm m e.1 i * xv e.1 j) + Rw m es i j
def Mat (m : Nat → Nat) (es : List WE) : Mx := fun i j => if m i = i then Rw m es i j else iv (j = i) - iv (j = m i)
def D (n : Nat) (m : Nat → Nat) (es : List WE) : Int := det n 0 (Mat m es)
end Dw

namespace Lw
open DL L2 TL
def pl : List Int → Int
  | [] => 1
  | a :: l => a * pl l
section
variable {p : Nat} {ts : List (Int × Int)}
end
end Lw

namespace Lw
open DL L2 TL
section
variable {p : Nat} {ts : List (Int × Int)}
end
end Lw

noncomputable section
namespace Lw
open DL L2
section
variable {p : Nat} {ts : List (Int × Int)}
end
end Lw
end

namespace Dt
def uv (m : Nat) : Nat → Int := fun r => iv (r = m)
def tc (m : Nat) (B : Mx) : Mx := fun r j => if j < m then uv j r else B r j
end Dt
noncomputable section
namespace Lw
open DL L2
section
variable {p : Nat} {ts : List (Int × Int)}
end
end Lw
end

namespace Dt
def one (k n : Nat) : Nat → Nat := fun v => if v = k then n else v
end Dt

noncomputable section
namespace Lw
open DL
end Lw
end

namespace Lw
open DL L2 TL
section
variable {N s t : Int}
end
def fl (p : Nat) (N : Int) (g : Nat → Int) : List (Int × Int) := (List.range p).map fun v => frI (g v) N
section
variable {pp x y : Int} {T : List D}
end
end Lw

noncomputable section
namespace Lw
open DL
end Lw
end

namespace Dt
def En : List Ed → (Nat → Int) → (Nat → Int) → Int
  | [], _, _ => 0
  | e :: es, f, g => (f e.1 - f e.2) * (g e.1 - g e.2) + En es f g
end Dt
namespace Lw
open DL L2 TL
section
variable {p : Nat} {ts : List (Int × Int)}
end
end Lw

noncomputable section
namespace Lw
open DL
end Lw
end

namespace Lw
open DL L2
def dTo (x low high : Int) : Int := if x = high then low else if high < x then x - 1 else x
def others (ts : List (Int × Int)) (t : Int) : List (Int × Int) := ts.take t.toNat ++ ts.drop (t + 1).toNat
end Lw

namespace Lw
open DL L2 TL
def upn (t x : Int) : Int := x + (if t ≤ x then 1 else 0)
section
variable {p : Nat} {ts : List (Int × Int)}
def bk (t : Int) (b : Bool) (l : List Int) : List Int := srt (l.map (upn t) ++ if b = true then [t] else [])
def d2 (lo hi : Int) (e : Int × Int) : Int × Int := (dTo e.1 lo hi, dTo e.2 lo hi)
end
end Lw

namespace Lw
open DL L2 TL
section
variable {p : Nat} {ts : List (Int × Int)}
end
end Lw

noncomputable section
namespace Lw
open DL
end Lw
end

noncomputable section
namespace Lw
open DL L2
end Lw
end

noncomputable section
namespace Lw
open DL L2
theorem seq_to {f u : Env → Out} {g g1 : Env} {o : Out} (h : f g = .nx g1) (h2 : u g1 = o) : sSeq f u g = o := by
  rw [sSeq_, h]
  exact h2
end Lw
end

noncomputable section
namespace Lw
open DL L2
section
variable {pp : D} {T : List D} {S : List Int}
end
section
variable {p : Nat} {ts : List (Int × Int)}
end
end Lw
end

noncomputable section
namespace Lw
open DL
end Lw
end

noncomputable section
namespace Lw
open DL L2
section
variable {x0 : D}
end
section
variable {x0 pp : D} {T : List D} {A B : List Int}
end
end Lw
end

noncomputable section
namespace Lw
open DL
end Lw
end

noncomputable section
namespace Lw
open DL L2 TL
section
variable {p : Nat} {ts : List (Int × Int)}
end
section
variable {p : Nat} {ts : List (Int × Int)}
end
end Lw
end

noncomputable section
namespace Lw
open DL
def f_law_lengths_v2_c1 : Env → Res D := eBin opAdd (eBin opMul (eC (.int 5)) (eVar 3)) (eC (.int 2))
def f_law_lengths_v2_l2 : Env → Out := sIf (tC2 cGt (eVar 1) (eC (.int 0))) (sSet 2 (eBin opMod (eVar 3) (eVar 1)) (eBin opMod (eBin opAdd (eBin opMul (eBin opIx (eVar 2) (eBin opMod (eVar 3) (eVar 1))) (eC (.int 7))) (eBin opIx (eVar 0) (eVar 3))) (eBin opPow (eC (.int 10)) (eC (.int 60))))) (sNil)
def f_law_lengths_v2_l3 : Env → Out := sSeq (sAsgF 5 (eOwn g_law_mixed (aCons (eBin opIx (eVar 2) (eVar 3)) (aCons (eBin opAdd (eC (.int 20)) (eVar 3)) (aNil))))) (sApp 4 (eBin opIx (eLst (aConsO (eBin opMod (eBin opDiv (eVar 5) (eC (.int 8))) (eC (.int 5))) (aConsO (eBin opSub (eBin opMod (eBin opDiv (eVar 5) (eC (.int 8))) (eC (.int 19))) (eC (.int 9))) (aConsO (eC (.int 1)) (aConsO (eBin opSub (eBin opMod (eBin opIx (eVar 2) (eVar 3)) (eBin opMul (eC (.int 2)) (eBin opPow (eC (.int 10)) (eC (.int 59))))) (eBin opPow (eC (.int 10)) (eC (.int 59)))) (aNil)))))) (eBin opMod (eVar 5) (eC (.int 4)))))
def f_law_lengths_v2 : Env → Out := sSeq (sAsg 2 (eLc (iRg1 (aCons (eVar 1) (aNil))) [3] (gtN 3) (tYesG) f_law_lengths_v2_c1)) (sSeq (sFor (iRg1 (aCons (eCall caLen (aCons (eVar 0) (aNil))) (aNil))) (gtN 3) f_law_lengths_v2_l2) (sSeq (sAsg 4 (eLst (aNil))) (sSeq (sFor (iRg1 (aCons (eVar 1) (aNil))) (gtN 3) f_law_lengths_v2_l3) (sRetV 4))))
def g_law_lengths_v2 : List D → Res D := runF f_law_lengths_v2 6
end Lw
end

noncomputable section
namespace Lw
open DL L2 TL
open PySem (Str)
def tI (i : Int) : Str := Str.ofString (toString i)
theorem tI_len {i : Int} (h : i.natAbs < 2 ^ 1000) : (tI i).length ≤ 1001 := by
  unfold tI
  rw [PySem.ofString_length]
  exact PySem.int_text_length_le (by omega) (by
    by_cases c : i.natAbs = 0
    · rw [c]; decide
    · exact (Nat.log2_lt c).mpr h)
theorem caStr_t {i : Int} (h : i.natAbs < 2 ^ 1000) : caStr [.int i] = some (.str (tI i)) := caStr_i (by
  by_cases c : i.natAbs = 0
  · rw [c]; decide
  · exact Nat.lt_trans ((Nat.log2_lt c).mpr h) (by omega))
theorem sum_len (ys : List Str) (B : Nat) (hB : ∀ y ∈ ys, y.length ≤ B) : (ys.map (·.length)).sum ≤ ys.length * B := by
  induction ys with
  | nil => simp
  | cons a l ih =>
    have := ih fun z hz => hB z (List.mem_cons_of_mem _ hz)
    have := hB a (List.mem_cons_self ..)
    rw [List.map_cons, List.sum_cons, List.length_cons, Nat.succ_mul]
    omega
theorem addS {x y : Str} (hx : x.length ≤ 100000) (hy : y.length ≤ 100000) : opAdd (.str x) (.str y) = some (.str (x ++ y)) := opAdd_str (by rw [lim_eq]; omega)
end Lw
end

noncomputable section
namespace Lw
open DL
def f_number_written_c1 : Env → Res D := eB (tC2 cInC (eVar 2) (eC (.str "0123456789")))
def f_number_written : Env → Out := sSeq (sAsgF 1 (eVar 0)) (sSeq (sIf (tC2 cEq (eSlS (eVar 0) (ePart none) (ePart (some (eC (.int 1))))) (eC (.str "-"))) (sAsgF 1 (eSlS (eVar 0) (ePart (some (eC (.int 1)))) (ePart none))) (sNil)) (sSeq (sIf (tOr_ (tNo (tCh cLe cLe (eC (.int 1)) (eCall caLen (aCons (eVar 1) (aNil))) (eC (.int 60)))) (tNo (tTr (eCall caAll (aCons (eLc (iStrD (eVar 1)) [2] (gtN 2) (tYesG) f_number_written_c1) (aNil)))))) (sRaise 12) (sNil)) (sSeq (sIf (tAn (tC2 cEq (eBin opIx (eVar 1) (eC (.int 0))) (eC (.str "0"))) (tC2 cNe (eVar 0) (eC (.str "0")))) (sRaise 12) (sNil)) (sRet (eCall caIntS (aCons (eVar 0) (aNil)))))))
def g_number_written : List D → Res D := runF f_number_written 3
def f_numbers_behind_c1 : Env → Res D := eOwn g_number_written (aCons (eVar 4) (aNil))
def f_numbers_behind : Env → Out := sSeq (sAsgF 3 (eSplit (eVar 0) (eC (.str " ")))) (sSeq (sIf (tOr_ (tC2 cNe (eBin opIx (eVar 3) (eC (.int 0))) (eVar 1)) (tC2 cNe (eCall caLen (aCons (eVar 3) (aNil))) (eBin opAdd (eVar 2) (eC (.int 1))))) (sRaise 12) (sNil)) (sRet (eLc (iSeq (eSl (eVar 3) (ePart (some (eC (.int 1)))) (ePart none))) [4] (gtN 4) (tYesG) f_numbers_behind_c1)))
def g_numbers_behind : List D → Res D := runF f_numbers_behind 5
def f_read_web_c1 : Env → Res D := eOwn g_numbers_behind (aCons (eVar 4) (aCons (eC (.str "tie")) (aCons (eC (.int 3)) (aNil))))
def f_read_web_c2 : Env → Res D := eBin opIx (eVar 5) (eC (.int 2))
def f_read_web_c3 : Env → Res D := eTup (aConsO (eBin opIx (eVar 5) (eC (.int 0))) (aConsO (eBin opIx (eVar 5) (eC (.int 1))) (aNil)))
def f_read_web : Env → Out := sSeq (sAsgF 1 (eSplit (eVar 0) (eC (.str "\n")))) (sSeq (sAsgF 2 (eBin opIx (eOwn g_numbers_behind (aCons (eBin opIx (eVar 1) (eC (.int 0))) (aCons (eC (.str "places")) (aCons (eC (.int 1)) (aNil))))) (eC (.int 0)))) (sSeq (sAsgF 3 (eLc (iSeq (eSl (eVar 1) (ePart (some (eC (.int 1)))) (ePart none))) [4] (gtN 4) (tYesG) f_read_web_c1)) (sRet (eTup (aConsO (eMkF 14 g_Web_init (aCons (eVar 2) (aCons (eLc (iSeq (eVar 3)) [5] (gtN 5) (tYesG) f_read_web_c3) (aNil)))) (aConsO (eFrz (eLc (iSeq (eVar 3)) [5] (gtN 5) (tYesG) f_read_web_c2)) (aNil)))))))
def g_read_web : List D → Res D := runF f_read_web 6
def f_law_text_l1 : Env → Out := sSeq (sAsgF 5 (eLst (aConsO (eC (.str "tie")) (aConsO (eCall caStr (aCons (eBin opIx (eBin opIx (eVar 1) (eVar 4)) (eC (.int 0))) (aNil))) (aConsO (eCall caStr (aCons (eBin opIx (eBin opIx (eVar 1) (eVar 4)) (eC (.int 1))) (aNil))) (aNil)))))) (sApp 3 (eJoin (eC (.str " ")) (eBin opAdd (eVar 5) (eLst (aConsO (eCall caStr (aCons (eBin opIx (eVar 2) (eVar 4)) (aNil))) (aNil))))))
def f_law_text : Env → Out := sSeq (sAsg 3 (eLst (aConsO (eBin opAdd (eC (.str "places ")) (eCall caStr (aCons (eVar 0) (aNil)))) (aNil)))) (sSeq (sFor (iRg1 (aCons (eCall caLen (aCons (eVar 1) (aNil))) (aNil))) (gtN 4) f_law_text_l1) (sRet (eJoin (eC (.str "\n")) (eVar 3))))
def g_law_text : List D → Res D := runF f_law_text 6
end Lw
end

noncomputable section
namespace Lw
open DL L2
open PySem (Str)
abbrev S8 (l : List Nat) : Str := SX.S l
def cd (i : Int) : List Nat := if i < 0 then 45 :: TL.numL i.natAbs else TL.numL i.natAbs
theorem tI_S (i : Int) : tI i = S8 (cd i) := by
  unfold tI cd
  by_cases c : i < 0
  · rw [if_pos c]
    obtain ⟨m, rfl⟩ : ∃ m : Nat, i = Int.negSucc m := ⟨i.natAbs - 1, by omega⟩
    have e : toString (Int.negSucc m) = "-" ++ toString ((m + 1 : Nat) : Int) := rfl
    rw [e, PySem.Str.ofString_eq_toList, String.toList_append, List.map_append]
    have h := SX.num_S (m + 1)
    rw [PySem.Str.ofString_eq_toList] at h
    have h2 : (toString ((m + 1 : Nat) : Int)).toList.map Char.toNat = TL.numL (m + 1) := congrArg (fun x : Str => x.cps.toList) h
    rw [h2]
    have e2 : (Int.negSucc m).natAbs = m + 1 := rfl
    rw [e2]
    rfl
  · rw [if_neg c]
    obtain ⟨m, rfl⟩ : ∃ m : Nat, i = (m : Int) := ⟨i.natAbs, by omega⟩
    exact SX.num_S m
theorem cd_free {i : Int} {s : Nat} (h : s < 45 ∨ 57 < s) : s ∉ cd i := fun hm => by
  unfold cd at hm
  split at hm
  · rcases List.mem_cons.mp hm with q | q
    · omega
    · exact TL.numL_free (by omega) q
  · exact TL.numL_free (by omega) hm
theorem cut_s0 (l : List Nat) : cutS (S8 l) none (some 1) = S8 (l.take 1) := by
  unfold cutS
  have e : (S8 l).length = l.length := SX.S_len l
  rw [e]
  have h1 : HT.sIx l.length 0 none = 0 := rfl
  have h2 : HT.sIx l.length l.length (some 1) = min 1 l.length := HT.sIx_nat l.length _ 1
  rw [h1, h2]
  show (⟨(((l.toArray).toList.drop 0).take (min 1 l.length - 0)).toArray⟩ : Str) = _
  congr 2
  rw [List.drop_zero]
  cases l <;> simp
theorem cut_s1 (l : List Nat) : cutS (S8 l) (some 1) none = S8 (l.drop 1) := by
  unfold cutS
  have e : (S8 l).length = l.length := SX.S_len l
  rw [e]
  have h1 : HT.sIx l.length l.length none = l.length := rfl
  have h2 : HT.sIx l.length 0 (some 1) = min 1 l.length := HT.sIx_nat l.length _ 1
  rw [h1, h2]
  congr 1
  cases l <;> simp

theorem figs : ("0123456789" : Str).cps.toList = [48, 49, 50, 51, 52, 53, 54, 55, 56, 57] := by decide +kernel
theorem dash_S : ("-" : Str) = S8 [45] := by decide +kernel
theorem zero_S : ("0" : Str) = S8 [48] := by decide +kernel
theorem S8_eq {a b : List Nat} : (S8 a = S8 b) ↔ a = b := ⟨SX.S_inj, fun h => by rw [h]⟩
theorem str_dec (a b : List Nat) : decide ((S8 a : Str) = S8 b) = decide (a = b) := by
  rw [Bool.eq_iff_iff, decide_eq_true_eq, decide_eq_true_eq]; exact S8_eq
theorem sg_lc {x0 x1 : D} (ds : List Nat) (h : ∀ c ∈ ds, 48 ≤ c ∧ c ≤ 57) : lcL (gtN 2) tYesG f_number_written_c1 [x0, x1, .un] (sgs (S8 ds)) = .ok ((ds.map fun _ => true).map D.bl) := by
  unfold sgs
  rw [List.map_map]
  show lcL _ _ _ _ (ds.map fun c => D.str ⟨#[c]⟩) = _
  refine lcL_mapN ds fun c hc => ?_
  have hm : c ∈ ("0123456789" : Str).cps.toList := by
    rw [figs]
    have := h c hc
    simp
    omega
  have e : cInC (.str ⟨#[c]⟩) (.str "0123456789") = some true := by
    show some (decide (c ∈ ("0123456789" : Str).cps.toList)) = some true
    rw [decide_eq_true hm]
  simp [f_number_written_c1, e]
theorem all_true (ds : List Nat) : caAll [.ls ((ds.map fun _ => true).map D.bl)] = some (.bl true) := by
  have : ∀ l : List Nat, (l.map fun _ => true).all id = true := fun l => by
    induction l with
    | nil => rfl
    | cons a l ih => rw [List.map_cons, List.all_cons, ih]; rfl
  simp only [caAll, sqL]
  rw [blsOf_map, Option.map_some, this]
theorem nw_raw {x : List Nat} {ds : List Nat} {n : Int} {c0 : Nat} {r : List Nat} (hx : (x = 45 :: ds ∧ True) ∨ (x = ds ∧ ds.take 1 ≠ [45])) (hd : ds = c0 :: r) (h1 : ds.length ≤ 60) (hD : ∀ c ∈ ds, 48 ≤ c ∧ c ≤ 57) (h0 : c0 ≠ 48 ∨ x = [48]) (hi : PySem.intText? (S8 x) = some n) (hl : x.length ≤ 640) : g_number_written [.str (S8 x)] = .ok (.int n) := by
  have c1 := cut_s0 x
  have c2 := cut_s1 x
  have lx : (S8 x : Str).length = x.length := SX.S_len x
  have ld : (S8 ds : Str).length = ds.length := SX.S_len ds
  have bx : x.length ≤ lim := by rw [lim_eq]; omega
  have bd : ds.length ≤ lim := by rw [lim_eq]; omega
  have lc := fun x0 x1 => sg_lc (x0 := x0) (x1 := x1) ds hD
  have at1 := all_true ds
  have dp : 1 ≤ ds.length := by rw [hd]; simp
  have ii : caIntS [.str (S8 x)] = some (.int n) := by
    simp only [caIntS]
    rw [hi, lx]
    exact if_pos hl
  have sl : (sgs (S8 ds)).length ≤ lim := by rw [sgs_len]; show ds.length ≤ lim; exact bd
  have ix : opIx (.str (S8 ds)) (.int 0) = some (.str (S8 [c0])) := by
    have : opIx (.str (S8 ds)) (.int 0) = if (S8 ds : Str).length ≤ lim then (atI (S8 ds : Str).cps.toList 0).map fun c => .str ⟨#[c]⟩ else none := rfl
    rw [this, ld, if_pos bd]
    show (atI ds 0).map _ = _
    rw [hd]
    have e : atI (c0 :: r) 0 = some c0 := (DL.atI_natG (i := 0) (j := 0) rfl (by simp)).trans rfl
    rw [e]
    rfl
  have fin : f_number_written [.str (S8 x), .un, .un] = .rt (.int n) := by
    unfold f_number_written
    refine seq_to (g1 := [.str (S8 x), .str (S8 x), .un]) (by simp) ?_
    refine seq_to (g1 := [.str (S8 x), .str (S8 ds), .un]) ?_ ?_
    · have hc : tC2 cEq (eSlS (eVar 0) (ePart none) (ePart (some (eC (.int 1))))) (eC (.str "-")) [.str (S8 x), .str (S8 x), .un] = .ok (decide (x.take 1 = [45])) := by
        have := str_dec (x.take 1) [45]
        rw [← dash_S] at this
        rw [← this]
        simp [lx, bx, c1]
      rw [sIf_, hc]
      rcases hx with ⟨hx, _⟩ | ⟨hx, hn⟩
      · have : x.take 1 = [45] := by rw [hx]; rfl
        rw [decide_eq_true this]
        have e2 : x.drop 1 = ds := by rw [hx]; rfl
        rw [e2] at c2
        simp [lx, bx, c2]
      · rw [hx, decide_eq_false hn]
        rfl
    · have b60 : ds.length ≤ 60 := h1
      have t1 : tCh cLe cLe (eC (.int 1)) (eCall caLen (aCons (eVar 1) (aNil))) (eC (.int 60)) [.str (S8 x), .str (S8 ds), .un] = .ok true := by
        have e : caLen [.str (S8 ds)] = some (.int ds.length) := by
          show (if (S8 ds : Str).length ≤ lim then some (D.int ((S8 ds : Str).length : Nat)) else none) = _
          rw [ld, if_pos bd]
        have q1 : (1 : Int) ≤ ds.length := by omega
        have q2 : (ds.length : Int) ≤ 60 := by omega
        simp [e, q1, q2]
      have t2 : tTr (eCall caAll (aCons (eLc (iStrD (eVar 1)) [2] (gtN 2) (tYesG) f_number_written_c1) (aNil))) [.str (S8 x), .str (S8 ds), .un] = .ok true := by
        obtain ⟨d1, d2, _, d4, _, _⟩ := dulls dull_bl (ds.map fun _ => true)
        generalize (ds.map fun _ => true).map D.bl = BB at *
        simp [lc, sl, d1, d2, d4, at1]
      refine seq_to (g1 := [.str (S8 x), .str (S8 ds), .un]) ?_ ?_
      · rw [sIf_, tOr__, tNo_, tNo_, t1, t2]
        rfl
      · refine seq_to (g1 := [.str (S8 x), .str (S8 ds), .un]) ?_ (by simp [ii])
        have k1 : tC2 cEq (eBin opIx (eVar 1) (eC (.int 0))) (eC (.str "0")) [.str (S8 x), .str (S8 ds), .un] = .ok (decide ([c0] = [48])) := by
          rw [← str_dec, ← zero_S]
          simp [ix]
        have k2 : tC2 cNe (eVar 0) (eC (.str "0")) [.str (S8 x), .str (S8 ds), .un] = .ok (!decide (x = [48])) := by
          rw [← str_dec, ← zero_S]
          simp
        rw [sIf_, tAn_, k1]
        by_cases q : [c0] = [48]
        · rw [decide_eq_true q]
          have : x = [48] := by
            rcases h0 with h0 | h0
            · simp at q; exact absurd q h0
            · exact h0
          simp only [Res.bind, if_true, k2]
          rw [decide_eq_true this]
          rfl
        · rw [decide_eq_false q]
          rfl
  show (match f_number_written [.str (S8 x), .un, .un] with
    | .rt d => Res.ok d
    | .nx _ => .ok .non
    | .xc c _ => .xc c
    | _ => .bad) = _
  rw [fin]
end Lw
end

noncomputable section
namespace Lw
open DL L2 TL
open PySem (Str)
def q59 : Int := 10 ^ 59
theorem p59 : opPow (.int 10) (.int 59) = some (.int q59) := by rw [opPow_eq, if_pos (by unfold CPow; decide)]; rfl
theorem q59_pos : 0 < q59 := by decide
theorem q59_b (x : Int) : (x % (2 * q59) - q59).natAbs < 10 ^ 60 := by
  have h0 := Int.emod_nonneg x (by decide : 2 * q59 ≠ 0)
  have h1 := Int.emod_lt_of_pos x (by decide : 0 < 2 * q59)
  have e1 : q59 = 100000000000000000000000000000000000000000000000000000000000 := by decide
  have e3 : (10 : Nat) ^ 60 = 1000000000000000000000000000000000000000000000000000000000000 := by decide
  rw [e3]
  rw [e1] at h0 h1 ⊢
  omega
theorem small89 {x : Int} (h : x.natAbs ≤ 9) : x.natAbs < 10 ^ 60 := Nat.lt_of_le_of_lt h (by decide)
theorem len_c1 {x0 x1 x2 x4 x5 : D} (n : Nat) : lcL (gtN 3) tYesG f_law_lengths_v2_c1 [x0, x1, x2, .un, x4, x5] (rng 0 n) = .ok (((List.range n).map fun k : Nat => 5 * (0 + (k : Int)) + 2).map D.int) := by
  rw [List.map_map]
  unfold rng
  refine lcL_mapN _ fun k _ => ?_
  simp only [Function.comp]
  generalize (0 + (k : Int)) = kk
  simp [f_law_lengths_v2_c1]
theorem len_s2 {s : List Int} {x4 x5 : D} {count k at' v c : Int} {L : List Int} {j : Nat} (c0 : 0 < count) (oa : opMod (.int k) (.int count) = some (.int at')) (ev : atI L at' = some v) (es : atI s k = some c) (xi : ixN L.length at' = some j) : f_law_lengths_v2_l2 [.sc (s.map D.int), .int count, .ol (L.map D.int), .int k, x4, x5] = .nx [.sc (s.map D.int), .int count, .ol ((L.set j ((v * 7 + c) % e60)).map D.int), .int k, x4, x5] := by
  unfold f_law_lengths_v2_l2
  have hc : tC2 cGt (eVar 1) (eC (.int 0)) [.sc (s.map D.int), .int count, .ol (L.map D.int), .int k, x4, x5] = .ok true := by simp [c0]
  rw [sIf_, hc]
  simp [oa, ev, es, xi, List.map_set]
theorem len_s2z {s : List Int} {x4 x5 : D} {k : Int} {L : List Int} : f_law_lengths_v2_l2 [.sc (s.map D.int), .int 0, .ol (L.map D.int), .int k, x4, x5] = .nx [.sc (s.map D.int), .int 0, .ol (L.map D.int), .int k, x4, x5] := by
  simp [f_law_lengths_v2_l2]
theorem len_l2 (s : List Int) {count : Nat} (c0 : 0 < count) (x4 x5 : D) : ∀ (n lo : Nat) (L : List Int) (y3 : D), lo + n = s.length → L.length = count →
    ∃ (L' : List Int) (z3 : D), L'.length = count ∧ forL (gtN 3) f_law_lengths_v2_l2 (rng lo n) [.sc (s.map D.int), .int count, .ol (L.map D.int), y3, x4, x5] = .nx [.sc (s.map D.int), .int count, .ol (L'.map D.int), z3, x4, x5] := by
  intro n
  induction n with
  | zero => exact fun lo L y3 _ hL => ⟨L, y3, hL, by rw [rng_zero]; rfl⟩
  | succ n IH =>
    intro lo L y3 hl hL
    have a0 := Int.emod_nonneg (lo : Int) (by omega : (count : Int) ≠ 0)
    have a1 := Int.emod_lt_of_pos (lo : Int) (by omega : (0 : Int) < count)
    obtain ⟨v, ev, _⟩ := DL.atI_of (l := L) (i := (lo : Int) % count) a0 (by omega)
    obtain ⟨c, es, _⟩ := DL.atI_of (l := s) (i := (lo : Int)) (by omega) (by omega)
    have xi : ixN L.length ((lo : Int) % count) = some ((lo : Int) % count).toNat := ixN_nat a0 (by omega)
    have st := len_s2 (x4 := x4) (x5 := x5) (by omega) (opMod_pos (by omega)) ev es xi
    obtain ⟨L', z3, i1, i2⟩ := IH (lo + 1) (L.set ((lo : Int) % count).toNat ((v * 7 + c) % e60)) (.int (lo : Int)) (by omega) (by rw [List.length_set, hL])
    rw [Int.natCast_succ] at i2
    refine ⟨L', z3, i1, ?_⟩
    rw [rng_succ]
    exact (forL_step rfl st).trans i2
theorem len_l2z (s : List Int) (x4 x5 : D) (L : List Int) : ∀ (n lo : Nat) (y3 : D),
    ∃ (z3 : D), forL (gtN 3) f_law_lengths_v2_l2 (rng lo n) [.sc (s.map D.int), .int 0, .ol (L.map D.int), y3, x4, x5] = .nx [.sc (s.map D.int), .int 0, .ol (L.map D.int), z3, x4, x5] := by
  intro n
  induction n with
  | zero => exact fun lo y3 => ⟨y3, by rw [rng_zero]; rfl⟩
  | succ n IH =>
    intro lo y3
    obtain ⟨z3, i2⟩ := IH (lo + 1) (.int (lo : Int))
    rw [Int.natCast_succ] at i2
    refine ⟨z3, ?_⟩
    rw [rng_succ]
    exact (forL_step rfl len_s2z).trans i2
def fin89 (m f : Int) : Int := if m % 4 = 0 then m / 8 % 5 else if m % 4 = 1 then m / 8 % 19 - 9 else if m % 4 = 2 then 1 else f % (2 * q59) - q59
theorem fin89_b (m f : Int) : (fin89 m f).natAbs < 10 ^ 60 := by
  unfold fin89
  split
  · exact small89 (by omega)
  · split
    · exact small89 (by omega)
    · split
      · exact small89 (by omega)
      · exact q59_b f
theorem len_s3 {x0 x1 y5 : D} {k f m : Int} {L A : List Int} (ef : atI L k = some f) (mx : g_law_mixed [.int f, .int (20 + k)] = .ok (.int m)) (bA : A.length < lim) : f_law_lengths_v2_l3 [x0, x1, .ol (L.map D.int), .int k, .ol (A.map D.int), y5] = .nx [x0, x1, .ol (L.map D.int), .int k, .ol ((A ++ [fin89 m f]).map D.int), .int m] := by
  have h1 := p59
  have om : opMul (.int 2) (.int q59) = some (.int (2 * q59)) := opMul_l (by omega) (by omega)
  have om2 : opMod (.int f) (.int (2 * q59)) = some (.int (f % (2 * q59))) := opMod_pos (by have := q59_pos; omega)
  have l4 : 4 ≤ lim := by rw [lim_eq]; omega
  have r0 := Int.emod_nonneg m (by omega : (4 : Int) ≠ 0)
  have r1 := Int.emod_lt_of_pos m (by omega : (0 : Int) < 4)
  have key : atI [D.int (m / 8 % 5), .int (m / 8 % 19 - 9), .int 1, .int (f % (2 * q59) - q59)] (m % 4) = some (.int (fin89 m f)) := by
    unfold fin89
    have : m % 4 = 0 ∨ m % 4 = 1 ∨ m % 4 = 2 ∨ m % 4 = 3 := by omega
    rcases this with h | h | h | h <;> rw [h] <;> rfl
  generalize fin89 m f = w at *
  generalize q59 = w59 at *
  unfold f_law_lengths_v2_l3
  refine seq_to (g1 := [x0, x1, .ol (L.map D.int), .int k, .ol (A.map D.int), .int m]) (by simp [ef, mx]) ?_
  simp [h1, om, om2, ef, l4, key, bA]
theorem len_l3 {x0 x1 : D} {L : List Int} (hL : L.length ≤ 100) : ∀ (n lo : Nat) (A : List Int) (y3 y5 : D), lo + n = L.length → A.length + n ≤ 200 → (∀ x ∈ A, x.natAbs < 10 ^ 60) →
    ∃ (A' : List Int) (z3 z5 : D), A'.length = A.length + n ∧ (∀ x ∈ A', x.natAbs < 10 ^ 60) ∧ forL (gtN 3) f_law_lengths_v2_l3 (rng lo n) [x0, x1, .ol (L.map D.int), y3, .ol (A.map D.int), y5] = .nx [x0, x1, .ol (L.map D.int), z3, .ol (A'.map D.int), z5] := by
  intro n
  induction n with
  | zero => exact fun lo A y3 y5 _ _ hA => ⟨A, y3, y5, rfl, hA, by rw [rng_zero]; rfl⟩
  | succ n IH =>
    intro lo A y3 y5 hl hn hA
    obtain ⟨f, ef, _⟩ := DL.atI_of (l := L) (i := (lo : Int)) (by omega) (by omega)
    have st := len_s3 (x0 := x0) (x1 := x1) (y5 := y5) (A := A) ef (mixed_ok f (20 + (lo : Int))) (by rw [lim_eq]; omega)
    obtain ⟨A', z3, z5, i1, i2, i3⟩ := IH (lo + 1) (A ++ [fin89 (mixF f (20 + (lo : Int))) f]) (.int (lo : Int)) (.int (mixF f (20 + (lo : Int)))) (by omega) (by rw [List.length_append, List.length_singleton]; omega) (fun x hx => by
      rcases List.mem_append.mp hx with q | q
      · exact hA x q
      · rw [List.mem_singleton.mp q]; exact fin89_b _ _)
    rw [Int.natCast_succ] at i3
    rw [List.length_append, List.length_singleton] at i1
    refine ⟨A', z3, z5, by omega, i2, ?_⟩
    rw [rng_succ]
    exact (forL_step rfl st).trans i3
theorem len_raw {s L0 L1 A : List Int} {n m : Nat} {z3 z3' z5 : D} (hm : s.length = m) (hr : rgOk (n : Int)) (hr2 : rgOk (m : Int)) (bn : (rng 0 n).length ≤ lim) (lc : ∀ x0 x1 x2 x4 x5 : D, lcL (gtN 3) tYesG f_law_lengths_v2_c1 [x0, x1, x2, .un, x4, x5] (rng 0 n) = .ok (L0.map D.int)) (e2 : forL (gtN 3) f_law_lengths_v2_l2 (rng 0 m) [.sc (s.map D.int), .int n, .ol (L0.map D.int), .un, .un, .un] = .nx [.sc (s.map D.int), .int n, .ol (L1.map D.int), z3, .un, .un]) (e3 : forL (gtN 3) f_law_lengths_v2_l3 (rng 0 n) [.sc (s.map D.int), .int n, .ol (L1.map D.int), z3, .ol [], .un] = .nx [.sc (s.map D.int), .int n, .ol (L1.map D.int), z3', .ol (A.map D.int), z5]) (l0 : 0 ≤ lim) (bs : m ≤ lim) : g_law_lengths_v2 [.sc (s.map D.int), .int n] = .ok (.ol (A.map D.int)) := by
  have e : f_law_lengths_v2 [.sc (s.map D.int), .int n, .un, .un, .un, .un] = .rt (.ol (A.map D.int)) := by
    unfold f_law_lengths_v2
    refine seq_to (g1 := [.sc (s.map D.int), .int n, .ol (L0.map D.int), .un, .un, .un]) (by simp [hr, lc, bn]) ?_
    refine seq_to (g1 := [.sc (s.map D.int), .int n, .ol (L1.map D.int), z3, .un, .un]) (by simp [hm, hr2, e2, bs]) ?_
    refine seq_to (g1 := [.sc (s.map D.int), .int n, .ol (L1.map D.int), z3, .ol [], .un]) (by simp [l0]) ?_
    refine seq_to (g1 := [.sc (s.map D.int), .int n, .ol (L1.map D.int), z3', .ol (A.map D.int), z5]) (by simp [hr, e3]) ?_
    simp
  show (match f_law_lengths_v2 [.sc (s.map D.int), .int n, .un, .un, .un, .un] with
    | .rt d => Res.ok d
    | .nx _ => .ok .non
    | .xc c _ => .xc c
    | _ => .bad) = _
  rw [e]
theorem lengths89_ok (s : List Int) (hs : s.length ≤ 63) (n : Nat) (hn : n ≤ 100) : ∃ L : List Int, L.length = n ∧ (∀ x ∈ L, x.natAbs < 10 ^ 60) ∧ g_law_lengths_v2 [.sc (s.map D.int), .int n] = .ok (.ol (L.map D.int)) := by
  have bl : ∀ n : Nat, n ≤ 1000 → n ≤ lim := fun n h => by rw [lim_eq]; omega
  obtain ⟨L0, h0, lc⟩ : ∃ L0 : List Int, L0.length = n ∧ ∀ x0 x1 x2 x4 x5 : D, lcL (gtN 3) tYesG f_law_lengths_v2_c1 [x0, x1, x2, .un, x4, x5] (rng 0 n) = .ok (L0.map D.int) := ⟨_, by rw [List.length_map, List.length_range], fun x0 x1 x2 x4 x5 => len_c1 n⟩
  obtain ⟨L1, z3, h1, e2⟩ : ∃ (L1 : List Int) (z3 : D), L1.length = n ∧ forL (gtN 3) f_law_lengths_v2_l2 (rng 0 s.length) [.sc (s.map D.int), .int n, .ol (L0.map D.int), .un, .un, .un] = .nx [.sc (s.map D.int), .int n, .ol (L1.map D.int), z3, .un, .un] := by
    by_cases c : 0 < n
    · obtain ⟨L1, z3, i1, i2⟩ := len_l2 s c .un .un s.length 0 L0 .un (by omega) h0
      rw [show ((0 : Nat) : Int) = 0 from rfl] at i2
      exact ⟨L1, z3, i1, i2⟩
    · obtain rfl : n = 0 := by omega
      obtain ⟨z3, i2⟩ := len_l2z s .un .un L0 s.length 0 .un
      rw [show ((0 : Nat) : Int) = 0 from rfl] at i2 ⊢
      exact ⟨L0, z3, h0, i2⟩
  obtain ⟨A, z3', z5, i1, i2, i3⟩ := len_l3 (x0 := .sc (s.map D.int)) (x1 := .int n) (L := L1) (by omega) n 0 [] z3 .un (by omega) (by rw [List.length_nil]; omega) (fun _ h => nomatch h)
  rw [show ((0 : Nat) : Int) = 0 from rfl] at i3
  rw [List.length_nil, Nat.zero_add] at i1
  rw [List.map_nil] at i3
  exact ⟨A, i1, i2, len_raw rfl (rgOk_of (by omega) (by omega)) (rgOk_of (by omega) (by omega)) (by rw [rng_len]; exact bl _ (by omega)) lc e2 i3 (bl 0 (by omega)) (bl _ (by omega))⟩

theorem map_snocS (S : List Str) (x : Str) : (S ++ [x]).map D.str = S.map D.str ++ [D.str x] := by rw [List.map_append]; rfl
section
variable {p : Nat} {ts : List (Int × Int)}
end

theorem sort_first {W : List (List Int)} {L K : List Int} (hK : K ∈ W) (h : ∀ S ∈ W, S ≠ K → HT.lexLt (lsum L K :: K) (lsum L S :: S) = true) : ∃ Z, (W.map fun S => (lsum L S, S)).mergeSort (fun a b => !HT.lexLt (b.1 :: b.2) (a.1 :: a.2)) = (lsum L K, K) :: Z := by
  have pm := List.mergeSort_perm (W.map fun S => (lsum L S, S)) (fun a b => !HT.lexLt (b.1 :: b.2) (a.1 :: a.2))
  have so := List.pairwise_mergeSort (le := fun a b : Int × List Int => !HT.lexLt (b.1 :: b.2) (a.1 :: a.2)) (fun a b c h1 h2 => by
    simp only [Bool.not_eq_true'] at h1 h2 ⊢
    exact NtL.lex_tr _ _ _ h1 h2) (fun a b => by
    cases q : HT.lexLt (b.1 :: b.2) (a.1 :: a.2) with
    | false => rfl
    | true => rw [NtL.lex_asym _ _ q]; rfl) (W.map fun S => (lsum L S, S))
  generalize (W.map fun S => (lsum L S, S)).mergeSort (fun a b => !HT.lexLt (b.1 :: b.2) (a.1 :: a.2)) = M at *
  have hm : (lsum L K, K) ∈ M := pm.mem_iff.mpr (List.mem_map.mpr ⟨K, hK, rfl⟩)
  cases M with
  | nil => cases hm
  | cons a M =>
    refine ⟨M, ?_⟩
    have ha : a ∈ W.map fun S => (lsum L S, S) := pm.mem_iff.mp (List.mem_cons_self ..)
    obtain ⟨S, hS, rfl⟩ := List.mem_map.mp ha
    by_cases c : S = K
    · rw [c]
    · exfalso
      rcases List.mem_cons.mp hm with q | q
      · exact c (congrArg Prod.snd q).symm
      · have h1 := (List.pairwise_cons.mp so).1 _ q
        rw [h S hS c] at h1
        simp at h1
end Lw
end

noncomputable section
namespace Lw
open DL L2
open PySem (Str)
theorem numL_lead : ∀ n : Nat, n ≠ 0 → ∃ c r, TL.numL n = c :: r ∧ c ≠ 48 := fun n => by
  induction n using Nat.strongRecOn with
  | _ n ih =>
    intro h0
    by_cases h : n < 10
    · exact ⟨48 + n, [], TL.numL_lt h, by omega⟩
    · obtain ⟨c, r, e, hc⟩ := ih (n / 10) (by omega) (by omega)
      exact ⟨c, r ++ [48 + n % 10], by rw [TL.numL_step (by omega), e]; rfl, hc⟩
theorem num_ok {n : Int} (h : n.natAbs < 10 ^ 60) : g_number_written [.str (tI n)] = .ok (.int n) := by
  rw [tI_S]
  have hl := TL.numL_len (n := n.natAbs) (k := 60) (by omega) h
  have hD := TL.numL_digits n.natAbs
  have hv := TL.numL_val n.natAbs
  have hne := TL.numL_ne n.natAbs
  obtain ⟨c0, r, hd⟩ : ∃ c0 r, TL.numL n.natAbs = c0 :: r := by
    cases hx : TL.numL n.natAbs with
    | nil => exact absurd hx hne
    | cons a l => exact ⟨a, l, rfl⟩
  have h0 : c0 ≠ 48 ∨ cd n = [48] := by
    by_cases z : n.natAbs = 0
    · right
      have : n = 0 := by omega
      subst this
      show TL.numL 0 = [48]
      exact TL.numL_lt (by omega)
    · left
      obtain ⟨c, r', e, hc⟩ := numL_lead _ z
      rw [hd] at e
      cases e
      exact hc
  have hi : PySem.intText? (S8 (cd n)) = some n := by
    unfold cd
    by_cases c : n < 0
    · rw [if_pos c]
      have := PySem.intText_neg (x := S8 (45 :: TL.numL n.natAbs)) (cs := TL.numL n.natAbs) rfl hD hne (by rw [SX.S_len, List.length_cons]; omega)
      rw [this, hv]
      congr 1
      omega
    · rw [if_neg c]
      have := PySem.intText_digits (x := S8 (TL.numL n.natAbs)) hD hne (by rw [SX.S_len]; omega)
      rw [this]
      show some ((PySem.NumText.digitsVal (TL.numL n.natAbs) : Nat) : Int) = _
      rw [hv]
      congr 1
      omega
  refine nw_raw (ds := TL.numL n.natAbs) (c0 := c0) (r := r) ?_ hd hl hD h0 hi ?_
  · unfold cd
    by_cases c : n < 0
    · rw [if_pos c]; exact .inl ⟨rfl, trivial⟩
    · rw [if_neg c]
      refine .inr ⟨rfl, fun z => ?_⟩
      rw [hd] at z
      have := hD c0 (by rw [hd]; exact List.mem_cons_self ..)
      simp at z
      omega
  · unfold cd
    split
    · rw [List.length_cons]; omega
    · omega
def lnC (w : List Nat) (ns : List Int) : List Nat := TL.joinL [32] (w :: ns.map cd)
theorem mem_joinL {s : List Nat} {c : Nat} : ∀ {ps : List (List Nat)}, c ∈ TL.joinL s ps → c ∈ s ∨ ∃ p ∈ ps, c ∈ p
  | [], h => nomatch h
  | [p], h => .inr ⟨p, List.mem_singleton.mpr rfl, h⟩
  | p :: q :: r, h => by
    have h : c ∈ p ++ (s ++ TL.joinL s (q :: r)) := h
    rcases List.mem_append.mp h with h | h
    · exact .inr ⟨p, List.mem_cons_self .., h⟩
    · rcases List.mem_append.mp h with h | h
      · exact .inl h
      · rcases mem_joinL h with h | ⟨x, hx, h⟩
        · exact .inl h
        · exact .inr ⟨x, List.mem_cons_of_mem _ hx, h⟩
theorem joinL_len (s : List Nat) (B : Nat) : ∀ ps : List (List Nat), (∀ p ∈ ps, p.length ≤ B) → (TL.joinL s ps).length ≤ ps.length * (B + s.length)
  | [], _ => Nat.zero_le _
  | [p], h => by
    have := h p (List.mem_singleton.mpr rfl)
    show p.length ≤ 1 * (B + s.length)
    omega
  | p :: q :: r, h => by
    have ih := joinL_len s B (q :: r) fun x hx => h x (List.mem_cons_of_mem _ hx)
    have := h p (List.mem_cons_self ..)
    show (p ++ (s ++ TL.joinL s (q :: r))).length ≤ _
    rw [List.length_append, List.length_append, List.length_cons, Nat.succ_mul]
    omega
theorem cd_len {n : Int} (h : n.natAbs < 10 ^ 60) : (cd n).length ≤ 61 := by
  have hl := TL.numL_len (n := n.natAbs) (k := 60) (by omega) h
  unfold cd
  split
  · rw [List.length_cons]; omega
  · omega
theorem sp_S : (" " : Str) = S8 [32] := by decide +kernel
theorem nl_S : ("\n" : Str) = S8 [10] := by decide +kernel
theorem split_ln {w : List Nat} {ns : List Int} (hw : 32 ∉ w) : PySem.Txt.split (S8 (lnC w ns)) " " = (w :: ns.map cd).map S8 := by
  rw [sp_S]
  refine (SX.split_S (b := [32]) (by decide) (by decide)).trans ?_
  rw [show TL.spl [32] 0 [] (lnC w ns) = w :: ns.map cd from SX.spl_join (by simp) fun p hp => by
    rcases List.mem_cons.mp hp with rfl | hp
    · exact hw
    · obtain ⟨i, _, rfl⟩ := List.mem_map.mp hp
      exact cd_free (by omega)]
theorem nb_c1 {x0 x1 x2 x3 : D} {ns : List Int} (hb : ∀ n ∈ ns, n.natAbs < 10 ^ 60) : lcL (gtN 4) tYesG f_numbers_behind_c1 [x0, x1, x2, x3, .un] ((ns.map tI).map D.str) = .ok (ns.map D.int) := by
  rw [List.map_map]
  refine lcL_mapN ns fun n hn => ?_
  have := num_ok (hb n hn)
  simp [f_numbers_behind_c1, this]
theorem nb_raw {l w : Str} {ns : List Int} {k : Int} (hs : PySem.Txt.split l " " = w :: ns.map tI) (hl : l.length + 2 ≤ lim) (hk : (ns.length : Int) = k) (hb : ∀ n ∈ ns, n.natAbs < 10 ^ 60) (bn : ns.length + 1 ≤ lim) : g_numbers_behind [.str l, .str w, .int k] = .ok (.ol (ns.map D.int)) := by
  subst hk
  have e1 : (" " : Str).length = 1 := by decide
  have e2 : ¬ (((" " : Str).length == 0) = true) := by decide
  obtain ⟨d1, d2, _, d4, _, _⟩ := dulls dull_str (w :: ns.map tI)
  have ix : opIx (.ls ((w :: ns.map tI).map D.str)) (.int 0) = some (.str w) := by
    show atI ((w :: ns.map tI).map D.str) 0 = _
    rw [List.map_cons]
    exact (DL.atI_natG (i := 0) (j := 0) rfl (by simp)).trans rfl
  have ln : (((w :: ns.map tI).map D.str).length : Int) = (ns.length : Int) + 1 := by simp
  have ct : opSl (.ls ((w :: ns.map tI).map D.str)) (some 1) none = some (.ol ((ns.map tI).map D.str)) := by
    have : cut ((w :: ns.map tI).map D.str) (some 1) none = (ns.map tI).map D.str := by rw [cut_from _ 1 (by omega)]; rfl
    show some (D.ol (cut _ _ _)) = _
    rw [this]
  have lc := fun x0 x1 x2 x3 => nb_c1 (x0 := x0) (x1 := x1) (x2 := x2) (x3 := x3) hb
  obtain ⟨t1, t2, _, t4, _, _⟩ := dulls dull_str (ns.map tI)
  have lt : ((ns.map tI).map D.str).length ≤ lim := by simp; omega
  generalize (ns.map tI).map D.str = NT at *
  have hsp : eSplit (eVar 0) (eC (.str " ")) [.str l, .str w, .int (ns.length : Int), .un, .un] = .ok (.ol ((w :: ns.map tI).map D.str)) := by
    simp [e1, hl]
    rw [hs]
    simp
  generalize (w :: ns.map tI).map D.str = WW at *
  have fin : f_numbers_behind [.str l, .str w, .int (ns.length : Int), .un, .un] = .rt (.ol (ns.map D.int)) := by
    unfold f_numbers_behind
    refine seq_to (g1 := [.str l, .str w, .int (ns.length : Int), .ls WW, .un]) ?_ ?_
    · show ((eSplit (eVar 0) (eC (.str " ")) [.str l, .str w, .int (ns.length : Int), .un, .un]).bind kp).st _ _ = _
      rw [hsp]
      simp [d2, d4]
    · refine seq_to (g1 := [.str l, .str w, .int (ns.length : Int), .ls WW, .un]) (by simp [ix, ln, d1, d2, d4]) ?_
      simp [ct, d1, d2, d4, t1, t2, t4, lc, lt]
  show (match f_numbers_behind [.str l, .str w, .int (ns.length : Int), .un, .un] with
    | .rt d => Res.ok d
    | .nx _ => .ok .non
    | .xc c _ => .xc c
    | _ => .bad) = _
  rw [fin]

def plC : List Nat := [112, 108, 97, 99, 101, 115]
def tiC : List Nat := [116, 105, 101]
theorem pl_S : ("places" : Str) = S8 plC := by decide +kernel
theorem ti_S : ("tie" : Str) = S8 tiC := by decide +kernel
theorem pls_S : ("places " : Str) = S8 (plC ++ [32]) := by decide +kernel
def tlC (e : Int × Int) (l : Int) : List Nat := lnC tiC [e.1, e.2, l]
theorem place_line (p : Int) : ("places " : Str) ++ tI p = S8 (lnC plC [p]) := by
  rw [pls_S, tI_S]
  refine (SX.S_cat _ _).trans ?_
  unfold lnC
  show S8 (plC ++ [32] ++ cd p) = S8 (plC ++ ([32] ++ cd p))
  rw [List.append_assoc]
theorem tie_line (e : Int × Int) (l : Int) : PySem.Txt.join " " [("tie" : Str), tI e.1, tI e.2, tI l] = S8 (tlC e l) := by
  rw [sp_S, ti_S, tI_S, tI_S, tI_S]
  exact SX.join_S [32] [tiC, cd e.1, cd e.2, cd l]
def txC (p : Int) (R : List ((Int × Int) × Int)) : List Nat := TL.joinL [10] (lnC plC [p] :: R.map fun r => tlC r.1 r.2)
theorem lnC_free {w : List Nat} {ns : List Int} (hw : 10 ∉ w) : 10 ∉ lnC w ns := fun h => by
  rcases mem_joinL h with h2 | ⟨x, hx, h2⟩
  · simp at h2
  · rcases List.mem_cons.mp hx with q | hx
    · rw [q] at h2; exact hw h2
    · obtain ⟨i, _, rfl⟩ := List.mem_map.mp hx
      exact cd_free (by omega) h2
theorem split_tx (p : Int) (R : List ((Int × Int) × Int)) : PySem.Txt.split (S8 (txC p R)) "\n" = (lnC plC [p] :: R.map fun r => tlC r.1 r.2).map S8 := by
  rw [nl_S]
  refine (SX.split_S (b := [10]) (by decide) (by decide)).trans ?_
  rw [show TL.spl [10] 0 [] (txC p R) = lnC plC [p] :: R.map (fun r => tlC r.1 r.2) from SX.spl_join (by simp) fun q hq => by
    rcases List.mem_cons.mp hq with rfl | hq
    · exact lnC_free (by decide)
    · obtain ⟨i, _, rfl⟩ := List.mem_map.mp hq
      exact lnC_free (by decide)]
theorem lnC_len {w : List Nat} {ns : List Int} (hw : w.length ≤ 61) (hb : ∀ n ∈ ns, n.natAbs < 10 ^ 60) : (lnC w ns).length ≤ (ns.length + 1) * 62 := by
  have := joinL_len [32] 61 (w :: ns.map cd) fun q hq => by
    rcases List.mem_cons.mp hq with rfl | hq
    · exact hw
    · obtain ⟨i, hi, rfl⟩ := List.mem_map.mp hq
      exact cd_len (hb i hi)
  rw [List.length_cons, List.length_map] at this
  exact this
theorem txC_len {p : Int} {R : List ((Int × Int) × Int)} (hp : p.natAbs < 10 ^ 60) (hR : ∀ r ∈ R, r.1.1.natAbs < 10 ^ 60 ∧ r.1.2.natAbs < 10 ^ 60 ∧ r.2.natAbs < 10 ^ 60) : (txC p R).length ≤ (R.length + 1) * 249 := by
  have := joinL_len [10] 248 (lnC plC [p] :: R.map fun r => tlC r.1 r.2) fun q hq => by
    rcases List.mem_cons.mp hq with rfl | hq
    · exact Nat.le_trans (lnC_len (by decide) fun n hn => by rw [List.mem_singleton.mp hn]; exact hp) (by simp)
    · obtain ⟨r, hr, rfl⟩ := List.mem_map.mp hq
      obtain ⟨h1, h2, h3⟩ := hR r hr
      refine lnC_len (by decide) fun n hn => ?_
      rcases List.mem_cons.mp hn with rfl | hn
      · exact h1
      · rcases List.mem_cons.mp hn with rfl | hn
        · exact h2
        · rw [List.mem_singleton.mp hn]; exact h3
  rw [List.length_cons, List.length_map] at this
  exact this
theorem lx_l1 {x0 y5 : D} {T : List D} {L : List Int} {S : List Str} {k a b l : Int} (e1 : atI T k = some (.tp [.int a, .int b])) (e2 : atI L k = some l) (ha : a.natAbs < 10 ^ 60) (hb : b.natAbs < 10 ^ 60) (hl : l.natAbs < 10 ^ 60) (bS : S.length < lim) : f_law_text_l1 [x0, .ls T, .ls (L.map D.int), .ol (S.map D.str), .int k, y5] = .nx [x0, .ls T, .ls (L.map D.int), .ol ((S ++ [S8 (tlC (a, b) l)]).map D.str), .int k, .ls [.str "tie", .str (tI a), .str (tI b)]] := by
  have big : (10 : Nat) ^ 60 < 2 ^ 1000 := by decide
  have c1 := caStr_t (Nat.lt_trans ha big)
  have c2 := caStr_t (Nat.lt_trans hb big)
  have c3 := caStr_t (Nat.lt_trans hl big)
  have tl := tie_line (a, b) l
  dsimp only at tl
  have l1 := tI_len (Nat.lt_trans ha big)
  have l2 := tI_len (Nat.lt_trans hb big)
  have l3 := tI_len (Nat.lt_trans hl big)
  have m3 : 3 ≤ lim := by rw [lim_eq]; omega
  have m1 : 1 ≤ lim := by rw [lim_eq]; omega
  have m4 : 4 ≤ lim := by rw [lim_eq]; omega
  have e3 : ("tie" : Str).length = 3 := by decide
  have e4 : (" " : Str).length = 1 := by decide
  rw [map_snocS, ← tl]
  unfold f_law_text_l1
  refine seq_to (g1 := [x0, .ls T, .ls (L.map D.int), .ol (S.map D.str), .int k, .ls [.str "tie", .str (tI a), .str (tI b)]]) (by simp [e1, c1, c2, m3]) ?_
  have jo : eJoin (eC (.str " ")) (eBin opAdd (eVar 5) (eLst (aConsO (eCall caStr (aCons (eBin opIx (eVar 2) (eVar 4)) (aNil))) (aNil)))) [x0, .ls T, .ls (L.map D.int), .ol (S.map D.str), .int k, .ls [.str "tie", .str (tI a), .str (tI b)]] = .ok (.str (PySem.Txt.join " " ["tie", tI a, tI b, tI l])) := by
    have sz : ("tie" : Str).length + ((tI a).length + ((tI b).length + (tI l).length)) + 4 * (" " : Str).length ≤ 16777216 := by omega
    simp [e2, c3, m1, m3, m4, sz]
  show ((eJoin _ _ _).bind kp).st _ _ = _
  rw [jo]
  simp [bS]

section
variable {p : Nat} {ts : List (Int × Int)} {L : List Int}
theorem lx_for (hE : EndsOk p ts) (hp : p ≤ 1000) (hL : L.length = ts.length) (hb : ∀ x ∈ L, x.natAbs < 10 ^ 60) {x0 : D} : ∀ (n lo : Nat) (S : List Str) (y4 y5 : D), lo + n = ts.length → S.length + n ≤ 1000 →
    ∃ z4 z5, forL (gtN 4) f_law_text_l1 (rng lo n) [x0, .ls (ts.map dP), .ls (L.map D.int), .ol (S.map D.str), y4, y5] = .nx [x0, .ls (ts.map dP), .ls (L.map D.int), .ol ((S ++ (((ts.zip L).drop lo).map fun r => S8 (tlC r.1 r.2))).map D.str), z4, z5] := by
  intro n
  induction n with
  | zero =>
    intro lo S y4 y5 h1 _
    have : (ts.zip L).drop lo = [] := List.drop_eq_nil_of_le (by rw [List.length_zip]; omega)
    exact ⟨y4, y5, by rw [rng_zero, this, List.map_nil, List.append_nil]; rfl⟩
  | succ n IH =>
    intro lo S y4 y5 h1 h2
    have ht : 0 ≤ (lo : Int) ∧ (lo : Int) < ts.length := ⟨by omega, by omega⟩
    obtain ⟨e1, em⟩ := tie_at (ts := ts) ht.1 ht.2
    obtain ⟨⟨a0, a1⟩, b0, b1⟩ := hE _ em
    have t1 : atI (ts.map dP) (lo : Int) = some (.tp [.int (tieAt ts (lo : Int)).1, .int (tieAt ts (lo : Int)).2]) := by rw [atI_map, e1]; rfl
    obtain ⟨l, el, el2⟩ := DL.atI_of (l := L) (i := (lo : Int)) (by omega) (by omega)
    have sm : ∀ x : Int, 0 ≤ x → x < p → x.natAbs < 10 ^ 60 := fun x h0 h1 => Nat.lt_of_lt_of_le (show x.natAbs < 1000 by omega) (by decide)
    have lm : l ∈ L := List.mem_of_getElem? el2
    have st := lx_l1 (x0 := x0) (y5 := y5) (S := S) t1 el (sm _ a0 a1) (sm _ b0 b1) (hb l lm) (by rw [lim_eq]; omega)
    obtain ⟨z4, z5, ih⟩ := IH (lo + 1) (S ++ [S8 (tlC ((tieAt ts (lo : Int)).1, (tieAt ts (lo : Int)).2) l)]) (.int (lo : Int)) (.ls [.str "tie", .str (tI (tieAt ts (lo : Int)).1), .str (tI (tieAt ts (lo : Int)).2)]) (by omega) (by rw [List.length_append, List.length_singleton]; omega)
    rw [Int.natCast_succ] at ih
    have hz : (ts.zip L).drop lo = (tieAt ts (lo : Int), l) :: (ts.zip L).drop (lo + 1) := by
      have hl : lo < (ts.zip L).length := by rw [List.length_zip]; omega
      rw [List.drop_eq_getElem_cons hl]
      congr 1
      rw [List.getElem_zip]
      congr 1
      · have hh : lo < ts.length := by omega
        unfold tieAt
        rw [Int.toNat_natCast, List.getD_eq_getElem?_getD, List.getElem?_eq_getElem hh]
        rfl
      · have hh : lo < L.length := by omega
        rw [Int.toNat_natCast, List.getElem?_eq_getElem hh] at el2
        exact Option.some.inj el2
    refine ⟨z4, z5, ?_⟩
    rw [rng_succ, hz, List.map_cons, List.append_cons]
    exact (forL_step rfl st).trans ih
theorem lx_raw {pp : Int} {T : List D} {Ls : List D} {l0 : Str} {S : List Str} {z4 z5 : D} {k : Nat} {R : Str} (hk : T.length = k) (hp : pp.natAbs < 10 ^ 60) (h0 : ("places " : Str) ++ tI pp = l0) (hr : rgOk (k : Int)) (e : forL (gtN 4) f_law_text_l1 (rng 0 k) [.int pp, .ls T, .ls Ls, .ol ([l0].map D.str), .un, .un] = .nx [.int pp, .ls T, .ls Ls, .ol ((l0 :: S).map D.str), z4, z5]) (sz : ((l0 :: S).map (·.length)).sum + (l0 :: S).length * ("\n" : Str).length ≤ 16777216) (hR : PySem.Txt.join "\n" (l0 :: S) = R) : g_law_text [.int pp, .ls T, .ls Ls] = .ok (.str R) := by
  have big : (10 : Nat) ^ 60 < 2 ^ 1000 := by decide
  have c1 := caStr_t (Nat.lt_trans hp big)
  have l1 := tI_len (Nat.lt_trans hp big)
  have a1 := addS (x := "places ") (y := tI pp) (by have : ("places " : Str).length = 7 := by decide
                                                    omega) (by omega)
  have lm : 1 ≤ lim := by rw [lim_eq]; omega
  rw [h0] at a1
  obtain ⟨d1, d2, _, d4, _, _⟩ := dulls dull_str (l0 :: S)
  have so : strsOf ((l0 :: S).map D.str) = some (l0 :: S) := strsOf_map _
  generalize (l0 :: S).map D.str = SS at *
  generalize l0 :: S = S' at *
  simp only [List.map_cons, List.map_nil] at e
  have fin : f_law_text [.int pp, .ls T, .ls Ls, .un, .un, .un] = .rt (.str R) := by
    unfold f_law_text
    refine seq_to (g1 := [.int pp, .ls T, .ls Ls, .ol [.str l0], .un, .un]) (by simp [c1, a1, lm]) ?_
    refine seq_to (g1 := [.int pp, .ls T, .ls Ls, .ol SS, z4, z5]) (by simp [hk, hr, e]) ?_
    have jo : eJoin (eC (.str "\n")) (eVar 3) [.int pp, .ls T, .ls Ls, .ol SS, z4, z5] = .ok (.str R) := by
      simp [d1, d2, d4, so, sz, hR]
    show ((eJoin _ _ _).bind kp).st _ _ = _
    rw [jo]
    simp
  show (match f_law_text [.int pp, .ls T, .ls Ls, .un, .un, .un] with
    | .rt d => Res.ok d
    | .nx _ => .ok .non
    | .xc c _ => .xc c
    | _ => .bad) = _
  rw [fin]
theorem law_text_ok (hp : 1 ≤ p) (hp2 : p ≤ 100) (hE : EndsOk p ts) (hl : ts.length ≤ 100) (hL : L.length = ts.length) (hb : ∀ x ∈ L, x.natAbs < 10 ^ 60) : g_law_text [.int p, .ls (ts.map dP), .ls (L.map D.int)] = .ok (.str (S8 (txC p (ts.zip L)))) := by
  obtain ⟨z4, z5, e⟩ := lx_for hE (by omega) hL hb (x0 := .int p) ts.length 0 [S8 (lnC plC [(p : Int)])] .un .un (by omega) (by simp; omega)
  rw [show ((0 : Nat) : Int) = 0 from rfl, List.drop_zero, List.singleton_append] at e
  have sm : (p : Int).natAbs < 10 ^ 60 := Nat.lt_of_lt_of_le (show (p : Int).natAbs < 1000 by omega) (by decide)
  refine lx_raw (k := ts.length) (by rw [List.length_map]) sm (place_line p) (rgOk_of (by omega) (by omega)) e ?_ ?_
  · have zl : (ts.zip L).length = ts.length := by rw [List.length_zip]; omega
    have hm := sum_len (S8 (lnC plC [(p : Int)]) :: (ts.zip L).map fun r => S8 (tlC r.1 r.2)) 248 fun y hy => by
      rcases List.mem_cons.mp hy with rfl | hy
      · rw [SX.S_len]
        exact Nat.le_trans (lnC_len (by decide) fun n hn => by rw [List.mem_singleton.mp hn]; exact sm) (by simp)
      · obtain ⟨r, hr, rfl⟩ := List.mem_map.mp hy
        rw [SX.S_len]
        obtain ⟨r1, r2⟩ := r
        obtain ⟨m1, m2⟩ := List.of_mem_zip hr
        obtain ⟨⟨a0, a1⟩, b0, b1⟩ := hE _ m1
        refine lnC_len (by decide) fun n hn => ?_
        rcases List.mem_cons.mp hn with rfl | hn
        · exact Nat.lt_of_lt_of_le (show r1.1.natAbs < 1000 by omega) (by decide)
        · rcases List.mem_cons.mp hn with rfl | hn
          · exact Nat.lt_of_lt_of_le (show r1.2.natAbs < 1000 by omega) (by decide)
          · rw [List.mem_singleton.mp hn]; exact hb _ m2
    have e1 : ("\n" : Str).length = 1 := by decide
    rw [e1]
    rw [List.length_cons, List.length_map, zl] at hm ⊢
    have := Nat.mul_le_mul_right 248 (show ts.length + 1 ≤ 101 by omega)
    omega
  · rw [nl_S]
    have : S8 (lnC plC [(p : Int)]) :: (ts.zip L).map (fun r => S8 (tlC r.1 r.2)) = (lnC plC [(p : Int)] :: (ts.zip L).map fun r => tlC r.1 r.2).map S8 := by
      rw [List.map_cons, List.map_map]
      rfl
    rw [this]
    exact SX.join_S [10] _
end

def rowC (r : (Int × Int) × Int) : List Int := [r.1.1, r.1.2, r.2]
theorem tl_split (e : Int × Int) (l : Int) : PySem.Txt.split (S8 (tlC e l)) " " = ("tie" : Str) :: [e.1, e.2, l].map tI := by
  rw [show tlC e l = lnC tiC [e.1, e.2, l] from rfl, split_ln (by decide), List.map_cons, ti_S, List.map_map]
  congr 1
  exact List.map_congr_left fun i _ => (tI_S i).symm
theorem pl_split (p : Int) : PySem.Txt.split (S8 (lnC plC [p])) " " = ("places" : Str) :: [p].map tI := by
  rw [split_ln (by decide), List.map_cons, pl_S, List.map_map]
  congr 1
  exact List.map_congr_left fun i _ => (tI_S i).symm
theorem rd_row {r : (Int × Int) × Int} (h1 : r.1.1.natAbs < 10 ^ 60) (h2 : r.1.2.natAbs < 10 ^ 60) (h3 : r.2.natAbs < 10 ^ 60) : g_numbers_behind [.str (S8 (tlC r.1 r.2)), .str "tie", .int 3] = .ok (.ol ((rowC r).map D.int)) := by
  have hb : ∀ n ∈ rowC r, n.natAbs < 10 ^ 60 := fun n hn => by
    rcases List.mem_cons.mp hn with rfl | hn
    · exact h1
    · rcases List.mem_cons.mp hn with rfl | hn
      · exact h2
      · rw [List.mem_singleton.mp hn]; exact h3
  refine nb_raw (tl_split r.1 r.2) ?_ rfl hb (by show 3 + 1 ≤ lim; rw [lim_eq]; omega)
  rw [SX.S_len]
  have := lnC_len (w := tiC) (ns := rowC r) (by decide) hb
  have e : (rowC r).length = 3 := rfl
  rw [e] at this
  show (lnC tiC (rowC r)).length + 2 ≤ lim
  rw [lim_eq]
  omega
theorem rd_pl {p : Int} (hp : p.natAbs < 10 ^ 60) : g_numbers_behind [.str (S8 (lnC plC [p])), .str "places", .int 1] = .ok (.ol ([p].map D.int)) := by
  have hb : ∀ n ∈ [p], n.natAbs < 10 ^ 60 := fun n hn => by rw [List.mem_singleton.mp hn]; exact hp
  refine nb_raw (pl_split p) ?_ rfl hb (by show 1 + 1 ≤ lim; rw [lim_eq]; omega)
  rw [SX.S_len]
  have := lnC_len (w := plC) (ns := [p]) (by decide) hb
  have e : [p].length = 1 := rfl
  rw [e] at this
  rw [lim_eq]
  omega
theorem rw_c1 {x0 x1 x2 x3 x5 : D} {R : List ((Int × Int) × Int)} (hR : ∀ r ∈ R, r.1.1.natAbs < 10 ^ 60 ∧ r.1.2.natAbs < 10 ^ 60 ∧ r.2.natAbs < 10 ^ 60) : lcL (gtN 4) tYesG f_read_web_c1 [x0, x1, x2, x3, .un, x5] (R.map fun r => D.str (S8 (tlC r.1 r.2))) = .ok ((R.map rowC).map dO') := by
  rw [List.map_map]
  refine lcL_mapN R fun r hr => ?_
  obtain ⟨h1, h2, h3⟩ := hR r hr
  have := rd_row h1 h2 h3
  simp only [List.set]
  simp [f_read_web_c1, this, dO']
theorem row_ix (r : (Int × Int) × Int) : atI ((rowC r).map D.int) 0 = some (.int r.1.1) ∧ atI ((rowC r).map D.int) 1 = some (.int r.1.2) ∧ atI ((rowC r).map D.int) 2 = some (.int r.2) := ⟨rfl, rfl, rfl⟩
theorem rw_c2 {x0 x1 x2 x3 x4 : D} (R : List ((Int × Int) × Int)) : lcL (gtN 5) tYesG f_read_web_c2 [x0, x1, x2, x3, x4, .un] ((R.map rowC).map dR) = .ok ((R.map fun r => r.2).map D.int) := by
  rw [List.map_map, List.map_map]
  refine lcL_mapN R fun r hr => ?_
  obtain ⟨h1, h2, h3⟩ := row_ix r
  simp only [Function.comp, dR]
  generalize (rowC r).map D.int = Q at *
  simp [f_read_web_c2, h3]
theorem rw_c3 {x0 x1 x2 x3 x4 : D} (R : List ((Int × Int) × Int)) : lcL (gtN 5) tYesG f_read_web_c3 [x0, x1, x2, x3, x4, .un] ((R.map rowC).map dR) = .ok ((R.map fun r => r.1).map dP) := by
  rw [List.map_map, List.map_map]
  refine lcL_mapN R fun r hr => ?_
  obtain ⟨h1, h2, h3⟩ := row_ix r
  have l2 : 2 ≤ lim := by rw [lim_eq]; omega
  simp only [Function.comp, dR]
  generalize (rowC r).map D.int = Q at *
  simp [f_read_web_c3, h1, h2, l2, dP]
theorem read_raw {p : Int} {R : List ((Int × Int) × Int)} {x : Str} (hx : x.length + 2 ≤ lim) (sp : PySem.Txt.split x "\n" = (lnC plC [p] :: R.map fun r => tlC r.1 r.2).map S8) (hp : p.natAbs < 10 ^ 60) (hR : ∀ r ∈ R, r.1.1.natAbs < 10 ^ 60 ∧ r.1.2.natAbs < 10 ^ 60 ∧ r.2.natAbs < 10 ^ 60) (bRl : R.length + 1 ≤ lim) (ei : g_Web_init [.int p, .ls ((R.map fun r => r.1).map dP)] = .ok [.int p, .ol ((R.map fun r => r.1).map dP)]) : g_read_web [.str x] = .ok (.tp [.ob 14 [.int p, .ls ((R.map fun r => r.1).map dP)], .ls ((R.map fun r => r.2).map D.int)]) := by
  have e1 : ("\n" : Str).length = 1 := by decide
  have hsp : eSplit (eVar 0) (eC (.str "\n")) [.str x, .un, .un, .un, .un, .un] = .ok (.ol (.str (S8 (lnC plC [p])) :: R.map fun r => D.str (S8 (tlC r.1 r.2)))) := by
    simp [e1, hx]
    rw [sp, List.map_cons, List.map_map, List.map_cons, List.map_map]
    rfl
  have dS : ∀ Q : List ((Int × Int) × Int), nods (Q.map fun r => D.str (S8 (tlC r.1 r.2))) = true ∧ frzs (Q.map fun r => D.str (S8 (tlC r.1 r.2))) = Q.map (fun r => D.str (S8 (tlC r.1 r.2))) ∧ brws (Q.map fun r => D.str (S8 (tlC r.1 r.2))) = Q.map (fun r => D.str (S8 (tlC r.1 r.2))) := fun Q => by
    induction Q with
    | nil => exact ⟨rfl, rfl, rfl⟩
    | cons a Q ih => rw [List.map_cons]; simp only [nods, frzs, brws, ih.1, ih.2.1, ih.2.2]; exact ⟨rfl, rfl, rfl⟩
  obtain ⟨n1, n2, n3⟩ := dS R
  have pl := rd_pl hp
  have lc1 := fun x0 x1 x2 x3 x5 => rw_c1 (x0 := x0) (x1 := x1) (x2 := x2) (x3 := x3) (x5 := x5) hR
  have lc2 := fun x0 x1 x2 x3 x4 => rw_c2 (x0 := x0) (x1 := x1) (x2 := x2) (x3 := x3) (x4 := x4) R
  have lc3 := fun x0 x1 x2 x3 x4 => rw_c3 (x0 := x0) (x1 := x1) (x2 := x2) (x3 := x3) (x4 := x4) R
  obtain ⟨f1, f2⟩ := fO (R.map rowC)
  have rr := Lw.bR (R.map rowC)
  have lN : (R.map fun r => D.str (S8 (tlC r.1 r.2))).length = R.length := List.length_map ..
  have lR : (R.map rowC).length = R.length := List.length_map ..
  generalize (R.map fun r => D.str (S8 (tlC r.1 r.2))) = NN at *
  generalize R.map rowC = RR at *
  have bP := brws_P (R.map fun r => r.1)
  generalize (R.map fun r => r.1) = TT at *
  generalize (R.map fun r => r.2) = LL at *
  have ix : atI (D.str (S8 (lnC plC [p])) :: NN) 0 = some (.str (S8 (lnC plC [p]))) := (DL.atI_natG (i := 0) (j := 0) rfl (by simp)).trans rfl
  have ct : cut (D.str (S8 (lnC plC [p])) :: NN) (some 1) none = NN := by rw [cut_from _ 1 (by omega)]; rfl
  have b0 : R.length ≤ lim := by omega
  have l2 : 2 ≤ lim := by rw [lim_eq]; omega
  generalize S8 (lnC plC [p]) = l0 at *
  simp only [List.map_cons, List.map_nil] at pl
  have i0 : atI [D.int p] 0 = some (.int p) := rfl
  have fin : f_read_web [.str x, .un, .un, .un, .un, .un] = .rt (.tp [.ob 14 [.int p, .ls (TT.map dP)], .ls (LL.map D.int)]) := by
    unfold f_read_web
    refine seq_to (g1 := [.str x, .ls (.str l0 :: NN), .un, .un, .un, .un]) ?_ ?_
    · show ((eSplit _ _ _).bind kp).st _ _ = _
      rw [hsp]
      simp [n1, n2]
    · refine seq_to (g1 := [.str x, .ls (.str l0 :: NN), .int p, .un, .un, .un]) (by simp [ix, pl, i0, n1, n2, n3]) ?_
      refine seq_to (g1 := [.str x, .ls (.str l0 :: NN), .int p, .ls (RR.map dR), .un, .un]) (by simp [ct, n1, n2, n3, lc1, lN, b0, f1, f2]) ?_
      simp [rr.1, rr.2.1, rr.2.2.2.1, lc3, lc2, lR, b0, ei, l2]
  show (match f_read_web [.str x, .un, .un, .un, .un, .un] with
    | .rt d => Res.ok d
    | .nx _ => .ok .non
    | .xc c _ => .xc c
    | _ => .bad) = _
  rw [fin]
end Lw
end

noncomputable section
namespace Lw
open DL L2 TL
open PySem (Str)
structure TxW (ns : List Int) (most count : Int) (p : Nat) (ts : List (Int × Int)) (L : List Int) (x : Str) : Prop where
  p1 : 1 ≤ p
  pm : (p : Int) ≤ most
  tl : (ts.length : Int) ≤ count
  hE : EndsOk p ts
  Ll : L.length = ts.length
  Lb : ∀ z ∈ L, z.natAbs < 10 ^ 60
  ew : g_law_web [.sc (ns.map D.int), .int most, .int count] = .ok (.tp [.int p, .ls (ts.map dP)])
  le : g_law_lengths_v2 [.sc (ns.map D.int), .int ts.length] = .ok (.ol (L.map D.int))
  lx : g_law_text [.int p, .ls (ts.map dP), .ls (L.map D.int)] = .ok (.str x)
  rd : g_read_web [.str x] = .ok (.tp [.ob 14 [.int p, .ls (ts.map dP)], .ls (L.map D.int)])
theorem txw (ns : List Int) (h : ns.length ≤ 63) (most count : Int) (h1 : 1 ≤ most) (h2 : most ≤ 14) (h3 : 0 ≤ count) (h4 : count ≤ 30) : ∃ p ts L x, TxW ns most count p ts L x := by
  obtain ⟨p', ts, p1, p2, t1, hE, ew⟩ := web_ok ns h most count h1 (by omega) h3 (by omega)
  obtain ⟨p, rfl⟩ : ∃ p : Nat, p' = p := ⟨p'.toNat, by omega⟩
  have hp : 1 ≤ p := by omega
  have ei := web_init_ok p ts (by omega) (by omega) (by omega) hE
  obtain ⟨L, hL, hb, le⟩ := lengths89_ok ns h ts.length (by omega)
  have lx := law_text_ok hp (by omega) hE (by omega) hL hb
  have z1 : (ts.zip L).map (fun r => r.1) = ts := List.map_fst_zip (by omega)
  have z2 : (ts.zip L).map (fun r => r.2) = L := List.map_snd_zip (by omega)
  have zl : (ts.zip L).length = ts.length := by rw [List.length_zip]; omega
  have pb : (p : Int).natAbs < 10 ^ 60 := Nat.lt_of_lt_of_le (show (p : Int).natAbs < 1000 by omega) (by decide)
  have hR : ∀ r ∈ ts.zip L, r.1.1.natAbs < 10 ^ 60 ∧ r.1.2.natAbs < 10 ^ 60 ∧ r.2.natAbs < 10 ^ 60 := fun r hr => by
    obtain ⟨r1, r2⟩ := r
    obtain ⟨m1, m2⟩ := List.of_mem_zip hr
    obtain ⟨⟨a0, a1⟩, b0, b1⟩ := hE _ m1
    exact ⟨Nat.lt_of_lt_of_le (show r1.1.natAbs < 1000 by omega) (by decide), Nat.lt_of_lt_of_le (show r1.2.natAbs < 1000 by omega) (by decide), hb _ m2⟩
  have tl := txC_len (p := (p : Int)) (R := ts.zip L) pb hR
  have rd := read_raw (p := (p : Int)) (R := ts.zip L) (x := S8 (txC p (ts.zip L))) (by rw [SX.S_len, lim_eq]; rw [zl] at tl; have := Nat.mul_le_mul_right 249 (show ts.length + 1 ≤ 31 by omega); omega) (split_tx (p : Int) (ts.zip L)) pb hR (by rw [zl, lim_eq]; omega) (by rw [z1]; exact ei)
  rw [z1, z2] at rd
  exact ⟨p, ts, L, _, hp, p2, t1, hE, hL, hb, ew, le, lx, rd⟩
theorem head35 {ns : List Int} {most count : Int} {p : Nat} {ts : List (Int × Int)} {L : List Int} {x : Str} {R : Env} {o : Out} {g3 : Env → Out} (t : TxW ns most count p ts L x) (h : g3 (.sc (ns.map D.int) :: .int p :: .ls (ts.map dP) :: .ob 14 [.int p, .ls (ts.map dP)] :: .ls (L.map D.int) :: R) = o) : (sSeq (sAsgT (gtT 2 (gtCons (gtN 1) (gtCons (gtN 2) (gtNil)))) (eOwn g_law_web (aCons (eVar 0) (aCons (eC (.int most)) (aCons (eC (.int count)) (aNil)))))) (sSeq (sAsgT (gtT 2 (gtCons (gtN 3) (gtCons (gtN 4) (gtNil)))) (eOwn g_read_web (aCons (eOwn g_law_text (aCons (eVar 1) (aCons (eVar 2) (aCons (eOwn g_law_lengths_v2 (aCons (eVar 0) (aCons (eCall caLen (aCons (eVar 2) (aNil))) (aNil)))) (aNil))))) (aNil)))) g3)) (.sc (ns.map D.int) :: .un :: .un :: .un :: .un :: R) = o := by
  have ew := t.ew
  have le := t.le
  have lx := t.lx
  have rd := t.rd
  refine seq_to (g1 := .sc (ns.map D.int) :: .int p :: .ls (ts.map dP) :: .un :: .un :: R) (by simp [ew]) ?_
  refine seq_to (g1 := .sc (ns.map D.int) :: .int p :: .ls (ts.map dP) :: .ob 14 [.int p, .ls (ts.map dP)] :: .ls (L.map D.int) :: R) (by simp [le, lx, rd]) ?_
  exact h
end Lw
end

namespace Lw
open DL L2 TL
section
variable {p : Nat} {ts : List (Int × Int)}
abbrev cE (ts : List (Int × Int)) (J : List Int) (t : Int) : Prop := Conn (tiesAt ts J) (tieAt ts t).1 (tieAt ts t).2
def SameC (ts : List (Int × Int)) (J J' : List Int) : Prop := ∀ a b, Conn (tiesAt ts J) a b ↔ Conn (tiesAt ts J') a b
theorem SameC.snoc {J J' : List Int} (h : SameC ts J J') (t : Int) : SameC ts (J ++ [t]) (J' ++ [t]) := fun a b => by
  rw [conn_snoc', conn_snoc', h, h, h, h, h]
theorem same_of_mem {J J' : List Int} (h : ∀ x, x ∈ J ↔ x ∈ J') : SameC ts J J' := fun a b => ⟨conn_sub fun x hx => (h x).mp hx, conn_sub fun x hx => (h x).mpr hx⟩
theorem gr_same (hE : EndsOk p ts) : ∀ (s J J' : List Int), InT ts.length J → InT ts.length J' → InT ts.length s → SameC ts J J' → ∃ B, gr p ts s J = J ++ B ∧ gr p ts s J' = J' ++ B ∧ B.Sublist s
  | [], J, J', _, _, _, _ => ⟨[], by simp [gr], by simp [gr], .refl _⟩
  | t :: s, J, J', hJ, hJ', hs, h => by
    have ht := hs t (List.mem_cons_self ..)
    have hs' : InT ts.length s := fun x hx => hs x (List.mem_cons_of_mem _ hx)
    have snoc : ∀ {L : List Int}, InT ts.length L → InT ts.length (L ++ [t]) := fun hL x hx => by
      rcases List.mem_append.mp hx with h | h
      · exact hL x h
      · rw [List.mem_singleton.mp h]; exact ht
    have e := (gr_test hE hJ ht).trans ((h _ _).trans (gr_test hE hJ' ht).symm)
    simp only [gr]
    by_cases c : nth (marksM p ts (srt J)) (tieAt ts t).1 = nth (marksM p ts (srt J)) (tieAt ts t).2
    · rw [if_pos c, if_pos (e.mp c)]
      obtain ⟨B, b1, b2, b3⟩ := gr_same hE s J J' hJ hJ' hs' h
      exact ⟨B, b1, b2, b3.cons t⟩
    · rw [if_neg c, if_neg fun z => c (e.mpr z)]
      obtain ⟨B, b1, b2, b3⟩ := gr_same hE s (J ++ [t]) (J' ++ [t]) (snoc hJ) (snoc hJ') hs' (h.snoc t)
      exact ⟨t :: B, by rw [b1]; simp, by rw [b2]; simp, b3.cons₂ t⟩
theorem gr_miss (hE : EndsOk p ts) {e : Int} : ∀ (s J : List Int), Ind p ts J → InT ts.length s → e ∉ gr p ts s J → gr p ts s J = gr p ts (wo s e) J
  | [], J, _, _, _ => rfl
  | t :: s, J, hJ, hs, he => by
    have ht := hs t (List.mem_cons_self ..)
    have hs' : InT ts.length s := fun x hx => hs x (List.mem_cons_of_mem _ hx)
    by_cases q : t = e
    · have w : wo (t :: s) e = wo s e := by unfold wo; rw [List.filter_cons_of_neg (by simp [q])]
      rw [w]
      simp only [gr] at he ⊢
      by_cases c : nth (marksM p ts (srt J)) (tieAt ts t).1 = nth (marksM p ts (srt J)) (tieAt ts t).2
      · rw [if_pos c] at he ⊢
        exact gr_miss hE s J hJ hs' he
      · rw [if_neg c] at he
        obtain ⟨_, ⟨K, k1, _⟩, _⟩ := gr_ok hE s (J ++ [t]) (hJ.snoc hE ht fun z => c ((gr_test hE hJ.inn ht).mpr z)) hs'
        exact absurd (by rw [k1, q]; simp) he
    · have w : wo (t :: s) e = t :: wo s e := by unfold wo; rw [List.filter_cons_of_pos (by simp [q])]
      rw [w]
      simp only [gr] at he ⊢
      by_cases c : nth (marksM p ts (srt J)) (tieAt ts t).1 = nth (marksM p ts (srt J)) (tieAt ts t).2
      · rw [if_pos c] at he ⊢
        rw [if_pos c]
        exact gr_miss hE s J hJ hs' he
      · rw [if_neg c] at he ⊢
        rw [if_neg c]
        exact gr_miss hE s (J ++ [t]) (hJ.snoc hE ht fun z => c ((gr_test hE hJ.inn ht).mpr z)) hs' he
theorem gr_run (hE : EndsOk p ts) {e : Int} (he : 0 ≤ e ∧ e < ts.length) : ∀ (s J J' : List Int), Ind p ts J → Ind p ts J' → (∀ x, x ∈ J' ↔ x ∈ J ∨ x = e) → InT ts.length s → cE ts (gr p ts s J) e → ¬ cE ts J e →
    ∃ A m B, gr p ts s J = J ++ (A ++ m :: B) ∧ gr p ts s J' = J' ++ (A ++ B) ∧ (A ++ m :: B).Sublist s ∧ ¬ cE ts (J ++ A) e ∧ cE ts (J ++ A ++ [m]) e
  | [], J, J', _, _, _, _, h, n => absurd h n
  | t :: s, J, J', hJ, hJ', hx, hs, h, n => by
    have ht := hs t (List.mem_cons_self ..)
    have hs' : InT ts.length s := fun x hx => hs x (List.mem_cons_of_mem _ hx)
    have sm : SameC ts (J ++ [e]) J' := same_of_mem fun x => by rw [hx]; simp
    simp only [gr] at h ⊢
    by_cases c : nth (marksM p ts (srt J)) (tieAt ts t).1 = nth (marksM p ts (srt J)) (tieAt ts t).2
    · have cJ := (gr_test hE hJ.inn ht).mp c
      have c' := (gr_test hE hJ'.inn ht).mpr (conn_sub (fun x hx' => (hx x).mpr (.inl hx')) cJ)
      rw [if_pos c] at h ⊢
      rw [if_pos c']
      obtain ⟨A, m, B, a1, a2, a3, a4, a5⟩ := gr_run hE he s J J' hJ hJ' hx hs' h n
      exact ⟨A, m, B, a1, a2, a3.cons t, a4, a5⟩
    · have nJ : ¬ cE ts J t := fun z => c ((gr_test hE hJ.inn ht).mpr z)
      rw [if_neg c] at h ⊢
      by_cases c' : nth (marksM p ts (srt J')) (tieAt ts t).1 = nth (marksM p ts (srt J')) (tieAt ts t).2
      · have cJ' := (sm _ _).mpr ((gr_test hE hJ'.inn ht).mp c')
        rw [if_pos c']
        have ce : cE ts (J ++ [t]) e := by
          have up : ∀ {a b}, Conn (tiesAt ts J) a b → Conn (tiesAt ts (J ++ [t])) a b := fun z => conn_sub (fun x hx => List.mem_append_left _ hx) z
          have tt : Conn (tiesAt ts (J ++ [t])) (tieAt ts t).1 (tieAt ts t).2 := conn_at (by simp)
          rcases conn_snoc'.mp cJ' with z | ⟨z1, z2⟩ | ⟨z1, z2⟩
          · exact absurd z nJ
          · exact (up z1).symm.trans (tt.trans (up z2).symm)
          · exact (up z2).trans (tt.symm.trans (up z1))
        have sm2 : SameC ts (J ++ [t]) J' := fun a b => by
          rw [← sm]
          refine ⟨Conn.le fun q hq => ?_, Conn.le fun q hq => ?_⟩
          · obtain ⟨x, hx, rfl⟩ := List.mem_map.mp hq
            rcases List.mem_append.mp hx with z | z
            · exact conn_at (List.mem_append_left _ z)
            · rw [List.mem_singleton.mp z]; exact cJ'
          · obtain ⟨x, hx, rfl⟩ := List.mem_map.mp hq
            rcases List.mem_append.mp hx with z | z
            · exact conn_at (List.mem_append_left _ z)
            · rw [List.mem_singleton.mp z]; exact ce
        obtain ⟨B, b1, b2, b3⟩ := gr_same hE s (J ++ [t]) J' (fun x hx => by
          rcases List.mem_append.mp hx with z | z
          · exact hJ.inn x z
          · rw [List.mem_singleton.mp z]; exact ht) hJ'.inn hs' sm2
        exact ⟨[], t, B, by rw [b1]; simp, by rw [b2]; simp, b3.cons₂ t, by simpa using n, by simpa using ce⟩
      · rw [if_neg c']
        have nt : ¬ cE ts (J ++ [t]) e := fun z => by
          refine (fun w => c' ((gr_test hE hJ'.inn ht).mpr ((sm _ _).mp w))) ?_
          have up : ∀ {a b}, Conn (tiesAt ts J) a b → Conn (tiesAt ts (J ++ [e])) a b := fun z => conn_sub (fun x hx => List.mem_append_left _ hx) z
          have tt : Conn (tiesAt ts (J ++ [e])) (tieAt ts e).1 (tieAt ts e).2 := conn_at (by simp)
          rcases conn_snoc'.mp z with z | ⟨z1, z2⟩ | ⟨z1, z2⟩
          · exact absurd z n
          · exact (up z1).symm.trans (tt.trans (up z2).symm)
          · exact (up z2).trans (tt.symm.trans (up z1))
        obtain ⟨A, m, B, a1, a2, a3, a4, a5⟩ := gr_run hE he s (J ++ [t]) (J' ++ [t]) (hJ.snoc hE ht nJ) (hJ'.snoc hE ht fun z => c' ((gr_test hE hJ'.inn ht).mpr z)) (fun x => by simp [hx]; constructor <;> (intro z; rcases z with (z | z) | z <;> simp [z])) hs' h nt
        exact ⟨t :: A, m, B, by rw [a1]; simp, by rw [a2]; simp, a3.cons₂ t, by simpa using a4, by simpa using a5⟩
theorem gs (hp : 1 ≤ p) (hE : EndsOk p ts) {ins outs base : List Int} {lead : Int} (hi : InT ts.length ins) (hn : ins.Nodup) (hd : ∀ x ∈ ins, x ∉ outs) (hb : (wth p ts ins outs).head? = some base) (hl : 0 ≤ lead ∧ lead < ts.length) (nb : lead ∉ base) (no : lead ∉ outs) (nc : ¬ cE ts ins lead) :
    ∃ m, m ∈ base ∧ m ∉ ins ∧ ¬ cE ts (wo base m) lead ∧ (∀ x ∈ base, x ∉ ins → ¬ cE ts (wo base x) lead → x ≤ m) ∧ (wth p ts (ins ++ [lead]) outs).head? = some (swap base m lead) := by
  rw [← least_law hp hE hi hn hd] at hb
  rcases grow_ok hp hE hi hn (.refl _) hd with ⟨h1, h2⟩ | ⟨J, h0, h1, h2, h3, h4⟩
  · rw [h1] at hb; cases hb
  rw [h2] at hb
  obtain rfl := Option.some.inj hb
  obtain ⟨t1, t2, t3⟩ := (wth_mem hp).mp h3
  obtain ⟨_, u2, u3⟩ := treeB_nat.mp t1
  have lin : lead ∉ ins := fun z => nb (t2 lead z)
  have nJ : lead ∉ J := fun z => nb (srt_mem.mpr z)
  have hs : InT ts.length ((iota ts.length).filter fun t => !decide (t ∈ ins) && !decide (t ∈ outs)) := fun x hx => iota_mem.mp (List.mem_filter.mp hx).1
  have span : cE ts J lead := by
    obtain ⟨_, e2⟩ := tie_at hl.1 hl.2
    obtain ⟨a, b⟩ := hE _ e2
    exact conn_srt.mp ((cnt_one hp (tiesAt_ok hE (good_in u2))).mp u3 _ _ a.1 a.2 b.1 b.2)
  have hI' : Ind p ts (ins ++ [lead]) := h0.snoc hE hl nc
  generalize hs0 : ((iota ts.length).filter fun t => !decide (t ∈ ins) && !decide (t ∈ outs)) = s at hs h1
  have hs' : InT ts.length (wo s lead) := wo_in hs lead
  have e1 : J = gr p ts (wo s lead) ins := by rw [h1]; exact gr_miss hE s ins h0 hs (by rw [← h1]; exact nJ)
  obtain ⟨A, m, B, a1, a2, a3, a4, a5⟩ := gr_run hE hl (wo s lead) ins (ins ++ [lead]) h0 hI' (fun x => by simp) hs' (by rw [← e1]; exact span) nc
  rw [← e1] at a1
  have rise : (A ++ m :: B).Pairwise (· < ·) := List.Pairwise.sublist a3 (((by rw [← hs0]; exact (iota_rise _).filter _ : s.Pairwise (· < ·))).filter _)
  have nd := h4.nd
  rw [a1] at nd
  obtain ⟨d1, d2, d3⟩ := List.nodup_append.mp nd
  have mJ : m ∈ J := by rw [a1]; simp
  have mi : m ∉ ins := fun z => d3 m z m (by simp) rfl
  have cut : ¬ cE ts (wo (srt J) m) lead := fun z => by
    have z' : Conn (tiesAt ts (wo J m)) (tieAt ts lead).1 (tieAt ts lead).2 := conn_sub (fun x hx => wo_mem.mpr ⟨srt_mem.mp (wo_mem.mp hx).1, (wo_mem.mp hx).2⟩) z
    have := h4.meet hE mJ (K := ins ++ A ++ [m]) (fun x hx => by rw [a1]; simp at hx ⊢; rcases hx with h | h | h <;> simp [h]) a5 z'
    refine a4 (conn_sub (fun x hx => ?_) this)
    obtain ⟨w1, w2⟩ := wo_mem.mp hx
    simp at w1 ⊢
    rcases w1 with h | h | h
    · exact .inl h
    · exact .inr h
    · exact absurd h w2
  have htr := (swap_tree hp hE t1 (srt_mem.mpr mJ) nb hl).mpr cut
  have mem' : swap (srt J) m lead ∈ wth p ts (ins ++ [lead]) outs := (wth_mem hp).mpr ⟨htr, fun t ht => by
    rcases List.mem_append.mp ht with z | z
    · exact swap_mem.mpr (.inl ⟨t2 t z, fun q => mi (q ▸ z)⟩)
    · exact swap_mem.mpr (.inr (List.mem_singleton.mp z)), fun t ht z => by
    rcases swap_mem.mp z with z | z
    · exact t3 t ht z.1
    · exact no (z ▸ ht)⟩
  refine ⟨m, srt_mem.mpr mJ, mi, cut, fun x hx hxi hc => ?_, ?_⟩
  · have hx := srt_mem.mp hx
    rw [a1] at hx
    obtain ⟨r1, r2, r3⟩ := List.pairwise_append.mp rise
    rcases List.mem_append.mp hx with z | z
    · exact absurd z hxi
    · rcases List.mem_append.mp z with z | z
      · exact Int.le_of_lt (r3 x z m (List.mem_cons_self ..))
      · rcases List.mem_cons.mp z with z | z
        · omega
        · exfalso
          refine hc (conn_sub (fun y hy => wo_mem.mpr ⟨srt_mem.mpr ?_, fun q => ?_⟩) a5)
          · rw [a1]; simp at hy ⊢; rcases hy with h | h | h <;> simp [h]
          · rw [q] at hy
            simp only [List.mem_append, List.mem_singleton] at hy
            rcases hy with (h | h) | h
            · exact hxi h
            · have := r3 x h x (List.mem_cons_of_mem _ z); omega
            · have := (List.pairwise_cons.mp r2).1 x z; omega
  · have hi' : InT ts.length (ins ++ [lead]) := hI'.inn
    have hd' : ∀ x ∈ ins ++ [lead], x ∉ outs := fun x hx => by
      rcases List.mem_append.mp hx with z | z
      · exact hd x z
      · rw [List.mem_singleton.mp z]; exact no
    rw [← least_law hp hE hi' hI'.nd hd']
    rcases grow_ok hp hE hi' hI'.nd (.refl _) hd' with ⟨g1, g2⟩ | ⟨J', g0, g1, g2, g3, g4⟩
    · rw [g2] at mem'; exact nomatch mem'
    · rw [g2, g1]
      have es : ((iota ts.length).filter fun t => !decide (t ∈ ins ++ [lead]) && !decide (t ∈ outs)) = wo s lead := by
        rw [← hs0]
        unfold wo
        rw [List.filter_filter]
        refine List.filter_congr fun x _ => ?_
        by_cases q : x = lead <;> by_cases r : x ∈ ins <;> simp [q, r]
      rw [es, a2]
      congr 1
      unfold swap
      refine rise_uniq (srt_lt ?_) (srt_lt ?_) fun x => ?_
      · rw [← a2, ← es, ← g1]; exact g4.nd
      · rw [List.nodup_append]
        refine ⟨wo_nodup (rise_nodup (srt_lt h4.nd)) m, by simp, fun a ha b hb q => ?_⟩
        rw [List.mem_singleton.mp hb] at q
        exact nb (q ▸ (wo_mem.mp ha).1)
      · rw [srt_mem, srt_mem, List.mem_append (s := ins ++ [lead]), List.mem_append (s := ins), List.mem_append (s := wo (srt J) m), wo_mem, srt_mem, a1]
        have : x = m → ¬ (x ∈ ins ∨ x ∈ A ∨ x ∈ B) := fun q z => by
          subst q
          obtain ⟨r1, r2, r3⟩ := List.pairwise_append.mp rise
          rcases z with z | z | z
          · exact mi z
          · have := r3 x z x (List.mem_cons_self ..); omega
          · have := (List.pairwise_cons.mp r2).1 x z; omega
        simp only [List.mem_append, List.mem_cons, List.mem_singleton, List.not_mem_nil, or_false]
        constructor
        · rintro ((h | h) | h | h)
          · exact .inl ⟨.inl h, fun q => this q (.inl h)⟩
          · exact .inr h
          · exact .inl ⟨.inr (.inl h), fun q => this q (.inr (.inl h))⟩
          · exact .inl ⟨.inr (.inr (.inr h)), fun q => this q (.inr (.inr h))⟩
        · rintro (⟨h | h | h | h, q⟩ | h)
          · exact .inl (.inl h)
          · exact .inr (.inl h)
          · exact absurd h q
          · exact .inr (.inr h)
          · exact .inl (.inr h)
end
end Lw

namespace Lw
open DL L2 TL
section
variable (p : Nat) (ts : List (Int × Int))
def mkK (kept : List Int) (a : Int) : Int := nth (marksM p ts kept) a
def opnB (kept shut base : List Int) (t : Int) : Bool := !decide (t ∈ kept) && (!decide (t ∈ shut) && (!decide (t ∈ base) && !decide (mkK p ts kept (tieAt ts t).1 = mkK p ts kept (tieAt ts t).2)))
def opn (kept shut base : List Int) : List Int := (iota ts.length).filter (opnB p ts kept shut base)
def twinB (kept : List Int) (s t : Int) : Bool :=
  decide (mkK p ts kept (tieAt ts s).1 = mkK p ts kept (tieAt ts t).1 ∧ mkK p ts kept (tieAt ts s).2 = mkK p ts kept (tieAt ts t).2) || decide (mkK p ts kept (tieAt ts s).1 = mkK p ts kept (tieAt ts t).2 ∧ mkK p ts kept (tieAt ts s).2 = mkK p ts kept (tieAt ts t).1)
def nextL (kept shut base : List Int) (lead : Int) : Option Int := (opn p ts kept shut base).find? fun t => !twinB p ts kept lead t
def looseL (kept base : List Int) (lead : Int) : List Int := base.filter fun x => onR p ts base lead x && !decide (x ∈ kept)
def mxl (kept base : List Int) (lead : Int) : Int := (looseL p ts kept base lead).getLastD 0
def outsL (loose : List Int) (k : Nat) : List Int := if k % 2 = 1 then loose.reverse else loose
def blk (loose base : List Int) : List Int → List (List Int)
  | [] => []
  | t :: r => (outsL loose r.length).map (fun o => swap base o t) ++ blk loose base r
end
def Stp (A B : List Int) : Prop := ∃ o i, (o ∈ A ∧ o ∉ B) ∧ (i ∈ B ∧ i ∉ A) ∧ B = swap A o i ∧ A = swap B i o
theorem Stp.symm {A B : List Int} (h : Stp A B) : Stp B A := by
  obtain ⟨o, i, h1, h2, h3, h4⟩ := h
  exact ⟨i, o, h2, h1, h4, h3⟩
def Ch : List (List Int) → Prop
  | [] => True
  | a :: l => (∀ b ∈ l.head?, Stp a b) ∧ Ch l
theorem Ch.app : ∀ {l m : List (List Int)}, Ch l → Ch m → (∀ a ∈ l.getLast?, ∀ b ∈ m.head?, Stp a b) → Ch (l ++ m)
  | [], m, _, hm, _ => hm
  | [a], m, _, hm, h => ⟨fun b hb => h a rfl b hb, hm⟩
  | a :: b :: l, m, hl, hm, h => ⟨hl.1, Ch.app hl.2 hm fun x hx y hy => h x (by rw [List.getLast?_cons_cons]; exact hx) y hy⟩
section
variable {p : Nat} {ts : List (Int × Int)}
theorem mkK_conn (hE : EndsOk p ts) {kept : List Int} (hk : InT ts.length kept) {a b : Int} (ha : 0 ≤ a ∧ a < p) (hb : 0 ≤ b ∧ b < p) : mkK p ts kept a = mkK p ts kept b ↔ Conn (tiesAt ts kept) a b := nthM p ts hE kept hk a b ha.1 ha.2 hb.1 hb.2
theorem ends_of (hE : EndsOk p ts) {t : Int} (ht : 0 ≤ t ∧ t < ts.length) : (0 ≤ (tieAt ts t).1 ∧ (tieAt ts t).1 < p) ∧ 0 ≤ (tieAt ts t).2 ∧ (tieAt ts t).2 < p := hE _ (tie_at ht.1 ht.2).2
theorem opn_mem (hE : EndsOk p ts) {kept shut base : List Int} (hk : InT ts.length kept) {t : Int} : t ∈ opn p ts kept shut base ↔ (0 ≤ t ∧ t < ts.length) ∧ t ∉ kept ∧ t ∉ shut ∧ t ∉ base ∧ ¬ cE ts kept t := by
  unfold opn
  rw [List.mem_filter, iota_mem]
  constructor
  · rintro ⟨h1, h2⟩
    obtain ⟨e1, e2⟩ := ends_of hE h1
    simp only [opnB, Bool.and_eq_true, Bool.not_eq_true', decide_eq_false_iff_not, mkK_conn hE hk e1 e2] at h2
    exact ⟨h1, h2⟩
  · rintro ⟨h1, h2⟩
    obtain ⟨e1, e2⟩ := ends_of hE h1
    refine ⟨h1, ?_⟩
    simp only [opnB, Bool.and_eq_true, Bool.not_eq_true', decide_eq_false_iff_not, mkK_conn hE hk e1 e2]
    exact h2
theorem twin_conn (hE : EndsOk p ts) {kept : List Int} (hk : InT ts.length kept) {s t : Int} (hs : 0 ≤ s ∧ s < ts.length) (ht : 0 ≤ t ∧ t < ts.length) : twinB p ts kept s t = true ↔
    (Conn (tiesAt ts kept) (tieAt ts s).1 (tieAt ts t).1 ∧ Conn (tiesAt ts kept) (tieAt ts s).2 (tieAt ts t).2) ∨ (Conn (tiesAt ts kept) (tieAt ts s).1 (tieAt ts t).2 ∧ Conn (tiesAt ts kept) (tieAt ts s).2 (tieAt ts t).1) := by
  obtain ⟨a1, a2⟩ := ends_of hE hs
  obtain ⟨b1, b2⟩ := ends_of hE ht
  simp only [twinB, Bool.or_eq_true, decide_eq_true_eq, mkK_conn hE hk a1 b1, mkK_conn hE hk a2 b2, mkK_conn hE hk a1 b2, mkK_conn hE hk a2 b1]
theorem twin_self (kept : List Int) (s : Int) : twinB p ts kept s s = true := by simp [twinB]
theorem loose_mem (hE : EndsOk p ts) {kept base : List Int} {lead x : Int} (hb : InT ts.length base) (hl : 0 ≤ lead ∧ lead < ts.length) : x ∈ looseL p ts kept base lead ↔ x ∈ base ∧ x ∉ kept ∧ ¬ cE ts (wo base x) lead := by
  obtain ⟨e1, e2⟩ := ends_of hE hl
  unfold looseL onR
  rw [List.mem_filter]
  simp only [Bool.and_eq_true, Bool.not_eq_true', decide_eq_false_iff_not, nthM p ts hE (wo base x) (wo_in hb x) _ _ e1.1 e1.2 e2.1 e2.2]
  exact ⟨fun ⟨a, b, c⟩ => ⟨a, c, b⟩, fun ⟨a, c, b⟩ => ⟨a, b, c⟩⟩
structure SS (p : Nat) (ts : List (Int × Int)) (kept shut base : List Int) (lead : Int) : Prop where
  kg : goodB ts.length kept = true
  sg : goodB ts.length shut = true
  hd : (wth p ts kept shut).head? = some base
  li : 0 ≤ lead ∧ lead < ts.length
  lb : lead ∉ base
  ls : lead ∉ shut
  lc : ¬ cE ts kept lead
theorem head_mem {α : Type} {l : List α} {a : α} (h : l.head? = some a) : a ∈ l := by
  cases l with
  | nil => cases h
  | cons b l => cases h; exact List.mem_cons_self ..
variable {kept shut base : List Int} {lead : Int}
theorem SS.mem (s : SS p ts kept shut base lead) (hp : 1 ≤ p) : treeB p ts base = true ∧ (∀ t ∈ kept, t ∈ base) ∧ ∀ t ∈ shut, t ∉ base := (wth_mem hp).mp (head_mem s.hd)
theorem SS.disj (s : SS p ts kept shut base lead) (hp : 1 ≤ p) : ∀ x ∈ kept, x ∉ shut := fun x hx hs => (s.mem hp).2.2 x hs ((s.mem hp).2.1 x hx)
theorem SS.rise (s : SS p ts kept shut base lead) (hp : 1 ≤ p) : base.Pairwise (· < ·) := (good_iff.mp (treeB_nat.mp (s.mem hp).1).2.1).2
theorem last_max20 : ∀ {l : List Int} {m : Int}, l.Pairwise (· < ·) → m ∈ l → (∀ x ∈ l, x ≤ m) → l.getLastD 0 = m ∧ l.getLast? = some m := fun {l m} h hm hx => by
  have ne : l ≠ [] := List.ne_nil_of_mem hm
  have e := List.dropLast_concat_getLast ne
  have : l.getLast ne = m := by
    have h1 := hx _ (List.getLast_mem ne)
    rw [← e] at hm h
    rcases List.mem_append.mp hm with z | z
    · have := (List.pairwise_append.mp h).2.2 m z (l.getLast ne) (by simp)
      omega
    · exact (List.mem_singleton.mp z).symm
  rw [List.getLastD_eq_getLast?, List.getLast?_eq_some_getLast ne, this]
  exact ⟨rfl, rfl⟩
theorem loose_rise (h : base.Pairwise (· < ·)) : (looseL p ts kept base lead).Pairwise (· < ·) := h.filter _
theorem SS.max (s : SS p ts kept shut base lead) (hp : 1 ≤ p) (hE : EndsOk p ts) : (looseL p ts kept base lead).getLast? = some (mxl p ts kept base lead) ∧ mxl p ts kept base lead ∈ base ∧ mxl p ts kept base lead ∉ kept ∧ mxl p ts kept base lead ∈ looseL p ts kept base lead ∧ (∀ x ∈ looseL p ts kept base lead, x ≤ mxl p ts kept base lead) ∧
    (wth p ts (kept ++ [lead]) shut).head? = some (swap base (mxl p ts kept base lead) lead) := by
  obtain ⟨m, m1, m2, m3, m4, m5⟩ := gs hp hE (good_in s.kg) (rise_nodup (good_iff.mp s.kg).2) (s.disj hp) s.hd s.li s.lb s.ls s.lc
  have hb := good_in (treeB_nat.mp (s.mem hp).1).2.1
  have lm : m ∈ looseL p ts kept base lead := (loose_mem hE hb s.li).mpr ⟨m1, m2, m3⟩
  have lx : ∀ x ∈ looseL p ts kept base lead, x ≤ m := fun x hx => by
    obtain ⟨a, b, c⟩ := (loose_mem hE hb s.li).mp hx
    exact m4 x a b c
  obtain ⟨e1, e2⟩ := last_max20 (loose_rise (s.rise hp)) lm lx
  have e : mxl p ts kept base lead = m := e1
  rw [e]
  exact ⟨e2, m1, m2, lm, lx, m5⟩
theorem wth_ext {S S' U U' : List Int} (h : ∀ x, x ∈ S ↔ x ∈ S') (h2 : ∀ x, x ∈ U ↔ x ∈ U') : wth p ts S U = wth p ts S' U' := by
  unfold wth
  refine List.filter_congr fun T _ => ?_
  congr 1
  · rw [Bool.eq_iff_iff, List.all_eq_true, List.all_eq_true]
    exact ⟨fun z x hx => z x ((h x).mpr hx), fun z x hx => z x ((h x).mp hx)⟩
  · congr 1
    rw [Bool.eq_iff_iff, List.any_eq_true, List.any_eq_true]
    exact ⟨fun ⟨x, a, b⟩ => ⟨x, (h2 x).mp a, b⟩, fun ⟨x, a, b⟩ => ⟨x, (h2 x).mpr a, b⟩⟩
theorem good_snoc {l : List Int} {t : Int} (h : goodB ts.length l = true) (ht : 0 ≤ t ∧ t < ts.length) (n : t ∉ l) : goodB ts.length (srt (l ++ [t])) = true := by
  refine srt_good (fun x hx => ?_) ?_
  · rcases List.mem_append.mp hx with z | z
    · exact good_in h x z
    · rw [List.mem_singleton.mp z]; exact ht
  · rw [List.nodup_append]
    exact ⟨rise_nodup (good_iff.mp h).2, by simp, fun a ha b hb q => by rw [List.mem_singleton.mp hb] at q; exact n (q ▸ ha)⟩
theorem SS.kl (s : SS p ts kept shut base lead) (hp : 1 ≤ p) : lead ∉ kept := fun z => s.lb ((s.mem hp).2.1 lead z)
theorem next_some (hE : EndsOk p ts) (hk : InT ts.length kept) {l2 : Int} (h : nextL p ts kept shut base lead = some l2) : ((0 ≤ l2 ∧ l2 < ts.length) ∧ l2 ∉ kept ∧ l2 ∉ shut ∧ l2 ∉ base ∧ ¬ cE ts kept l2) ∧ twinB p ts kept lead l2 = false ∧ l2 ≠ lead := by
  have h1 := List.find?_some h
  have h2 := List.mem_of_find?_eq_some h
  have h3 : twinB p ts kept lead l2 = false := by simpa using h1
  exact ⟨(opn_mem hE hk).mp h2, h3, fun z => by rw [z, twin_self] at h3; cases h3⟩
theorem SS.first (s : SS p ts kept shut base lead) (hp : 1 ≤ p) (hE : EndsOk p ts) {l2 : Int} (h : nextL p ts kept shut base lead = some l2) : SS p ts kept (srt (shut ++ [lead])) base l2 := by
  obtain ⟨⟨h1, h2, h3, h4, h5⟩, h6, h7⟩ := next_some hE (good_in s.kg) h
  refine ⟨s.kg, good_snoc s.sg s.li s.ls, ?_, h1, h4, fun z => ?_, h5⟩
  · have e : wth p ts kept (srt (shut ++ [lead])) = (wth p ts kept shut).filter fun T => !decide (lead ∈ T) := by
      rw [wth_ext (S' := kept) (U' := shut ++ [lead]) (fun _ => .rfl) (fun x => srt_mem)]
      unfold wth
      rw [List.filter_filter]
      refine List.filter_congr fun T _ => ?_
      rw [List.any_append]
      simp only [List.any_cons, List.any_nil, Bool.or_false]
      cases kept.all (fun t => decide (t ∈ T)) <;> cases shut.any (fun t => decide (t ∈ T)) <;> cases decide (lead ∈ T) <;> rfl
    rw [e]
    have hh := s.hd
    revert hh
    cases wth p ts kept shut with
    | nil => intro z; cases z
    | cons a l =>
      intro z
      cases z
      rw [List.filter_cons_of_pos (by simp [s.lb])]
      rfl
  · rcases List.mem_append.mp (srt_mem.mp z) with z | z
    · exact h3 z
    · exact h7 (List.mem_singleton.mp z)
theorem SS.second (s : SS p ts kept shut base lead) (hp : 1 ≤ p) (hE : EndsOk p ts) {l2 : Int} (h : nextL p ts kept shut base lead = some l2) : SS p ts (srt (kept ++ [lead])) shut (swap base (mxl p ts kept base lead) lead) l2 := by
  obtain ⟨⟨h1, h2, h3, h4, h5⟩, h6, h7⟩ := next_some hE (good_in s.kg) h
  refine ⟨good_snoc s.kg s.li (s.kl hp), s.sg, ?_, h1, fun z => ?_, h3, fun z => ?_⟩
  · rw [wth_ext (S' := kept ++ [lead]) (U' := shut) (fun x => srt_mem) (fun _ => .rfl)]
    exact (s.max hp hE).2.2.2.2.2
  · rcases swap_mem.mp z with z | z
    · exact h4 z.1
    · exact h7 z
  · have z := conn_srt.mp z
    have : twinB p ts kept lead l2 = true := (twin_conn hE (good_in s.kg) s.li h1).mpr (by
      rcases conn_snoc'.mp z with z | ⟨z1, z2⟩ | ⟨z1, z2⟩
      · exact absurd z h5
      · exact .inl ⟨z1.symm, z2⟩
      · exact .inr ⟨z2, z1.symm⟩)
    rw [h6] at this
    cases this
end
end Lw

namespace Lw
open DL L2 TL
section
variable {p : Nat} {ts : List (Int × Int)} {kept shut base : List Int} {lead : Int}
structure RowOk (p : Nat) (ts : List (Int × Int)) (kept shut base : List Int) (lead : Int) (R : List (List Int)) : Prop where
  mem : ∀ T, T ∈ R ↔ T ∈ wth p ts kept shut
  nd : R.Nodup
  hd : R.head? = some base
  lst : R.getLast? = some (swap base (mxl p ts kept base lead) lead)
  ch : Ch R
theorem RowOk.len {R : List (List Int)} (h : RowOk p ts kept shut base lead R) : R.length = (wth p ts kept shut).length :=
  ((List.perm_ext_iff_of_nodup h.nd (wth_nodup kept shut)).mpr h.mem).length_eq
end
end Lw

noncomputable section
namespace Lw
open DL
end Lw
end

noncomputable section
namespace Lw
open DL L2 TL
def wD (p : Nat) (ts : List (Int × Int)) : D := .ob 14 [.int p, .ls (ts.map dP)]
section
variable {p : Nat} {ts : List (Int × Int)}
end
end Lw
end

noncomputable section
namespace Lw
open DL L2 TL
section
variable {p : Nat} {ts : List (Int × Int)} {kept shut base : List Int} {lead size : Int}
end
end Lw
end

noncomputable section
namespace Lw
open DL L2 TL
section
variable {p : Nat} {ts : List (Int × Int)} {kept shut base : List Int} {lead size : Int}
end
end Lw
end

noncomputable section
namespace Lw
open DL L2 TL
def LO (o : D) (X : List (List Int)) : Prop := o = .ol (X.map dT) ∨ o = .ls (X.map dT)
theorem LO.frz {o : D} {X : List (List Int)} (h : LO o X) : nod o = true ∧ DL.frz o = .ls (X.map dT) := by
  obtain ⟨d1, d2, d3, d4, d5, d6⟩ := dulls dull_T X
  rcases h with rfl | rfl <;> simp [d2, d4, nod]
section
variable {p : Nat} {ts : List (Int × Int)} {kept shut base : List Int} {lead size : Int} {gr : List D → Res D}
end
end Lw
end

noncomputable section
namespace Lw
open DL
end Lw
end

noncomputable section
namespace Lw
open DL L2 TL
section
variable {p : Nat} {ts : List (Int × Int)} {kept shut base : List Int} {lead size : Int} {gr : List D → Res D}
end
section
variable {p : Nat} {ts : List (Int × Int)}
def baseW (p : Nat) (ts : List (Int × Int)) : List Int := srt (leastJ p ts)
theorem wth_all0 (p : Nat) (ts : List (Int × Int)) : wth p ts [] [] = trees p ts := wth_all p ts
theorem base_mem (hp : 1 ≤ p) (hE : EndsOk p ts) (h : trees p ts ≠ []) : (leastJ p ts).length + 1 = p ∧ (trees p ts).head? = some (baseW p ts) := by
  obtain ⟨T, hT⟩ := List.exists_mem_of_ne_nil _ h
  have l := least_tree_has hp hE ((trees_mem hp).mp hT)
  refine ⟨l, ?_⟩
  rw [← wth_all0]
  refine first_of (wth_rise _ _) (wth_nodup _ _) (by rw [wth_all0]; exact (trees_mem hp).mpr (least_tree_is hp hE l)) fun S hS n => least_lex hp hE ((trees_mem hp).mp (by rw [← wth_all0]; exact hS)) n
end
end Lw
end

noncomputable section
namespace Lw
open DL L2 TL
section
variable {p : Nat} {ts : List (Int × Int)}
variable (hp : 1 ≤ p) (hp2 : p ≤ 14) (hE : EndsOk p ts) (ht : ts.length ≤ 30)
theorem least_ok27 (hp : 1 ≤ p) (hp2 : p ≤ 14) (hE : EndsOk p ts) (ht : ts.length ≤ 30) : g_least_tree [wD p ts] = if trees p ts = [] then .xc 3 else .ok (.tp ((baseW p ts).map D.int)) := by
  have l := least_tree_ok p hp (by omega) ts hE (by omega)
  by_cases h : trees p ts = []
  · rw [if_pos h]
    rw [if_neg fun z => by
      have := (trees_mem hp).mpr (least_tree_is hp hE z)
      rw [h] at this; exact nomatch this] at l
    exact l
  · rw [if_neg h]
    rw [if_pos (base_mem hp hE h).1] at l
    exact l
end
end Lw
end

noncomputable section
namespace Lw
open DL L2 TL
section
variable {p : Nat} {ts : List (Int × Int)}
def optT : Option (List Int) → D
  | some T => .tp (T.map D.int)
  | none => .non
theorem tree_rise (hT : treeB p ts T = true) : T.Pairwise (· < ·) := (good_iff.mp (treeB_nat.mp hT).2.1).2
end
end Lw
end

noncomputable section
namespace Lw
open DL
def f_shortest_with_l1 : Env → Out := sAsgF 5 (eOwn g_heads_joined (aCons (eVar 5) (aCons (eBin opIx (eUn (opFld 14 1) (eVar 0)) (eVar 6)) (aNil))))
def f_shortest_with_l2 : Env → Out := sIf (tAn (tC2 cNIn (eVar 6) (eVar 2)) (tC2 cNIn (eVar 6) (eVar 3))) (sSeq (sAsgF 7 (eOwn g_heads_joined (aCons (eVar 5) (aCons (eBin opIx (eUn (opFld 14 1) (eVar 0)) (eVar 6)) (aNil))))) (sIf (tC2 cNe (eVar 7) (eVar 5)) (sSeq (sApp 4 (eVar 6)) (sAsgF 5 (eVar 7))) (sNil))) (sNil)
def f_shortest_with : Env → Out := sSeq (sAsg 4 (eCall caList (aCons (eVar 2) (aNil)))) (sSeq (sAsgF 5 (eLR1 (eUn (opFld 14 0) (eVar 0)))) (sSeq (sFor (iSeq (eVar 2)) (gtN 6) f_shortest_with_l1) (sSeq (sFor (iSeq (eVar 1)) (gtN 6) f_shortest_with_l2) (sSeq (sIf (tC2 cLt (eCall caLen (aCons (eVar 4) (aNil))) (eBin opSub (eUn (opFld 14 0) (eVar 0)) (eC (.int 1)))) (sRet (eC .non)) (sNil)) (sRet (eCall caTuple (aCons (eCall caSorted3 (aCons (eVar 4) (aNil))) (aNil))))))))
def g_shortest_with : List D → Res D := runF f_shortest_with 8
def f_put_found_c1 : Env → Res D := eBin opIx (eVar 1) (eVar 5)
def f_put_found : Env → Res (Option D) := mIf (tC2 cNotN (eVar 2) (eC .non)) (mApp (eTup (aConsO (eCall caSum (aCons (eLc (iSeq (eVar 2)) [5] (gtN 5) (tYesG) f_put_found_c1) (aNil))) (aConsO (eVar 2) (aConsO (eVar 3) (aConsO (eVar 4) (aNil)))))))
def g_put_found : List D → Res (Option D) := runM f_put_found 6
def f_parts_behind_l1 : Env → Out := sIf (tC2 cNIn (eVar 9) (eVar 7)) (sSeq (sAsgF 10 (eBin opAdd (eVar 8) (eTup (aConsO (eVar 9) (aNil))))) (sSeq (sPut 4 g_put_found (aCons (eVar 1) (aCons (eOwn g_shortest_with (aCons (eVar 0) (aCons (eVar 2) (aCons (eVar 7) (aCons (eVar 10) (aNil)))))) (aCons (eVar 7) (aCons (eVar 10) (aNil)))))) (sAsgF 7 (eCall caTuple (aCons (eCall caSorted3 (aCons (eBin opAdd (eVar 7) (eTup (aConsO (eVar 9) (aNil)))) (aNil))) (aNil)))))) (sNil)
def f_parts_behind : Env → Out := sSeq (sAsg 4 (eLst (aNil))) (sSeq (sAsgT (gtT 4 (gtCons (gtN 5) (gtCons (gtN 6) (gtCons (gtN 7) (gtCons (gtN 8) (gtNil)))))) (eVar 3)) (sSeq (sFor (iSeq (eVar 6)) (gtN 9) f_parts_behind_l1) (sRetV 4)))
def g_parts_behind : List D → Res D := runF f_parts_behind 11
def f_ranked_l1 : Env → Out := sSeq (sAsgF 6 (eCall caMin4 (aCons (eVar 4) (aNil)))) (sSeq (sRem 4 (eVar 6)) (sSeq (sApp 5 (eTup (aConsO (eBin opIx (eVar 6) (eC (.int 0))) (aConsO (eBin opIx (eVar 6) (eC (.int 1))) (aNil))))) (sExt 4 (eOwn g_parts_behind (aCons (eVar 0) (aCons (eVar 1) (aCons (eVar 3) (aCons (eVar 6) (aNil)))))))))
def f_ranked_l1t : Env → Res Bool := tAn (tC2 cLt (eCall caLen (aCons (eVar 5) (aNil))) (eVar 2)) (tC2 cGt (eCall caLen (aCons (eVar 4) (aNil))) (eC (.int 0)))
def f_ranked : Env → Out := sSeq (sExp (eOwn g_look_at_lengths (aCons (eVar 0) (aCons (eVar 1) (aNil))))) (sSeq (sAsgF 3 (eOwn g_by_length (aCons (eVar 1) (aNil)))) (sSeq (sAsg 4 (eLst (aNil))) (sSeq (sPut 4 g_put_found (aCons (eVar 1) (aCons (eOwn g_shortest_with (aCons (eVar 0) (aCons (eVar 3) (aCons (eTup (aNil)) (aCons (eTup (aNil)) (aNil)))))) (aCons (eTup (aNil)) (aCons (eTup (aNil)) (aNil)))))) (sSeq (sAsg 5 (eLst (aNil))) (sSeq (sWhile f_ranked_l1t f_ranked_l1) (sRetV 5))))))
def g_ranked : List D → Res D := runF f_ranked 7
end Lw
end

noncomputable section
namespace Lw
open DL L2 TL
section
variable {L : List Int} {p : Nat} {ts : List (Int × Int)} {O I S : List Int}
def swS (O I S : List Int) : List Int := O.filter fun t => !decide (t ∈ I) && !decide (t ∈ S)
def swG (p : Nat) (ts : List (Int × Int)) (O I S : List Int) : List Int := gr p ts (swS O I S) I
def swT (p : Nat) (ts : List (Int × Int)) (O I S : List Int) : Option (List Int) := if (swG p ts O I S).length + 1 < p then none else some (srt (swG p ts O I S))
theorem sw_law (hp : 1 ≤ p) (hE : EndsOk p ts) (hO : Ord L ts.length O) (hI : Ind p ts I) (hd : ∀ x ∈ I, x ∉ S) :
    (∀ U, swT p ts O I S = some U → U ∈ wth p ts I S ∧ ∀ T ∈ wth p ts I S, T ≠ U → HT.lexLt (lsum L U :: U) (lsum L T :: T) = true) ∧ (swT p ts O I S = none → wth p ts I S = []) ∧ (swG p ts O I S).length + 1 ≤ p := by
  have hs : InT ts.length (swS O I S) := fun y hy => hO.mem.mp (List.mem_filter.mp hy).1
  obtain ⟨h1, ⟨K, k1, k2⟩, h3⟩ := gr_ok hE (swS O I S) I hI hs
  have hc := h1.ct
  have hcp := cnt_pos hp (tiesAt ts (gr p ts (swS O I S) I))
  have sub : ∀ T ∈ wth p ts I S, Ind p ts T ∧ (∀ x ∈ I, x ∈ T) ∧ ∀ x ∈ T, x ∈ I ∨ x ∈ swS O I S := fun T hT => by
    obtain ⟨t1, t2, t3⟩ := (wth_mem hp).mp hT
    have iT := tree_ind t1 hp
    refine ⟨iT, t2, fun x hx => ?_⟩
    by_cases c : x ∈ I
    · exact .inl c
    · right
      refine List.mem_filter.mpr ⟨hO.mem.mpr (iT.inn x hx), ?_⟩
      have : x ∉ S := fun z => t3 x z hx
      simp [c, this]
  have full : ∀ T ∈ wth p ts I S, (swG p ts O I S).length + 1 = p := fun T hT => by
    obtain ⟨iT, _, h5⟩ := sub T hT
    have := Ind.le hE iT h1 fun t ht => by
      rcases h5 t ht with h | h
      · exact conn_at (by rw [k1]; exact List.mem_append_left _ h)
      · exact h3 t h
    have := tree_len hp ((wth_mem hp).mp hT).1
    unfold swG
    omega
  refine ⟨fun U hU => ?_, fun hn => ?_, by unfold swG; omega⟩
  · unfold swT at hU
    split at hU
    · cases hU
    · rename_i hlen
      have eU := Option.some.inj hU
      have e1 : (gr p ts (swS O I S) I).length + 1 = p := by unfold swG at hlen; omega
      have tU : treeB p ts (srt (gr p ts (swS O I S) I)) = true := by
        refine treeB_nat.mpr ⟨by rw [srt_len]; omega, srt_good h1.inn h1.nd, ?_⟩
        rw [cnt_srt hE h1.inn]; omega
      rw [show swG p ts O I S = gr p ts (swS O I S) I from rfl] at eU
      subst eU
      have hU2 : srt (gr p ts (swS O I S) I) ∈ wth p ts I S := by
        refine (wth_mem hp).mpr ⟨tU, fun x hx => srt_mem.mpr (by rw [k1]; exact List.mem_append_left _ hx), fun x hx hz => ?_⟩
        have hz := srt_mem.mp hz
        rw [k1] at hz
        rcases List.mem_append.mp hz with h | h
        · exact hd x h hx
        · have := (List.mem_filter.mp (k2.subset h)).2
          simp [hx] at this
      refine ⟨hU2, fun T hT hn => ?_⟩
      obtain ⟨iT, t4, t5⟩ := sub T hT
      have tT := ((wth_mem hp).mp hT).1
      have rT := tree_rise tT
      have nO : O.Nodup := hO.pm.nodup_iff.mpr (iota_nodup _)
      have pm : ∀ {W : List Int}, Ind p ts W → (O.filter fun t => decide (t ∈ W)).Perm W := fun {W} iW => by
        refine (List.perm_ext_iff_of_nodup (nO.sublist List.filter_sublist) iW.nd).mpr fun x => ?_
        rw [List.mem_filter, hO.mem, decide_eq_true_eq]
        exact ⟨fun h => h.2, fun h => ⟨iW.inn x h, h⟩⟩
      have pG := pm h1
      have pT := pm iT
      have lT := tree_len hp tT
      have dom := dom_el L (hO.lt.sublist (List.filter_sublist (p := fun t => decide (t ∈ gr p ts (swS O I S) I)))) (hO.lt.sublist (List.filter_sublist (p := fun t => decide (t ∈ T)))) (by rw [pG.length_eq, pT.length_eq]; omega) fun k => by
        have sp := split_by (R := KLt L) (q := fun t => decide (KLt L t k)) (fun a b h hb => by
          simp only [decide_eq_true_eq] at hb ⊢
          unfold KLt at *
          omega) (hO.lt.sublist (List.filter_sublist (p := fun t => !decide (t ∈ I) && !decide (t ∈ S))))
        have dq := dom_q hE hI hs (q := fun t => decide (KLt L t k)) sp iT t4 t5
        unfold cb
        rw [(pT.filter _).length_eq, (pG.filter _).length_eq]
        exact dq
      rw [lsum_perm pG, lsum_perm pT] at dom
      rw [lsum_perm (srt_perm (gr p ts (swS O I S) I)), HT.lexLt_cons]
      by_cases e : lsum L (gr p ts (swS O I S) I) = lsum L T
      · rw [if_pos e]
        refine gale_lex (srt_lt h1.nd) rT (by rw [srt_len]; omega) (fun x => ?_) (Ne.symm hn)
        have := dom.2 e x
        rw [bel_perm pT, bel_perm pG] at this
        rw [bel_perm (srt_perm _)]
        exact this
      · rw [if_neg e]
        have := dom.1
        simp; omega
  · refine List.eq_nil_iff_forall_not_mem.mpr fun T hT => ?_
    have := full T hT
    unfold swT at hn
    split at hn
    · omega
    · cases hn
theorem sw_l1u (hp2 : p ≤ 1000) (hE : EndsOk p ts) {y7 : D} : ∀ (l J : List Int) (y6 : D), InT ts.length l → ∃ z6, ∀ x1 x2 x3 x4, forL (gtN 6) f_shortest_with_l1 (l.map D.int) [wD p ts, x1, x2, x3, x4, .ls ((marksL p ts J).map D.int), y6, y7] = .nx [wD p ts, x1, x2, x3, x4, .ls ((marksL p ts (J ++ l)).map D.int), z6, y7]
  | [], J, y6, _ => ⟨y6, fun _ _ _ _ => by rw [List.append_nil]; rfl⟩
  | t :: l, J, y6, hl => by
    obtain ⟨t0, t1⟩ := hl t (List.mem_cons_self ..)
    obtain ⟨e1, e2⟩ := tie_at t0 t1
    obtain ⟨⟨a0, a1⟩, b0, b1⟩ := hE _ e2
    have ml := marksL_len p ts J
    have hjo := heads_joined_ok (marksL p ts J) (by omega) (tieAt ts t) a0 (by omega) b0 (by omega)
    simp only [dP] at hjo
    obtain ⟨z6, ih⟩ := sw_l1u hp2 hE (y7 := y7) l (J ++ [t]) (.int t) fun x hx => hl x (List.mem_cons_of_mem _ hx)
    refine ⟨z6, fun x1 x2 x3 x4 => ?_⟩
    have ih := ih x1 x2 x3 x4
    rw [List.append_assoc, List.singleton_append] at ih
    rw [← ih, marksL_snoc]
    unfold wD
    simp [forL, f_shortest_with_l1, e1, hjo]
theorem sw_l2u (hp : 1 ≤ p) (hp2 : p ≤ 1000) (hE : EndsOk p ts) {I S : List Int} : ∀ (l J : List Int) (y6 y7 : D), InT ts.length l → Ind p ts J → J.length + l.length ≤ 5000 → ∃ z6 z7, ∀ x1, forL (gtN 6) f_shortest_with_l2 (l.map D.int) [wD p ts, x1, .tp (I.map D.int), .tp (S.map D.int), .ol (J.map D.int), .ls ((marksL p ts J).map D.int), y6, y7] = .nx [wD p ts, x1, .tp (I.map D.int), .tp (S.map D.int), .ol ((gr p ts (swS l I S) J).map D.int), .ls ((marksL p ts (gr p ts (swS l I S) J)).map D.int), z6, z7]
  | [], J, y6, y7, _, _, _ => ⟨y6, y7, fun _ => rfl⟩
  | t :: l, J, y6, y7, hl, hJ, hn => by
    obtain ⟨t0, t1⟩ := hl t (List.mem_cons_self ..)
    have hl' : InT ts.length l := fun x hx => hl x (List.mem_cons_of_mem _ hx)
    have hn' : J.length + l.length ≤ 5000 := by simp at hn; omega
    unfold swS
    by_cases cI : t ∈ I
    · obtain ⟨z6, z7, ih⟩ := sw_l2u hp hp2 hE (I := I) (S := S) l J (.int t) y7 hl' hJ hn'
      refine ⟨z6, z7, fun x1 => ?_⟩
      rw [List.filter_cons_of_neg (by simp [cI])]
      rw [show (l.filter fun t => !decide (t ∈ I) && !decide (t ∈ S)) = swS l I S from rfl, ← ih x1]
      unfold wD
      simp [forL, f_shortest_with_l2, cI]
    · by_cases cS : t ∈ S
      · obtain ⟨z6, z7, ih⟩ := sw_l2u hp hp2 hE (I := I) (S := S) l J (.int t) y7 hl' hJ hn'
        refine ⟨z6, z7, fun x1 => ?_⟩
        rw [List.filter_cons_of_neg (by simp [cS])]
        rw [show (l.filter fun t => !decide (t ∈ I) && !decide (t ∈ S)) = swS l I S from rfl, ← ih x1]
        unfold wD
        simp [forL, f_shortest_with_l2, cI, cS]
      · rw [List.filter_cons_of_pos (by simp [cI, cS])]
        obtain ⟨e1, e2⟩ := tie_at t0 t1
        obtain ⟨⟨a0, a1⟩, b0, b1⟩ := hE _ e2
        have ml := marksL_len p ts J
        have hjo := heads_joined_ok (marksL p ts J) (by omega) (tieAt ts t) a0 (by omega) b0 (by omega)
        simp only [dP] at hjo
        have same := marksL_same hE (J := J) ⟨t0, t1⟩
        have iff : (nth (marksM p ts (srt J)) (tieAt ts t).1 = nth (marksM p ts (srt J)) (tieAt ts t).2) ↔ hj (marksL p ts J) (tieAt ts t) = marksL p ts J := by
          rw [same, testL hE hJ.inn ⟨t0, t1⟩, gr_test hE hJ.inn ⟨t0, t1⟩]
        have bj : J.length < lim := by rw [lim_eq]; omega
        by_cases c : hj (marksL p ts J) (tieAt ts t) = marksL p ts J
        · obtain ⟨z6, z7, ih⟩ := sw_l2u hp hp2 hE (I := I) (S := S) l J (.int t) (.ls ((hj (marksL p ts J) (tieAt ts t)).map D.int)) hl' hJ hn'
          refine ⟨z6, z7, fun x1 => ?_⟩
          simp only [gr]
          rw [if_pos (iff.mpr c), show (l.filter fun t => !decide (t ∈ I) && !decide (t ∈ S)) = swS l I S from rfl, ← ih x1]
          unfold wD
          simp [forL, f_shortest_with_l2, cI, cS, e1, hjo, c]
        · have hJ' := hJ.snoc hE ⟨t0, t1⟩ fun z => c (iff.mp ((gr_test hE hJ.inn ⟨t0, t1⟩).mpr z))
          obtain ⟨z6, z7, ih⟩ := sw_l2u hp hp2 hE (I := I) (S := S) l (J ++ [t]) (.int t) (.ls ((hj (marksL p ts J) (tieAt ts t)).map D.int)) hl' hJ' (by simp at hn ⊢; omega)
          refine ⟨z6, z7, fun x1 => ?_⟩
          simp only [gr]
          rw [if_neg (fun z => c (iff.mp z)), show (l.filter fun t => !decide (t ∈ I) && !decide (t ∈ S)) = swS l I S from rfl, ← ih x1, marksL_snoc]
          unfold wD
          simp [forL, f_shortest_with_l2, cI, cS, e1, hjo, c, bj]
theorem sw_raw {o : D} {G : List Int} {M0 M1 M2 : List D} {z6 w6 w7 : D} (ho : LT o O) (bI : I.length ≤ lim) (hM0 : (iota p).map D.int = M0) (hr : rgOk (p : Int)) (hp6 : (p : Int) ≤ 1000000) (e1 : ∀ x1 x3 x4, forL (gtN 6) f_shortest_with_l1 (I.map D.int) [wD p ts, x1, .tp (I.map D.int), x3, x4, .ls M0, .un, .un] = .nx [wD p ts, x1, .tp (I.map D.int), x3, x4, .ls M1, z6, .un]) (e2 : ∀ x1, forL (gtN 6) f_shortest_with_l2 (O.map D.int) [wD p ts, x1, .tp (I.map D.int), .tp (S.map D.int), .ol (I.map D.int), .ls M1, z6, .un] = .nx [wD p ts, x1, .tp (I.map D.int), .tp (S.map D.int), .ol (G.map D.int), .ls M2, w6, w7]) (bG : G.length ≤ lim) : g_shortest_with [wD p ts, o, .tp (I.map D.int), .tp (S.map D.int)] = .ok (optT (if G.length + 1 < p then none else some (srt G))) := by
  have cs := caSorted3_bo G
  have b1 : (srt G).length ≤ lim := by rw [srt_len]; exact bG
  have ei : rng 0 p = M0 := by rw [rng_iota, hM0]
  obtain ⟨s1, s2, s3⟩ := LT_shd ho
  have f : ∀ x : D, x = o → f_shortest_with [wD p ts, o, .tp (I.map D.int), .tp (S.map D.int), .un, .un, .un, .un] = .rt (optT (if G.length + 1 < p then none else some (srt G))) := fun _ _ => by
    unfold f_shortest_with
    refine seq_to (g1 := [wD p ts, o, .tp (I.map D.int), .tp (S.map D.int), .ol (I.map D.int), .un, .un, .un]) (by simp [bI]) ?_
    refine seq_to (g1 := [wD p ts, o, .tp (I.map D.int), .tp (S.map D.int), .ol (I.map D.int), .ls M0, .un, .un]) (by unfold wD; simp [hr, hp6, ei, ← hM0]) ?_
    refine seq_to (g1 := [wD p ts, o, .tp (I.map D.int), .tp (S.map D.int), .ol (I.map D.int), .ls M1, z6, .un]) (by simp [e1]) ?_
    refine seq_to (g1 := [wD p ts, o, .tp (I.map D.int), .tp (S.map D.int), .ol (G.map D.int), .ls M2, w6, w7]) (by rcases ho with rfl | rfl <;> simp [e2]) ?_
    by_cases c : G.length + 1 < p
    · have c' : (G.length : Int) < (p : Int) - 1 := by omega
      rw [if_pos c]
      unfold wD
      simp [c', optT]
    · have c' : ¬ (G.length : Int) < (p : Int) - 1 := by omega
      rw [if_neg c]
      unfold wD
      simp [c', optT, cs, b1, bG]
  unfold g_shortest_with runF
  rw [show ([wD p ts, o, .tp (I.map D.int), .tp (S.map D.int)] ++ List.replicate (8 - [wD p ts, o, D.tp (I.map D.int), D.tp (S.map D.int)].length) D.un) = [wD p ts, o, .tp (I.map D.int), .tp (S.map D.int), .un, .un, .un, .un] from rfl, f o rfl]
theorem sw_ok {o : D} (hp : 1 ≤ p) (hp2 : p ≤ 1000) (hE : EndsOk p ts) (ht : ts.length ≤ 1000) (ho : LT o O) (hO : Ord L ts.length O) (hI : Ind p ts I) : g_shortest_with [wD p ts, o, .tp (I.map D.int), .tp (S.map D.int)] = .ok (optT (swT p ts O I S)) := by
  have ol : O.length = ts.length := by have := hO.pm.length_eq; rw [iota_len] at this; exact this
  have il := hI.ct
  have hs : InT ts.length (swS O I S) := fun y hy => hO.mem.mp (List.mem_filter.mp hy).1
  obtain ⟨h1, _, _⟩ := gr_ok hE (swS O I S) I hI hs
  have gl := h1.ct
  have e1 : ∃ z6, ∀ x1 x3 x4, forL (gtN 6) f_shortest_with_l1 (I.map D.int) [wD p ts, x1, .tp (I.map D.int), x3, x4, .ls ((iota p).map D.int), .un, .un] = .nx [wD p ts, x1, .tp (I.map D.int), x3, x4, .ls ((marksL p ts I).map D.int), z6, .un] := by
    have key : ∀ (l J : List Int) (y6 : D), InT ts.length l → ∃ z6, ∀ x1 x2 x3 x4, forL (gtN 6) f_shortest_with_l1 (l.map D.int) [wD p ts, x1, x2, x3, x4, .ls ((marksL p ts J).map D.int), y6, .un] = .nx [wD p ts, x1, x2, x3, x4, .ls ((marksL p ts (J ++ l)).map D.int), z6, .un] := sw_l1u hp2 hE (y7 := .un)
    obtain ⟨z6, h⟩ := key I [] .un hI.inn
    exact ⟨z6, fun x1 x3 x4 => h x1 _ x3 x4⟩
  obtain ⟨z6, e1⟩ := e1
  have e2 : ∃ w6 w7, ∀ x1, forL (gtN 6) f_shortest_with_l2 (O.map D.int) [wD p ts, x1, .tp (I.map D.int), .tp (S.map D.int), .ol (I.map D.int), .ls ((marksL p ts I).map D.int), z6, .un] = .nx [wD p ts, x1, .tp (I.map D.int), .tp (S.map D.int), .ol ((gr p ts (swS O I S) I).map D.int), .ls ((marksL p ts (gr p ts (swS O I S) I)).map D.int), w6, w7] := sw_l2u hp hp2 hE O I z6 .un (fun x hx => hO.mem.mp hx) hI (by omega)
  obtain ⟨w6, w7, e2⟩ := e2
  exact sw_raw (G := gr p ts (swS O I S) I) ho (by rw [lim_eq]; omega) rfl (rgOk_of (by omega) (by omega)) (by omega) e1 e2 (by rw [lim_eq]; omega)
end
end Lw
end

noncomputable section
namespace Lw
open DL L2 TL
def kT (L T : List Int) : List Int := lsum L T :: T
def nl (L A B : List Int) : Prop := HT.lexLt (kT L B) (kT L A) = false
theorem nl_tr {L A B C : List Int} (h1 : nl L A B) (h2 : nl L B C) : nl L A C := NtL.lex_tr _ _ _ h1 h2
theorem nl_of {L A B : List Int} (h : HT.lexLt (kT L A) (kT L B) = true) : nl L A B := NtL.lex_asym _ _ h
section
variable {L : List Int} {p : Nat} {ts : List (Int × Int)} {O : List Int}
abbrev Rc := List Int × List Int × List Int
def wR (p : Nat) (ts : List (Int × Int)) (r : Rc) : List (List Int) := wth p ts r.2.1 r.2.2
structure Gd (p : Nat) (ts : List (Int × Int)) (O : List Int) (r : Rc) : Prop where
  ind : Ind p ts r.2.1
  dj : ∀ x ∈ r.2.1, x ∉ r.2.2
  tr : swT p ts O r.2.1 r.2.2 = some r.1
def optR (I S : List Int) : Option (List Int) → List Rc
  | some U => [(U, I, S)]
  | none => []
def prtL (p : Nat) (ts : List (Int × Int)) (O S : List Int) : List Int → List Int → List Rc
  | [], _ => []
  | t :: l, I => if t ∈ I then prtL p ts O S l I else optR I (S ++ [t]) (swT p ts O I (S ++ [t])) ++ prtL p ts O S l (srt (I ++ [t]))
def prt (p : Nat) (ts : List (Int × Int)) (O : List Int) (r : Rc) : List Rc := prtL p ts O r.2.2 r.1 r.2.1
theorem perm_filter {α : Type} (q : α → Bool) (l : List α) : l.Perm (l.filter q ++ l.filter fun x => !q x) := (List.filter_append_perm q l).symm
theorem wth_parts (I S : List Int) (t : Int) : (wth p ts I S).Perm (wth p ts (I ++ [t]) S ++ wth p ts I (S ++ [t])) := by
  have e1 : wth p ts (I ++ [t]) S = (wth p ts I S).filter fun T => decide (t ∈ T) := by
    unfold wth
    rw [List.filter_filter]
    refine List.filter_congr fun T _ => ?_
    rw [List.all_append]
    simp only [List.all_cons, List.all_nil, Bool.and_true]
    cases (I.all fun t => decide (t ∈ T)) <;> cases decide (t ∈ T) <;> simp
  have e2 : wth p ts I (S ++ [t]) = (wth p ts I S).filter fun T => !decide (t ∈ T) := by
    unfold wth
    rw [List.filter_filter]
    refine List.filter_congr fun T _ => ?_
    rw [List.any_append]
    simp only [List.any_cons, List.any_nil, Bool.or_false]
    cases (I.all fun t => decide (t ∈ T)) <;> cases (S.any fun t => decide (t ∈ T)) <;> cases decide (t ∈ T) <;> simp
  rw [e1, e2]
  exact perm_filter _ _
theorem optR_perm (hp : 1 ≤ p) (hE : EndsOk p ts) (hO : Ord L ts.length O) {I S : List Int} (hI : Ind p ts I) (hd : ∀ x ∈ I, x ∉ S) : ((optR I S (swT p ts O I S)).flatMap (wR p ts)) = wth p ts I S ∧ ∀ r ∈ optR I S (swT p ts O I S), Gd p ts O r := by
  obtain ⟨_, h2, _⟩ := sw_law hp hE hO hI hd
  cases e : swT p ts O I S with
  | none => exact ⟨by rw [h2 e]; rfl, fun r hr => nomatch hr⟩
  | some U =>
    refine ⟨by simp [optR, wR], fun r hr => ?_⟩
    rw [List.mem_singleton.mp hr]
    exact ⟨hI, hd, e⟩
theorem prtL_perm (hp : 1 ≤ p) (hE : EndsOk p ts) (hO : Ord L ts.length O) {U S : List Int} (hU : treeB p ts U = true) (hS : ∀ x ∈ S, x ∉ U) : ∀ (l I : List Int), I.Nodup → (∀ x ∈ I, x ∈ U) → (∀ x ∈ l, x ∈ U) → l.Nodup → (∀ x ∈ U, x ∈ I ∨ x ∈ l) → (wth p ts I S).Perm (U :: (prtL p ts O S l I).flatMap (wR p ts)) ∧ ∀ r ∈ prtL p ts O S l I, Gd p ts O r
  | [], I, hI, h1, _, _, h2 => by
    refine ⟨?_, fun r hr => nomatch hr⟩
    have m : U ∈ wth p ts I S := (wth_mem hp).mpr ⟨hU, h1, hS⟩
    have all : ∀ T ∈ wth p ts I S, T = U := fun T hT => by
      obtain ⟨t1, t2, _⟩ := (wth_mem hp).mp hT
      have lT := tree_len hp t1
      have lU := tree_len hp hU
      have nU := rise_nodup (tree_rise hU)
      have sub : ∀ x ∈ U, x ∈ T := fun x hx => t2 x ((h2 x hx).resolve_right (fun h => nomatch h))
      refine rise_uniq (tree_rise t1) (tree_rise hU) fun x => ⟨fun hx => ?_, sub x⟩
      have nT := rise_nodup (tree_rise t1)
      by_cases c : x ∈ U
      · exact c
      · have := nodup_le (l := x :: U) (m := T) (List.nodup_cons.mpr ⟨c, nU⟩) fun y hy => by
          rcases List.mem_cons.mp hy with rfl | hy
          · exact hx
          · exact sub y hy
        simp at this
        omega
    have l1 := one_of (wth_nodup (p := p) (ts := ts) I S) all m
    match h : wth p ts I S, l1, all with
    | [T], _, all => rw [all T (List.mem_cons_self ..)]; exact .refl _
  | t :: l, I, hI, h1, h3, h4, h2 => by
    obtain ⟨n1, n2⟩ := List.nodup_cons.mp h4
    have hl : ∀ x ∈ l, x ∈ U := fun x hx => h3 x (List.mem_cons_of_mem _ hx)
    have ht := h3 t (List.mem_cons_self ..)
    have iU := tree_ind hU hp
    unfold prtL
    by_cases c : t ∈ I
    · rw [if_pos c]
      exact prtL_perm hp hE hO hU hS l I hI h1 hl n2 fun x hx => by
        rcases h2 x hx with h | h
        · exact .inl h
        · rcases List.mem_cons.mp h with rfl | h
          · exact .inl c
          · exact .inr h
    · rw [if_neg c]
      have nI : (I ++ [t]).Nodup := List.nodup_append.mpr ⟨hI, by simp, fun a ha b hb e => c (by rw [List.mem_singleton.mp hb] at e; exact e ▸ ha)⟩
      have sI : (srt (I ++ [t])).Nodup := (srt_perm _).nodup_iff.mpr nI
      have mI : ∀ x, x ∈ srt (I ++ [t]) ↔ x ∈ I ∨ x = t := fun x => by rw [srt_mem]; simp
      obtain ⟨ih1, ih2⟩ := prtL_perm hp hE hO hU hS l (srt (I ++ [t])) sI (fun x hx => by
        rcases (mI x).mp hx with h | rfl
        · exact h1 x h
        · exact ht) hl n2 fun x hx => by
        rcases h2 x hx with h | h
        · exact .inl ((mI x).mpr (.inl h))
        · rcases List.mem_cons.mp h with rfl | h
          · exact .inl ((mI x).mpr (.inr rfl))
          · exact .inr h
      have iI : Ind p ts I := iU.sub hE hI h1
      have dj : ∀ x ∈ I, x ∉ S ++ [t] := fun x hx hz => by
        rcases List.mem_append.mp hz with h | h
        · exact hS x h (h1 x hx)
        · rw [List.mem_singleton.mp h] at hx; exact c hx
      obtain ⟨o1, o2⟩ := optR_perm hp hE hO iI dj
      have wp := wth_parts (p := p) (ts := ts) I S t
      rw [wth_ext (S' := srt (I ++ [t])) (U' := S) (fun x => srt_mem.symm) (fun _ => .rfl)] at wp
      refine ⟨?_, fun r hr => ?_⟩
      · rw [List.flatMap_append, o1]
        refine wp.trans ((ih1.append_right _).trans ?_)
        rw [List.cons_append]
        exact (List.perm_append_comm).cons U
      · rcases List.mem_append.mp hr with h | h
        · exact o2 r h
        · exact ih2 r h
theorem Gd.mem (hp : 1 ≤ p) (hE : EndsOk p ts) (hO : Ord L ts.length O) {r : Rc} (g : Gd p ts O r) : r.1 ∈ wR p ts r ∧ ∀ T ∈ wR p ts r, T ≠ r.1 → HT.lexLt (kT L r.1) (kT L T) = true := (sw_law hp hE hO g.ind g.dj).1 r.1 g.tr
theorem prt_perm (hp : 1 ≤ p) (hE : EndsOk p ts) (hO : Ord L ts.length O) {r : Rc} (g : Gd p ts O r) : (wR p ts r).Perm (r.1 :: (prt p ts O r).flatMap (wR p ts)) ∧ ∀ s ∈ prt p ts O r, Gd p ts O s := by
  obtain ⟨m, _⟩ := g.mem hp hE hO
  obtain ⟨t1, t2, t3⟩ := (wth_mem hp).mp m
  exact prtL_perm hp hE hO t1 t3 r.1 r.2.1 g.ind.nd t2 (fun x hx => hx) (rise_nodup (tree_rise t1)) fun x hx => .inr hx
structure Rk (p : Nat) (ts : List (Int × Int)) (L O : List Int) (told : List (List Int)) (F : List Rc) : Prop where
  pm : (told ++ F.flatMap (wR p ts)).Perm (trees p ts)
  gd : ∀ r ∈ F, Gd p ts O r
  so : told.Pairwise (nl L)
  lo : ∀ t ∈ told, ∀ r ∈ F, ∀ T ∈ wR p ts r, nl L t T
theorem Rk.start (hp : 1 ≤ p) (hE : EndsOk p ts) (hO : Ord L ts.length O) : Rk p ts L O [] (optR [] [] (swT p ts O [] [])) := by
  obtain ⟨o1, o2⟩ := optR_perm hp hE hO (ind_nil p ts) (S := []) (fun _ h => nomatch h)
  exact ⟨by rw [List.nil_append, o1, wth_all0], o2, .nil, fun _ h => nomatch h⟩
theorem flatMap_mem {r : Rc} {F : List Rc} (h : r ∈ F) {T : List Int} (hT : T ∈ wR p ts r) : T ∈ F.flatMap (wR p ts) := List.mem_flatMap.mpr ⟨r, h, hT⟩
theorem Rk.step (hp : 1 ≤ p) (hE : EndsOk p ts) (hO : Ord L ts.length O) {told : List (List Int)} {F F' : List Rc} {r : Rc} (h : Rk p ts L O told F) (pF : F.Perm (r :: F')) (mn : ∀ s ∈ F, HT.lexLt (kT L s.1) (kT L r.1) = false) : Rk p ts L O (told ++ [r.1]) (F' ++ prt p ts O r) := by
  have hr : r ∈ F := pF.mem_iff.mpr (List.mem_cons_self ..)
  have g := h.gd r hr
  obtain ⟨m1, m2⟩ := g.mem hp hE hO
  obtain ⟨q1, q2⟩ := prt_perm hp hE hO g
  have pf : (F.flatMap (wR p ts)).Perm (wR p ts r ++ F'.flatMap (wR p ts)) := by
    have := pF.flatMap_right (wR p ts)
    rwa [List.flatMap_cons] at this
  have nd : (wR p ts r).Nodup := wth_nodup ..
  have nq := q1.nodup_iff.mp nd
  have pall : (told ++ [r.1] ++ (F' ++ prt p ts O r).flatMap (wR p ts)).Perm (trees p ts) := by
    refine List.Perm.trans ?_ h.pm
    rw [List.append_assoc]
    refine List.Perm.append_left told ?_
    refine List.Perm.trans ?_ pf.symm
    rw [List.flatMap_append, List.singleton_append]
    refine List.Perm.trans ?_ (q1.symm.append_right _)
    rw [List.cons_append]
    exact (List.perm_append_comm).cons r.1
  refine ⟨pall, fun s hs => ?_, ?_, fun t ht s hs T hT => ?_⟩
  · rcases List.mem_append.mp hs with h1 | h1
    · exact h.gd s (pF.mem_iff.mpr (List.mem_cons_of_mem _ h1))
    · exact q2 s h1
  · refine List.pairwise_append.mpr ⟨h.so, List.pairwise_singleton .., fun a ha b hb => ?_⟩
    rw [List.mem_singleton.mp hb]
    exact h.lo a ha r hr r.1 m1
  · have inF : ∀ s ∈ F' ++ prt p ts O r, ∀ T ∈ wR p ts s, (∃ s' ∈ F, T ∈ wR p ts s') ∧ nl L r.1 T := fun s hs T hT => by
      rcases List.mem_append.mp hs with h1 | h1
      · have hs' := pF.mem_iff.mpr (List.mem_cons_of_mem _ h1)
        refine ⟨⟨s, hs', hT⟩, ?_⟩
        obtain ⟨_, n2⟩ := (h.gd s hs').mem hp hE hO
        have a1 : nl L r.1 s.1 := mn s hs'
        by_cases e : T = s.1
        · rw [e]; exact a1
        · exact nl_tr a1 (nl_of (n2 T hT e))
      · have hm : T ∈ (prt p ts O r).flatMap (wR p ts) := flatMap_mem h1 hT
        have hw := q1.mem_iff.mpr (List.mem_cons_of_mem r.1 hm)
        refine ⟨⟨r, hr, hw⟩, ?_⟩
        have ne : T ≠ r.1 := fun e => (List.nodup_cons.mp nq).1 (e ▸ hm)
        exact nl_of (m2 T hw ne)
    obtain ⟨⟨s', hs', hT'⟩, hn⟩ := inF s hs T hT
    rcases List.mem_append.mp ht with h1 | h1
    · exact h.lo t h1 s' hs' T hT'
    · rw [List.mem_singleton.mp h1]; exact hn
def prL (L T : List Int) : Int × List Int := (lsum L T, T)
def leP (a b : Int × List Int) : Bool := !HT.lexLt (b.1 :: b.2) (a.1 :: a.2)
def rankL (p : Nat) (ts : List (Int × Int)) (L : List Int) : List (Int × List Int) := ((trees p ts).map (prL L)).mergeSort leP
def keyP (x : Int × List Int) : List Int := x.1 :: x.2
theorem keyP_inj {x y : Int × List Int} (h : keyP x = keyP y) : x = y := by
  obtain ⟨a, b⟩ := x
  obtain ⟨c, d⟩ := y
  cases h
  rfl
theorem ms_rise (X : List (Int × List Int)) : Rise ((X.mergeSort leP).map keyP) := by
  have so := List.pairwise_mergeSort (le := leP) (fun a b c h1 h2 => by
    simp only [leP, Bool.not_eq_true'] at h1 h2 ⊢
    exact NtL.lex_tr _ _ _ h1 h2) (fun a b => by
    simp only [leP, Bool.or_eq_true, Bool.not_eq_true']
    cases e : HT.lexLt (b.1 :: b.2) (a.1 :: a.2) with
    | false => exact .inl rfl
    | true => exact .inr (NtL.lex_asym _ _ e)) X
  refine List.pairwise_map.mpr (so.imp fun {a b} h => ?_)
  simpa [leP, keyP] using h
theorem map_inj_of {α β : Type} {f : α → β} (h : ∀ x y, f x = f y → x = y) : ∀ {l m : List α}, l.map f = m.map f → l = m
  | [], [], _ => rfl
  | [], _ :: _, e => by simp at e
  | _ :: _, [], e => by simp at e
  | a :: l, b :: m, e => by
    simp only [List.map_cons, List.cons.injEq] at e
    rw [h a b e.1, map_inj_of h e.2]
theorem Rk.first {told : List (List Int)} {F : List Rc} (h : Rk p ts L O told F) : told.map (prL L) = (rankL p ts L).take told.length := by
  have key : told.map (prL L) ++ (((F.flatMap (wR p ts)).map (prL L)).mergeSort leP) = rankL p ts L := by
    refine map_inj_of (f := keyP) (fun x y => keyP_inj) (rise_one ?_ ?_ (ms_rise _))
    · refine List.Perm.map _ ?_
      refine List.Perm.trans (List.Perm.append_left _ (List.mergeSort_perm _ _)) ?_
      rw [← List.map_append]
      exact (h.pm.map _).trans (List.mergeSort_perm _ _).symm
    · rw [List.map_append]
      refine List.pairwise_append.mpr ⟨?_, ms_rise _, fun a ha b hb => ?_⟩
      · rw [List.map_map]
        exact List.pairwise_map.mpr (h.so.imp fun h => h)
      · obtain ⟨x, hx, rfl⟩ := List.mem_map.mp ha
        obtain ⟨t, ht, rfl⟩ := List.mem_map.mp hx
        obtain ⟨y, hy, rfl⟩ := List.mem_map.mp hb
        have hy := (List.mergeSort_perm _ _).mem_iff.mp hy
        obtain ⟨T, hT, rfl⟩ := List.mem_map.mp hy
        obtain ⟨r, hr, hT⟩ := List.mem_flatMap.mp hT
        exact h.lo t ht r hr T hT
  rw [← key, List.take_left' (List.length_map ..)]
theorem Rk.done {told : List (List Int)} (h : Rk p ts L O told []) : told.length = (trees p ts).length := by
  have := h.pm.length_eq
  simpa using this
end
end Lw
end

noncomputable section
namespace Lw
open DL L2 TL
open PySem (PyData)
theorem if_t38 {c : Env → Res Bool} {a b : Env → Out} {g : Env} {o : Out} (h : c g = .ok true) (e : a g = o) : sIf c a b g = o := by
  simp [h, e]
section
variable {L : List Int} {p : Nat} {ts : List (Int × Int)} {O : List Int} {w : D}
def dRc (L : List Int) (r : Rc) : D := .tp [.int (lsum L r.1), .tp (r.1.map D.int), .tp (r.2.1.map D.int), .tp (r.2.2.map D.int)]
def pRc (L : List Int) (r : Rc) : PyData := .tuple [.int (lsum L r.1), pT r.1, pT r.2.1, pT r.2.2]
theorem put_some {U I S : List Int} (hw : LT w L) (hU : InT L.length U) (bU : U.length ≤ lim) : g_put_found [w, .tp (U.map D.int), .tp (I.map D.int), .tp (S.map D.int)] = .ok (some (dRc L (U, I, S))) := by
  have lc : ∀ x0 x2 x3 x4 : D, lcL (gtN 5) tYesG f_put_found_c1 [x0, w, x2, x3, x4, .un] (U.map D.int) = .ok ((U.map (nth L)).map D.int) := fun x0 x2 x3 x4 => by
    rw [← map_int]
    refine lcL_mapN U fun t ht => ?_
    obtain ⟨t0, t1⟩ := hU t ht
    have ea := nth_at (m := L) t0 (by omega)
    rcases hw with rfl | rfl <;> simp [f_put_found_c1, ea]
  have bl : (U.map (nth L)).length ≤ lim := by rw [List.length_map]; exact bU
  have cs := caSum_ls (ns := U.map (nth L))
  have l4 : 4 ≤ lim := by rw [lim_eq]; omega
  have e : f_put_found [.un, w, .tp (U.map D.int), .tp (I.map D.int), .tp (S.map D.int), .un] = .ok (some (dRc L (U, I, S))) := by
    unfold f_put_found mIf mApp
    rcases hw with rfl | rfl <;> simp [lc, bl, bU, l4, dRc, lsum, -List.map_map]
  exact e
theorem put_none {I S : List Int} : g_put_found [w, .non, .tp (I.map D.int), .tp (S.map D.int)] = .ok none := by
  have e : f_put_found [.un, w, .non, .tp (I.map D.int), .tp (S.map D.int), .un] = .ok none := by
    unfold f_put_found mIf
    simp
  exact e
theorem put_ok {I S : List Int} (hw : LT w L) (hp : 1 ≤ p) (hp2 : p ≤ 1000) {o : Option (List Int)} (ho : ∀ U, o = some U → treeB p ts U = true) (hL : L.length = ts.length) : g_put_found [w, optT o, .tp (I.map D.int), .tp (S.map D.int)] = .ok ((optR I S o).head?.map (dRc L)) := by
  cases o with
  | none => exact put_none
  | some U =>
    have tU := ho U rfl
    have := tree_len hp tU
    exact put_some hw (by rw [hL]; exact (tree_ind tU hp).inn) (by rw [lim_eq]; omega)
theorem pb_in {x3 x5 x6 y10 : D} {A : List D} {I S : List Int} {t : Int} (h : t ∈ I) : f_parts_behind_l1 [wD p ts, w, .ls (O.map D.int), x3, .ol A, x5, x6, .tp (I.map D.int), .tp (S.map D.int), .int t, y10] = .nx [wD p ts, w, .ls (O.map D.int), x3, .ol A, x5, x6, .tp (I.map D.int), .tp (S.map D.int), .int t, y10] := by
  simp [f_parts_behind_l1, h]
theorem pb_out {x3 x5 x6 y10 : D} {A : List D} {I S : List Int} {t : Int} {o : Option (List Int)} (hw : LT w L) (h : t ∉ I) (sw : g_shortest_with [wD p ts, .ls (O.map D.int), .tp (I.map D.int), .tp ((S ++ [t]).map D.int)] = .ok (optT o)) (pf : g_put_found [w, optT o, .tp (I.map D.int), .tp ((S ++ [t]).map D.int)] = .ok ((optR I (S ++ [t]) o).head?.map (dRc L))) (bA : A.length + 1 ≤ lim) (bI : I.length + 1 ≤ lim) (bS : S.length + 1 ≤ lim) : f_parts_behind_l1 [wD p ts, w, .ls (O.map D.int), x3, .ol A, x5, x6, .tp (I.map D.int), .tp (S.map D.int), .int t, y10] = .nx [wD p ts, w, .ls (O.map D.int), x3, .ol (A ++ (optR I (S ++ [t]) o).map (dRc L)), x5, x6, .tp ((srt (I ++ [t])).map D.int), .tp (S.map D.int), .int t, .tp ((S ++ [t]).map D.int)] := by
  have cs := caSorted3_tp (I ++ [t])
  have b1 : (srt (I ++ [t])).length ≤ lim := by rw [srt_len]; simpa using bI
  have b2 : A.length < lim := by omega
  have l1 : 1 ≤ lim := by omega
  simp only [List.map_append, List.map_cons, List.map_nil] at cs sw pf
  obtain ⟨t1, t2, t3, t4, t5, t6⟩ := dulls dull_P ts
  unfold wD at *
  unfold f_parts_behind_l1
  refine if_t38 (by simp [h]) ?_
  refine seq_to (g1 := [.ob 14 [.int p, .ls (ts.map dP)], w, .ls (O.map D.int), x3, .ol A, x5, x6, .tp (I.map D.int), .tp (S.map D.int), .int t, .tp ((S ++ [t]).map D.int)]) (by simp [bS, l1]) ?_
  refine seq_to (g1 := [.ob 14 [.int p, .ls (ts.map dP)], w, .ls (O.map D.int), x3, .ol (A ++ (optR I (S ++ [t]) o).map (dRc L)), x5, x6, .tp (I.map D.int), .tp (S.map D.int), .int t, .tp ((S ++ [t]).map D.int)]) ?_ ?_
  · cases o with
    | none => rcases hw with rfl | rfl <;> simp [sw, pf, optT, optR, b2, t1, t2, t4, t5] at sw pf ⊢ <;> simp [sw, pf, b2, t1, t2, t4, t5]
    | some U => rcases hw with rfl | rfl <;> simp [sw, pf, optT, optR, b2, t1, t2, t4, t5] at sw pf ⊢ <;> simp [sw, pf, b2, t1, t2, t4, t5]
  · simp [cs, b1, bI, l1]
end
end Lw
end

noncomputable section
namespace Lw
open DL L2 TL
open PySem (PyData)
theorem rt39 {f : Env → Out} {n : Nat} {ds : List D} {g : Env} {d : D} (h : f g = .rt d) (hg : ds ++ List.replicate (n - ds.length) .un = g) : runF f n ds = .ok d := by
  unfold runF
  rw [hg, h]
section
variable {L : List Int} {p : Nat} {ts : List (Int × Int)} {O : List Int} {w : D}
theorem optR_len (I S : List Int) (o : Option (List Int)) : (optR I S o).length ≤ 1 := by cases o <;> simp [optR]
theorem prtL_len (S : List Int) : ∀ (l I : List Int), (prtL p ts O S l I).length ≤ l.length
  | [], _ => Nat.le_refl _
  | t :: l, I => by
    unfold prtL
    split
    · have := prtL_len S l I
      simp; omega
    · have := prtL_len S l (srt (I ++ [t]))
      have := optR_len I (S ++ [t]) (swT p ts O I (S ++ [t]))
      simp; omega
theorem pb_f1 (hp : 1 ≤ p) (hp2 : p ≤ 1000) (hE : EndsOk p ts) (ht : ts.length ≤ 1000) (hw : LT w L) (hL : L.length = ts.length) (hO : Ord L ts.length O) {U S : List Int} (hU : treeB p ts U = true) (hS : ∀ x ∈ S, x ∉ U) (bS : S.length + 1 ≤ lim) {x3 x5 x6 : D} : ∀ (l I : List Int) (A : List Rc) (y9 y10 : D), I.Nodup → (∀ x ∈ I, x ∈ U) → (∀ x ∈ l, x ∈ U) → A.length + l.length ≤ 100000 →
    ∃ z7 z9 z10, forL (gtN 9) f_parts_behind_l1 (l.map D.int) [wD p ts, w, .ls (O.map D.int), x3, .ol (A.map (dRc L)), x5, x6, .tp (I.map D.int), .tp (S.map D.int), y9, y10] = .nx [wD p ts, w, .ls (O.map D.int), x3, .ol ((A ++ prtL p ts O S l I).map (dRc L)), x5, x6, z7, .tp (S.map D.int), z9, z10]
  | [], I, A, y9, y10, _, _, _, _ => ⟨_, y9, y10, by unfold prtL; rw [List.append_nil]; rfl⟩
  | t :: l, I, A, y9, y10, hI, h1, h2, hn => by
    have hl : ∀ x ∈ l, x ∈ U := fun x hx => h2 x (List.mem_cons_of_mem _ hx)
    have htU := h2 t (List.mem_cons_self ..)
    simp only [List.length_cons] at hn
    have iU := tree_ind hU hp
    have lU := tree_len hp hU
    have lI : I.length ≤ U.length := nodup_le hI h1
    rw [List.map_cons]
    unfold prtL
    by_cases c : t ∈ I
    · rw [if_pos c]
      obtain ⟨z7, z9, z10, ih⟩ := pb_f1 hp hp2 hE ht hw hL hO hU hS bS (x3 := x3) (x5 := x5) (x6 := x6) l I A (.int t) y10 hI h1 hl (by omega)
      exact ⟨z7, z9, z10, (forL_step (g1 := [wD p ts, w, .ls (O.map D.int), x3, .ol (A.map (dRc L)), x5, x6, .tp (I.map D.int), .tp (S.map D.int), .int t, y10]) rfl (pb_in c)).trans ih⟩
    · rw [if_neg c]
      have nI : (I ++ [t]).Nodup := List.nodup_append.mpr ⟨hI, by simp, fun a ha b hb e => c (by rw [List.mem_singleton.mp hb] at e; exact e ▸ ha)⟩
      have iI : Ind p ts I := iU.sub hE hI h1
      have dj : ∀ x ∈ I, x ∉ S ++ [t] := fun x hx hz => by
        rcases List.mem_append.mp hz with h | h
        · exact hS x h (h1 x hx)
        · rw [List.mem_singleton.mp h] at hx; exact c hx
      have sw := sw_ok (S := S ++ [t]) hp hp2 hE ht (o := .ls (O.map D.int)) (.inl rfl) hO iI
      have sl := (sw_law hp hE hO iI dj).1
      have pf := put_ok (L := L) (w := w) (p := p) (ts := ts) (I := I) (S := S ++ [t]) hw hp hp2 (o := swT p ts O I (S ++ [t])) (fun V hV => ((wth_mem hp).mp (sl V hV).1).1) hL
      have st := pb_out (x3 := x3) (x5 := x5) (x6 := x6) (y10 := y10) (A := A.map (dRc L)) hw c sw pf (by rw [List.length_map, lim_eq]; omega) (by rw [lim_eq]; omega) bS
      rw [← List.map_append] at st
      have ol := optR_len I (S ++ [t]) (swT p ts O I (S ++ [t]))
      obtain ⟨z7, z9, z10, ih⟩ := pb_f1 hp hp2 hE ht hw hL hO hU hS bS (x3 := x3) (x5 := x5) (x6 := x6) l (srt (I ++ [t])) (A ++ optR I (S ++ [t]) (swT p ts O I (S ++ [t]))) (.int t) (.tp ((S ++ [t]).map D.int)) ((srt_perm _).nodup_iff.mpr nI) (fun x hx => by
        rcases List.mem_append.mp (srt_mem.mp hx) with h | h
        · exact h1 x h
        · rw [List.mem_singleton.mp h]; exact htU) hl (by rw [List.length_append]; omega)
      rw [List.append_assoc] at ih
      exact ⟨z7, z9, z10, (forL_step (g1 := [wD p ts, w, .ls (O.map D.int), x3, .ol (A.map (dRc L)), x5, x6, .tp (I.map D.int), .tp (S.map D.int), .int t, y10]) rfl st).trans ih⟩
theorem dull_Rc (r : Rc) : dull (dRc L r) := by
  obtain ⟨a1, a2, a3, a4, a5, a6⟩ := dulls dull_int r.1
  obtain ⟨b1, b2, b3, b4, b5, b6⟩ := dulls dull_int r.2.1
  obtain ⟨c1, c2, c3, c4, c5, c6⟩ := dulls dull_int r.2.2
  unfold dull dRc
  simp [a1, a2, a3, a4, a5, a6, b1, b2, b3, b4, b5, b6, c1, c2, c3, c4, c5, c6]
theorem pb_raw {r : Rc} {Q : List D} {z7 z9 z10 : D} (q1 : brws Q = Q) (q2 : frzs Q = Q) (q4 : nods Q = true) (e : forL (gtN 9) f_parts_behind_l1 (r.1.map D.int) [wD p ts, w, .ls (O.map D.int), dRc L r, .ol [], .int (lsum L r.1), .tp (r.1.map D.int), .tp (r.2.1.map D.int), .tp (r.2.2.map D.int), .un, .un] = .nx [wD p ts, w, .ls (O.map D.int), dRc L r, .ol Q, .int (lsum L r.1), .tp (r.1.map D.int), z7, .tp (r.2.2.map D.int), z9, z10]) : g_parts_behind [wD p ts, w, .ls (O.map D.int), dRc L r] = .ok (.ol Q) := by
  have f : f_parts_behind [wD p ts, w, .ls (O.map D.int), dRc L r, .un, .un, .un, .un, .un, .un, .un] = .rt (.ol Q) := by
    unfold f_parts_behind
    refine seq_to (g1 := [wD p ts, w, .ls (O.map D.int), dRc L r, .ol [], .un, .un, .un, .un, .un, .un]) (by simp) ?_
    refine seq_to (g1 := [wD p ts, w, .ls (O.map D.int), dRc L r, .ol [], .int (lsum L r.1), .tp (r.1.map D.int), .tp (r.2.1.map D.int), .tp (r.2.2.map D.int), .un, .un]) (by simp [dRc]) ?_
    refine seq_to (g1 := [wD p ts, w, .ls (O.map D.int), dRc L r, .ol Q, .int (lsum L r.1), .tp (r.1.map D.int), z7, .tp (r.2.2.map D.int), z9, z10]) (by simp [e]) ?_
    simp [q1, q2, q4]
  exact rt39 f rfl
theorem parts_ok39 (hp : 1 ≤ p) (hp2 : p ≤ 1000) (hE : EndsOk p ts) (ht : ts.length ≤ 1000) (hw : LT w L) (hL : L.length = ts.length) (hO : Ord L ts.length O) {r : Rc} (g : Gd p ts O r) (bS : r.2.2.length + 1 ≤ lim) : g_parts_behind [wD p ts, w, .ls (O.map D.int), dRc L r] = .ok (.ol ((prt p ts O r).map (dRc L))) := by
  obtain ⟨m, _⟩ := g.mem hp hE hO
  obtain ⟨t1, t2, t3⟩ := (wth_mem hp).mp m
  have lU := tree_len hp t1
  obtain ⟨q1, q2, _, q4, _, _⟩ := dulls (dull_Rc (L := L)) (prt p ts O r)
  have key := fun x3 => pb_f1 (w := w) (x3 := x3) (x5 := .int (lsum L r.1)) (x6 := .tp (r.1.map D.int)) hp hp2 hE ht hw hL hO t1 t3 bS r.1 r.2.1 [] .un .un g.ind.nd t2 (fun x hx => hx) (by simp; omega)
  obtain ⟨z7, z9, z10, e⟩ := key (dRc L r)
  exact pb_raw q1 q2 q4 e
end
end Lw
end

noncomputable section
namespace Lw
open DL L2 TL
open PySem (PyData)
section
variable {L : List Int} {p : Nat} {ts : List (Int × Int)} {O : List Int} {w : D}
theorem toPy_Rc (r : Rc) : toPy (dRc L r) = some (pRc L r) := by
  have a := toPy_T r.1
  have b := toPy_T r.2.1
  have c := toPy_T r.2.2
  unfold dT at a b c
  simp [toPy] at a b c
  simp [dRc, pRc, toPy, toPys, a, b, c, pT]
theorem flt_Rc (r : Rc) : DL.flt (dRc L r) = true := by
  have a := flt_T r.1
  have b := flt_T r.2.1
  have c := flt_T r.2.2
  simp only [DL.flt] at a b c
  simp [dRc, DL.flt, flts, a, b, c]
theorem depth_Rc (r : Rc) : (pRc L r).depth ≤ 60 := by
  have a := depth_T r.1
  have b := depth_T r.2.1
  have c := depth_T r.2.2
  simp only [pRc, PyData.depth, PyData.depthAll]
  omega
theorem alike_Rc (x y : Rc) : PySem.W.alike (pRc L x) (pRc L y) = true := by
  have a := alike_T x.1 y.1
  have b := alike_T x.2.1 y.2.1
  have c := alike_T x.2.2 y.2.2
  simp [pRc, PySem.W.alike, PySem.W.alikeAll, a, b, c]
theorem eqv_T (a b : List Int) : PyData.eqv (pT a) (pT b) = decide (a = b) := by
  simp only [pT, PyData.eqv]
  exact eqvAll_map (p := PyData.int) (fun a b => by simp only [PyData.eqv]; by_cases e : a = b <;> simp [e]) a b
theorem eqv_Rc (x y : Rc) : PyData.eqv (pRc L x) (pRc L y) = decide (x = y) := by
  obtain ⟨x1, x2, x3⟩ := x
  obtain ⟨y1, y2, y3⟩ := y
  simp only [pRc, PyData.eqv, PyData.eqvAll, eqv_T]
  by_cases h : x1 = y1
  · subst h
    by_cases h2 : x2 = y2 <;> by_cases h3 : x3 = y3 <;> simp [h2, h3]
  · simp [h]
theorem plain_T (a : List Int) : (pT a).plain = true := by
  have h : ∀ l : List Int, PyData.plainAll (l.map PyData.int) = true := fun l => by
    induction l with
    | nil => rfl
    | cons x l ih => rw [List.map_cons, PyData.plainAll, ih]; rfl
  simp only [pT, PyData.plain]
  exact h a
theorem plain_Rc (r : Rc) : (pRc L r).plain = true := by
  simp only [pRc, PyData.plain, PyData.plainAll, plain_T]
  rfl
theorem plains_Rc : ∀ F : List Rc, PyData.plainAll (F.map (pRc L)) = true
  | [] => rfl
  | r :: F => by rw [List.map_cons, PyData.plainAll, plain_Rc, plains_Rc F]; rfl
theorem lt_Rc {x y : Rc} (h : x.1 = y.1 → x = y) : PySem.W.dataLt (pRc L x) (pRc L y) = HT.lexLt (kT L x.1) (kT L y.1) := by
  unfold pRc kT
  rw [PySem.W.dataLt_tuple, HT.lexLt_cons]
  by_cases h1 : lsum L x.1 = lsum L y.1
  · rw [PySem.W.dataLt_all_yes (by simp [PySem.W.alike]) (by simp [PyData.eqv, h1]), if_pos h1]
    by_cases h2 : x.1 = y.1
    · have e := h h2
      subst e
      rw [PyProof.Rows.lex_irrefl, lex_irr]
    · rw [PySem.W.dataLt_all_no (alike_T _ _) (by rw [eqv_T]; simpa using h2), lt_T]
  · rw [PySem.W.dataLt_all_no (by simp [PySem.W.alike]) (by simp [PyData.eqv, h1]), PySem.W.dataLt_int, if_neg h1]
theorem fl_one : ∀ {F : List Rc}, (F.flatMap (wR p ts)).Nodup → ∀ {x y : Rc} {T : List Int}, x ∈ F → y ∈ F → T ∈ wR p ts x → T ∈ wR p ts y → x = y
  | r :: F, nd, x, y, T, hx, hy, h1, h2 => by
    rw [List.flatMap_cons] at nd
    obtain ⟨n1, n2, n3⟩ := List.nodup_append.mp nd
    rcases List.mem_cons.mp hx with ex | hx
    · rcases List.mem_cons.mp hy with ey | hy
      · rw [ex, ey]
      · rw [ex] at h1
        exact absurd rfl (n3 T h1 T (List.mem_flatMap.mpr ⟨y, hy, h2⟩))
    · rcases List.mem_cons.mp hy with ey | hy
      · rw [ey] at h2
        exact absurd rfl (n3 T h2 T (List.mem_flatMap.mpr ⟨x, hx, h1⟩))
      · exact fl_one n2 hx hy h1 h2
theorem caMin4_bo {x xs : List D} (h : shd (.tp x :: xs) = true) : caMin4 [.bo (.tp x :: xs)] = caMin3 [.ls (.tp x :: xs)] := by
  show caMin3 [.bo (.tp x :: xs)] = _
  simp only [caMin3, sqK, h, if_true]
theorem min_Rc (hp : 1 ≤ p) (hE : EndsOk p ts) (hO : Ord L ts.length O) {told : List (List Int)} {F : List Rc} (h : Rk p ts L O told F) (hF : F ≠ []) : ∃ m ∈ F, (∀ s ∈ F, HT.lexLt (kT L s.1) (kT L m.1) = false) ∧ caMin4 [.bo (F.map (dRc L))] = some (dRc L m) := by
  match F, hF, h with
  | a :: F, _, h =>
    have nd : ((a :: F).flatMap (wR p ts)).Nodup := (List.nodup_append.mp (h.pm.nodup_iff.mpr (trees_nodup p ts))).2.1
    have one : ∀ x ∈ a :: F, ∀ y ∈ a :: F, x.1 = y.1 → x = y := fun x hx y hy e => fl_one nd hx hy ((h.gd x hx).mem hp hE hO).1 (by rw [e]; exact ((h.gd y hy).mem hp hE hO).1)
    have cm := caMin3_enc (f := dRc L) (g := pRc L) (lt := fun x y => HT.lexLt (kT L x.1) (kT L y.1)) (fun a => ⟨_, rfl⟩) toPy_Rc flt_Rc depth_Rc a F (fun x _ y _ => alike_Rc x y) fun x hx y hy => lt_Rc (one x hx y hy)
    have ms := minF_spec (fun x : Rc => kT L x.1) F a
    refine ⟨_, ms.1, ms.2, ?_⟩
    rw [← cm]
    have sh := (dulls (dull_Rc (L := L)) (a :: F)).2.2.2.2.1
    rw [List.map_cons] at sh ⊢
    exact caMin4_bo sh
theorem rem_Rc {F : List Rc} {m : Rc} (hm : m ∈ F) (hF : F.length ≤ 1000000) : ∃ j, F.Perm (m :: F.eraseIdx j) ∧ ∀ (x0 x1 x2 x3 x5 : D), sRem 4 (eVar 6) [x0, x1, x2, x3, .ol (F.map (dRc L)), x5, dRc L m] = .nx [x0, x1, x2, x3, .ol ((F.eraseIdx j).map (dRc L)), x5, dRc L m] := by
  have e1 := toPys_enc (toPy_Rc (L := L)) F
  have e2 := toPy_Rc (L := L) m
  have dp : PySem.SeqAt.dataPlace (F.map (pRc L)) (pRc L m) = F.findIdx? fun x => decide (x = m) := by
    unfold PySem.SeqAt.dataPlace
    rw [List.findIdx?_map]
    congr 1
    funext x
    exact eqv_Rc x m
  obtain ⟨j, hj⟩ : ∃ j, (F.findIdx? fun x => decide (x = m)) = some j := by
    cases e : F.findIdx? fun x => decide (x = m) with
    | some j => exact ⟨j, rfl⟩
    | none =>
      have := List.findIdx?_eq_none_iff.mp e m hm
      simp at this
  obtain ⟨jl, j2, _⟩ := List.findIdx?_eq_some_iff_getElem.mp hj
  have j2 : F[j] = m := by simpa using j2
  have gj : F[j]? = some m := by rw [List.getElem?_eq_getElem jl, j2]
  refine ⟨j, ?_, fun x0 x1 x2 x3 x5 => ?_⟩
  · have hs : F = F.take j ++ m :: F.drop (j + 1) := by rw [← j2]; simp
    rw [List.eraseIdx_eq_take_drop_succ]
    conv => lhs; rw [hs]
    exact List.perm_middle
  · rw [hj] at dp
    have gx : (F.map (dRc L))[j]? = some (dRc L m) := by rw [List.getElem?_map, gj]; rfl
    have ee : (F.map (dRc L)).eraseIdx j = (F.eraseIdx j).map (dRc L) := by rw [List.eraseIdx_eq_take_drop_succ, List.eraseIdx_eq_take_drop_succ]; simp
    have od : opd (dRc L m) = dRc L m := rfl
    have ow : own1 (dRc L m) = false := rfl
    have pm := plain_Rc (L := L) m
    have pf := plains_Rc (L := L) F
    have dd := depth_Rc (L := L) m
    have fl : (F.map (dRc L)).length ≤ 1000000 := by rw [List.length_map]; exact hF
    have br : brw (dRc L m) = dRc L m := (dull_Rc m).1
    rw [sRem_]
    generalize F.map (dRc L) = FF at *
    generalize (F.eraseIdx j).map (dRc L) = FE at *
    generalize F.map (pRc L) = PP at *
    generalize pRc L m = pm' at *
    obtain ⟨MM, hM⟩ : ∃ X, dRc L m = .tp X := ⟨_, rfl⟩
    generalize dRc L m = M at *
    subst hM
    simp [e1, e2, dp, gx, ee, pm, pf, dd, fl]
theorem prtL_shut {S : List Int} : ∀ (l I : List Int), ∀ r ∈ prtL p ts O S l I, r.2.2.length = S.length + 1
  | [], _, r, hr => nomatch hr
  | t :: l, I, r, hr => by
    unfold prtL at hr
    split at hr
    · exact prtL_shut l I r hr
    · rcases List.mem_append.mp hr with h | h
      · cases e : swT p ts O I (S ++ [t]) with
        | none => rw [e] at h; exact nomatch h
        | some U => rw [e] at h; rw [List.mem_singleton.mp h]; simp
      · exact prtL_shut l (srt (I ++ [t])) r h
theorem prt_shut (r : Rc) : ∀ s ∈ prt p ts O r, s.2.2.length = r.2.2.length + 1 := prtL_shut r.1 r.2.1
theorem prt_len (r : Rc) : (prt p ts O r).length ≤ r.1.length := prtL_len r.2.2 r.1 r.2.1
def pT2 (L T : List Int) : D := dNT (prL L T)
theorem dull_T2 (T : List Int) : dull (pT2 L T) := by
  obtain ⟨a1, a2, a3, a4, a5, a6⟩ := dulls dull_int T
  unfold dull pT2 dNT prL
  simp [a1, a2, a3, a4, a5, a6]
theorem rk_l1 {F F' : List Rc} {told : List (List Int)} {m : Rc} {most : Int} {y6 : D} {Q : List Rc} (hw : LT w L) (mn : caMin4 [.bo (F.map (dRc L))] = some (dRc L m)) (rm : ∀ x0 x1 x2 x3 x5 : D, sRem 4 (eVar 6) [x0, x1, x2, x3, .ol (F.map (dRc L)), x5, dRc L m] = .nx [x0, x1, x2, x3, .ol (F'.map (dRc L)), x5, dRc L m]) (pb : g_parts_behind [wD p ts, w, .ls (O.map D.int), dRc L m] = .ok (.ol (Q.map (dRc L)))) (bT : told.length + 1 ≤ lim) (bF : F'.length + Q.length ≤ lim) : f_ranked_l1 [wD p ts, w, .int most, .ls (O.map D.int), .ol (F.map (dRc L)), .ol (told.map (pT2 L)), y6] = .nx [wD p ts, w, .int most, .ls (O.map D.int), .ol ((F' ++ Q).map (dRc L)), .ol ((told ++ [m.1]).map (pT2 L)), dRc L m] := by
  obtain ⟨f1, f2, f3, f4, f5, f6⟩ := dulls (dull_Rc (L := L)) F
  obtain ⟨g1, g2, g3, g4, g5, g6⟩ := dulls (dull_Rc (L := L)) F'
  obtain ⟨q1, q2, q3, q4, q5, q6⟩ := dulls (dull_Rc (L := L)) Q
  obtain ⟨t1, t2, t3, t4, t5, t6⟩ := dulls dull_P ts
  obtain ⟨m1, m2, m3, m4, m5, m6⟩ := dull_Rc (L := L) m
  have l2 : 2 ≤ lim := by rw [lim_eq]; omega
  have bT' : (told.map (pT2 L)).length < lim := by rw [List.length_map]; omega
  have bF' : (F'.map (dRc L)).length + (Q.map (dRc L)).length ≤ lim := by rw [List.length_map, List.length_map]; exact bF
  have em : dNT (prL L m.1) = .tp [.int (lsum L m.1), .tp (m.1.map D.int)] := rfl
  rw [List.map_append, List.map_append, List.map_singleton]
  rw [show pT2 L m.1 = .tp [.int (lsum L m.1), .tp (m.1.map D.int)] from rfl]
  unfold wD at *
  generalize F.map (dRc L) = FF at *
  generalize F'.map (dRc L) = FG at *
  generalize Q.map (dRc L) = QQ at *
  generalize told.map (pT2 L) = TT at *
  obtain ⟨MM, hM, ix0, ix1⟩ : ∃ X, dRc L m = .tp X ∧ atI X (0 : Int) = some (.int (lsum L m.1)) ∧ atI X (1 : Int) = some (.tp (m.1.map D.int)) := ⟨_, rfl, rfl, rfl⟩
  generalize dRc L m = M at *
  subst hM
  unfold f_ranked_l1
  refine seq_to (g1 := [.ob 14 [.int p, .ls (ts.map dP)], w, .int most, .ls (O.map D.int), .ol FF, .ol TT, .tp MM]) (by simp [mn, f1]) ?_
  refine seq_to (g1 := [.ob 14 [.int p, .ls (ts.map dP)], w, .int most, .ls (O.map D.int), .ol FG, .ol TT, .tp MM]) (rm ..) ?_
  refine seq_to (g1 := [.ob 14 [.int p, .ls (ts.map dP)], w, .int most, .ls (O.map D.int), .ol FG, .ol (TT ++ [.tp [.int (lsum L m.1), .tp (m.1.map D.int)]]), .tp MM]) (by simp [ix0, ix1, l2, bT']) ?_
  rcases hw with rfl | rfl <;> simp [pb, bF', q1, q2, q4, t1, t2, t4, t5]
theorem rk_t {F : List D} {T : List D} {most : Nat} {x0 x1 x3 x6 : D} (f1 : brws F = F) (t1 : brws T = T) : f_ranked_l1t [x0, x1, .int (most : Int), x3, .ol F, .ol T, x6] = .ok (decide (T.length < most) && decide (0 < F.length)) := by
  by_cases c : T.length < most
  · by_cases c2 : 0 < F.length <;> simp [f_ranked_l1t, c, c2, f1, t1]
  · simp [f_ranked_l1t, c, f1, t1]
theorem while_go {c : Env → Res Bool} {b : Env → Out} {g g' : Env} {n : Nat} (h : c g = .ok true) (hb : b g = .nx g') : whileN c b (n + 1) g = whileN c b n g' := by
  rw [whileN_succ, h, Res.st_ok]
  simp [hb]
theorem while_end {c : Env → Res Bool} {b : Env → Out} {g : Env} {n : Nat} (h : c g = .ok false) : whileN c b (n + 1) g = .nx g := by
  rw [whileN_succ, h, Res.st_ok]
  simp
theorem rk_while (hp : 1 ≤ p) (hp2 : p ≤ 100) (hE : EndsOk p ts) (ht : ts.length ≤ 1000) (hw : LT w L) (hL : L.length = ts.length) (hO : Ord L ts.length O) {most : Nat} (hm : most ≤ 1000) : ∀ (n : Nat) (told : List (List Int)) (F : List Rc) (y6 : D), Rk p ts L O told F → told.length ≤ most → F.length ≤ 1 + 100 * told.length → (∀ r ∈ F, r.2.2.length ≤ told.length) → most - told.length < n →
    ∃ (told' : List (List Int)) (F' : List Rc) (z6 : D), Rk p ts L O told' F' ∧ (told'.length = most ∨ (F' = [] ∧ told'.length ≤ most)) ∧ whileN f_ranked_l1t f_ranked_l1 n [wD p ts, w, .int (most : Int), .ls (O.map D.int), .ol (F.map (dRc L)), .ol (told.map (pT2 L)), y6] = .nx [wD p ts, w, .int (most : Int), .ls (O.map D.int), .ol (F'.map (dRc L)), .ol (told'.map (pT2 L)), z6]
  | 0, told, F, y6, _, _, _, _, h => by omega
  | n + 1, told, F, y6, rk, h1, h2, h3, h4 => by
    have tt := rk_t (most := most) (x0 := wD p ts) (x1 := w) (x3 := .ls (O.map D.int)) (x6 := y6) (dulls (dull_Rc (L := L)) F).1 (dulls (dull_T2 (L := L)) told).1
    rw [List.length_map, List.length_map] at tt
    by_cases c : told.length < most
    · by_cases c2 : F = []
      · subst c2
        simp only [List.length_nil, Nat.lt_irrefl, decide_false, Bool.and_false] at tt
        exact ⟨told, [], y6, rk, .inr ⟨rfl, h1⟩, while_end tt⟩
      · have fl := List.length_pos_iff.mpr c2
        rw [decide_eq_true c, decide_eq_true fl] at tt
        obtain ⟨m, hm1, mn, cm⟩ := min_Rc hp hE hO rk c2
        obtain ⟨j, pj, rm⟩ := rem_Rc (L := L) hm1 (by omega)
        have g := rk.gd m hm1
        have sm := h3 m hm1
        have pb := parts_ok39 hp (by omega) hE ht hw hL hO g (by rw [lim_eq]; omega)
        have mt := ((wth_mem hp).mp (g.mem hp hE hO).1).1
        have ml := tree_len hp mt
        have pl := prt_len (p := p) (ts := ts) (O := O) m
        have el := pj.length_eq
        rw [List.length_cons] at el
        have st := rk_l1 (told := told) (most := (most : Int)) (y6 := y6) hw cm rm pb (by rw [lim_eq]; omega) (by rw [lim_eq]; omega)
        have rk2 := rk.step hp hE hO pj mn
        obtain ⟨told', F', z6, r1, r2, r3⟩ := rk_while hp hp2 hE ht hw hL hO hm n (told ++ [m.1]) (F.eraseIdx j ++ prt p ts O m) (dRc L m) rk2 (by simp; omega) (by simp; omega) (fun r hr => by
          rw [List.length_append, List.length_singleton]
          rcases List.mem_append.mp hr with h | h
          · have := h3 r (pj.mem_iff.mpr (List.mem_cons_of_mem _ h)); omega
          · have := prt_shut m r h; omega) (by simp; omega)
        exact ⟨told', F', z6, r1, r2, (while_go tt st).trans r3⟩
    · rw [decide_eq_false c, Bool.false_and] at tt
      exact ⟨told, F, y6, rk, .inl (by omega), while_end tt⟩
theorem ranked_raw {most : Nat} {F F' : List D} {T : List D} {z6 : D} {o : Option (List Int)} (hw : LT w L) (lk : g_look_at_lengths [wD p ts, w] = .ok .non) (bl : g_by_length [w] = .ok (.ol (O.map D.int))) (sw : g_shortest_with [wD p ts, .ls (O.map D.int), .tp [], .tp []] = .ok (optT o)) (pf : g_put_found [w, optT o, .tp [], .tp []] = .ok ((optR [] [] o).head?.map (dRc L))) (hF : (optR [] [] o).map (dRc L) = F) (e : whileN f_ranked_l1t f_ranked_l1 fuel [wD p ts, w, .int (most : Int), .ls (O.map D.int), .ol F, .ol [], .un] = .nx [wD p ts, w, .int (most : Int), .ls (O.map D.int), .ol F', .ol T, z6]) (q1 : brws T = T) (q2 : frzs T = T) (q4 : nods T = true) : g_ranked [wD p ts, w, .int (most : Int)] = .ok (.ol T) := by
  obtain ⟨t1, t2, t3, t4, t5, t6⟩ := dulls dull_P ts
  have l0 : 0 < lim := by rw [lim_eq]; omega
  have l0' : 0 ≤ lim := by rw [lim_eq]; omega
  unfold wD at *
  have f : f_ranked [.ob 14 [.int p, .ls (ts.map dP)], w, .int (most : Int), .un, .un, .un, .un] = .rt (.ol T) := by
    unfold f_ranked
    refine seq_to (g1 := [.ob 14 [.int p, .ls (ts.map dP)], w, .int (most : Int), .un, .un, .un, .un]) (by rcases hw with rfl | rfl <;> simp [lk, t1, t2, t4, t5]) ?_
    refine seq_to (g1 := [.ob 14 [.int p, .ls (ts.map dP)], w, .int (most : Int), .ls (O.map D.int), .un, .un, .un]) (by rcases hw with rfl | rfl <;> simp [bl]) ?_
    refine seq_to (g1 := [.ob 14 [.int p, .ls (ts.map dP)], w, .int (most : Int), .ls (O.map D.int), .ol [], .un, .un]) (by simp) ?_
    refine seq_to (g1 := [.ob 14 [.int p, .ls (ts.map dP)], w, .int (most : Int), .ls (O.map D.int), .ol F, .un, .un]) ?_ ?_
    · rw [← hF]
      cases o with
      | none =>
        have sw : g_shortest_with [.ob 14 [.int p, .ls (ts.map dP)], .ls (O.map D.int), .tp [], .tp []] = .ok .non := sw
        have pf : g_put_found [w, .non, .tp [], .tp []] = .ok none := pf
        rcases hw with rfl | rfl <;> simp [sw, pf, optR, l0, l0', t1, t2, t4, t5]
      | some U =>
        have sw : g_shortest_with [.ob 14 [.int p, .ls (ts.map dP)], .ls (O.map D.int), .tp [], .tp []] = .ok (.tp (U.map D.int)) := sw
        have pf : g_put_found [w, .tp (U.map D.int), .tp [], .tp []] = .ok (some (dRc L (U, [], []))) := pf
        rcases hw with rfl | rfl <;> simp [sw, pf, optR, l0, l0', t1, t2, t4, t5]
    refine seq_to (g1 := [.ob 14 [.int p, .ls (ts.map dP)], w, .int (most : Int), .ls (O.map D.int), .ol F, .ol [], .un]) (by simp) ?_
    refine seq_to (g1 := [.ob 14 [.int p, .ls (ts.map dP)], w, .int (most : Int), .ls (O.map D.int), .ol F', .ol T, z6]) (by simp [e]) ?_
    simp [q1, q2, q4]
  exact rt39 f rfl
theorem ranked_ok (hp : 1 ≤ p) (hp2 : p ≤ 100) (hE : EndsOk p ts) (ht : ts.length ≤ 1000) (hw : LT w L) (hL : L.length = ts.length) {most : Nat} (hm : most ≤ 1000) : g_ranked [wD p ts, w, .int (most : Int)] = .ok (.ol (((rankL p ts L).take most).map dNT)) := by
  have hO : Ord L ts.length (ordOf L) := by rw [← hL]; exact ordOf_ord L
  have lk := look_lens_ok (.int p) (ts.map dP) L hw (by simpa using hL)
  have bl := by_length_ok L (by omega) hw
  have sw := sw_ok (I := []) (S := []) hp (by omega) hE ht (o := .ls ((ordOf L).map D.int)) (.inl rfl) hO (ind_nil p ts)
  have sl := (sw_law hp hE hO (ind_nil p ts) (S := []) (fun _ h => nomatch h)).1
  have pf := put_ok (L := L) (w := w) (p := p) (ts := ts) (I := []) (S := []) hw hp (by omega) (o := swT p ts (ordOf L) [] []) (fun V hV => ((wth_mem hp).mp (sl V hV).1).1) hL
  have ol := optR_len [] [] (swT p ts (ordOf L) [] [])
  have s0 : ∀ r ∈ optR [] [] (swT p ts (ordOf L) [] []), r.2.2.length ≤ 0 := fun r hr => by
    cases e : swT p ts (ordOf L) [] [] with
    | none => rw [e] at hr; exact nomatch hr
    | some U => rw [e] at hr; rw [List.mem_singleton.mp hr]; exact Nat.le_refl _
  obtain ⟨told, F', z6, r1, r2, r3⟩ := rk_while (w := w) hp hp2 hE ht hw hL hO hm fuel [] (optR [] [] (swT p ts (ordOf L) [] [])) .un (Rk.start hp hE hO) (by simp) (by simp; omega) s0 (by unfold fuel; simp; omega)
  obtain ⟨q1, q2, _, q4, _, _⟩ := dulls (dull_T2 (L := L)) told
  have fin := ranked_raw hw lk bl sw pf rfl r3 q1 q2 q4
  rw [fin]
  have e : told.map (pT2 L) = ((rankL p ts L).take most).map dNT := by
    have e1 : told.map (pT2 L) = (told.map (prL L)).map dNT := by rw [List.map_map]; rfl
    rw [e1, r1.first]
    rcases r2 with h | ⟨h, h2⟩
    · rw [h]
    · subst h
      have dn := r1.done
      have rl : (rankL p ts L).length = (trees p ts).length := by unfold rankL; rw [List.length_mergeSort, List.length_map]
      rw [List.take_of_length_le (by omega), List.take_of_length_le (by omega)]
  rw [e]
end
end Lw
end

noncomputable section
namespace Lw
open DL
def f_gains_of_c1 : Env → Res D := eVar 3
def f_gains_of_c1t : Env → Res Bool := tC2 cLt (eBin opIx (eVar 1) (eBin opIx (eVar 3) (eC (.int 1)))) (eBin opIx (eVar 1) (eBin opIx (eVar 3) (eC (.int 0))))
def f_gains_of : Env → Out := sSeq (sExp (eOwn g_look_at_lengths (aCons (eVar 0) (aCons (eVar 1) (aNil))))) (sRet (eLc (iSeq (eOwn g_exchanges_of (aCons (eVar 0) (aCons (eVar 2) (aNil))))) [3] (gtN 3) (f_gains_of_c1t) f_gains_of_c1))
def g_gains_of : List D → Res D := runF f_gains_of 4
def f_is_cheapest : Env → Out := sRet (eB (tC2 cEq (eCall caLen (aCons (eOwn g_gains_of (aCons (eVar 0) (aCons (eVar 1) (aCons (eVar 2) (aNil))))) (aNil))) (eC (.int 0))))
def g_is_cheapest : List D → Res D := runF f_is_cheapest 3
end Lw
end

namespace Lw
open DL L2 TL
theorem gains_ok {w : D} (p : Nat) (hp : 1 ≤ p) (hp2 : p ≤ 100) (ts : List (Int × Int)) (hE : EndsOk p ts) (ht : ts.length ≤ 100) (L : List Int) (hL : L.length = ts.length) (T : List Int) (hT : treeB p ts T = true) (ho : LT w T) :
    g_gains_of [.ob 14 [.int p, .ls (ts.map dP)], .ls (L.map D.int), w] = .ok (.ol ((gains p ts L T).map dP)) := by
  have lk := look_lens_ok (.int p) (ts.map dP) L (.inl rfl) (by simpa using hL)
  have ex := exchanges_ok p hp hp2 ts hE ht T hT ho
  have hTl := tree_len hp hT
  have el : (exAll p ts T).length ≤ lim := Nat.le_trans (exAll_len p ts T) (by
    have : T.length * ts.length ≤ 100 * 100 := Nat.mul_le_mul (by omega) ht
    rw [lim_eq]; omega)
  have hI := tree_ind hT hp
  have lc : ∀ x0 x2 : D, lcL (gtN 3) f_gains_of_c1t f_gains_of_c1 [x0, .ls (L.map D.int), x2, .un] ((exAll p ts T).map dP) = .ok ((gains p ts L T).map dP) := fun x0 x2 => by
    refine lcL_filterN _ fun x hx => ?_
    have hx' := exB_iff.mp ((exAll_mem hp hE hT (o := x.1) (i := x.2)).mp hx)
    have h1 := hI.inn _ hx'.1
    have ea := nth_at (m := L) h1.1 (by omega)
    have eb := nth_at (m := L) hx'.2.2.1.1 (by omega)
    exact ⟨by simp [f_gains_of_c1t, dP, ea, eb, shorter], fun _ => by simp [f_gains_of_c1, dP]⟩
  rcases ho with rfl | rfl <;> simp [g_gains_of, runF, f_gains_of, lk, ex, el, lc]
theorem is_cheap_ok {w : D} (p : Nat) (hp : 1 ≤ p) (hp2 : p ≤ 100) (ts : List (Int × Int)) (hE : EndsOk p ts) (ht : ts.length ≤ 100) (L : List Int) (hL : L.length = ts.length) (T : List Int) (hT : treeB p ts T = true) (ho : LT w T) :
    g_is_cheapest [.ob 14 [.int p, .ls (ts.map dP)], .ls (L.map D.int), w] = .ok (.bl (decide (gains p ts L T = []))) := by
  have g := gains_ok p hp hp2 ts hE ht L hL T hT ho
  rcases ho with rfl | rfl <;> simp [g_is_cheapest, runF, f_is_cheapest, g]
end Lw

noncomputable section
namespace Lw
open DL
end Lw
end

namespace Lw
open DL L2 TL
end Lw

noncomputable section
namespace Lw
open DL
def f_far_tree_c1 : Env → Res D := eVar 4
def f_far_tree_c1t : Env → Res Bool := tC2 cNIn (eVar 4) (eVar 1)
def f_far_tree_l1 : Env → Out := sSeq (sAsgT (gtT 2 (gtCons (gtN 5) (gtCons (gtN 6) (gtNil)))) (eBin opIx (eUn (opFld 14 1) (eVar 0)) (eVar 4))) (sIf (tNo (tTr (eOwn g_joined_ends (aCons (eVar 0) (aCons (eCall caTuple (aCons (eCall caSorted3 (aCons (eVar 3) (aNil))) (aNil))) (aCons (eVar 5) (aCons (eVar 6) (aNil)))))))) (sApp 3 (eVar 4)) (sNil))
def f_far_tree : Env → Out := sSeq (sExp (eOwn g_look_at_tree (aCons (eVar 0) (aCons (eVar 1) (aNil))))) (sSeq (sAsgF 2 (eLc (iRg1 (aCons (eCall caLen (aCons (eUn (opFld 14 1) (eVar 0)) (aNil))) (aNil))) [4] (gtN 4) (f_far_tree_c1t) f_far_tree_c1)) (sSeq (sAsg 3 (eLst (aNil))) (sSeq (sFor (iSeq (eBin opAdd (eVar 2) (eCall caList (aCons (eVar 1) (aNil))))) (gtN 4) f_far_tree_l1) (sRet (eCall caTuple (aCons (eCall caSorted3 (aCons (eVar 3) (aNil))) (aNil)))))))
def g_far_tree : List D → Res D := runF f_far_tree 7
end Lw
end

namespace Lw
open DL L2 TL
theorem far_l1_50 {w : D} (p : Nat) (hp : 1 ≤ p) (hp2 : p ≤ 1000) (ts : List (Int × Int)) (hE : EndsOk p ts) (hw : brw w = w) (x2 : D) : ∀ (l J : List Int) (y4 y5 y6 : D), InT ts.length l → Ind p ts J → J.length + l.length ≤ 5000 →
    ∃ z4 z5 z6, forL (gtN 4) f_far_tree_l1 (l.map D.int) [.ob 14 [.int p, .ls (ts.map dP)], w, x2, .ol (J.map D.int), y4, y5, y6] = .nx [.ob 14 [.int p, .ls (ts.map dP)], w, x2, .ol ((gr p ts l J).map D.int), z4, z5, z6]
  | [], J, y4, y5, y6, _, _, _ => ⟨y4, y5, y6, by simp [forL, gr]⟩
  | t :: l, J, y4, y5, y6, hl, hJ, hn => by
    obtain ⟨t0, t1⟩ := hl t (List.mem_cons_self ..)
    have hl' : InT ts.length l := fun x hx => hl x (List.mem_cons_of_mem _ hx)
    obtain ⟨e1, e2⟩ := tie_at t0 t1
    obtain ⟨⟨a0, a1⟩, b0, b1⟩ := hE _ e2
    have cs := caSorted3_bo J
    have je := joined_ends_tp p ts hE (by omega) (by omega) (srt J) _ _ ⟨a0, a1⟩ ⟨b0, b1⟩
    rw [if_pos (srt_good hJ.inn hJ.nd), Int.toNat_natCast] at je
    have bl : (srt J).length ≤ lim := by rw [srt_len, lim_eq]; simp at hn; omega
    have bj : J.length < lim := by rw [lim_eq]; simp at hn; omega
    by_cases c : nth (marksM p ts (srt J)) (tieAt ts t).1 = nth (marksM p ts (srt J)) (tieAt ts t).2
    · obtain ⟨z4, z5, z6, ih⟩ := far_l1_50 p hp hp2 ts hE hw x2 l J (.int t) (.int (tieAt ts t).1) (.int (tieAt ts t).2) hl' hJ (by simp at hn ⊢; omega)
      refine ⟨z4, z5, z6, ?_⟩
      simp only [gr]
      rw [if_pos c, ← ih]
      simp [forL, f_far_tree_l1, e1, cs, je, c, bl, hw]
    · have hJ' := hJ.snoc hE ⟨t0, t1⟩ fun z => c ((gr_test hE hJ.inn ⟨t0, t1⟩).mpr z)
      obtain ⟨z4, z5, z6, ih⟩ := far_l1_50 p hp hp2 ts hE hw x2 l (J ++ [t]) (.int t) (.int (tieAt ts t).1) (.int (tieAt ts t).2) hl' hJ' (by simp at hn ⊢; omega)
      refine ⟨z4, z5, z6, ?_⟩
      simp only [gr]
      rw [if_neg c, ← ih]
      simp [forL, f_far_tree_l1, e1, cs, je, c, bl, bj, hw]
theorem far_ok {w : D} (p : Nat) (hp : 1 ≤ p) (hp2 : p ≤ 1000) (ts : List (Int × Int)) (hE : EndsOk p ts) (ht : ts.length ≤ 1000) (T : List Int) (hT : treeB p ts T = true) (ho : LT w T) :
    g_far_tree [.ob 14 [.int p, .ls (ts.map dP)], w] = .ok (.tp ((srt (farB p ts T)).map D.int)) := by
  have lk := look_ok p ts hE (by omega) (by omega) T ho hT
  have hTl := tree_len hp hT
  have tin := good_in (treeB_nat.mp hT).2.1
  have hr : rgOk (ts.length : Int) := rgOk_of (by omega) (by omega)
  have lo := List.length_filter_le (fun x => !decide (x ∈ T)) (iota ts.length)
  rw [iota_len] at lo
  have lc : ∀ x2 x3 x5 x6 : D, lcL (gtN 4) f_far_tree_c1t f_far_tree_c1 [.ob 14 [.int p, .ls (ts.map dP)], w, x2, x3, .un, x5, x6] ((iota ts.length).map D.int) = .ok ((othL ts.length T).map D.int) := fun x2 x3 x5 x6 => by
    refine lcL_filterN _ fun x _ => ?_
    exact ⟨by rcases ho with rfl | rfl <;> simp [f_far_tree_c1t], fun _ => by simp [f_far_tree_c1]⟩
  obtain ⟨z4, z5, z6, e⟩ := far_l1_50 p hp hp2 ts hE (LT_shd ho).2.1 (.ls ((othL ts.length T).map D.int)) (othL ts.length T ++ T) [] .un .un .un (fun x hx => by
    rcases List.mem_append.mp hx with z | z
    · exact oth_in _ _ x z
    · exact tin x z) (ind_nil p ts) (by simp [othL] at lo ⊢; omega)
  rw [gr_app] at e
  rw [show gr p ts T (gr p ts (othL ts.length T) []) = farB p ts T from rfl] at e
  have cs := caSorted3_bo (farB p ts T)
  have f6 := (far_parts hp hE hT).2.2.2.2.2.1
  have b1 : (srt (farB p ts T)).length ≤ lim := by rw [srt_len, lim_eq]; omega
  have b2 : T.length ≤ lim := by rw [lim_eq]; omega
  have b3 : ts.length ≤ 1000000 := by omega
  have b4 : ts.length ≤ lim := by rw [lim_eq]; omega
  have b5 : (othL ts.length T).length + T.length ≤ lim := by rw [lim_eq]; unfold othL; omega
  simp only [List.map_append, List.map_nil] at e
  rcases ho with rfl | rfl <;> simp [g_far_tree, runF, f_far_tree, lk, hr, rng_iota, lc, e, cs, b1, b2, b3, b4, b5]
end Lw

noncomputable section
namespace Lw
open DL
def f_differ : Env → Out := sSeq (sExp (eOwn g_look_at_tree (aCons (eVar 0) (aCons (eVar 1) (aNil))))) (sSeq (sExp (eOwn g_look_at_tree (aCons (eVar 0) (aCons (eVar 2) (aNil))))) (sRet (eCall caLen (aCons (eOwn g_alone_in (aCons (eVar 1) (aCons (eVar 2) (aNil)))) (aNil)))))
def g_differ : List D → Res D := runF f_differ 3
end Lw
end

noncomputable section
namespace Lw
open DL
end Lw
end

namespace Lw
open DL L2 TL
theorem differ_ok {oa ob : D} (p : Nat) (hp : 1 ≤ p) (hp2 : p ≤ 1000) (ts : List (Int × Int)) (hE : EndsOk p ts) (A U : List Int) (hA : treeB p ts A = true) (hU : treeB p ts U = true) (ha : LT oa A) (hb : LT ob U) :
    g_differ [.ob 14 [.int p, .ls (ts.map dP)], oa, ob] = .ok (.int (alone A U).length) := by
  have l1 := look_ok p ts hE (by omega) (by omega) A ha hA
  have l2 := look_ok p ts hE (by omega) (by omega) U hb hU
  have hAl := tree_len hp hA
  have al := alone_ok A U ha hb (by omega)
  rcases ha with rfl | rfl <;> rcases hb with rfl | rfl <;> simp [g_differ, runF, f_differ, l1, l2, al]
end Lw

noncomputable section
namespace Lw
open DL
def f_law_led_down_l1 : Env → Out := sSeq (sAsgF 6 (eOwn g_gains_of (aCons (eVar 0) (aCons (eVar 1) (aCons (eVar 4) (aNil)))))) (sSeq (sAsgF 7 (eB (tC2 cEq (eOwn g_length_of (aCons (eVar 0) (aCons (eVar 1) (aCons (eVar 4) (aNil))))) (eVar 3)))) (sSeq (sIf (tOr_ (tC2 cNe (eB (tC2 cEq (eVar 6) (eLst (aNil)))) (eVar 7)) (tC2 cNe (eOwn g_is_cheapest (aCons (eVar 0) (aCons (eVar 1) (aCons (eVar 4) (aNil))))) (eVar 7))) (sRet (eC (.bl false))) (sNil)) (sSeq (sIf (tTr (eVar 7)) (sRet (eC (.bl true))) (sNil)) (sSeq (sAsgT (gtT 2 (gtCons (gtN 8) (gtCons (gtN 9) (gtNil)))) (eBin opIx (eVar 6) (eC (.int 0)))) (sSeq (sAsgF 10 (eOwn g_exchanged (aCons (eVar 0) (aCons (eVar 4) (aCons (eVar 8) (aCons (eVar 9) (aNil))))))) (sSeq (sAsgF 11 (eBin opSub (eBin opIx (eVar 1) (eVar 8)) (eBin opIx (eVar 1) (eVar 9)))) (sSeq (sIf (tC2 cLe (eVar 11) (eC (.int 0))) (sRet (eC (.bl false))) (sNil)) (sSeq (sIf (tC2 cNe (eOwn g_length_of (aCons (eVar 0) (aCons (eVar 1) (aCons (eVar 10) (aNil))))) (eBin opSub (eOwn g_length_of (aCons (eVar 0) (aCons (eVar 1) (aCons (eVar 4) (aNil))))) (eVar 11))) (sRet (eC (.bl false))) (sNil)) (sAsgF 4 (eVar 10))))))))))
def f_law_led_down : Env → Out := sSeq (sAsgF 4 (eVar 2)) (sSeq (sFor (iRg1 (aCons (eC (.int 400)) (aNil))) (gtN 5) f_law_led_down_l1) (sRet (eC (.bl false))))
def g_law_led_down : List D → Res D := runF f_law_led_down 12
def f_law_k95_c1 : Env → Res D := eBin opAdd (eVar 14) (eC (.int 5))
def f_law_k95_c2 : Env → Res D := eTup (aConsO (eBin opAdd (eVar 14) (eBin opMul (eC (.int 5)) (eBin opSub (eVar 1) (eC (.int 1))))) (aConsO (eVar 15) (aNil)))
def f_law_k95_c3 : Env → Res D := eCall caInt (aCons (eB (tC2 cIn (eVar 16) (eVar 6))) (aNil))
def f_law_k95 : Env → Out := sSeq (sAsgT (gtT 2 (gtCons (gtN 1) (gtCons (gtN 2) (gtNil)))) (eOwn g_law_web (aCons (eVar 0) (aCons (eC (.int 10)) (aCons (eC (.int 20)) (aNil)))))) (sSeq (sAsgT (gtT 2 (gtCons (gtN 3) (gtCons (gtN 4) (gtNil)))) (eOwn g_read_web (aCons (eOwn g_law_text (aCons (eVar 1) (aCons (eVar 2) (aCons (eOwn g_law_lengths_v2 (aCons (eVar 0) (aCons (eCall caLen (aCons (eVar 2) (aNil))) (aNil)))) (aNil))))) (aNil)))) (sSeq (sAsgF 5 (eBin opMod (eCall caSum (aCons (eVar 0) (aNil))) (eBin opPow (eC (.int 10)) (eC (.int 60))))) (sSeq (sAsgF 6 (eOwn g_law_tree_by (aCons (eVar 1) (aCons (eVar 2) (aCons (eVar 5) (aNil)))))) (sSeq (sIf (tC2 cIsN (eVar 6) (eC .non)) (sRet (eC (.bl true))) (sNil)) (sSeq (sAsgF 7 (eOwn g_cheapest_tree (aCons (eVar 3) (aCons (eVar 4) (aNil))))) (sSeq (sAsgF 8 (eOwn g_length_of (aCons (eVar 3) (aCons (eVar 4) (aCons (eVar 7) (aNil)))))) (sSeq (sIf (tOr_ (tC2 cNe (eOwn g_gains_of (aCons (eVar 3) (aCons (eVar 4) (aCons (eVar 7) (aNil))))) (eLst (aNil))) (tNo (tTr (eOwn g_is_cheapest (aCons (eVar 3) (aCons (eVar 4) (aCons (eVar 7) (aNil)))))))) (sRet (eC (.bl false))) (sNil)) (sSeq (sIf (tNo (tTr (eOwn g_law_led_down (aCons (eVar 3) (aCons (eVar 4) (aCons (eVar 6) (aCons (eVar 8) (aNil)))))))) (sRet (eC (.bl false))) (sNil)) (sSeq (sAsgF 9 (eLc (iSeq (eVar 4)) [14] (gtN 14) (tYesG) f_law_k95_c1)) (sSeq (sAsgF 10 (eOwn g_ranked (aCons (eVar 3) (aCons (eVar 4) (aCons (eC (.int 12)) (aNil)))))) (sSeq (sAsgF 11 (eLc (iSeq (eVar 10)) [14, 15] (gtT 2 (gtCons (gtN 14) (gtCons (gtN 15) (gtNil)))) (tYesG) f_law_k95_c2)) (sSeq (sIf (tOr_ (tC2 cNe (eOwn g_ranked (aCons (eVar 3) (aCons (eVar 9) (aCons (eC (.int 12)) (aNil))))) (eVar 11)) (tC2 cNe (eBin opIx (eVar 10) (eC (.int 0))) (eTup (aConsO (eVar 8) (aConsO (eVar 7) (aNil)))))) (sRet (eC (.bl false))) (sNil)) (sSeq (sAsgF 12 (eLc (iRg1 (aCons (eCall caLen (aCons (eVar 2) (aNil))) (aNil))) [16] (gtN 16) (tYesG) f_law_k95_c3)) (sSeq (sAsgF 13 (eOwn g_far_tree (aCons (eVar 3) (aCons (eVar 6) (aNil))))) (sSeq (sIf (tC2 cNe (eVar 13) (eOwn g_cheapest_tree (aCons (eVar 3) (aCons (eVar 12) (aNil))))) (sRet (eC (.bl false))) (sNil)) (sSeq (sIf (tC2 cNe (eOwn g_differ (aCons (eVar 3) (aCons (eVar 6) (aCons (eVar 13) (aNil))))) (eBin opSub (eBin opSub (eVar 1) (eC (.int 1))) (eOwn g_length_of (aCons (eVar 3) (aCons (eVar 12) (aCons (eVar 13) (aNil))))))) (sRet (eC (.bl false))) (sNil)) (sRet (eB (tC2 cEq (eOwn g_cheapest_tree (aCons (eVar 3) (aCons (eBin opMul (eLst (aConsO (eC (.int 0)) (aNil))) (eCall caLen (aCons (eVar 2) (aNil)))) (aNil)))) (eOwn g_least_tree (aCons (eVar 3) (aNil))))))))))))))))))))))
def g_law_k95 : List D → Res D := runF f_law_k95 17
end Lw
end

noncomputable section
namespace Lw
open DL L2 TL
open PySem (Str)
section
variable {L : List Int} {p : Nat} {ts : List (Int × Int)}
theorem eqT95 {A : List Int} : pyEq (.tp (A.map D.int)) (.tp (A.map D.int)) = some true := by
  have := enc_int.tp.eq (by omega) A A
  simpa using this
theorem dullP95 (x : Int × List Int) : dull (dNT x) := by
  obtain ⟨a1, a2, a3, a4, a5, a6⟩ := dulls dull_int x.2
  unfold dull dNT
  simp [a1, a2, a3, a4, a5, a6]
theorem eq_NT95 (Q : List (Int × List Int)) : pyEq (.ls (Q.map dNT)) (.ls (Q.map dNT)) = some true := by
  have := enc_NT.ls.eq (by omega) Q Q
  simpa using this
theorem kru95 (hp : 1 ≤ p) (hE : EndsOk p ts) (hL : L.length = ts.length) (hj : trees p ts ≠ []) : (kruT p ts L).length + 1 = p ∧ treeB p ts (srt (kruT p ts L)) = true ∧ ∀ S, treeB p ts S = true → S ≠ srt (kruT p ts L) → HT.lexLt (kT L (srt (kruT p ts L))) (kT L S) = true := by
  have hO : Ord L ts.length (ordOf L) := by rw [← hL]; exact ordOf_ord L
  obtain ⟨k1, k2, k3, k4, k5⟩ := kru_ok hp hE hO
  obtain ⟨T, hT⟩ := List.exists_mem_of_ne_nil _ hj
  have e := k4 T ((trees_mem hp).mp hT)
  exact ⟨e, k3 e, fun S hS hn => kru_least hp hE hO hS hn⟩
theorem kT_le {A B : List Int} (h : HT.lexLt (kT L A) (kT L B) = true) : lsum L A ≤ lsum L B := by
  unfold kT at h
  rw [HT.lexLt_cons] at h
  split at h
  · omega
  · have := of_decide_eq_true h; omega
theorem least95 (hp : 1 ≤ p) (hE : EndsOk p ts) (hL : L.length = ts.length) (hj : trees p ts ≠ []) {T : List Int} (hT : treeB p ts T = true) : gains p ts L T = [] ↔ lsum L T = lsum L (srt (kruT p ts L)) := by
  obtain ⟨k1, k2, k3⟩ := kru95 hp hE hL hj
  have le : ∀ S, treeB p ts S = true → lsum L (srt (kruT p ts L)) ≤ lsum L S := fun S hS => by
    by_cases c : S = srt (kruT p ts L)
    · rw [c]; exact Int.le_refl _
    · exact kT_le (k3 S hS c)
  rw [gain_iff hp hE hT]
  constructor
  · intro h
    have a := h _ k2
    have b := le T hT
    omega
  · intro h U hU
    rw [h]
    exact le U hU
def rkL (L : List Int) (n : Nat) : List Int := (iota n).map fun t => (((iota n).filter fun s => decide (nth L s < nth L t)).length : Int)
theorem nth_rk {n : Nat} {t : Int} (ht : 0 ≤ t ∧ t < n) : nth (rkL L n) t = (((iota n).filter fun s => decide (nth L s < nth L t)).length : Int) := by
  have h1 : (iota n)[t.toNat]? = some t := by
    unfold iota
    rw [List.getElem?_map, List.getElem?_range (by omega)]
    simp; omega
  unfold nth rkL
  rw [List.getD_eq_getElem?_getD, List.getElem?_map, h1]
  rfl
theorem rk_lt {n : Nat} {i o : Int} (hi : 0 ≤ i ∧ i < n) (ho : 0 ≤ o ∧ o < n) (h : nth L i < nth L o) : nth (rkL L n) i < nth (rkL L n) o := by
  rw [nth_rk hi, nth_rk ho]
  have nd : (iota n).Nodup := iota_nodup n
  have := nodup_le (l := i :: (iota n).filter fun s => decide (nth L s < nth L i)) (m := (iota n).filter fun s => decide (nth L s < nth L o)) (List.nodup_cons.mpr ⟨fun z => by have := (List.mem_filter.mp z).2; simp at this, nd.filter _⟩) fun x hx => by
    rcases List.mem_cons.mp hx with rfl | hx
    · exact List.mem_filter.mpr ⟨iota_mem.mpr hi, decide_eq_true h⟩
    · obtain ⟨h1, h2⟩ := List.mem_filter.mp hx
      have := of_decide_eq_true h2
      exact List.mem_filter.mpr ⟨h1, decide_eq_true (by omega)⟩
  simp at this
  omega
theorem rk_bd {n : Nat} (T : List Int) (hT : ∀ t ∈ T, 0 ≤ t ∧ t < n) : 0 ≤ lsum (rkL L n) T ∧ lsum (rkL L n) T ≤ T.length * n := by
  induction T with
  | nil => exact ⟨Int.le_refl _, by simp [lsum]⟩
  | cons t T ih =>
    obtain ⟨a, b⟩ := ih fun x hx => hT x (List.mem_cons_of_mem _ hx)
    have ht := hT t (List.mem_cons_self ..)
    rw [lsum_cons, nth_rk ht]
    have : ((iota n).filter fun s => decide (nth L s < nth L t)).length ≤ n := by
      have := List.length_filter_le (fun s => decide (nth L s < nth L t)) (iota n)
      rw [iota_len] at this
      exact this
    refine ⟨by omega, ?_⟩
    rw [List.length_cons, Int.natCast_add, Int.add_mul]
    omega
theorem ld_done {x2 x5 y6 y7 y8 y9 y10 y11 : D} {T : List Int} {m : Int} {G : List D} (hg : G = []) (gn : g_gains_of [wD p ts, .ls (L.map D.int), .tp (T.map D.int)] = .ok (.ol G)) (lo : g_length_of [wD p ts, .ls (L.map D.int), .tp (T.map D.int)] = .ok (.int m)) (ic : g_is_cheapest [wD p ts, .ls (L.map D.int), .tp (T.map D.int)] = .ok (.bl true)) : f_law_led_down_l1 [wD p ts, .ls (L.map D.int), x2, .int m, .tp (T.map D.int), x5, y6, y7, y8, y9, y10, y11] = .rt (.bl true) := by
  have pe : pyEq (.ls []) (.ls []) = some true := rfl
  obtain ⟨t1, t2, t3, t4, t5, t6⟩ := dulls dull_P ts
  subst hg
  unfold wD at *
  unfold f_law_led_down_l1
  refine seq_to (g1 := [.ob 14 [.int p, .ls (ts.map dP)], .ls (L.map D.int), x2, .int m, .tp (T.map D.int), x5, .ls [], y7, y8, y9, y10, y11]) (by simp [gn, t1, t2, t4]) ?_
  refine seq_to (g1 := [.ob 14 [.int p, .ls (ts.map dP)], .ls (L.map D.int), x2, .int m, .tp (T.map D.int), x5, .ls [], .bl true, y8, y9, y10, y11]) (by simp [lo, t1, t2, t4]) ?_
  refine seq_to (g1 := [.ob 14 [.int p, .ls (ts.map dP)], .ls (L.map D.int), x2, .int m, .tp (T.map D.int), x5, .ls [], .bl true, y8, y9, y10, y11]) (by simp [ic, pe, t1, t2, t4]) ?_
  simp
theorem ld_go {x2 x5 y6 y7 y8 y9 y10 y11 : D} {T : List Int} {m z o i a b : Int} {G : List (Int × Int)} {r : List (Int × Int)} (hg : G = (o, i) :: r) (gn : g_gains_of [wD p ts, .ls (L.map D.int), .tp (T.map D.int)] = .ok (.ol (G.map dP))) (lo : g_length_of [wD p ts, .ls (L.map D.int), .tp (T.map D.int)] = .ok (.int z)) (hz : z ≠ m) (ic : g_is_cheapest [wD p ts, .ls (L.map D.int), .tp (T.map D.int)] = .ok (.bl false)) (ex : g_exchanged [wD p ts, .tp (T.map D.int), .int o, .int i] = .ok (.tp ((swap T o i).map D.int))) (ea : atI L o = some a) (eb : atI L i = some b) (hab : b < a) (lo2 : g_length_of [wD p ts, .ls (L.map D.int), .tp ((swap T o i).map D.int)] = .ok (.int (z - (a - b)))) : f_law_led_down_l1 [wD p ts, .ls (L.map D.int), x2, .int m, .tp (T.map D.int), x5, y6, y7, y8, y9, y10, y11] = .nx [wD p ts, .ls (L.map D.int), x2, .int m, .tp ((swap T o i).map D.int), x5, .ls (G.map dP), .bl false, .int o, .int i, .tp ((swap T o i).map D.int), .int (a - b)] := by
  obtain ⟨t1, t2, t3, t4, t5, t6⟩ := dulls dull_P ts
  obtain ⟨g1, g2, g3, g4, g5, g6⟩ := dulls dull_P G
  have pe : pyEq (.ls (G.map dP)) (.ls []) = some false := by
    have h := enc_P.ls.eq (by omega) G []
    have hne : ¬ G = [] := fun z => by rw [hg] at z; cases z
    simp only [hne, decide_false] at h
    exact h
  have g0 : atI (G.map dP) 0 = some (.tp [.int o, .int i]) := by
    rw [hg, List.map_cons]
    exact (atI_natG (i := 0) (j := 0) rfl (by simp)).trans rfl
  have hab' : ¬ a - b ≤ 0 := by omega
  unfold wD at *
  generalize G.map dP = GG at *
  unfold f_law_led_down_l1
  refine seq_to (g1 := [.ob 14 [.int p, .ls (ts.map dP)], .ls (L.map D.int), x2, .int m, .tp (T.map D.int), x5, .ls GG, y7, y8, y9, y10, y11]) (by simp [gn, g1, g2, g4, t1, t2, t4]) ?_
  refine seq_to (g1 := [.ob 14 [.int p, .ls (ts.map dP)], .ls (L.map D.int), x2, .int m, .tp (T.map D.int), x5, .ls GG, .bl false, y8, y9, y10, y11]) (by simp [lo, hz, t1, t2, t4]) ?_
  refine seq_to (g1 := [.ob 14 [.int p, .ls (ts.map dP)], .ls (L.map D.int), x2, .int m, .tp (T.map D.int), x5, .ls GG, .bl false, y8, y9, y10, y11]) (by simp [ic, pe, g1, g2, t1, t2, t4]) ?_
  refine seq_to (g1 := [.ob 14 [.int p, .ls (ts.map dP)], .ls (L.map D.int), x2, .int m, .tp (T.map D.int), x5, .ls GG, .bl false, y8, y9, y10, y11]) (by simp) ?_
  refine seq_to (g1 := [.ob 14 [.int p, .ls (ts.map dP)], .ls (L.map D.int), x2, .int m, .tp (T.map D.int), x5, .ls GG, .bl false, .int o, .int i, y10, y11]) (by simp [g0, g1]) ?_
  refine seq_to (g1 := [.ob 14 [.int p, .ls (ts.map dP)], .ls (L.map D.int), x2, .int m, .tp (T.map D.int), x5, .ls GG, .bl false, .int o, .int i, .tp ((swap T o i).map D.int), y11]) (by simp [ex, t1, t2, t4]) ?_
  refine seq_to (g1 := [.ob 14 [.int p, .ls (ts.map dP)], .ls (L.map D.int), x2, .int m, .tp (T.map D.int), x5, .ls GG, .bl false, .int o, .int i, .tp ((swap T o i).map D.int), .int (a - b)]) (by simp [ea, eb]) ?_
  refine seq_to (g1 := [.ob 14 [.int p, .ls (ts.map dP)], .ls (L.map D.int), x2, .int m, .tp (T.map D.int), x5, .ls GG, .bl false, .int o, .int i, .tp ((swap T o i).map D.int), .int (a - b)]) (by simp [hab']) ?_
  refine seq_to (g1 := [.ob 14 [.int p, .ls (ts.map dP)], .ls (L.map D.int), x2, .int m, .tp (T.map D.int), x5, .ls GG, .bl false, .int o, .int i, .tp ((swap T o i).map D.int), .int (a - b)]) (by simp [lo, lo2, t1, t2, t4]) ?_
  simp
theorem len95 (hp : 1 ≤ p) (hp2 : p ≤ 14) (hL : L.length = ts.length) {T : List Int} (hT : treeB p ts T = true) : g_length_of [wD p ts, .ls (L.map D.int), .tp (T.map D.int)] = .ok (.int (lsum L T)) := by
  have := tree_len hp hT
  exact length_of_ok p ts L hL (.inl rfl) T (.inr rfl) (by omega) (treeB_nat.mp hT).2.1
theorem ld_for (hp : 1 ≤ p) (hp2 : p ≤ 14) (hE : EndsOk p ts) (ht : ts.length ≤ 30) (hL : L.length = ts.length) (hj : trees p ts ≠ []) {x2 : D} : ∀ (n lo : Nat) (T : List Int) (y5 y6 y7 y8 y9 y10 y11 : D), treeB p ts T = true → lsum (rkL L ts.length) T < n → forL (gtN 5) f_law_led_down_l1 (rng lo n) [wD p ts, .ls (L.map D.int), x2, .int (lsum L (srt (kruT p ts L))), .tp (T.map D.int), y5, y6, y7, y8, y9, y10, y11] = .rt (.bl true)
  | 0, lo, T, _, _, _, _, _, _, _, hT, h => by
    have := (rk_bd (L := L) T (tree_ind hT hp).inn).1
    omega
  | n + 1, lo, T, y5, y6, y7, y8, y9, y10, y11, hT, h => by
    have iT := (tree_ind hT hp).inn
    have gn := gains_ok p hp (by omega) ts hE (by omega) L hL T hT (w := .tp (T.map D.int)) (.inr rfl)
    have ic := is_cheap_ok p hp (by omega) ts hE (by omega) L hL T hT (w := .tp (T.map D.int)) (.inr rfl)
    have lo1 := len95 hp hp2 hL hT
    have lw := least95 hp hE hL hj hT
    rw [rng_succ]
    by_cases c : gains p ts L T = []
    · rw [decide_eq_true c] at ic
      rw [lw.mp c] at lo1
      rw [c] at gn
      exact forL_ret (g1 := [wD p ts, .ls (L.map D.int), x2, .int (lsum L (srt (kruT p ts L))), .tp (T.map D.int), .int (lo : Int), y6, y7, y8, y9, y10, y11]) rfl (ld_done rfl gn lo1 ic)
    · rw [decide_eq_false c] at ic
      obtain ⟨⟨o, i⟩, r, hr⟩ := List.exists_cons_of_ne_nil c
      have hm : (o, i) ∈ gains p ts L T := by rw [hr]; exact List.mem_cons_self ..
      obtain ⟨m1, m2⟩ := List.mem_filter.mp hm
      have hx := (exAll_mem hp hE hT).mp m1
      obtain ⟨b1, b2, b3, b4⟩ := exB_iff.mp hx
      have m2 : nth L i < nth L o := by simpa [shorter] using m2
      have ex := exchanged_ok p hp (by omega) ts hE T hT (w := .tp (T.map D.int)) (.inr rfl) o i
      rw [if_pos hx] at ex
      have oi := iT o b1
      have ea := nth_at (m := L) oi.1 (by omega)
      have eb := nth_at (m := L) b3.1 (by omega)
      have lo2 := len95 hp hp2 hL b4
      have sw1 := lsum_swap (L := L) hp hT (i := i) b1
      have sw2 := lsum_swap (L := rkL L ts.length) hp hT (i := i) b1
      have rl := rk_lt (L := L) (n := ts.length) b3 oi m2
      rw [sw1, show lsum L T - nth L o + nth L i = lsum L T - (nth L o - nth L i) by omega] at lo2
      have ih := ld_for hp hp2 hE ht hL hj (x2 := x2) n (lo + 1) (swap T o i) (.int (lo : Int)) (.ls ((gains p ts L T).map dP)) (.bl false) (.int o) (.int i) (.tp ((swap T o i).map D.int)) (.int (nth L o - nth L i)) b4 (by omega)
      rw [Int.natCast_succ] at ih
      exact (forL_step (g1 := [wD p ts, .ls (L.map D.int), x2, .int (lsum L (srt (kruT p ts L))), .tp (T.map D.int), .int (lo : Int), y6, y7, y8, y9, y10, y11]) rfl (ld_go hr gn lo1 (fun z => c (lw.mpr z)) ic ex ea eb m2 lo2)).trans ih
theorem led_ok (hp : 1 ≤ p) (hp2 : p ≤ 10) (hE : EndsOk p ts) (ht : ts.length ≤ 20) (hL : L.length = ts.length) (hj : trees p ts ≠ []) {T : List Int} (hT : treeB p ts T = true) : g_law_led_down [wD p ts, .ls (L.map D.int), .tp (T.map D.int), .int (lsum L (srt (kruT p ts L)))] = .ok (.bl true) := by
  have bd := (rk_bd (L := L) T (tree_ind hT hp).inn).2
  have lT := tree_len hp hT
  have hb : T.length * ts.length ≤ 9 * 20 := Nat.mul_le_mul (by omega) ht
  have e := ld_for hp (by omega) hE (by omega) hL hj (x2 := .tp (T.map D.int)) 400 0 T .un .un .un .un .un .un .un hT (by
    have : (((T.length * ts.length : Nat)) : Int) ≤ 180 := by omega
    rw [Int.natCast_mul] at this
    omega)
  rw [show ((0 : Nat) : Int) = 0 from rfl] at e
  have hr : rgOk 400 := rgOk_of (by omega) (by omega)
  have f : f_law_led_down [wD p ts, .ls (L.map D.int), .tp (T.map D.int), .int (lsum L (srt (kruT p ts L))), .un, .un, .un, .un, .un, .un, .un, .un] = .rt (.bl true) := by
    unfold f_law_led_down
    refine seq_to (g1 := [wD p ts, .ls (L.map D.int), .tp (T.map D.int), .int (lsum L (srt (kruT p ts L))), .tp (T.map D.int), .un, .un, .un, .un, .un, .un, .un]) (by simp) ?_
    simp [hr, e]
  exact rt39 f rfl
theorem nth_shift {t : Int} (ht : 0 ≤ t ∧ t < L.length) (c : Int) : nth (L.map fun l => l + c) t = nth L t + c := by
  unfold nth
  rw [List.getD_eq_getElem?_getD, List.getD_eq_getElem?_getD, List.getElem?_map, List.getElem?_eq_getElem (by omega)]
  rfl
theorem lsum_shift (c : Int) : ∀ T : List Int, (∀ t ∈ T, 0 ≤ t ∧ t < L.length) → lsum (L.map fun l => l + c) T = lsum L T + c * T.length
  | [], _ => by simp [lsum]
  | t :: T, h => by
    rw [lsum_cons, lsum_cons, lsum_shift c T fun x hx => h x (List.mem_cons_of_mem _ hx), nth_shift (h t (List.mem_cons_self ..)), List.length_cons, Int.natCast_succ, Int.mul_add]
    omega
def shP (c : Int) (x : Int × List Int) : Int × List Int := (x.1 + c, x.2)
theorem rank_shift (hp : 1 ≤ p) (hL : L.length = ts.length) (c : Int) : rankL p ts (L.map fun l => l + c) = (rankL p ts L).map (shP (c * ((p : Int) - 1))) := by
  have e : (trees p ts).map (prL (L.map fun l => l + c)) = ((trees p ts).map (prL L)).map (shP (c * ((p : Int) - 1))) := by
    rw [List.map_map]
    refine List.map_congr_left fun T hT => ?_
    have tT := (trees_mem hp).mp hT
    have lT := tree_len hp tT
    have := lsum_shift (L := L) c T (fun t ht => by rw [hL]; exact (tree_ind tT hp).inn t ht)
    simp only [prL, shP, Function.comp, this]
    rw [show (T.length : Int) = (p : Int) - 1 by omega]
  refine map_inj_of (f := keyP) (fun x y => keyP_inj) (rise_one ?_ (ms_rise _) ?_)
  · refine List.Perm.map _ ?_
    unfold rankL
    rw [e]
    exact (List.mergeSort_perm _ _).trans ((List.mergeSort_perm _ _).symm.map _)
  · have h := ms_rise ((trees p ts).map (prL L))
    rw [List.map_map]
    refine List.pairwise_map.mpr ((List.pairwise_map.mp h).imp fun {a b} h => ?_)
    simp only [keyP, shP, Function.comp, HT.lexLt_cons] at h ⊢
    by_cases q : b.1 = a.1
    · rw [if_pos q] at h
      rw [if_pos (by omega)]
      exact h
    · rw [if_neg q] at h
      rw [if_neg (by omega)]
      have := of_decide_eq_false h
      exact decide_eq_false (by omega)
def mkL (n : Nat) (T : List Int) : List Int := (iota n).map fun t => if t ∈ T then 1 else 0
theorem nth_mk {n : Nat} {T : List Int} {t : Int} (ht : 0 ≤ t ∧ t < n) : nth (mkL n T) t = if t ∈ T then 1 else 0 := by
  have h1 : (iota n)[t.toNat]? = some t := by
    unfold iota
    rw [List.getElem?_map, List.getElem?_range (by omega)]
    simp; omega
  unfold nth mkL
  rw [List.getD_eq_getElem?_getD, List.getElem?_map, h1]
  rfl
theorem lsum_mk {n : Nat} {T : List Int} : ∀ S : List Int, (∀ t ∈ S, 0 ≤ t ∧ t < n) → lsum (mkL n T) S = com T S
  | [], _ => rfl
  | t :: S, h => by
    rw [lsum_cons, lsum_mk S fun x hx => h x (List.mem_cons_of_mem _ hx), nth_mk (h t (List.mem_cons_self ..))]
    unfold com
    by_cases c : t ∈ T
    · rw [if_pos c, List.filter_cons_of_pos (by simp [c]), List.length_cons]; omega
    · rw [if_neg c, List.filter_cons_of_neg (by simp [c])]; omega
theorem mkL_len (n : Nat) (T : List Int) : (mkL n T).length = n := by unfold mkL; rw [List.length_map, iota_len]
theorem far95 (hp : 1 ≤ p) (hE : EndsOk p ts) {T : List Int} (hT : treeB p ts T = true) : srt (farB p ts T) = srt (kruT p ts (mkL ts.length T)) := by
  have hj : trees p ts ≠ [] := fun z => by
    have := (trees_mem hp).mpr hT
    rw [z] at this
    exact nomatch this
  obtain ⟨_, k2, k3⟩ := kru95 hp hE (mkL_len ts.length T) hj
  obtain ⟨L1, L2, hm, _, _⟩ := far_ahead hp hE hT
  have fT : treeB p ts (srt (farB p ts T)) = true := (trees_mem hp).mp (by rw [hm]; simp)
  have lm : ∀ S, treeB p ts S = true → lsum (mkL ts.length T) S = com T S := fun S hS => lsum_mk S (tree_ind hS hp).inn
  by_cases c : srt (farB p ts T) = srt (kruT p ts (mkL ts.length T))
  · exact c
  · exfalso
    have h1 := k3 _ fT c
    have h2 := far_le hp hE hT k2
    unfold kT at h1
    rw [lm _ k2, lm _ fT, HT.lexLt_cons] at h1
    by_cases q : (com T (srt (kruT p ts (mkL ts.length T))) : Int) = com T (srt (farB p ts T))
    · rw [if_pos q] at h1
      have h3 := far_lex hp hE hT k2 (by omega) (fun z => c z.symm)
      have := NtL.lex_asym _ _ h3
      rw [this] at h1
      cases h1
    · rw [if_neg q] at h1
      have := of_decide_eq_true h1
      omega
theorem zero95 (hp : 1 ≤ p) (hE : EndsOk p ts) (hj : trees p ts ≠ []) : srt (kruT p ts (List.replicate ts.length 0)) = baseW p ts := by
  obtain ⟨_, k2, k3⟩ := kru95 (L := List.replicate ts.length 0) hp hE (List.length_replicate ..) hj
  have hB : treeB p ts (baseW p ts) = true := (trees_mem hp).mp (List.mem_of_mem_head? (by rw [(base_mem hp hE hj).2]; rfl))
  have z : ∀ S : List Int, lsum (List.replicate ts.length 0) S = 0 := fun S => by
    induction S with
    | nil => rfl
    | cons t S ih =>
      rw [lsum_cons, ih]
      unfold nth
      rw [List.getD_eq_getElem?_getD, List.getElem?_replicate]
      split <;> rfl
  by_cases c : baseW p ts = srt (kruT p ts (List.replicate ts.length 0))
  · exact c.symm
  · exfalso
    have h1 := k3 _ hB c
    unfold kT at h1
    rw [z, z, HT.lexLt_cons, if_pos rfl] at h1
    have hm := (trees_mem hp).mpr k2
    have rise : Rise (trees p ts) := srtL_rise _
    have hh := (base_mem hp hE hj).2
    match ht : trees p ts, hh, hm, rise with
    | a :: M, hh, hm, rise =>
      have ha : a = baseW p ts := Option.some.inj hh
      rcases List.mem_cons.mp hm with e | hm
      · exact c (ha ▸ e.symm)
      · have := (List.pairwise_cons.mp rise).1 _ hm
        rw [ha] at this
        rw [this] at h1
        cases h1
theorem rank_head (hp : 1 ≤ p) (hE : EndsOk p ts) (hL : L.length = ts.length) (hj : trees p ts ≠ []) : ∃ Z, rankL p ts L = prL L (srt (kruT p ts L)) :: Z := by
  obtain ⟨_, k2, k3⟩ := kru95 hp hE hL hj
  exact sort_first (W := trees p ts) ((trees_mem hp).mpr k2) fun S hS hn => k3 S ((trees_mem hp).mp hS) hn
theorem com_alone {T F : List Int} (hT : T.Nodup) (hF : F.Nodup) : (alone T F).length + com T F = T.length := by
  have p1 : (T.filter fun x => decide (x ∈ F)).Perm (F.filter fun x => decide (x ∈ T)) := by
    refine (List.perm_ext_iff_of_nodup (hT.filter _) (hF.filter _)).mpr fun x => ?_
    simp only [List.mem_filter, decide_eq_true_eq]
    exact and_comm
  have := len_split T fun x => decide (x ∈ F)
  unfold com alone
  rw [← p1.length_eq]
  omega
end
end Lw
end

noncomputable section
namespace Lw
open DL L2 TL
open PySem (Str)
section
variable {L : List Int} {p : Nat} {ts : List (Int × Int)}
theorem eBin_ok {op : D → D → Option D} {fa fb : Env → Res D} {g : Env} {a b d : D} (h1 : fa g = .ok a) (h2 : fb g = .ok b) (h : op (opd a) (opd b) = some d) : eBin op fa fb g = .ok d := by
  rw [eBin_, h1]
  simp [Res.bind, h2, h]

theorem k95_none {ns : List Int} {x : Str} (t : TxW ns 10 20 p ts L x) (tb : g_law_tree_by [.int p, .ls (ts.map dP), .int (ns.sum % e60)] = .ok .non) : g_law_k95 [.sc (ns.map D.int)] = .ok (.bl true) := by
  have e : f_law_k95 [.sc (ns.map D.int), .un, .un, .un, .un, .un, .un, .un, .un, .un, .un, .un, .un, .un, .un, .un, .un] = .rt (.bl true) := by
    unfold f_law_k95
    refine head35 t ?_
    obtain ⟨t1, t2, t3, t4, t5, t6⟩ := dulls dull_P ts
    refine seq_to (g1 := [.sc (ns.map D.int), .int p, .ls (ts.map dP), .ob 14 [.int p, .ls (ts.map dP)], .ls (L.map D.int), .int (ns.sum % e60), .un, .un, .un, .un, .un, .un, .un, .un, .un, .un, .un]) (by simp [show (0 : Int) < e60 by decide]) ?_
    refine seq_to (g1 := [.sc (ns.map D.int), .int p, .ls (ts.map dP), .ob 14 [.int p, .ls (ts.map dP)], .ls (L.map D.int), .int (ns.sum % e60), .non, .un, .un, .un, .un, .un, .un, .un, .un, .un, .un]) (by simp [tb, t1, t2, t4]) ?_
    simp
  exact rt39 e rfl
theorem k95_yes {ns M K Z0 : List Int} {x : Str} {A B F W : List Int} {Q : List (Int × List Int)} {R : List (Int × List Int)} (t : TxW ns 10 20 p ts L x) (tb : g_law_tree_by [.int p, .ls (ts.map dP), .int (ns.sum % e60)] = .ok (.tp (A.map D.int))) (ch : g_cheapest_tree [wD p ts, .ls (L.map D.int)] = .ok (.tp (B.map D.int))) {m : Int} (lo : g_length_of [wD p ts, .ls (L.map D.int), .tp (B.map D.int)] = .ok (.int m)) (gn : g_gains_of [wD p ts, .ls (L.map D.int), .tp (B.map D.int)] = .ok (.ol [])) (ic : g_is_cheapest [wD p ts, .ls (L.map D.int), .tp (B.map D.int)] = .ok (.bl true)) (ld : g_law_led_down [wD p ts, .ls (L.map D.int), .tp (A.map D.int), .int m] = .ok (.bl true)) (hM : (L.map fun l => l + 5) = M) (r1 : g_ranked [wD p ts, .ls (L.map D.int), .int 12] = .ok (.ol (Q.map dNT))) (hR : Q.map (shP (5 * ((p : Int) - 1))) = R) (bQ : Q.length ≤ lim) (r2 : g_ranked [wD p ts, .ls (M.map D.int), .int 12] = .ok (.ol (R.map dNT))) (hq : ∃ Z, Q = (m, B) :: Z) (hK : mkL ts.length A = K) (fr : g_far_tree [wD p ts, .tp (A.map D.int)] = .ok (.tp (F.map D.int))) (c2 : g_cheapest_tree [wD p ts, .ls (K.map D.int)] = .ok (.tp (F.map D.int))) {d f : Int} (df : g_differ [wD p ts, .tp (A.map D.int), .tp (F.map D.int)] = .ok (.int d)) (l2 : g_length_of [wD p ts, .ls (K.map D.int), .tp (F.map D.int)] = .ok (.int f)) (hd : d = (p : Int) - 1 - f) (hz : List.replicate ts.length (0 : Int) = Z0) (c3 : g_cheapest_tree [wD p ts, .ls (Z0.map D.int)] = .ok (.tp (W.map D.int))) (lt : g_least_tree [wD p ts] = .ok (.tp (W.map D.int))) (hp : 1 ≤ p) (hp2 : p ≤ 14) (ht : ts.length ≤ 30) : g_law_k95 [.sc (ns.map D.int)] = .ok (.bl true) := by
  obtain ⟨Z, hZ⟩ := hq
  have pF := eqT95 (A := F)
  have pW := eqT95 (A := W)
  have pR := eq_NT95 R
  have pM : pyEq (.tp [.int m, .tp (B.map D.int)]) (.tp [.int m, .tp (B.map D.int)]) = some true := by
    have := enc_NT.eq (by omega) (m, B) (m, B)
    simpa [dNT] using this
  have q0 : atI (Q.map dNT) 0 = some (.tp [.int m, .tp (B.map D.int)]) := by
    rw [hZ, List.map_cons]
    exact (atI_natG (i := 0) (j := 0) rfl (by simp)).trans rfl
  obtain ⟨t1, t2, t3, t4, t5, t6⟩ := dulls dull_P ts
  obtain ⟨u1, u2, u3, u4, u5, u6⟩ := dulls dullP95 Q
  obtain ⟨v1, v2, v3, v4, v5, v6⟩ := dulls dullP95 R
  have bL : L.length ≤ lim := by rw [t.Ll, lim_eq]; omega
  have hr : rgOk (ts.length : Int) := rgOk_of (by omega) (by omega)
  have om : opMul (.int 5) (.int ((p : Int) - 1)) = some (.int (5 * ((p : Int) - 1))) := opMul_l (by omega) (by omega)
  have lc1 : ∀ x0 x1 x2 x3 x4 x5 x6 x7 x8 x9 x10 x11 x12 x13 x15 x16 : D, lcL (gtN 14) tYesG f_law_k95_c1 [x0, x1, x2, x3, x4, x5, x6, x7, x8, x9, x10, x11, x12, x13, .un, x15, x16] (L.map D.int) = .ok (M.map D.int) := fun x0 x1 x2 x3 x4 x5 x6 x7 x8 x9 x10 x11 x12 x13 x15 x16 => by
    rw [← hM, List.map_map]
    refine lcL_mapN L fun l _ => ?_
    simp [f_law_k95_c1]
  have lc2 : ∀ x0 x2 x3 x4 x5 x6 x7 x8 x9 x10 x11 x12 x13 x16 : D, lcL (gtT 2 (gtCons (gtN 14) (gtCons (gtN 15) (gtNil)))) tYesG f_law_k95_c2 [x0, .int p, x2, x3, x4, x5, x6, x7, x8, x9, x10, x11, x12, x13, .un, .un, x16] (Q.map dNT) = .ok (R.map dNT) := fun x0 x2 x3 x4 x5 x6 x7 x8 x9 x10 x11 x12 x13 x16 => by
    rw [← hR, List.map_map]
    have l2 : 2 ≤ lim := by rw [lim_eq]; omega
    refine lcL_map Q fun y _ => ⟨[x0, .int p, x2, x3, x4, x5, x6, x7, x8, x9, x10, x11, x12, x13, .int y.1, .tp (y.2.map D.int), x16], rfl, ?_⟩
    simp [f_law_k95_c2, om, dNT, shP, l2]
  have lc3 : ∀ x0 x1 x2 x3 x4 x5 x7 x8 x9 x10 x11 x12 x13 x14 x15 : D, lcL (gtN 16) tYesG f_law_k95_c3 [x0, x1, x2, x3, x4, x5, .tp (A.map D.int), x7, x8, x9, x10, x11, x12, x13, x14, x15, .un] (rng 0 ts.length) = .ok (K.map D.int) := fun x0 x1 x2 x3 x4 x5 x7 x8 x9 x10 x11 x12 x13 x14 x15 => by
    rw [rng_iota, ← hK]
    unfold mkL
    rw [List.map_map]
    refine lcL_mapN _ fun y _ => ?_
    by_cases c : y ∈ A <;> simp [f_law_k95_c3, c]
  have lts : (ts.map dP).length = ts.length := List.length_map ..
  have lr : (rng 0 ts.length).length = ts.length := by rw [rng_iota]; unfold iota; simp
  have bt : ts.length ≤ lim := by rw [lim_eq]; omega
  have l1 : 1 ≤ lim := by rw [lim_eq]; omega
  have l22 : 2 ≤ lim := by rw [lim_eq]; omega
  have oz : opMul (.ls [.int 0]) (.int (ts.length : Int)) = some (.ol (Z0.map D.int)) := by
    rw [opMul_rep (by omega) (by omega) (by simp), Int.toNat_natCast, ← hz]
    congr 2
    induction ts.length with
    | zero => rfl
    | succ n ih => rw [List.replicate_succ, List.flatten_cons, ih, List.replicate_succ, List.map_cons]; rfl
  have lQ : (Q.map dNT).length = Q.length := List.length_map ..
  have hts6 : (ts.length : Int) ≤ 1000000 := by omega
  have hd' := fun (g3 : Env → Out) => head35 (R := [.un, .un, .un, .un, .un, .un, .un, .un, .un, .un, .un, .un]) (o := .rt (.bl true)) (g3 := g3) t
  clear t
  unfold wD at *
  generalize hQQ : Q.map dNT = QQ at *
  generalize hRR : R.map dNT = RR at *
  generalize hTT : ts.map dP = TT at *
  generalize hn : ts.length = n at *
  have lts' : (TT.length : Int) = (n : Int) := by rw [lts]
  have en : ((n : Int)).toNat = n := Int.toNat_natCast n
  clear lts
  generalize hpp : (p : Int) = pp at *
  generalize hnn : (n : Int) = nn at *
  have e : f_law_k95 [.sc (ns.map D.int), .un, .un, .un, .un, .un, .un, .un, .un, .un, .un, .un, .un, .un, .un, .un, .un] = .rt (.bl true) := by
    unfold f_law_k95
    refine hd' _ ?_
    refine seq_to (g1 := [.sc (ns.map D.int), .int pp, .ls TT, .ob 14 [.int pp, .ls TT], .ls (L.map D.int), .int (ns.sum % e60), .un, .un, .un, .un, .un, .un, .un, .un, .un, .un, .un]) (by simp [show (0 : Int) < e60 by decide]) ?_
    refine seq_to (g1 := [.sc (ns.map D.int), .int pp, .ls TT, .ob 14 [.int pp, .ls TT], .ls (L.map D.int), .int (ns.sum % e60), .tp (A.map D.int), .un, .un, .un, .un, .un, .un, .un, .un, .un, .un]) (by simp [tb, t1, t2, t4]) ?_
    refine seq_to (g1 := [.sc (ns.map D.int), .int pp, .ls TT, .ob 14 [.int pp, .ls TT], .ls (L.map D.int), .int (ns.sum % e60), .tp (A.map D.int), .un, .un, .un, .un, .un, .un, .un, .un, .un, .un]) (by simp []) ?_
    refine seq_to (g1 := [.sc (ns.map D.int), .int pp, .ls TT, .ob 14 [.int pp, .ls TT], .ls (L.map D.int), .int (ns.sum % e60), .tp (A.map D.int), .tp (B.map D.int), .un, .un, .un, .un, .un, .un, .un, .un, .un]) (by simp [ch, t1, t2, t4]) ?_
    refine seq_to (g1 := [.sc (ns.map D.int), .int pp, .ls TT, .ob 14 [.int pp, .ls TT], .ls (L.map D.int), .int (ns.sum % e60), .tp (A.map D.int), .tp (B.map D.int), .int m, .un, .un, .un, .un, .un, .un, .un, .un]) (by simp [lo, t1, t2, t4]) ?_
    refine seq_to (g1 := [.sc (ns.map D.int), .int pp, .ls TT, .ob 14 [.int pp, .ls TT], .ls (L.map D.int), .int (ns.sum % e60), .tp (A.map D.int), .tp (B.map D.int), .int m, .un, .un, .un, .un, .un, .un, .un, .un]) (by simp [gn, ic, show pyEq (.ls []) (.ls []) = some true from rfl, t1, t2, t4]) ?_
    refine seq_to (g1 := [.sc (ns.map D.int), .int pp, .ls TT, .ob 14 [.int pp, .ls TT], .ls (L.map D.int), .int (ns.sum % e60), .tp (A.map D.int), .tp (B.map D.int), .int m, .un, .un, .un, .un, .un, .un, .un, .un]) (by simp [ld, t1, t2, t4]) ?_
    refine seq_to (g1 := [.sc (ns.map D.int), .int pp, .ls TT, .ob 14 [.int pp, .ls TT], .ls (L.map D.int), .int (ns.sum % e60), .tp (A.map D.int), .tp (B.map D.int), .int m, .ls (M.map D.int), .un, .un, .un, .un, .un, .un, .un]) (by simp [lc1, bL]) ?_
    refine seq_to (g1 := [.sc (ns.map D.int), .int pp, .ls TT, .ob 14 [.int pp, .ls TT], .ls (L.map D.int), .int (ns.sum % e60), .tp (A.map D.int), .tp (B.map D.int), .int m, .ls (M.map D.int), .ls QQ, .un, .un, .un, .un, .un, .un]) (by simp [r1, u1, u2, u4, t1, t2, t4]) ?_
    refine seq_to (g1 := [.sc (ns.map D.int), .int pp, .ls TT, .ob 14 [.int pp, .ls TT], .ls (L.map D.int), .int (ns.sum % e60), .tp (A.map D.int), .tp (B.map D.int), .int m, .ls (M.map D.int), .ls QQ, .ls RR, .un, .un, .un, .un, .un]) (by simp [lc2, lQ, bQ, u1, v1, v2, v4]) ?_
    refine seq_to (g1 := [.sc (ns.map D.int), .int pp, .ls TT, .ob 14 [.int pp, .ls TT], .ls (L.map D.int), .int (ns.sum % e60), .tp (A.map D.int), .tp (B.map D.int), .int m, .ls (M.map D.int), .ls QQ, .ls RR, .un, .un, .un, .un, .un]) (by simp [r2, pR, q0, pM, l22, u1, u2, u4, v1, v2, v4, t1, t2, t4]) ?_
    refine seq_to (g1 := [.sc (ns.map D.int), .int pp, .ls TT, .ob 14 [.int pp, .ls TT], .ls (L.map D.int), .int (ns.sum % e60), .tp (A.map D.int), .tp (B.map D.int), .int m, .ls (M.map D.int), .ls QQ, .ls RR, .ls (K.map D.int), .un, .un, .un, .un]) (by simp [lts', hr, hts6, en, lc3, lr, bt]) ?_
    refine seq_to (g1 := [.sc (ns.map D.int), .int pp, .ls TT, .ob 14 [.int pp, .ls TT], .ls (L.map D.int), .int (ns.sum % e60), .tp (A.map D.int), .tp (B.map D.int), .int m, .ls (M.map D.int), .ls QQ, .ls RR, .ls (K.map D.int), .tp (F.map D.int), .un, .un, .un]) (by simp [fr, t1, t2, t4]) ?_
    refine seq_to (g1 := [.sc (ns.map D.int), .int pp, .ls TT, .ob 14 [.int pp, .ls TT], .ls (L.map D.int), .int (ns.sum % e60), .tp (A.map D.int), .tp (B.map D.int), .int m, .ls (M.map D.int), .ls QQ, .ls RR, .ls (K.map D.int), .tp (F.map D.int), .un, .un, .un]) (by simp [c2, pF, t1, t2, t4]) ?_
    refine seq_to (g1 := [.sc (ns.map D.int), .int pp, .ls TT, .ob 14 [.int pp, .ls TT], .ls (L.map D.int), .int (ns.sum % e60), .tp (A.map D.int), .tp (B.map D.int), .int m, .ls (M.map D.int), .ls QQ, .ls RR, .ls (K.map D.int), .tp (F.map D.int), .un, .un, .un]) (by simp [df, l2, hd, t1, t2, t4]) ?_
    have h1 : (eLst (aConsO (eC (.int 0)) (aNil))) [.sc (ns.map D.int), .int pp, .ls TT, .ob 14 [.int pp, .ls TT], .ls (L.map D.int), .int (ns.sum % e60), .tp (A.map D.int), .tp (B.map D.int), .int m, .ls (M.map D.int), .ls QQ, .ls RR, .ls (K.map D.int), .tp (F.map D.int), .un, .un, .un] = .ok (.ol [.int 0]) := by simp [l1]
    have h2 : (eCall caLen (aCons (eVar 2) (aNil))) [.sc (ns.map D.int), .int pp, .ls TT, .ob 14 [.int pp, .ls TT], .ls (L.map D.int), .int (ns.sum % e60), .tp (A.map D.int), .tp (B.map D.int), .int m, .ls (M.map D.int), .ls QQ, .ls RR, .ls (K.map D.int), .tp (F.map D.int), .un, .un, .un] = .ok (.int nn) := by simp [lts']
    have z1 := eBin_ok (op := opMul) h1 h2 oz
    simp [-eBin_, z1, c3, lt, pW, t1, t2, t4]
  exact rt39 e rfl
end
theorem true_law_k95 (ns : List Int) (h : ns.length ≤ 63) : g_law_k95 [.sc (ns.map D.int)] = .ok (.bl true) := by
  obtain ⟨p, ts, L, x, t⟩ := txw ns h 10 20 (by omega) (by omega) (by omega) (by omega)
  have hp := t.p1
  have hp2 : p ≤ 10 := by have := t.pm; omega
  have ht : ts.length ≤ 20 := by have := t.tl; omega
  have hE := t.hE
  have hL := t.Ll
  rcases tree_by_ok p ts hE (by omega) (by omega) (by omega) (ns.sum % e60) with tb | ⟨A, hA, tb⟩
  · exact k95_none t tb
  · have hj : trees p ts ≠ [] := fun z => by
      have := (trees_mem hp).mpr hA
      rw [z] at this
      exact nomatch this
    obtain ⟨k1, k2, k3⟩ := kru95 hp hE hL hj
    have ch := cheap_ok p hp (by omega) ts hE (by omega) L hL (w := .ls (L.map D.int)) (.inl rfl)
    rw [if_pos k1] at ch
    have lo := len95 hp (by omega) hL k2
    have g0 := (least95 hp hE hL hj k2).mpr rfl
    have gn := gains_ok p hp (by omega) ts hE (by omega) L hL _ k2 (w := .tp ((srt (kruT p ts L)).map D.int)) (.inr rfl)
    have ic := is_cheap_ok p hp (by omega) ts hE (by omega) L hL _ k2 (w := .tp ((srt (kruT p ts L)).map D.int)) (.inr rfl)
    rw [g0] at gn
    rw [decide_eq_true g0] at ic
    have ld := led_ok hp hp2 hE ht hL hj hA
    have r1 := ranked_ok hp (by omega) hE (by omega) (w := .ls (L.map D.int)) (.inl rfl) hL (most := 12) (by omega)
    have hM : (L.map fun l => l + 5).length = ts.length := by rw [List.length_map]; exact hL
    have r2 := ranked_ok hp (by omega) hE (by omega) (w := .ls ((L.map fun l => l + 5).map D.int)) (.inl rfl) hM (most := 12) (by omega)
    rw [rank_shift hp hL 5, ← List.map_take] at r2
    obtain ⟨Z, hZ⟩ := rank_head hp hE hL hj
    have fr := far_ok p hp (by omega) ts hE (by omega) A hA (w := .tp (A.map D.int)) (.inr rfl)
    have e95 := far95 hp hE hA
    have mk := mkL_len ts.length A
    obtain ⟨m1, m2, _⟩ := kru95 hp hE mk hj
    have c2 := cheap_ok p hp (by omega) ts hE (by omega) (mkL ts.length A) mk (w := .ls ((mkL ts.length A).map D.int)) (.inl rfl)
    rw [if_pos m1, ← e95] at c2
    have m2' := m2
    rw [← e95] at m2'
    have df := differ_ok p hp (by omega) ts hE A _ hA m2' (oa := .tp (A.map D.int)) (ob := .tp ((srt (farB p ts A)).map D.int)) (.inr rfl) (.inr rfl)
    have l2 := len95 hp (by omega) mk m2'
    have zl : (List.replicate ts.length (0 : Int)).length = ts.length := List.length_replicate ..
    obtain ⟨z1, z2, _⟩ := kru95 hp hE zl hj
    have c3 := cheap_ok p hp (by omega) ts hE (by omega) (List.replicate ts.length 0) zl (w := .ls ((List.replicate ts.length (0 : Int)).map D.int)) (.inl rfl)
    rw [if_pos z1, zero95 hp hE hj] at c3
    have lt := least_ok27 hp (by omega) hE (by omega)
    rw [if_neg hj] at lt
    have lA := tree_len hp hA
    have ca := com_alone (T := A) (F := srt (farB p ts A)) (rise_nodup (tree_rise hA)) (rise_nodup (tree_rise m2'))
    refine k95_yes t tb ch lo gn ic ld rfl r1 rfl (Nat.le_trans (List.length_take_le ..) (by rw [lim_eq]; omega)) r2 ⟨_, by rw [hZ]; rfl⟩ rfl fr c2 df l2 ?_ rfl c3 lt hp (by omega) (by omega)
    rw [lsum_mk _ (tree_ind m2' hp).inn]
    omega
end Lw
end

namespace Lw
open PySem L2 DL
def top (i : Nat) : Stmt := PySem.Challenge.pw_spanrow_k95_whole_cheapest_and_papers.main.body.getD i (.Pass ⟨0, 0, 0, 0⟩)
abbrev s_Web_init : Stmt := inClass (top 12) 0
abbrev s_made_set : Stmt := top 13
abbrev s_marks_over : Stmt := top 14
abbrev s_joined_ends : Stmt := top 15
abbrev s_is_tree : Stmt := top 17
abbrev s_look_at_tree : Stmt := top 18
abbrev s_grown : Stmt := top 20
abbrev s_least_tree : Stmt := top 21
abbrev s_without_tie : Stmt := top 22
abbrev s_cut_of : Stmt := top 23
abbrev s_exchanges_of : Stmt := top 24
abbrev s_exchanged : Stmt := top 25
abbrev s_look_at_lengths : Stmt := top 27
abbrev s_length_of : Stmt := top 28
abbrev s_by_length : Stmt := top 29
abbrev s_heads_joined : Stmt := top 30
abbrev s_cheapest_tree : Stmt := top 31
abbrev s_gains_of : Stmt := top 32
abbrev s_is_cheapest : Stmt := top 33
abbrev s_look_at_tree__2 : Stmt := top 35
abbrev s_alone_in : Stmt := top 37
abbrev s_differ : Stmt := top 38
abbrev s_far_tree : Stmt := top 39
abbrev s_shortest_with : Stmt := top 41
abbrev s_put_found : Stmt := top 42
abbrev s_parts_behind : Stmt := top 43
abbrev s_ranked : Stmt := top 44
abbrev s_number_written : Stmt := top 48
abbrev s_numbers_behind : Stmt := top 49
abbrev s_read_web : Stmt := top 50
abbrev s_law_cell : Stmt := top 52
abbrev s_law_mixed : Stmt := top 53
abbrev s_law_draws : Stmt := top 54
abbrev s_law_ties : Stmt := top 55
abbrev s_law_web : Stmt := top 56
abbrev s_law_marks : Stmt := top 57
abbrev s_law_tree_by : Stmt := top 58
abbrev s_law_lengths_v2 : Stmt := top 59
abbrev s_law_text : Stmt := top 60
abbrev s_law_led_down : Stmt := top 61
abbrev s_law_k95 : Stmt := top 62
abbrev N_Web_init : List Str := ["self", "places", "ties", "one", "other"]
abbrev N_made_set : List Str := ["web", "ties", "ahead", "tie"]
abbrev N_marks_over : List Str := ["web", "ties", "marks", "tie", "one", "other", "low", "high", "mark"]
abbrev N_joined_ends : List Str := ["web", "ties", "one", "other", "marks"]
abbrev N_is_tree : List Str := ["web", "ties", "ahead", "tie"]
abbrev N_look_at_tree : List Str := ["web", "tree"]
abbrev N_grown : List Str := ["web", "kept", "order", "told", "marks", "tie", "one", "other"]
abbrev N_least_tree : List Str := ["web", "tree"]
abbrev N_without_tie : List Str := ["ties", "tie", "other"]
abbrev N_cut_of : List Str := ["web", "tree", "tie", "marks", "k", "ends"]
abbrev N_exchanges_of : List Str := ["web", "tree", "told", "out", "into"]
abbrev N_exchanged : List Str := ["web", "tree", "out", "into", "told"]
abbrev N_look_at_lengths : List Str := ["web", "lengths"]
abbrev N_length_of : List Str := ["web", "lengths", "ties", "tie"]
abbrev N_by_length : List Str := ["lengths", "pair", "tie", "length"]
abbrev N_heads_joined : List Str := ["heads", "ends", "one", "other", "head"]
abbrev N_cheapest_tree : List Str := ["web", "lengths", "told", "heads", "tie", "behind"]
abbrev N_gains_of : List Str := ["web", "lengths", "tree", "pair"]
abbrev N_is_cheapest : List Str := ["web", "lengths", "tree"]
abbrev N_look_at_tree__2 : List Str := ["web", "tree"]
abbrev N_alone_in : List Str := ["one", "other", "tie"]
abbrev N_differ : List Str := ["web", "one", "other"]
abbrev N_far_tree : List Str := ["web", "tree", "others", "chosen", "tie", "one", "two"]
abbrev N_shortest_with : List Str := ["web", "order", "inside", "outside", "told", "heads", "tie", "behind"]
abbrev N_put_found : List Str := ["found", "lengths", "tree", "inside", "outside", "tie"]
abbrev N_parts_behind : List Str := ["web", "lengths", "order", "best", "found", "length", "tree", "inside", "outside", "tie", "shut"]
abbrev N_ranked : List Str := ["web", "lengths", "most", "order", "found", "told", "best"]
abbrev N_number_written : List Str := ["word", "figures", "sign"]
abbrev N_numbers_behind : List Str := ["line", "word", "count", "words", "other"]
abbrev N_read_web : List Str := ["text", "lines", "places", "rows", "line", "row"]
abbrev N_law_cell : List Str := ["script", "k"]
abbrev N_law_mixed : List Str := ["cell", "k", "first", "second"]
abbrev N_law_draws : List Str := ["script", "start", "count", "way", "total", "folded", "k", "at", "told", "cell"]
abbrev N_law_ties : List Str := ["draws", "places", "hang", "ties", "k", "one", "other", "ends", "turn"]
abbrev N_law_web : List Str := ["script", "most", "count", "head", "places", "many", "draws"]
abbrev N_law_marks : List Str := ["places", "ties", "some", "marks", "tie", "one", "other", "gone", "kept", "place"]
abbrev N_law_tree_by : List Str := ["places", "ties", "cell", "left", "some", "marks", "k", "tie", "one", "other"]
abbrev N_law_lengths_v2 : List Str := ["script", "count", "folded", "k", "told", "m"]
abbrev N_law_text : List Str := ["places", "ties", "lengths", "lines", "k", "words"]
abbrev N_law_led_down : List Str := ["web", "lengths", "tree", "least", "here", "turn", "gains", "done", "out", "into", "further", "less"]
abbrev N_law_k95 : List Str := ["script", "places", "ties", "web", "lengths", "total", "tree", "best", "least", "more", "ranks", "longer", "marks", "far", "length", "one", "tie"]
theorem sc_Web_init : FnScope ["self", "places", "ties", "one", "other"] ["self", "places", "ties"] (defScope s_Web_init) := ⟨rfl, rfl, rfl, by decide +kernel, rfl, by decide +kernel, by decide +kernel⟩
theorem sc_made_set : FnScope ["web", "ties", "ahead", "tie"] ["web", "ties"] (defScope s_made_set) := ⟨rfl, rfl, rfl, by decide +kernel, rfl, by decide +kernel, by decide +kernel⟩
theorem sc_marks_over : FnScope ["web", "ties", "marks", "tie", "one", "other", "low", "high", "mark"] ["web", "ties"] (defScope s_marks_over) := ⟨rfl, rfl, rfl, by decide +kernel, rfl, by decide +kernel, by decide +kernel⟩
theorem sc_joined_ends : FnScope ["web", "ties", "one", "other", "marks"] ["web", "ties", "one", "other"] (defScope s_joined_ends) := ⟨rfl, rfl, rfl, by decide +kernel, rfl, by decide +kernel, by decide +kernel⟩
theorem sc_is_tree : FnScope ["web", "ties", "ahead", "tie"] ["web", "ties"] (defScope s_is_tree) := ⟨rfl, rfl, rfl, by decide +kernel, rfl, by decide +kernel, by decide +kernel⟩
theorem sc_look_at_tree : FnScope ["web", "tree"] ["web", "tree"] (defScope s_look_at_tree) := ⟨rfl, rfl, rfl, by decide +kernel, rfl, by decide +kernel, by decide +kernel⟩
theorem sc_grown : FnScope ["web", "kept", "order", "told", "marks", "tie", "one", "other"] ["web", "kept", "order"] (defScope s_grown) := ⟨rfl, rfl, rfl, by decide +kernel, rfl, by decide +kernel, by decide +kernel⟩
theorem sc_least_tree : FnScope ["web", "tree"] ["web"] (defScope s_least_tree) := ⟨rfl, rfl, rfl, by decide +kernel, rfl, by decide +kernel, by decide +kernel⟩
theorem sc_without_tie : FnScope ["ties", "tie", "other"] ["ties", "tie"] (defScope s_without_tie) := ⟨rfl, rfl, rfl, by decide +kernel, rfl, by decide +kernel, by decide +kernel⟩
theorem sc_cut_of : FnScope ["web", "tree", "tie", "marks", "k", "ends"] ["web", "tree", "tie"] (defScope s_cut_of) := ⟨rfl, rfl, rfl, by decide +kernel, rfl, by decide +kernel, by decide +kernel⟩
theorem sc_exchanges_of : FnScope ["web", "tree", "told", "out", "into"] ["web", "tree"] (defScope s_exchanges_of) := ⟨rfl, rfl, rfl, by decide +kernel, rfl, by decide +kernel, by decide +kernel⟩
theorem sc_exchanged : FnScope ["web", "tree", "out", "into", "told"] ["web", "tree", "out", "into"] (defScope s_exchanged) := ⟨rfl, rfl, rfl, by decide +kernel, rfl, by decide +kernel, by decide +kernel⟩
theorem sc_look_at_lengths : FnScope ["web", "lengths"] ["web", "lengths"] (defScope s_look_at_lengths) := ⟨rfl, rfl, rfl, by decide +kernel, rfl, by decide +kernel, by decide +kernel⟩
theorem sc_length_of : FnScope ["web", "lengths", "ties", "tie"] ["web", "lengths", "ties"] (defScope s_length_of) := ⟨rfl, rfl, rfl, by decide +kernel, rfl, by decide +kernel, by decide +kernel⟩
theorem sc_by_length : FnScope ["lengths", "pair", "tie", "length"] ["lengths"] (defScope s_by_length) := ⟨rfl, rfl, rfl, by decide +kernel, rfl, by decide +kernel, by decide +kernel⟩
theorem sc_heads_joined : FnScope ["heads", "ends", "one", "other", "head"] ["heads", "ends"] (defScope s_heads_joined) := ⟨rfl, rfl, rfl, by decide +kernel, rfl, by decide +kernel, by decide +kernel⟩
theorem sc_cheapest_tree : FnScope ["web", "lengths", "told", "heads", "tie", "behind"] ["web", "lengths"] (defScope s_cheapest_tree) := ⟨rfl, rfl, rfl, by decide +kernel, rfl, by decide +kernel, by decide +kernel⟩
theorem sc_gains_of : FnScope ["web", "lengths", "tree", "pair"] ["web", "lengths", "tree"] (defScope s_gains_of) := ⟨rfl, rfl, rfl, by decide +kernel, rfl, by decide +kernel, by decide +kernel⟩
theorem sc_is_cheapest : FnScope ["web", "lengths", "tree"] ["web", "lengths", "tree"] (defScope s_is_cheapest) := ⟨rfl, rfl, rfl, by decide +kernel, rfl, by decide +kernel, by decide +kernel⟩
theorem sc_look_at_tree__2 : FnScope ["web", "tree"] ["web", "tree"] (defScope s_look_at_tree__2) := ⟨rfl, rfl, rfl, by decide +kernel, rfl, by decide +kernel, by decide +kernel⟩
theorem sc_alone_in : FnScope ["one", "other", "tie"] ["one", "other"] (defScope s_alone_in) := ⟨rfl, rfl, rfl, by decide +kernel, rfl, by decide +kernel, by decide +kernel⟩
theorem sc_differ : FnScope ["web", "one", "other"] ["web", "one", "other"] (defScope s_differ) := ⟨rfl, rfl, rfl, by decide +kernel, rfl, by decide +kernel, by decide +kernel⟩
theorem sc_far_tree : FnScope ["web", "tree", "others", "chosen", "tie", "one", "two"] ["web", "tree"] (defScope s_far_tree) := ⟨rfl, rfl, rfl, by decide +kernel, rfl, by decide +kernel, by decide +kernel⟩
theorem sc_shortest_with : FnScope ["web", "order", "inside", "outside", "told", "heads", "tie", "behind"] ["web", "order", "inside", "outside"] (defScope s_shortest_with) := ⟨rfl, rfl, rfl, by decide +kernel, rfl, by decide +kernel, by decide +kernel⟩
theorem sc_put_found : FnScope ["found", "lengths", "tree", "inside", "outside", "tie"] ["found", "lengths", "tree", "inside", "outside"] (defScope s_put_found) := ⟨rfl, rfl, rfl, by decide +kernel, rfl, by decide +kernel, by decide +kernel⟩
theorem sc_parts_behind : FnScope ["web", "lengths", "order", "best", "found", "length", "tree", "inside", "outside", "tie", "shut"] ["web", "lengths", "order", "best"] (defScope s_parts_behind) := ⟨rfl, rfl, rfl, by decide +kernel, rfl, by decide +kernel, by decide +kernel⟩
theorem sc_ranked : FnScope ["web", "lengths", "most", "order", "found", "told", "best"] ["web", "lengths", "most"] (defScope s_ranked) := ⟨rfl, rfl, rfl, by decide +kernel, rfl, by decide +kernel, by decide +kernel⟩
theorem sc_number_written : FnScope ["word", "figures", "sign"] ["word"] (defScope s_number_written) := ⟨rfl, rfl, rfl, by decide +kernel, rfl, by decide +kernel, by decide +kernel⟩
theorem sc_numbers_behind : FnScope ["line", "word", "count", "words", "other"] ["line", "word", "count"] (defScope s_numbers_behind) := ⟨rfl, rfl, rfl, by decide +kernel, rfl, by decide +kernel, by decide +kernel⟩
theorem sc_read_web : FnScope ["text", "lines", "places", "rows", "line", "row"] ["text"] (defScope s_read_web) := ⟨rfl, rfl, rfl, by decide +kernel, rfl, by decide +kernel, by decide +kernel⟩
theorem sc_law_cell : FnScope ["script", "k"] ["script", "k"] (defScope s_law_cell) := ⟨rfl, rfl, rfl, by decide +kernel, rfl, by decide +kernel, by decide +kernel⟩
theorem sc_law_mixed : FnScope ["cell", "k", "first", "second"] ["cell", "k"] (defScope s_law_mixed) := ⟨rfl, rfl, rfl, by decide +kernel, rfl, by decide +kernel, by decide +kernel⟩
theorem sc_law_draws : FnScope ["script", "start", "count", "way", "total", "folded", "k", "at", "told", "cell"] ["script", "start", "count", "way"] (defScope s_law_draws) := ⟨rfl, rfl, rfl, by decide +kernel, rfl, by decide +kernel, by decide +kernel⟩
theorem sc_law_ties : FnScope ["draws", "places", "hang", "ties", "k", "one", "other", "ends", "turn"] ["draws", "places", "hang"] (defScope s_law_ties) := ⟨rfl, rfl, rfl, by decide +kernel, rfl, by decide +kernel, by decide +kernel⟩
theorem sc_law_web : FnScope ["script", "most", "count", "head", "places", "many", "draws"] ["script", "most", "count"] (defScope s_law_web) := ⟨rfl, rfl, rfl, by decide +kernel, rfl, by decide +kernel, by decide +kernel⟩
theorem sc_law_marks : FnScope ["places", "ties", "some", "marks", "tie", "one", "other", "gone", "kept", "place"] ["places", "ties", "some"] (defScope s_law_marks) := ⟨rfl, rfl, rfl, by decide +kernel, rfl, by decide +kernel, by decide +kernel⟩
theorem sc_law_tree_by : FnScope ["places", "ties", "cell", "left", "some", "marks", "k", "tie", "one", "other"] ["places", "ties", "cell"] (defScope s_law_tree_by) := ⟨rfl, rfl, rfl, by decide +kernel, rfl, by decide +kernel, by decide +kernel⟩
theorem sc_law_lengths_v2 : FnScope ["script", "count", "folded", "k", "told", "m"] ["script", "count"] (defScope s_law_lengths_v2) := ⟨rfl, rfl, rfl, by decide +kernel, rfl, by decide +kernel, by decide +kernel⟩
theorem sc_law_text : FnScope ["places", "ties", "lengths", "lines", "k", "words"] ["places", "ties", "lengths"] (defScope s_law_text) := ⟨rfl, rfl, rfl, by decide +kernel, rfl, by decide +kernel, by decide +kernel⟩
theorem sc_law_led_down : FnScope ["web", "lengths", "tree", "least", "here", "turn", "gains", "done", "out", "into", "further", "less"] ["web", "lengths", "tree", "least"] (defScope s_law_led_down) := ⟨rfl, rfl, rfl, by decide +kernel, rfl, by decide +kernel, by decide +kernel⟩
theorem sc_law_k95 : FnScope ["script", "places", "ties", "web", "lengths", "total", "tree", "best", "least", "more", "ranks", "longer", "marks", "far", "length", "one", "tie"] ["script"] (defScope s_law_k95) := ⟨rfl, rfl, rfl, by decide +kernel, rfl, by decide +kernel, by decide +kernel⟩
set_option maxHeartbeats 8000000 in
structure Tx (K : PySem.W.Frag) (mg : Str → Option Value) : Type where
  C_WebError : Addr
  C_BadWeb : Addr
  C_BadSet : Addr
  C_Parted : Addr
  C_NoTree : Addr
  C_NoTie : Addr
  C_BadRow : Addr
  C_BadText : Addr
  C_Web : Addr
  a_Web_init : Addr
  d_Web_init : FuncData
  a_made_set : Addr
  d_made_set : FuncData
  a_marks_over : Addr
  d_marks_over : FuncData
  a_joined_ends : Addr
  d_joined_ends : FuncData
  a_is_tree : Addr
  d_is_tree : FuncData
  a_look_at_tree : Addr
  d_look_at_tree : FuncData
  a_grown : Addr
  d_grown : FuncData
  a_least_tree : Addr
  d_least_tree : FuncData
  a_without_tie : Addr
  d_without_tie : FuncData
  a_cut_of : Addr
  d_cut_of : FuncData
  a_exchanges_of : Addr
  d_exchanges_of : FuncData
  a_exchanged : Addr
  d_exchanged : FuncData
  a_look_at_lengths : Addr
  d_look_at_lengths : FuncData
  a_length_of : Addr
  d_length_of : FuncData
  a_by_length : Addr
  d_by_length : FuncData
  a_heads_joined : Addr
  d_heads_joined : FuncData
  a_cheapest_tree : Addr
  d_cheapest_tree : FuncData
  a_gains_of : Addr
  d_gains_of : FuncData
  a_is_cheapest : Addr
  d_is_cheapest : FuncData
  a_look_at_tree__2 : Addr
  d_look_at_tree__2 : FuncData
  a_alone_in : Addr
  d_alone_in : FuncData
  a_differ : Addr
  d_differ : FuncData
  a_far_tree : Addr
  d_far_tree : FuncData
  a_shortest_with : Addr
  d_shortest_with : FuncData
  a_put_found : Addr
  d_put_found : FuncData
  a_parts_behind : Addr
  d_parts_behind : FuncData
  a_ranked : Addr
  d_ranked : FuncData
  a_number_written : Addr
  d_number_written : FuncData
  a_numbers_behind : Addr
  d_numbers_behind : FuncData
  a_read_web : Addr
  d_read_web : FuncData
  a_law_cell : Addr
  d_law_cell : FuncData
  a_law_mixed : Addr
  d_law_mixed : FuncData
  a_law_draws : Addr
  d_law_draws : FuncData
  a_law_ties : Addr
  d_law_ties : FuncData
  a_law_web : Addr
  d_law_web : FuncData
  a_law_marks : Addr
  d_law_marks : FuncData
  a_law_tree_by : Addr
  d_law_tree_by : FuncData
  a_law_lengths_v2 : Addr
  d_law_lengths_v2 : FuncData
  a_law_text : Addr
  d_law_text : FuncData
  a_law_led_down : Addr
  d_law_led_down : FuncData
  a_law_k95 : Addr
  d_law_k95 : FuncData
  t_MOST_PLACES : Tok
  t_MOST_TIES : Tok
  t_FIGURES : Tok
  t_MOST_FIGURES : Tok
  m_WebError : mg "WebError" = some (.ref C_WebError)
  x_WebError : PySem.W.excIn K C_WebError [.type "ValueError", .type "Exception", .type "BaseException", .type "object"] "ValueError.__new__" = true
  kx_WebError : PySem.W.keepIn K (.ref C_WebError) = true
  bx_WebError : PySem.W.subIn K (.ref C_WebError) (.type "BaseException") = some true
  tx_WebError : PySem.W.typeIn K (.ref C_WebError) = some (.type "type")
  m_BadWeb : mg "BadWeb" = some (.ref C_BadWeb)
  x_BadWeb : PySem.W.excIn K C_BadWeb [.type "ValueError", .type "Exception", .type "BaseException", .type "object"] "ValueError.__new__" = true
  kx_BadWeb : PySem.W.keepIn K (.ref C_BadWeb) = true
  bx_BadWeb : PySem.W.subIn K (.ref C_BadWeb) (.type "BaseException") = some true
  tx_BadWeb : PySem.W.typeIn K (.ref C_BadWeb) = some (.type "type")
  m_BadSet : mg "BadSet" = some (.ref C_BadSet)
  x_BadSet : PySem.W.excIn K C_BadSet [.type "ValueError", .type "Exception", .type "BaseException", .type "object"] "ValueError.__new__" = true
  kx_BadSet : PySem.W.keepIn K (.ref C_BadSet) = true
  bx_BadSet : PySem.W.subIn K (.ref C_BadSet) (.type "BaseException") = some true
  tx_BadSet : PySem.W.typeIn K (.ref C_BadSet) = some (.type "type")
  m_Parted : mg "Parted" = some (.ref C_Parted)
  x_Parted : PySem.W.excIn K C_Parted [.type "ValueError", .type "Exception", .type "BaseException", .type "object"] "ValueError.__new__" = true
  kx_Parted : PySem.W.keepIn K (.ref C_Parted) = true
  bx_Parted : PySem.W.subIn K (.ref C_Parted) (.type "BaseException") = some true
  tx_Parted : PySem.W.typeIn K (.ref C_Parted) = some (.type "type")
  m_NoTree : mg "NoTree" = some (.ref C_NoTree)
  x_NoTree : PySem.W.excIn K C_NoTree [.type "ValueError", .type "Exception", .type "BaseException", .type "object"] "ValueError.__new__" = true
  kx_NoTree : PySem.W.keepIn K (.ref C_NoTree) = true
  bx_NoTree : PySem.W.subIn K (.ref C_NoTree) (.type "BaseException") = some true
  tx_NoTree : PySem.W.typeIn K (.ref C_NoTree) = some (.type "type")
  m_NoTie : mg "NoTie" = some (.ref C_NoTie)
  x_NoTie : PySem.W.excIn K C_NoTie [.type "ValueError", .type "Exception", .type "BaseException", .type "object"] "ValueError.__new__" = true
  kx_NoTie : PySem.W.keepIn K (.ref C_NoTie) = true
  bx_NoTie : PySem.W.subIn K (.ref C_NoTie) (.type "BaseException") = some true
  tx_NoTie : PySem.W.typeIn K (.ref C_NoTie) = some (.type "type")
  m_BadRow : mg "BadRow" = some (.ref C_BadRow)
  x_BadRow : PySem.W.excIn K C_BadRow [.type "ValueError", .type "Exception", .type "BaseException", .type "object"] "ValueError.__new__" = true
  kx_BadRow : PySem.W.keepIn K (.ref C_BadRow) = true
  bx_BadRow : PySem.W.subIn K (.ref C_BadRow) (.type "BaseException") = some true
  tx_BadRow : PySem.W.typeIn K (.ref C_BadRow) = some (.type "type")
  m_BadText : mg "BadText" = some (.ref C_BadText)
  x_BadText : PySem.W.excIn K C_BadText [.type "ValueError", .type "Exception", .type "BaseException", .type "object"] "ValueError.__new__" = true
  kx_BadText : PySem.W.keepIn K (.ref C_BadText) = true
  bx_BadText : PySem.W.subIn K (.ref C_BadText) (.type "BaseException") = some true
  tx_BadText : PySem.W.typeIn K (.ref C_BadText) = some (.type "type")
  m_Web : mg "Web" = some (.ref C_Web)
  cl_Web : L2.Cls K C_Web
  na_Web_places : NoAttr K C_Web "places"
  na_Web_ties : NoAttr K C_Web "ties"
  mk_Web : Mk K C_Web a_Web_init
  F_Web_init : Fun K "__init__" "Web.__init__" s_Web_init a_Web_init d_Web_init
  b_Web_init : Binds K d_Web_init ["self", "places", "ties"] []
  k_Web_init : PySem.W.keepIn K (.ref a_Web_init) = true
  F_made_set : Fun K "made_set" "made_set" s_made_set a_made_set d_made_set
  b_made_set : Binds K d_made_set ["web", "ties"] []
  m_made_set : mg "made_set" = some (.ref a_made_set)
  k_made_set : PySem.W.keepIn K (.ref a_made_set) = true
  F_marks_over : Fun K "marks_over" "marks_over" s_marks_over a_marks_over d_marks_over
  b_marks_over : Binds K d_marks_over ["web", "ties"] []
  m_marks_over : mg "marks_over" = some (.ref a_marks_over)
  k_marks_over : PySem.W.keepIn K (.ref a_marks_over) = true
  F_joined_ends : Fun K "joined_ends" "joined_ends" s_joined_ends a_joined_ends d_joined_ends
  b_joined_ends : Binds K d_joined_ends ["web", "ties", "one", "other"] []
  m_joined_ends : mg "joined_ends" = some (.ref a_joined_ends)
  k_joined_ends : PySem.W.keepIn K (.ref a_joined_ends) = true
  F_is_tree : Fun K "is_tree" "is_tree" s_is_tree a_is_tree d_is_tree
  b_is_tree : Binds K d_is_tree ["web", "ties"] []
  m_is_tree : mg "is_tree" = some (.ref a_is_tree)
  k_is_tree : PySem.W.keepIn K (.ref a_is_tree) = true
  F_look_at_tree : Fun K "look_at_tree" "look_at_tree" s_look_at_tree a_look_at_tree d_look_at_tree
  b_look_at_tree : Binds K d_look_at_tree ["web", "tree"] []
  m_look_at_tree : mg "look_at_tree_trees" = some (.ref a_look_at_tree)
  k_look_at_tree : PySem.W.keepIn K (.ref a_look_at_tree) = true
  F_grown : Fun K "grown" "grown" s_grown a_grown d_grown
  b_grown : Binds K d_grown ["web", "kept", "order"] []
  m_grown : mg "grown" = some (.ref a_grown)
  k_grown : PySem.W.keepIn K (.ref a_grown) = true
  F_least_tree : Fun K "least_tree" "least_tree" s_least_tree a_least_tree d_least_tree
  b_least_tree : Binds K d_least_tree ["web"] []
  m_least_tree : mg "least_tree" = some (.ref a_least_tree)
  k_least_tree : PySem.W.keepIn K (.ref a_least_tree) = true
  F_without_tie : Fun K "without_tie" "without_tie" s_without_tie a_without_tie d_without_tie
  b_without_tie : Binds K d_without_tie ["ties", "tie"] []
  m_without_tie : mg "without_tie" = some (.ref a_without_tie)
  k_without_tie : PySem.W.keepIn K (.ref a_without_tie) = true
  F_cut_of : Fun K "cut_of" "cut_of" s_cut_of a_cut_of d_cut_of
  b_cut_of : Binds K d_cut_of ["web", "tree", "tie"] []
  m_cut_of : mg "cut_of" = some (.ref a_cut_of)
  k_cut_of : PySem.W.keepIn K (.ref a_cut_of) = true
  F_exchanges_of : Fun K "exchanges_of" "exchanges_of" s_exchanges_of a_exchanges_of d_exchanges_of
  b_exchanges_of : Binds K d_exchanges_of ["web", "tree"] []
  m_exchanges_of : mg "exchanges_of" = some (.ref a_exchanges_of)
  k_exchanges_of : PySem.W.keepIn K (.ref a_exchanges_of) = true
  F_exchanged : Fun K "exchanged" "exchanged" s_exchanged a_exchanged d_exchanged
  b_exchanged : Binds K d_exchanged ["web", "tree", "out", "into"] []
  m_exchanged : mg "exchanged" = some (.ref a_exchanged)
  k_exchanged : PySem.W.keepIn K (.ref a_exchanged) = true
  F_look_at_lengths : Fun K "look_at_lengths" "look_at_lengths" s_look_at_lengths a_look_at_lengths d_look_at_lengths
  b_look_at_lengths : Binds K d_look_at_lengths ["web", "lengths"] []
  m_look_at_lengths : mg "look_at_lengths" = some (.ref a_look_at_lengths)
  k_look_at_lengths : PySem.W.keepIn K (.ref a_look_at_lengths) = true
  F_length_of : Fun K "length_of" "length_of" s_length_of a_length_of d_length_of
  b_length_of : Binds K d_length_of ["web", "lengths", "ties"] []
  m_length_of : mg "length_of" = some (.ref a_length_of)
  k_length_of : PySem.W.keepIn K (.ref a_length_of) = true
  F_by_length : Fun K "by_length" "by_length" s_by_length a_by_length d_by_length
  b_by_length : Binds K d_by_length ["lengths"] []
  m_by_length : mg "by_length" = some (.ref a_by_length)
  k_by_length : PySem.W.keepIn K (.ref a_by_length) = true
  F_heads_joined : Fun K "heads_joined" "heads_joined" s_heads_joined a_heads_joined d_heads_joined
  b_heads_joined : Binds K d_heads_joined ["heads", "ends"] []
  m_heads_joined : mg "heads_joined" = some (.ref a_heads_joined)
  k_heads_joined : PySem.W.keepIn K (.ref a_heads_joined) = true
  F_cheapest_tree : Fun K "cheapest_tree" "cheapest_tree" s_cheapest_tree a_cheapest_tree d_cheapest_tree
  b_cheapest_tree : Binds K d_cheapest_tree ["web", "lengths"] []
  m_cheapest_tree : mg "cheapest_tree" = some (.ref a_cheapest_tree)
  k_cheapest_tree : PySem.W.keepIn K (.ref a_cheapest_tree) = true
  F_gains_of : Fun K "gains_of" "gains_of" s_gains_of a_gains_of d_gains_of
  b_gains_of : Binds K d_gains_of ["web", "lengths", "tree"] []
  m_gains_of : mg "gains_of" = some (.ref a_gains_of)
  k_gains_of : PySem.W.keepIn K (.ref a_gains_of) = true
  F_is_cheapest : Fun K "is_cheapest" "is_cheapest" s_is_cheapest a_is_cheapest d_is_cheapest
  b_is_cheapest : Binds K d_is_cheapest ["web", "lengths", "tree"] []
  m_is_cheapest : mg "is_cheapest" = some (.ref a_is_cheapest)
  k_is_cheapest : PySem.W.keepIn K (.ref a_is_cheapest) = true
  F_look_at_tree__2 : Fun K "look_at_tree" "look_at_tree" s_look_at_tree__2 a_look_at_tree__2 d_look_at_tree__2
  b_look_at_tree__2 : Binds K d_look_at_tree__2 ["web", "tree"] []
  m_look_at_tree__2 : mg "look_at_tree_between" = some (.ref a_look_at_tree__2)
  k_look_at_tree__2 : PySem.W.keepIn K (.ref a_look_at_tree__2) = true
  F_alone_in : Fun K "alone_in" "alone_in" s_alone_in a_alone_in d_alone_in
  b_alone_in : Binds K d_alone_in ["one", "other"] []
  m_alone_in : mg "alone_in" = some (.ref a_alone_in)
  k_alone_in : PySem.W.keepIn K (.ref a_alone_in) = true
  F_differ : Fun K "differ" "differ" s_differ a_differ d_differ
  b_differ : Binds K d_differ ["web", "one", "other"] []
  m_differ : mg "differ" = some (.ref a_differ)
  k_differ : PySem.W.keepIn K (.ref a_differ) = true
  F_far_tree : Fun K "far_tree" "far_tree" s_far_tree a_far_tree d_far_tree
  b_far_tree : Binds K d_far_tree ["web", "tree"] []
  m_far_tree : mg "far_tree" = some (.ref a_far_tree)
  k_far_tree : PySem.W.keepIn K (.ref a_far_tree) = true
  F_shortest_with : Fun K "shortest_with" "shortest_with" s_shortest_with a_shortest_with d_shortest_with
  b_shortest_with : Binds K d_shortest_with ["web", "order", "inside", "outside"] []
  m_shortest_with : mg "shortest_with" = some (.ref a_shortest_with)
  k_shortest_with : PySem.W.keepIn K (.ref a_shortest_with) = true
  F_put_found : Fun K "put_found" "put_found" s_put_found a_put_found d_put_found
  b_put_found : Binds K d_put_found ["found", "lengths", "tree", "inside", "outside"] []
  m_put_found : mg "put_found" = some (.ref a_put_found)
  k_put_found : PySem.W.keepIn K (.ref a_put_found) = true
  F_parts_behind : Fun K "parts_behind" "parts_behind" s_parts_behind a_parts_behind d_parts_behind
  b_parts_behind : Binds K d_parts_behind ["web", "lengths", "order", "best"] []
  m_parts_behind : mg "parts_behind" = some (.ref a_parts_behind)
  k_parts_behind : PySem.W.keepIn K (.ref a_parts_behind) = true
  F_ranked : Fun K "ranked" "ranked" s_ranked a_ranked d_ranked
  b_ranked : Binds K d_ranked ["web", "lengths", "most"] []
  m_ranked : mg "ranked" = some (.ref a_ranked)
  k_ranked : PySem.W.keepIn K (.ref a_ranked) = true
  F_number_written : Fun K "number_written" "number_written" s_number_written a_number_written d_number_written
  b_number_written : Binds K d_number_written ["word"] []
  m_number_written : mg "number_written" = some (.ref a_number_written)
  k_number_written : PySem.W.keepIn K (.ref a_number_written) = true
  F_numbers_behind : Fun K "numbers_behind" "numbers_behind" s_numbers_behind a_numbers_behind d_numbers_behind
  b_numbers_behind : Binds K d_numbers_behind ["line", "word", "count"] []
  m_numbers_behind : mg "numbers_behind" = some (.ref a_numbers_behind)
  k_numbers_behind : PySem.W.keepIn K (.ref a_numbers_behind) = true
  F_read_web : Fun K "read_web" "read_web" s_read_web a_read_web d_read_web
  b_read_web : Binds K d_read_web ["text"] []
  m_read_web : mg "read_web" = some (.ref a_read_web)
  k_read_web : PySem.W.keepIn K (.ref a_read_web) = true
  F_law_cell : Fun K "_law_cell" "_law_cell" s_law_cell a_law_cell d_law_cell
  b_law_cell : Binds K d_law_cell ["script", "k"] []
  m_law_cell : mg "_law_cell" = some (.ref a_law_cell)
  k_law_cell : PySem.W.keepIn K (.ref a_law_cell) = true
  F_law_mixed : Fun K "_law_mixed" "_law_mixed" s_law_mixed a_law_mixed d_law_mixed
  b_law_mixed : Binds K d_law_mixed ["cell", "k"] []
  m_law_mixed : mg "_law_mixed" = some (.ref a_law_mixed)
  k_law_mixed : PySem.W.keepIn K (.ref a_law_mixed) = true
  F_law_draws : Fun K "_law_draws" "_law_draws" s_law_draws a_law_draws d_law_draws
  b_law_draws : Binds K d_law_draws ["script", "start", "count", "way"] []
  m_law_draws : mg "_law_draws" = some (.ref a_law_draws)
  k_law_draws : PySem.W.keepIn K (.ref a_law_draws) = true
  F_law_ties : Fun K "_law_ties" "_law_ties" s_law_ties a_law_ties d_law_ties
  b_law_ties : Binds K d_law_ties ["draws", "places", "hang"] []
  m_law_ties : mg "_law_ties" = some (.ref a_law_ties)
  k_law_ties : PySem.W.keepIn K (.ref a_law_ties) = true
  F_law_web : Fun K "_law_web" "_law_web" s_law_web a_law_web d_law_web
  b_law_web : Binds K d_law_web ["script", "most", "count"] []
  m_law_web : mg "_law_web" = some (.ref a_law_web)
  k_law_web : PySem.W.keepIn K (.ref a_law_web) = true
  F_law_marks : Fun K "_law_marks" "_law_marks" s_law_marks a_law_marks d_law_marks
  b_law_marks : Binds K d_law_marks ["places", "ties", "some"] []
  m_law_marks : mg "_law_marks" = some (.ref a_law_marks)
  k_law_marks : PySem.W.keepIn K (.ref a_law_marks) = true
  F_law_tree_by : Fun K "_law_tree_by" "_law_tree_by" s_law_tree_by a_law_tree_by d_law_tree_by
  b_law_tree_by : Binds K d_law_tree_by ["places", "ties", "cell"] []
  m_law_tree_by : mg "_law_tree_by" = some (.ref a_law_tree_by)
  k_law_tree_by : PySem.W.keepIn K (.ref a_law_tree_by) = true
  F_law_lengths_v2 : Fun K "_law_lengths" "_law_lengths" s_law_lengths_v2 a_law_lengths_v2 d_law_lengths_v2
  b_law_lengths_v2 : Binds K d_law_lengths_v2 ["script", "count"] []
  m_law_lengths_v2 : mg "_law_lengths" = some (.ref a_law_lengths_v2)
  k_law_lengths_v2 : PySem.W.keepIn K (.ref a_law_lengths_v2) = true
  F_law_text : Fun K "_law_text" "_law_text" s_law_text a_law_text d_law_text
  b_law_text : Binds K d_law_text ["places", "ties", "lengths"] []
  m_law_text : mg "_law_text" = some (.ref a_law_text)
  k_law_text : PySem.W.keepIn K (.ref a_law_text) = true
  F_law_led_down : Fun K "_law_led_down" "_law_led_down" s_law_led_down a_law_led_down d_law_led_down
  b_law_led_down : Binds K d_law_led_down ["web", "lengths", "tree", "least"] []
  m_law_led_down : mg "_law_led_down" = some (.ref a_law_led_down)
  k_law_led_down : PySem.W.keepIn K (.ref a_law_led_down) = true
  F_law_k95 : Fun K "law" "law" s_law_k95 a_law_k95 d_law_k95
  b_law_k95 : Binds K d_law_k95 ["script"] []
  m_law_k95 : mg "law" = some (.ref a_law_k95)
  k_law_k95 : PySem.W.keepIn K (.ref a_law_k95) = true
  v_MOST_PLACES : mg "MOST_PLACES" = some (.int 14 t_MOST_PLACES)
  v_MOST_TIES : mg "MOST_TIES" = some (.int 30 t_MOST_TIES)
  v_FIGURES : mg "FIGURES" = some (.str "0123456789" t_FIGURES)
  v_MOST_FIGURES : mg "MOST_FIGURES" = some (.int 60 t_MOST_FIGURES)
  z_all : mg "all" = none
  z_enumerate : mg "enumerate" = none
  z_int : mg "int" = none
  z_len : mg "len" = none
  z_list : mg "list" = none
  z_max : mg "max" = none
  z_min : mg "min" = none
  z_range : mg "range" = none
  z_set : mg "set" = none
  z_sorted : mg "sorted" = none
  z_str : mg "str" = none
  z_sum : mg "sum" = none
  z_tuple : mg "tuple" = none
section
variable {P : Program} {w : World} {K : PySem.W.Frag} {mg : Str → Option Value} {base : Heap}
def Tx.cls (T : Tx K mg) : DL.Cls := fun c => ([some (T.C_WebError, []), some (T.C_BadWeb, []), some (T.C_BadSet, []), some (T.C_Parted, []), some (T.C_NoTree, []), some (T.C_NoTie, []), none, none, none, some (T.C_BadRow, []), none, none, some (T.C_BadText, []), none, some (T.C_Web, ["places", "ties"]), none, none] : List (Option (Addr × List Str))).getD c none
theorem Tx.e_WebError (T : Tx K mg) : ExOk K mg T.cls 0 "WebError" T.C_WebError := ⟨rfl, T.m_WebError, T.x_WebError, T.kx_WebError, T.bx_WebError, T.tx_WebError⟩
theorem Tx.e_BadWeb (T : Tx K mg) : ExOk K mg T.cls 1 "BadWeb" T.C_BadWeb := ⟨rfl, T.m_BadWeb, T.x_BadWeb, T.kx_BadWeb, T.bx_BadWeb, T.tx_BadWeb⟩
theorem Tx.e_BadSet (T : Tx K mg) : ExOk K mg T.cls 2 "BadSet" T.C_BadSet := ⟨rfl, T.m_BadSet, T.x_BadSet, T.kx_BadSet, T.bx_BadSet, T.tx_BadSet⟩
theorem Tx.e_Parted (T : Tx K mg) : ExOk K mg T.cls 3 "Parted" T.C_Parted := ⟨rfl, T.m_Parted, T.x_Parted, T.kx_Parted, T.bx_Parted, T.tx_Parted⟩
theorem Tx.e_NoTree (T : Tx K mg) : ExOk K mg T.cls 4 "NoTree" T.C_NoTree := ⟨rfl, T.m_NoTree, T.x_NoTree, T.kx_NoTree, T.bx_NoTree, T.tx_NoTree⟩
theorem Tx.e_NoTie (T : Tx K mg) : ExOk K mg T.cls 5 "NoTie" T.C_NoTie := ⟨rfl, T.m_NoTie, T.x_NoTie, T.kx_NoTie, T.bx_NoTie, T.tx_NoTie⟩
theorem Tx.e_BadRow (T : Tx K mg) : ExOk K mg T.cls 9 "BadRow" T.C_BadRow := ⟨rfl, T.m_BadRow, T.x_BadRow, T.kx_BadRow, T.bx_BadRow, T.tx_BadRow⟩
theorem Tx.e_BadText (T : Tx K mg) : ExOk K mg T.cls 12 "BadText" T.C_BadText := ⟨rfl, T.m_BadText, T.x_BadText, T.kx_BadText, T.bx_BadText, T.tx_BadText⟩
theorem Tx.o_Web (T : Tx K mg) : ClsOk K T.cls 14 T.C_Web ["places", "ties"] := ⟨rfl, by decide +kernel, T.cl_Web, fun f h => (by simp at h; rcases h with rfl | rfl <;> first | exact T.na_Web_places | exact T.na_Web_ties)⟩
set_option maxHeartbeats 4000000 in
theorem ok_Web_init (T : Tx K mg) : FnOk P w K mg base (L2.CX P w) 1 T.a_Web_init T.d_Web_init ["self", "places", "ties"] (spI K T.cls 14 2 g_Web_init) :=
  fnI_ok T.F_Web_init sc_Web_init rfl (fun cdv A outer s H E c => jss_cons (js_if (jt_w (jw_or (jt_not (jt_chain op_le op_le ok_le ok_le (je_int) (je_var 1) (je_gint T.v_MOST_PLACES))) (jw_or1 (jt_cmp op_gt ok_gt (je_callB call_len ok_len T.z_len (by decide +kernel) (ja_cons (je_var 2) (ja_nil))) (je_gint T.v_MOST_TIES) (nomark _))))) (jss_one (js_raise c T.e_BadWeb)) (jss_nil)) (jss_cons (js_for c (ji_seq (je_var 2)) (jg_tup c.calm (jgs_cons (jg_name (i := 3) c.nd rfl (by first | exact Or.inl rfl | exact Or.inr rfl)) (jgs_cons (jg_name (i := 4) c.nd rfl (by first | exact Or.inl rfl | exact Or.inr rfl)) (jgs_nil)))) (jss_one (js_if (jt_w (jw_or (jt_not (jt_chain op_le op_lt ok_le ok_lt (je_int) (je_var 3) (je_var 1))) (jw_or1 (jt_not (jt_chain op_le op_lt ok_le ok_lt (je_int) (je_var 4) (je_var 1)))))) (jss_one (js_raise c T.e_BadWeb)) (jss_nil)))) (jss_cons (js_fld (i := 0) T.o_Web (j := 0) rfl (by decide) rfl (by first | exact Or.inl rfl | exact Or.inr (Or.inl rfl) | exact Or.inr (Or.inr rfl)) (je_var 1)) (jss_one (js_fld (i := 0) T.o_Web (j := 1) rfl (by decide) rfl (by first | exact Or.inl rfl | exact Or.inr (Or.inl rfl) | exact Or.inr (Or.inr rfl)) (je_callTy call_list_of ok_list T.z_list (by decide +kernel) (ja_cons (je_var 2) (ja_nil)))))))) (mirI_ok)
set_option maxHeartbeats 4000000 in
theorem ok_made_set (T : Tx K mg) : FnOk P w K mg base (L2.CX P w) 1 T.a_made_set T.d_made_set ["web", "ties"] (spD K T.cls 2 g_made_set) :=
  fnD_ok T.F_made_set sc_made_set rfl (fun cdv A outer s H E c => jss_cons (js_setF (i := 2) c rfl (by first | exact Or.inl rfl | exact Or.inr rfl) (je_un un_neg ok_neg (je_int))) (jss_cons (js_for c (ji_seq (je_var 1)) (jg_name (i := 3) c.nd rfl (by first | exact Or.inl rfl | exact Or.inr rfl)) (jss_cons (js_if (jt_w (jw_or (jt_cmp op_le ok_le (je_var 3) (je_var 2) (nomark _)) (jw_or1 (jt_cmp op_ge ok_ge (je_var 3) (je_callB call_len ok_len T.z_len (by decide +kernel) (ja_cons (je_fld T.o_Web (i := 1) rfl (je_var 0)) (ja_nil))) (nomark _))))) (jss_one (js_raise c T.e_BadSet)) (jss_nil)) (jss_one (js_setF (i := 2) c rfl (by first | exact Or.inl rfl | exact Or.inr rfl) (je_var 3))))) (jss_one (js_ret (je_callTy call_tuple_of ok_tuple T.z_tuple (by decide +kernel) (ja_cons (je_var 1) (ja_nil))))))) (fun _ _ => .inr rfl)
set_option maxHeartbeats 4000000 in
theorem ok_marks_over (T : Tx K mg) : FnOk P w K mg base (L2.CX P w) 1 T.a_marks_over T.d_marks_over ["web", "ties"] (spD K T.cls 2 g_marks_over) :=
  fnD_ok T.F_marks_over sc_marks_over rfl (fun cdv A outer s H E c => jss_cons (js_setF (i := 2) c rfl (by first | exact Or.inl rfl | exact Or.inr rfl) (je_lr1 c T.z_list T.z_range (je_fld T.o_Web (i := 0) rfl (je_var 0)))) (jss_cons (js_for c (ji_seq (je_var 1)) (jg_name (i := 3) c.nd rfl (by first | exact Or.inl rfl | exact Or.inr rfl)) (jss_cons (js_asgT (je_ix (je_fld T.o_Web (i := 1) rfl (je_var 0)) (je_var 3)) (jg_tup c.calm (jgs_cons (jg_name (i := 4) c.nd rfl (by first | exact Or.inl rfl | exact Or.inr rfl)) (jgs_cons (jg_name (i := 5) c.nd rfl (by first | exact Or.inl rfl | exact Or.inr rfl)) (jgs_nil))))) (jss_cons (js_setF (i := 6) c rfl (by first | exact Or.inl rfl | exact Or.inr rfl) (je_callB (call_min2 c.calm) ok_min2 T.z_min (by decide +kernel) (ja_cons (je_ix (je_var 2) (je_var 4)) (ja_cons (je_ix (je_var 2) (je_var 5)) (ja_nil))))) (jss_cons (js_setF (i := 7) c rfl (by first | exact Or.inl rfl | exact Or.inr rfl) (je_callB (call_max2 c.calm) ok_max2 T.z_max (by decide +kernel) (ja_cons (je_ix (je_var 2) (je_var 4)) (ja_cons (je_ix (je_var 2) (je_var 5)) (ja_nil))))) (jss_one (js_setLcF (i := 2) [("mark", 8)] c rfl rfl (sw_true rfl rfl rfl (by decide +kernel)) (ji_seq (je_var 2)) (blkOk_by (N := N_marks_over) (sc := defScope s_marks_over) (by decide +kernel)) (fun _ _ _ _ _ => jg_name (i := 8) c.nd rfl (by first | exact Or.inl rfl | exact Or.inr rfl)) (fun _ _ _ _ _ c => jts_nil) (fun _ _ _ _ _ c => je_if (jt_cmp (op_eq4 c.eq) ok_eq (je_var 8) (je_var 7) (nomark _)) (je_var 6) (je_var 8)) (by decide))))))) (jss_one (js_retV 2)))) (fun _ _ => .inr rfl)
set_option maxHeartbeats 4000000 in
theorem ok_joined_ends (T : Tx K mg) (G_marks_over : FnOk P w K mg base (L2.CX P w) 1 T.a_marks_over T.d_marks_over ["web", "ties"] (spD K T.cls 2 g_marks_over)) (G_made_set : FnOk P w K mg base (L2.CX P w) 1 T.a_made_set T.d_made_set ["web", "ties"] (spD K T.cls 2 g_made_set)) : FnOk P w K mg base (L2.CX P w) 2 T.a_joined_ends T.d_joined_ends ["web", "ties", "one", "other"] (spD K T.cls 4 g_joined_ends) :=
  fnD_ok T.F_joined_ends sc_joined_ends rfl (fun cdv A outer s H E c => jss_cons (js_setF (i := 4) c rfl (by first | exact Or.inl rfl | exact Or.inr rfl) (je_own (c.mono (by decide)) G_marks_over T.m_marks_over T.k_marks_over T.b_marks_over (ja_cons (je_var 0) (ja_cons (je_own (c.mono (by decide)) G_made_set T.m_made_set T.k_made_set T.b_made_set (ja_cons (je_var 0) (ja_cons (je_var 1) (ja_nil))) (alS (alS (al0)))) (ja_nil))) (alS (alS (al0))))) (jss_one (js_ret (je_cmp (op_eq4 c.eq) ok_eq (je_ix (je_var 4) (je_var 2)) (je_ix (je_var 4) (je_var 3)) (nomark _))))) (fun _ _ => .inr rfl)
set_option maxHeartbeats 4000000 in
theorem ok_is_tree (T : Tx K mg) (G_marks_over : FnOk P w K mg base (L2.CX P w) 1 T.a_marks_over T.d_marks_over ["web", "ties"] (spD K T.cls 2 g_marks_over)) : FnOk P w K mg base (L2.CX P w) 2 T.a_is_tree T.d_is_tree ["web", "ties"] (spD K T.cls 2 g_is_tree) :=
  fnD_ok T.F_is_tree sc_is_tree rfl (fun cdv A outer s H E c => jss_cons (js_if (jt_cmp (op_ne4 c.eq) ok_ne (je_callB call_len ok_len T.z_len (by decide +kernel) (ja_cons (je_var 1) (ja_nil))) (je_bin op_sub ok_sub (je_fld T.o_Web (i := 0) rfl (je_var 0)) (je_int)) (nomark _)) (jss_one (js_ret (je_bl))) (jss_nil)) (jss_cons (js_setF (i := 2) c rfl (by first | exact Or.inl rfl | exact Or.inr rfl) (je_un un_neg ok_neg (je_int))) (jss_cons (js_for c (ji_seq (je_var 1)) (jg_name (i := 3) c.nd rfl (by first | exact Or.inl rfl | exact Or.inr rfl)) (jss_cons (js_if (jt_w (jw_or (jt_cmp op_le ok_le (je_var 3) (je_var 2) (nomark _)) (jw_or1 (jt_cmp op_ge ok_ge (je_var 3) (je_callB call_len ok_len T.z_len (by decide +kernel) (ja_cons (je_fld T.o_Web (i := 1) rfl (je_var 0)) (ja_nil))) (nomark _))))) (jss_one (js_ret (je_bl))) (jss_nil)) (jss_one (js_setF (i := 2) c rfl (by first | exact Or.inl rfl | exact Or.inr rfl) (je_var 3))))) (jss_one (js_ret (je_cmp (op_eq4 c.eq) ok_eq (je_lenset c T.z_len T.z_set (je_own (c.mono (by decide)) G_marks_over T.m_marks_over T.k_marks_over T.b_marks_over (ja_cons (je_var 0) (ja_cons (je_var 1) (ja_nil))) (alS (alS (al0))))) (je_int) (nomark _))))))) (fun _ _ => .inr rfl)
set_option maxHeartbeats 4000000 in
theorem ok_look_at_tree (T : Tx K mg) (G_is_tree : FnOk P w K mg base (L2.CX P w) 2 T.a_is_tree T.d_is_tree ["web", "ties"] (spD K T.cls 2 g_is_tree)) : FnOk P w K mg base (L2.CX P w) 3 T.a_look_at_tree T.d_look_at_tree ["web", "tree"] (spD K T.cls 2 g_look_at_tree) :=
  fnD_ok T.F_look_at_tree sc_look_at_tree rfl (fun cdv A outer s H E c => jss_one (js_if (jt_not (jt_truth (je_own (c.mono (by decide)) G_is_tree T.m_is_tree T.k_is_tree T.b_is_tree (ja_cons (je_var 0) (ja_cons (je_var 1) (ja_nil))) (alS (alS (al0)))))) (jss_one (js_raise c T.e_NoTree)) (jss_nil))) (fun _ _ => .inr rfl)
set_option maxHeartbeats 4000000 in
theorem ok_grown (T : Tx K mg) (G_marks_over : FnOk P w K mg base (L2.CX P w) 1 T.a_marks_over T.d_marks_over ["web", "ties"] (spD K T.cls 2 g_marks_over)) : FnOk P w K mg base (L2.CX P w) 2 T.a_grown T.d_grown ["web", "kept", "order"] (spD K T.cls 3 g_grown) :=
  fnD_ok T.F_grown sc_grown rfl (fun cdv A outer s H E c => jss_cons (js_set (i := 3) c rfl (by first | exact Or.inl rfl | exact Or.inr rfl) (je_callTy call_list_of ok_list T.z_list (by decide +kernel) (ja_cons (je_var 1) (ja_nil)))) (jss_cons (js_setF (i := 4) c rfl (by first | exact Or.inl rfl | exact Or.inr rfl) (je_own2 (c.mono (by decide)) G_marks_over T.m_marks_over T.k_marks_over T.b_marks_over (ja_cons (je_var 0) (ja_cons (je_var 3) (ja_nil))) (alS (alS (al0))))) (jss_cons (js_for c (ji_seq (je_var 2)) (jg_name (i := 5) c.nd rfl (by first | exact Or.inl rfl | exact Or.inr rfl)) (jss_cons (js_asgT (je_ix (je_fld T.o_Web (i := 1) rfl (je_var 0)) (je_var 5)) (jg_tup c.calm (jgs_cons (jg_name (i := 6) c.nd rfl (by first | exact Or.inl rfl | exact Or.inr rfl)) (jgs_cons (jg_name (i := 7) c.nd rfl (by first | exact Or.inl rfl | exact Or.inr rfl)) (jgs_nil))))) (jss_one (js_if (jt_cmp (op_ne4 c.eq) ok_ne (je_ix (je_var 4) (je_var 6)) (je_ix (je_var 4) (je_var 7)) (nomark _)) (jss_cons (js_app (i := 3) rfl (by first | exact Or.inl rfl | exact Or.inr (Or.inl rfl) | exact Or.inr (Or.inr rfl)) (je_var 5)) (jss_one (js_setF (i := 4) c rfl (by first | exact Or.inl rfl | exact Or.inr rfl) (je_own2 (c.mono (by decide)) G_marks_over T.m_marks_over T.k_marks_over T.b_marks_over (ja_cons (je_var 0) (ja_cons (je_var 3) (ja_nil))) (alS (alS (al0))))))) (jss_nil))))) (jss_one (js_ret (je_callTy call_tuple_of ok_tuple T.z_tuple (by decide +kernel) (ja_cons (je_callB cr_sorted3 ok_sorted3 T.z_sorted (by decide +kernel) (ja_cons (je_var 3) (ja_nil))) (ja_nil)))))))) (fun _ _ => .inr rfl)
set_option maxHeartbeats 4000000 in
theorem ok_least_tree (T : Tx K mg) (G_grown : FnOk P w K mg base (L2.CX P w) 2 T.a_grown T.d_grown ["web", "kept", "order"] (spD K T.cls 3 g_grown)) : FnOk P w K mg base (L2.CX P w) 3 T.a_least_tree T.d_least_tree ["web"] (spD K T.cls 1 g_least_tree) :=
  fnD_ok T.F_least_tree sc_least_tree rfl (fun cdv A outer s H E c => jss_cons (js_setF (i := 1) c rfl (by first | exact Or.inl rfl | exact Or.inr rfl) (je_own (c.mono (by decide)) G_grown T.m_grown T.k_grown T.b_grown (ja_cons (je_var 0) (ja_cons (je_tup (jao_nil)) (ja_cons (je_lr1 c T.z_list T.z_range (je_callB call_len ok_len T.z_len (by decide +kernel) (ja_cons (je_fld T.o_Web (i := 1) rfl (je_var 0)) (ja_nil)))) (ja_nil)))) (alS (alS (alS (al0)))))) (jss_cons (js_if (jt_cmp op_lt ok_lt (je_callB call_len ok_len T.z_len (by decide +kernel) (ja_cons (je_var 1) (ja_nil))) (je_bin op_sub ok_sub (je_fld T.o_Web (i := 0) rfl (je_var 0)) (je_int)) (nomark _)) (jss_one (js_raise c T.e_Parted)) (jss_nil)) (jss_one (js_retV 1)))) (fun _ _ => .inr rfl)
set_option maxHeartbeats 4000000 in
theorem ok_without_tie (T : Tx K mg) : FnOk P w K mg base (L2.CX P w) 1 T.a_without_tie T.d_without_tie ["ties", "tie"] (spD K T.cls 2 g_without_tie) :=
  fnD_ok T.F_without_tie sc_without_tie rfl (fun cdv A outer s H E c => jss_one (js_ret (je_callTy call_tuple_of ok_tuple T.z_tuple (by decide +kernel) (ja_cons (je_lc [("other", 2)] c (ji_seq (je_var 0)) (blkOk_by (N := N_without_tie) (sc := defScope s_without_tie) (by decide +kernel)) (fun _ _ _ _ _ => jg_name (i := 2) c.nd rfl (by first | exact Or.inl rfl | exact Or.inr rfl)) (fun _ _ _ _ _ c => jts_one (jt_cmp (op_ne4 c.eq) ok_ne (je_var 2) (je_var 1) (nomark _))) (fun _ _ _ _ _ c => je_var 2) (by decide)) (ja_nil))))) (fun _ _ => .inr rfl)
set_option maxHeartbeats 4000000 in
theorem ok_cut_of (T : Tx K mg) (G_look_at_tree : FnOk P w K mg base (L2.CX P w) 3 T.a_look_at_tree T.d_look_at_tree ["web", "tree"] (spD K T.cls 2 g_look_at_tree)) (G_marks_over : FnOk P w K mg base (L2.CX P w) 1 T.a_marks_over T.d_marks_over ["web", "ties"] (spD K T.cls 2 g_marks_over)) (G_without_tie : FnOk P w K mg base (L2.CX P w) 1 T.a_without_tie T.d_without_tie ["ties", "tie"] (spD K T.cls 2 g_without_tie)) : FnOk P w K mg base (L2.CX P w) 4 T.a_cut_of T.d_cut_of ["web", "tree", "tie"] (spD K T.cls 3 g_cut_of) :=
  fnD_ok T.F_cut_of sc_cut_of rfl (fun cdv A outer s H E c => jss_cons (js_exp (je_own (c.mono (by decide)) G_look_at_tree T.m_look_at_tree T.k_look_at_tree T.b_look_at_tree (ja_cons (je_var 0) (ja_cons (je_var 1) (ja_nil))) (alS (alS (al0))))) (jss_cons (js_if (jt_cmp op_notIn_seq ok_nin (je_var 2) (je_var 1) (by rfl)) (jss_one (js_raise c T.e_NoTie)) (jss_nil)) (jss_cons (js_setF (i := 3) c rfl (by first | exact Or.inl rfl | exact Or.inr rfl) (je_own (c.mono (by decide)) G_marks_over T.m_marks_over T.k_marks_over T.b_marks_over (ja_cons (je_var 0) (ja_cons (je_own (c.mono (by decide)) G_without_tie T.m_without_tie T.k_without_tie T.b_without_tie (ja_cons (je_var 1) (ja_cons (je_var 2) (ja_nil))) (alS (alS (al0)))) (ja_nil))) (alS (alS (al0))))) (jss_one (js_ret (je_callTy call_tuple_of ok_tuple T.z_tuple (by decide +kernel) (ja_cons (je_lc [("k", 4), ("ends", 5)] c (ji_enm T.z_enumerate (ja_cons (je_fld T.o_Web (i := 1) rfl (je_var 0)) (ja_nil))) (blkOk_by (N := N_cut_of) (sc := defScope s_cut_of) (by decide +kernel)) (fun _ _ _ _ _ => jg_tup c.calm (jgs_cons (jg_name (i := 4) c.nd rfl (by first | exact Or.inl rfl | exact Or.inr rfl)) (jgs_cons (jg_name (i := 5) c.nd rfl (by first | exact Or.inl rfl | exact Or.inr rfl)) (jgs_nil)))) (fun _ _ _ _ _ c => jts_one (jt_cmp (op_ne4 c.eq) ok_ne (je_ix (je_var 3) (je_ix (je_var 5) (je_int))) (je_ix (je_var 3) (je_ix (je_var 5) (je_int))) (nomark _))) (fun _ _ _ _ _ c => je_var 4) (by decide)) (ja_nil)))))))) (fun _ _ => .inr rfl)
set_option maxHeartbeats 4000000 in
theorem ok_exchanges_of (T : Tx K mg) (G_look_at_tree : FnOk P w K mg base (L2.CX P w) 3 T.a_look_at_tree T.d_look_at_tree ["web", "tree"] (spD K T.cls 2 g_look_at_tree)) (G_cut_of : FnOk P w K mg base (L2.CX P w) 4 T.a_cut_of T.d_cut_of ["web", "tree", "tie"] (spD K T.cls 3 g_cut_of)) : FnOk P w K mg base (L2.CX P w) 5 T.a_exchanges_of T.d_exchanges_of ["web", "tree"] (spD K T.cls 2 g_exchanges_of) :=
  fnD_ok T.F_exchanges_of sc_exchanges_of rfl (fun cdv A outer s H E c => jss_cons (js_exp (je_own (c.mono (by decide)) G_look_at_tree T.m_look_at_tree T.k_look_at_tree T.b_look_at_tree (ja_cons (je_var 0) (ja_cons (je_var 1) (ja_nil))) (alS (alS (al0))))) (jss_cons (js_set (i := 2) c rfl (by first | exact Or.inl rfl | exact Or.inr rfl) (je_lst (jao_nil))) (jss_cons (js_for c (ji_seq (je_var 1)) (jg_name (i := 3) c.nd rfl (by first | exact Or.inl rfl | exact Or.inr rfl)) (jss_one (js_ext (i := 2) rfl (by first | exact Or.inl rfl | exact Or.inr (Or.inl rfl) | exact Or.inr (Or.inr rfl)) (je_lc [("into", 4)] c (ji_seq (je_own (c.mono (by decide)) G_cut_of T.m_cut_of T.k_cut_of T.b_cut_of (ja_cons (je_var 0) (ja_cons (je_var 1) (ja_cons (je_var 3) (ja_nil)))) (alS (alS (alS (al0)))))) (blkOk_by (N := N_exchanges_of) (sc := defScope s_exchanges_of) (by decide +kernel)) (fun _ _ _ _ _ => jg_name (i := 4) c.nd rfl (by first | exact Or.inl rfl | exact Or.inr rfl)) (fun _ _ _ _ _ c => jts_one (jt_cmp (op_ne4 c.eq) ok_ne (je_var 4) (je_var 3) (nomark _))) (fun _ _ _ _ _ c => je_tup (jao_cons (je_var 3) (jao_cons (je_var 4) (jao_nil)))) (by decide))))) (jss_one (js_retV 2))))) (fun _ _ => .inr rfl)
set_option maxHeartbeats 4000000 in
theorem ok_exchanged (T : Tx K mg) (G_look_at_tree : FnOk P w K mg base (L2.CX P w) 3 T.a_look_at_tree T.d_look_at_tree ["web", "tree"] (spD K T.cls 2 g_look_at_tree)) (G_without_tie : FnOk P w K mg base (L2.CX P w) 1 T.a_without_tie T.d_without_tie ["ties", "tie"] (spD K T.cls 2 g_without_tie)) (G_is_tree : FnOk P w K mg base (L2.CX P w) 2 T.a_is_tree T.d_is_tree ["web", "ties"] (spD K T.cls 2 g_is_tree)) : FnOk P w K mg base (L2.CX P w) 4 T.a_exchanged T.d_exchanged ["web", "tree", "out", "into"] (spD K T.cls 4 g_exchanged) :=
  fnD_ok T.F_exchanged sc_exchanged rfl (fun cdv A outer s H E c => jss_cons (js_exp (je_own (c.mono (by decide)) G_look_at_tree T.m_look_at_tree T.k_look_at_tree T.b_look_at_tree (ja_cons (je_var 0) (ja_cons (je_var 1) (ja_nil))) (alS (alS (al0))))) (jss_cons (js_if (jt_w (jw_or (jt_cmp op_notIn_seq ok_nin (je_var 2) (je_var 1) (by rfl)) (jw_or (jt_cmp op_in_seq ok_in (je_var 3) (je_var 1) (by rfl)) (jw_or1 (jt_not (jt_chain op_le op_lt ok_le ok_lt (je_int) (je_var 3) (je_callB call_len ok_len T.z_len (by decide +kernel) (ja_cons (je_fld T.o_Web (i := 1) rfl (je_var 0)) (ja_nil))))))))) (jss_one (js_raise c T.e_NoTie)) (jss_nil)) (jss_cons (js_setF (i := 4) c rfl (by first | exact Or.inl rfl | exact Or.inr rfl) (je_callTy call_tuple_of ok_tuple T.z_tuple (by decide +kernel) (ja_cons (je_callB cr_sorted3 ok_sorted3 T.z_sorted (by decide +kernel) (ja_cons (je_bin op_add4 ok_add (je_own (c.mono (by decide)) G_without_tie T.m_without_tie T.k_without_tie T.b_without_tie (ja_cons (je_var 1) (ja_cons (je_var 2) (ja_nil))) (alS (alS (al0)))) (je_tup (jao_cons (je_var 3) (jao_nil)))) (ja_nil))) (ja_nil)))) (jss_cons (js_if (jt_not (jt_truth (je_own (c.mono (by decide)) G_is_tree T.m_is_tree T.k_is_tree T.b_is_tree (ja_cons (je_var 0) (ja_cons (je_var 4) (ja_nil))) (alS (alS (al0)))))) (jss_one (js_raise c T.e_NoTie)) (jss_nil)) (jss_one (js_retV 4)))))) (fun _ _ => .inr rfl)
set_option maxHeartbeats 4000000 in
theorem ok_look_at_lengths (T : Tx K mg) : FnOk P w K mg base (L2.CX P w) 1 T.a_look_at_lengths T.d_look_at_lengths ["web", "lengths"] (spD K T.cls 2 g_look_at_lengths) :=
  fnD_ok T.F_look_at_lengths sc_look_at_lengths rfl (fun cdv A outer s H E c => jss_one (js_if (jt_cmp (op_ne4 c.eq) ok_ne (je_callB call_len ok_len T.z_len (by decide +kernel) (ja_cons (je_var 1) (ja_nil))) (je_callB call_len ok_len T.z_len (by decide +kernel) (ja_cons (je_fld T.o_Web (i := 1) rfl (je_var 0)) (ja_nil))) (nomark _)) (jss_one (js_raise c T.e_BadRow)) (jss_nil))) (fun _ _ => .inr rfl)
set_option maxHeartbeats 4000000 in
theorem ok_length_of (T : Tx K mg) (G_look_at_lengths : FnOk P w K mg base (L2.CX P w) 1 T.a_look_at_lengths T.d_look_at_lengths ["web", "lengths"] (spD K T.cls 2 g_look_at_lengths)) (G_made_set : FnOk P w K mg base (L2.CX P w) 1 T.a_made_set T.d_made_set ["web", "ties"] (spD K T.cls 2 g_made_set)) : FnOk P w K mg base (L2.CX P w) 2 T.a_length_of T.d_length_of ["web", "lengths", "ties"] (spD K T.cls 3 g_length_of) :=
  fnD_ok T.F_length_of sc_length_of rfl (fun cdv A outer s H E c => jss_cons (js_exp (je_own (c.mono (by decide)) G_look_at_lengths T.m_look_at_lengths T.k_look_at_lengths T.b_look_at_lengths (ja_cons (je_var 0) (ja_cons (je_var 1) (ja_nil))) (alS (alS (al0))))) (jss_one (js_ret (je_callB (cr_sum c.calm) ok_sum T.z_sum (by decide +kernel) (ja_cons (je_lc [("tie", 3)] c (ji_seq (je_own (c.mono (by decide)) G_made_set T.m_made_set T.k_made_set T.b_made_set (ja_cons (je_var 0) (ja_cons (je_var 2) (ja_nil))) (alS (alS (al0))))) (blkOk_by (N := N_length_of) (sc := defScope s_length_of) (by decide +kernel)) (fun _ _ _ _ _ => jg_name (i := 3) c.nd rfl (by first | exact Or.inl rfl | exact Or.inr rfl)) (fun _ _ _ _ _ c => jts_nil) (fun _ _ _ _ _ c => je_ix (je_var 1) (je_var 3)) (by decide)) (ja_nil)))))) (fun _ _ => .inr rfl)
set_option maxHeartbeats 4000000 in
theorem ok_by_length (T : Tx K mg) : FnOk P w K mg base (L2.CX P w) 1 T.a_by_length T.d_by_length ["lengths"] (spD K T.cls 1 g_by_length) :=
  fnD_ok T.F_by_length sc_by_length rfl (fun cdv A outer s H E c => jss_one (js_ret (je_lc [("pair", 1)] c (ji_seq (je_callB cr_sorted3 ok_sorted3 T.z_sorted (by decide +kernel) (ja_cons (je_lc [("tie", 2), ("length", 3)] c (ji_enm3 T.z_enumerate (ja_cons (je_var 0) (ja_nil))) (blkOk_by (N := N_by_length) (sc := defScope s_by_length) (by decide +kernel)) (fun _ _ _ _ _ => jg_tup c.calm (jgs_cons (jg_name (i := 2) c.nd rfl (by first | exact Or.inl rfl | exact Or.inr rfl)) (jgs_cons (jg_name (i := 3) c.nd rfl (by first | exact Or.inl rfl | exact Or.inr rfl)) (jgs_nil)))) (fun _ _ _ _ _ c => jts_nil) (fun _ _ _ _ _ c => je_tup (jao_cons (je_var 3) (jao_cons (je_var 2) (jao_nil)))) (by decide)) (ja_nil)))) (blkOk_by (N := N_by_length) (sc := defScope s_by_length) (by decide +kernel)) (fun _ _ _ _ _ => jg_name (i := 1) c.nd rfl (by first | exact Or.inl rfl | exact Or.inr rfl)) (fun _ _ _ _ _ c => jts_nil) (fun _ _ _ _ _ c => je_ix (je_var 1) (je_int)) (by decide)))) (fun _ _ => .inr rfl)
set_option maxHeartbeats 4000000 in
theorem ok_heads_joined (T : Tx K mg) : FnOk P w K mg base (L2.CX P w) 1 T.a_heads_joined T.d_heads_joined ["heads", "ends"] (spD K T.cls 2 g_heads_joined) :=
  fnD_ok T.F_heads_joined sc_heads_joined rfl (fun cdv A outer s H E c => jss_cons (js_setF (i := 2) c rfl (by first | exact Or.inl rfl | exact Or.inr rfl) (je_ix (je_var 0) (je_ix (je_var 1) (je_int)))) (jss_cons (js_setF (i := 3) c rfl (by first | exact Or.inl rfl | exact Or.inr rfl) (je_ix (je_var 0) (je_ix (je_var 1) (je_int)))) (jss_one (js_ret (je_lc [("head", 4)] c (ji_seq (je_var 0)) (blkOk_by (N := N_heads_joined) (sc := defScope s_heads_joined) (by decide +kernel)) (fun _ _ _ _ _ => jg_name (i := 4) c.nd rfl (by first | exact Or.inl rfl | exact Or.inr rfl)) (fun _ _ _ _ _ c => jts_nil) (fun _ _ _ _ _ c => je_if (jt_cmp (op_eq4 c.eq) ok_eq (je_var 4) (je_var 3) (nomark _)) (je_var 2) (je_var 4)) (by decide)))))) (fun _ _ => .inr rfl)
set_option maxHeartbeats 4000000 in
theorem ok_cheapest_tree (T : Tx K mg) (G_look_at_lengths : FnOk P w K mg base (L2.CX P w) 1 T.a_look_at_lengths T.d_look_at_lengths ["web", "lengths"] (spD K T.cls 2 g_look_at_lengths)) (G_by_length : FnOk P w K mg base (L2.CX P w) 1 T.a_by_length T.d_by_length ["lengths"] (spD K T.cls 1 g_by_length)) (G_heads_joined : FnOk P w K mg base (L2.CX P w) 1 T.a_heads_joined T.d_heads_joined ["heads", "ends"] (spD K T.cls 2 g_heads_joined)) : FnOk P w K mg base (L2.CX P w) 2 T.a_cheapest_tree T.d_cheapest_tree ["web", "lengths"] (spD K T.cls 2 g_cheapest_tree) :=
  fnD_ok T.F_cheapest_tree sc_cheapest_tree rfl (fun cdv A outer s H E c => jss_cons (js_exp (je_own (c.mono (by decide)) G_look_at_lengths T.m_look_at_lengths T.k_look_at_lengths T.b_look_at_lengths (ja_cons (je_var 0) (ja_cons (je_var 1) (ja_nil))) (alS (alS (al0))))) (jss_cons (js_set (i := 2) c rfl (by first | exact Or.inl rfl | exact Or.inr rfl) (je_lst (jao_nil))) (jss_cons (js_setF (i := 3) c rfl (by first | exact Or.inl rfl | exact Or.inr rfl) (je_lr1 c T.z_list T.z_range (je_fld T.o_Web (i := 0) rfl (je_var 0)))) (jss_cons (js_for c (ji_seq (je_own (c.mono (by decide)) G_by_length T.m_by_length T.k_by_length T.b_by_length (ja_cons (je_var 1) (ja_nil)) (alS (al0)))) (jg_name (i := 4) c.nd rfl (by first | exact Or.inl rfl | exact Or.inr rfl)) (jss_cons (js_setF (i := 5) c rfl (by first | exact Or.inl rfl | exact Or.inr rfl) (je_own (c.mono (by decide)) G_heads_joined T.m_heads_joined T.k_heads_joined T.b_heads_joined (ja_cons (je_var 3) (ja_cons (je_ix (je_fld T.o_Web (i := 1) rfl (je_var 0)) (je_var 4)) (ja_nil))) (alS (alS (al0))))) (jss_one (js_if (jt_cmp (op_ne4 c.eq) ok_ne (je_var 5) (je_var 3) (nomark _)) (jss_cons (js_app (i := 2) rfl (by first | exact Or.inl rfl | exact Or.inr (Or.inl rfl) | exact Or.inr (Or.inr rfl)) (je_var 4)) (jss_one (js_setF (i := 3) c rfl (by first | exact Or.inl rfl | exact Or.inr rfl) (je_var 5)))) (jss_nil))))) (jss_cons (js_if (jt_cmp op_lt ok_lt (je_callB call_len ok_len T.z_len (by decide +kernel) (ja_cons (je_var 2) (ja_nil))) (je_bin op_sub ok_sub (je_fld T.o_Web (i := 0) rfl (je_var 0)) (je_int)) (nomark _)) (jss_one (js_raise c T.e_Parted)) (jss_nil)) (jss_one (js_ret (je_callTy call_tuple_of ok_tuple T.z_tuple (by decide +kernel) (ja_cons (je_callB cr_sorted3 ok_sorted3 T.z_sorted (by decide +kernel) (ja_cons (je_var 2) (ja_nil))) (ja_nil)))))))))) (fun _ _ => .inr rfl)
set_option maxHeartbeats 4000000 in
theorem ok_gains_of (T : Tx K mg) (G_look_at_lengths : FnOk P w K mg base (L2.CX P w) 1 T.a_look_at_lengths T.d_look_at_lengths ["web", "lengths"] (spD K T.cls 2 g_look_at_lengths)) (G_exchanges_of : FnOk P w K mg base (L2.CX P w) 5 T.a_exchanges_of T.d_exchanges_of ["web", "tree"] (spD K T.cls 2 g_exchanges_of)) : FnOk P w K mg base (L2.CX P w) 6 T.a_gains_of T.d_gains_of ["web", "lengths", "tree"] (spD K T.cls 3 g_gains_of) :=
  fnD_ok T.F_gains_of sc_gains_of rfl (fun cdv A outer s H E c => jss_cons (js_exp (je_own (c.mono (by decide)) G_look_at_lengths T.m_look_at_lengths T.k_look_at_lengths T.b_look_at_lengths (ja_cons (je_var 0) (ja_cons (je_var 1) (ja_nil))) (alS (alS (al0))))) (jss_one (js_ret (je_lc [("pair", 3)] c (ji_seq (je_own (c.mono (by decide)) G_exchanges_of T.m_exchanges_of T.k_exchanges_of T.b_exchanges_of (ja_cons (je_var 0) (ja_cons (je_var 2) (ja_nil))) (alS (alS (al0))))) (blkOk_by (N := N_gains_of) (sc := defScope s_gains_of) (by decide +kernel)) (fun _ _ _ _ _ => jg_name (i := 3) c.nd rfl (by first | exact Or.inl rfl | exact Or.inr rfl)) (fun _ _ _ _ _ c => jts_one (jt_cmp op_lt ok_lt (je_ix (je_var 1) (je_ix (je_var 3) (je_int))) (je_ix (je_var 1) (je_ix (je_var 3) (je_int))) (nomark _))) (fun _ _ _ _ _ c => je_var 3) (by decide))))) (fun _ _ => .inr rfl)
set_option maxHeartbeats 4000000 in
theorem ok_is_cheapest (T : Tx K mg) (G_gains_of : FnOk P w K mg base (L2.CX P w) 6 T.a_gains_of T.d_gains_of ["web", "lengths", "tree"] (spD K T.cls 3 g_gains_of)) : FnOk P w K mg base (L2.CX P w) 7 T.a_is_cheapest T.d_is_cheapest ["web", "lengths", "tree"] (spD K T.cls 3 g_is_cheapest) :=
  fnD_ok T.F_is_cheapest sc_is_cheapest rfl (fun cdv A outer s H E c => jss_one (js_ret (je_cmp (op_eq4 c.eq) ok_eq (je_callB call_len ok_len T.z_len (by decide +kernel) (ja_cons (je_own (c.mono (by decide)) G_gains_of T.m_gains_of T.k_gains_of T.b_gains_of (ja_cons (je_var 0) (ja_cons (je_var 1) (ja_cons (je_var 2) (ja_nil)))) (alS (alS (alS (al0))))) (ja_nil))) (je_int) (nomark _)))) (fun _ _ => .inr rfl)
set_option maxHeartbeats 4000000 in
theorem ok_look_at_tree__2 (T : Tx K mg) (G_is_tree : FnOk P w K mg base (L2.CX P w) 2 T.a_is_tree T.d_is_tree ["web", "ties"] (spD K T.cls 2 g_is_tree)) : FnOk P w K mg base (L2.CX P w) 3 T.a_look_at_tree__2 T.d_look_at_tree__2 ["web", "tree"] (spD K T.cls 2 g_look_at_tree) :=
  fnD_ok T.F_look_at_tree__2 sc_look_at_tree__2 rfl (fun cdv A outer s H E c => jss_one (js_if (jt_not (jt_truth (je_own (c.mono (by decide)) G_is_tree T.m_is_tree T.k_is_tree T.b_is_tree (ja_cons (je_var 0) (ja_cons (je_var 1) (ja_nil))) (alS (alS (al0)))))) (jss_one (js_raise c T.e_NoTree)) (jss_nil))) (fun _ _ => .inr rfl)
set_option maxHeartbeats 4000000 in
theorem ok_alone_in (T : Tx K mg) : FnOk P w K mg base (L2.CX P w) 1 T.a_alone_in T.d_alone_in ["one", "other"] (spD K T.cls 2 g_alone_in) :=
  fnD_ok T.F_alone_in sc_alone_in rfl (fun cdv A outer s H E c => jss_one (js_ret (je_lc [("tie", 2)] c (ji_seq (je_var 0)) (blkOk_by (N := N_alone_in) (sc := defScope s_alone_in) (by decide +kernel)) (fun _ _ _ _ _ => jg_name (i := 2) c.nd rfl (by first | exact Or.inl rfl | exact Or.inr rfl)) (fun _ _ _ _ _ c => jts_one (jt_cmp op_notIn_seq ok_nin (je_var 2) (je_var 1) (by rfl))) (fun _ _ _ _ _ c => je_var 2) (by decide)))) (fun _ _ => .inr rfl)
set_option maxHeartbeats 4000000 in
theorem ok_differ (T : Tx K mg) (G_look_at_tree__2 : FnOk P w K mg base (L2.CX P w) 3 T.a_look_at_tree__2 T.d_look_at_tree__2 ["web", "tree"] (spD K T.cls 2 g_look_at_tree)) (G_alone_in : FnOk P w K mg base (L2.CX P w) 1 T.a_alone_in T.d_alone_in ["one", "other"] (spD K T.cls 2 g_alone_in)) : FnOk P w K mg base (L2.CX P w) 4 T.a_differ T.d_differ ["web", "one", "other"] (spD K T.cls 3 g_differ) :=
  fnD_ok T.F_differ sc_differ rfl (fun cdv A outer s H E c => jss_cons (js_exp (je_own (c.mono (by decide)) G_look_at_tree__2 T.m_look_at_tree__2 T.k_look_at_tree__2 T.b_look_at_tree__2 (ja_cons (je_var 0) (ja_cons (je_var 1) (ja_nil))) (alS (alS (al0))))) (jss_cons (js_exp (je_own (c.mono (by decide)) G_look_at_tree__2 T.m_look_at_tree__2 T.k_look_at_tree__2 T.b_look_at_tree__2 (ja_cons (je_var 0) (ja_cons (je_var 2) (ja_nil))) (alS (alS (al0))))) (jss_one (js_ret (je_callB call_len ok_len T.z_len (by decide +kernel) (ja_cons (je_own (c.mono (by decide)) G_alone_in T.m_alone_in T.k_alone_in T.b_alone_in (ja_cons (je_var 1) (ja_cons (je_var 2) (ja_nil))) (alS (alS (al0)))) (ja_nil))))))) (fun _ _ => .inr rfl)
set_option maxHeartbeats 4000000 in
theorem ok_far_tree (T : Tx K mg) (G_look_at_tree__2 : FnOk P w K mg base (L2.CX P w) 3 T.a_look_at_tree__2 T.d_look_at_tree__2 ["web", "tree"] (spD K T.cls 2 g_look_at_tree)) (G_joined_ends : FnOk P w K mg base (L2.CX P w) 2 T.a_joined_ends T.d_joined_ends ["web", "ties", "one", "other"] (spD K T.cls 4 g_joined_ends)) : FnOk P w K mg base (L2.CX P w) 4 T.a_far_tree T.d_far_tree ["web", "tree"] (spD K T.cls 2 g_far_tree) :=
  fnD_ok T.F_far_tree sc_far_tree rfl (fun cdv A outer s H E c => jss_cons (js_exp (je_own (c.mono (by decide)) G_look_at_tree__2 T.m_look_at_tree__2 T.k_look_at_tree__2 T.b_look_at_tree__2 (ja_cons (je_var 0) (ja_cons (je_var 1) (ja_nil))) (alS (alS (al0))))) (jss_cons (js_setLcF (i := 2) [("tie", 4)] c rfl rfl (sw_true rfl rfl rfl (by decide +kernel)) (ji_rg1 T.z_range (ja_cons (je_callB call_len ok_len T.z_len (by decide +kernel) (ja_cons (je_fld T.o_Web (i := 1) rfl (je_var 0)) (ja_nil))) (ja_nil))) (blkOk_by (N := N_far_tree) (sc := defScope s_far_tree) (by decide +kernel)) (fun _ _ _ _ _ => jg_name (i := 4) c.nd rfl (by first | exact Or.inl rfl | exact Or.inr rfl)) (fun _ _ _ _ _ c => jts_one (jt_cmp op_notIn_seq ok_nin (je_var 4) (je_var 1) (by rfl))) (fun _ _ _ _ _ c => je_var 4) (by decide)) (jss_cons (js_set (i := 3) c rfl (by first | exact Or.inl rfl | exact Or.inr rfl) (je_lst (jao_nil))) (jss_cons (js_for c (ji_seq (je_bin op_add4 ok_add (je_var 2) (je_callTy call_list_of ok_list T.z_list (by decide +kernel) (ja_cons (je_var 1) (ja_nil))))) (jg_name (i := 4) c.nd rfl (by first | exact Or.inl rfl | exact Or.inr rfl)) (jss_cons (js_asgT (je_ix (je_fld T.o_Web (i := 1) rfl (je_var 0)) (je_var 4)) (jg_tup c.calm (jgs_cons (jg_name (i := 5) c.nd rfl (by first | exact Or.inl rfl | exact Or.inr rfl)) (jgs_cons (jg_name (i := 6) c.nd rfl (by first | exact Or.inl rfl | exact Or.inr rfl)) (jgs_nil))))) (jss_one (js_if (jt_not (jt_truth (je_own (c.mono (by decide)) G_joined_ends T.m_joined_ends T.k_joined_ends T.b_joined_ends (ja_cons (je_var 0) (ja_cons (je_callTy call_tuple_of ok_tuple T.z_tuple (by decide +kernel) (ja_cons (je_callB cr_sorted3 ok_sorted3 T.z_sorted (by decide +kernel) (ja_cons (je_var 3) (ja_nil))) (ja_nil))) (ja_cons (je_var 5) (ja_cons (je_var 6) (ja_nil))))) (alS (alS (alS (alS (al0)))))))) (jss_one (js_app (i := 3) rfl (by first | exact Or.inl rfl | exact Or.inr (Or.inl rfl) | exact Or.inr (Or.inr rfl)) (je_var 4))) (jss_nil))))) (jss_one (js_ret (je_callTy call_tuple_of ok_tuple T.z_tuple (by decide +kernel) (ja_cons (je_callB cr_sorted3 ok_sorted3 T.z_sorted (by decide +kernel) (ja_cons (je_var 3) (ja_nil))) (ja_nil))))))))) (fun _ _ => .inr rfl)
set_option maxHeartbeats 4000000 in
theorem ok_shortest_with (T : Tx K mg) (G_heads_joined : FnOk P w K mg base (L2.CX P w) 1 T.a_heads_joined T.d_heads_joined ["heads", "ends"] (spD K T.cls 2 g_heads_joined)) : FnOk P w K mg base (L2.CX P w) 2 T.a_shortest_with T.d_shortest_with ["web", "order", "inside", "outside"] (spD K T.cls 4 g_shortest_with) :=
  fnD_ok T.F_shortest_with sc_shortest_with rfl (fun cdv A outer s H E c => jss_cons (js_set (i := 4) c rfl (by first | exact Or.inl rfl | exact Or.inr rfl) (je_callTy call_list_of ok_list T.z_list (by decide +kernel) (ja_cons (je_var 2) (ja_nil)))) (jss_cons (js_setF (i := 5) c rfl (by first | exact Or.inl rfl | exact Or.inr rfl) (je_lr1 c T.z_list T.z_range (je_fld T.o_Web (i := 0) rfl (je_var 0)))) (jss_cons (js_for c (ji_seq (je_var 2)) (jg_name (i := 6) c.nd rfl (by first | exact Or.inl rfl | exact Or.inr rfl)) (jss_one (js_setF (i := 5) c rfl (by first | exact Or.inl rfl | exact Or.inr rfl) (je_own (c.mono (by decide)) G_heads_joined T.m_heads_joined T.k_heads_joined T.b_heads_joined (ja_cons (je_var 5) (ja_cons (je_ix (je_fld T.o_Web (i := 1) rfl (je_var 0)) (je_var 6)) (ja_nil))) (alS (alS (al0))))))) (jss_cons (js_for c (ji_seq (je_var 1)) (jg_name (i := 6) c.nd rfl (by first | exact Or.inl rfl | exact Or.inr rfl)) (jss_one (js_if (jt_w (jw_and (jt_cmp op_notIn_seq ok_nin (je_var 6) (je_var 2) (by rfl)) (jw_and1 (jt_cmp op_notIn_seq ok_nin (je_var 6) (je_var 3) (by rfl))))) (jss_cons (js_setF (i := 7) c rfl (by first | exact Or.inl rfl | exact Or.inr rfl) (je_own (c.mono (by decide)) G_heads_joined T.m_heads_joined T.k_heads_joined T.b_heads_joined (ja_cons (je_var 5) (ja_cons (je_ix (je_fld T.o_Web (i := 1) rfl (je_var 0)) (je_var 6)) (ja_nil))) (alS (alS (al0))))) (jss_one (js_if (jt_cmp (op_ne4 c.eq) ok_ne (je_var 7) (je_var 5) (nomark _)) (jss_cons (js_app (i := 4) rfl (by first | exact Or.inl rfl | exact Or.inr (Or.inl rfl) | exact Or.inr (Or.inr rfl)) (je_var 6)) (jss_one (js_setF (i := 5) c rfl (by first | exact Or.inl rfl | exact Or.inr rfl) (je_var 7)))) (jss_nil)))) (jss_nil)))) (jss_cons (js_if (jt_cmp op_lt ok_lt (je_callB call_len ok_len T.z_len (by decide +kernel) (ja_cons (je_var 4) (ja_nil))) (je_bin op_sub ok_sub (je_fld T.o_Web (i := 0) rfl (je_var 0)) (je_int)) (nomark _)) (jss_one (js_ret (je_non))) (jss_nil)) (jss_one (js_ret (je_callTy call_tuple_of ok_tuple T.z_tuple (by decide +kernel) (ja_cons (je_callB cr_sorted3 ok_sorted3 T.z_sorted (by decide +kernel) (ja_cons (je_var 4) (ja_nil))) (ja_nil)))))))))) (fun _ _ => .inr rfl)
set_option maxHeartbeats 4000000 in
theorem ok_put_found (T : Tx K mg) : FnOk P w K mg base (L2.CX P w) 1 T.a_put_found T.d_put_found ["found", "lengths", "tree", "inside", "outside"] (spM K T.cls 4 g_put_found) :=
  fnM_ok T.F_put_found sc_put_found rfl (fun cdv A outer s H E c => jm_if (jt_cmp op_notN ok_notN (je_var 2) (je_non) (nomark _)) (jm_app rfl (by first | exact Or.inl rfl | exact Or.inr (Or.inl rfl) | exact Or.inr (Or.inr rfl)) (je_tup (jao_cons (je_callB (cr_sum c.calm) ok_sum T.z_sum (by decide +kernel) (ja_cons (je_lc [("tie", 5)] c (ji_seq (je_var 2)) (blkOk_by (N := N_put_found) (sc := defScope s_put_found) (by decide +kernel)) (fun _ _ _ _ _ => jg_name (i := 5) c.nd rfl (by first | exact Or.inl rfl | exact Or.inr rfl)) (fun _ _ _ _ _ c => jts_nil) (fun _ _ _ _ _ c => je_ix (je_var 1) (je_var 5)) (by decide)) (ja_nil))) (jao_cons (je_var 2) (jao_cons (je_var 3) (jao_cons (je_var 4) (jao_nil)))))))) (fun _ _ => .inr rfl)
set_option maxHeartbeats 4000000 in
theorem ok_parts_behind (T : Tx K mg) (G_put_found : FnOk P w K mg base (L2.CX P w) 1 T.a_put_found T.d_put_found ["found", "lengths", "tree", "inside", "outside"] (spM K T.cls 4 g_put_found)) (G_shortest_with : FnOk P w K mg base (L2.CX P w) 2 T.a_shortest_with T.d_shortest_with ["web", "order", "inside", "outside"] (spD K T.cls 4 g_shortest_with)) : FnOk P w K mg base (L2.CX P w) 3 T.a_parts_behind T.d_parts_behind ["web", "lengths", "order", "best"] (spD K T.cls 4 g_parts_behind) :=
  fnD_ok T.F_parts_behind sc_parts_behind rfl (fun cdv A outer s H E c => jss_cons (js_set (i := 4) c rfl (by first | exact Or.inl rfl | exact Or.inr rfl) (je_lst (jao_nil))) (jss_cons (js_asgT (je_var 3) (jg_tup c.calm (jgs_cons (jg_name (i := 5) c.nd rfl (by first | exact Or.inl rfl | exact Or.inr rfl)) (jgs_cons (jg_name (i := 6) c.nd rfl (by first | exact Or.inl rfl | exact Or.inr rfl)) (jgs_cons (jg_name (i := 7) c.nd rfl (by first | exact Or.inl rfl | exact Or.inr rfl)) (jgs_cons (jg_name (i := 8) c.nd rfl (by first | exact Or.inl rfl | exact Or.inr rfl)) (jgs_nil))))))) (jss_cons (js_for c (ji_seq (je_var 6)) (jg_name (i := 9) c.nd rfl (by first | exact Or.inl rfl | exact Or.inr rfl)) (jss_one (js_if (jt_cmp op_notIn_seq ok_nin (je_var 9) (je_var 7) (by rfl)) (jss_cons (js_setF (i := 10) c rfl (by first | exact Or.inl rfl | exact Or.inr rfl) (je_bin op_add4 ok_add (je_var 8) (je_tup (jao_cons (je_var 9) (jao_nil))))) (jss_cons (js_put (i := 4) (c.mono (by decide)) G_put_found T.m_put_found T.k_put_found T.b_put_found rfl (by first | exact Or.inl rfl | exact Or.inr (Or.inl rfl) | exact Or.inr (Or.inr rfl)) (ja_cons (je_var 1) (ja_cons (je_own (c.mono (by decide)) G_shortest_with T.m_shortest_with T.k_shortest_with T.b_shortest_with (ja_cons (je_var 0) (ja_cons (je_var 2) (ja_cons (je_var 7) (ja_cons (je_var 10) (ja_nil))))) (alS (alS (alS (alS (al0)))))) (ja_cons (je_var 7) (ja_cons (je_var 10) (ja_nil))))) (alS (alS (alS (alS (al0)))))) (jss_one (js_setF (i := 7) c rfl (by first | exact Or.inl rfl | exact Or.inr rfl) (je_callTy call_tuple_of ok_tuple T.z_tuple (by decide +kernel) (ja_cons (je_callB cr_sorted3 ok_sorted3 T.z_sorted (by decide +kernel) (ja_cons (je_bin op_add4 ok_add (je_var 7) (je_tup (jao_cons (je_var 9) (jao_nil)))) (ja_nil))) (ja_nil))))))) (jss_nil)))) (jss_one (js_retV 4))))) (fun _ _ => .inr rfl)
set_option maxHeartbeats 4000000 in
theorem ok_ranked (T : Tx K mg) (G_look_at_lengths : FnOk P w K mg base (L2.CX P w) 1 T.a_look_at_lengths T.d_look_at_lengths ["web", "lengths"] (spD K T.cls 2 g_look_at_lengths)) (G_by_length : FnOk P w K mg base (L2.CX P w) 1 T.a_by_length T.d_by_length ["lengths"] (spD K T.cls 1 g_by_length)) (G_put_found : FnOk P w K mg base (L2.CX P w) 1 T.a_put_found T.d_put_found ["found", "lengths", "tree", "inside", "outside"] (spM K T.cls 4 g_put_found)) (G_shortest_with : FnOk P w K mg base (L2.CX P w) 2 T.a_shortest_with T.d_shortest_with ["web", "order", "inside", "outside"] (spD K T.cls 4 g_shortest_with)) (G_parts_behind : FnOk P w K mg base (L2.CX P w) 3 T.a_parts_behind T.d_parts_behind ["web", "lengths", "order", "best"] (spD K T.cls 4 g_parts_behind)) : FnOk P w K mg base (L2.CX P w) 4 T.a_ranked T.d_ranked ["web", "lengths", "most"] (spD K T.cls 3 g_ranked) :=
  fnD_ok T.F_ranked sc_ranked rfl (fun cdv A outer s H E c => jss_cons (js_exp (je_own (c.mono (by decide)) G_look_at_lengths T.m_look_at_lengths T.k_look_at_lengths T.b_look_at_lengths (ja_cons (je_var 0) (ja_cons (je_var 1) (ja_nil))) (alS (alS (al0))))) (jss_cons (js_setF (i := 3) c rfl (by first | exact Or.inl rfl | exact Or.inr rfl) (je_own (c.mono (by decide)) G_by_length T.m_by_length T.k_by_length T.b_by_length (ja_cons (je_var 1) (ja_nil)) (alS (al0)))) (jss_cons (js_set (i := 4) c rfl (by first | exact Or.inl rfl | exact Or.inr rfl) (je_lst (jao_nil))) (jss_cons (js_put (i := 4) (c.mono (by decide)) G_put_found T.m_put_found T.k_put_found T.b_put_found rfl (by first | exact Or.inl rfl | exact Or.inr (Or.inl rfl) | exact Or.inr (Or.inr rfl)) (ja_cons (je_var 1) (ja_cons (je_own (c.mono (by decide)) G_shortest_with T.m_shortest_with T.k_shortest_with T.b_shortest_with (ja_cons (je_var 0) (ja_cons (je_var 3) (ja_cons (je_tup (jao_nil)) (ja_cons (je_tup (jao_nil)) (ja_nil))))) (alS (alS (alS (alS (al0)))))) (ja_cons (je_tup (jao_nil)) (ja_cons (je_tup (jao_nil)) (ja_nil))))) (alS (alS (alS (alS (al0)))))) (jss_cons (js_set (i := 5) c rfl (by first | exact Or.inl rfl | exact Or.inr rfl) (je_lst (jao_nil))) (jss_cons (js_while c (jt_w (jw_and (jt_cmp op_lt ok_lt (je_callB call_len ok_len T.z_len (by decide +kernel) (ja_cons (je_var 5) (ja_nil))) (je_var 2) (nomark _)) (jw_and1 (jt_cmp op_gt ok_gt (je_callB call_len ok_len T.z_len (by decide +kernel) (ja_cons (je_var 4) (ja_nil))) (je_int) (nomark _))))) (jss_cons (js_setF (i := 6) c rfl (by first | exact Or.inl rfl | exact Or.inr rfl) (je_callB (cr_min4 c.calm c.eq65) ok_min4 T.z_min (by decide +kernel) (ja_cons (je_var 4) (ja_nil)))) (jss_cons (js_remove (i := 4) c rfl (by first | exact Or.inl rfl | exact Or.inr (Or.inl rfl) | exact Or.inr (Or.inr rfl)) (je_var 6)) (jss_cons (js_app (i := 5) rfl (by first | exact Or.inl rfl | exact Or.inr (Or.inl rfl) | exact Or.inr (Or.inr rfl)) (je_tup (jao_cons (je_ix (je_var 6) (je_int)) (jao_cons (je_ix (je_var 6) (je_int)) (jao_nil))))) (jss_one (js_ext (i := 4) rfl (by first | exact Or.inl rfl | exact Or.inr (Or.inl rfl) | exact Or.inr (Or.inr rfl)) (je_own (c.mono (by decide)) G_parts_behind T.m_parts_behind T.k_parts_behind T.b_parts_behind (ja_cons (je_var 0) (ja_cons (je_var 1) (ja_cons (je_var 3) (ja_cons (je_var 6) (ja_nil))))) (alS (alS (alS (alS (al0)))))))))))) (jss_one (js_retV 5)))))))) (fun _ _ => .inr rfl)
set_option maxHeartbeats 4000000 in
theorem ok_number_written (T : Tx K mg) : FnOk P w K mg base (L2.CX P w) 1 T.a_number_written T.d_number_written ["word"] (spD K T.cls 1 g_number_written) :=
  fnD_ok T.F_number_written sc_number_written rfl (fun cdv A outer s H E c => jss_cons (js_setF (i := 1) c rfl (by first | exact Or.inl rfl | exact Or.inr rfl) (je_var 0)) (jss_cons (js_if (jt_cmp (op_eq4 c.eq) ok_eq (je_slS (je_var 0) (jp_none) (jp_some (je_int))) (je_str) (nomark _)) (jss_one (js_setF (i := 1) c rfl (by first | exact Or.inl rfl | exact Or.inr rfl) (je_slS (je_var 0) (jp_some (je_int)) (jp_none)))) (jss_nil)) (jss_cons (js_if (jt_w (jw_or (jt_not (jt_chain op_le op_le ok_le ok_le (je_int) (je_callB call_len ok_len T.z_len (by decide +kernel) (ja_cons (je_var 1) (ja_nil))) (je_gint T.v_MOST_FIGURES))) (jw_or1 (jt_not (jt_truth (je_callB (cr_all c.calm) ok_all T.z_all (by decide +kernel) (ja_cons (je_lc [("sign", 2)] c (ji_str (je_var 1)) (blkOk_by (N := N_number_written) (sc := defScope s_number_written) (by decide +kernel)) (fun _ _ _ _ _ => jg_name (i := 2) c.nd rfl (by first | exact Or.inl rfl | exact Or.inr rfl)) (fun _ _ _ _ _ c => jts_nil) (fun _ _ _ _ _ c => je_cmp op_in_sign ok_inC (je_var 2) (je_gstr T.v_FIGURES) (by rfl)) (by decide)) (ja_nil)))))))) (jss_one (js_raise c T.e_BadText)) (jss_nil)) (jss_cons (js_if (jt_w (jw_and (jt_cmp (op_eq4 c.eq) ok_eq (je_ix (je_var 1) (je_int)) (je_str) (nomark _)) (jw_and1 (jt_cmp (op_ne4 c.eq) ok_ne (je_var 0) (je_str) (nomark _))))) (jss_one (js_raise c T.e_BadText)) (jss_nil)) (jss_one (js_ret (je_callTy call_int_str ok_intS T.z_int (by decide +kernel) (ja_cons (je_var 0) (ja_nil))))))))) (fun _ _ => .inr rfl)
set_option maxHeartbeats 4000000 in
theorem ok_numbers_behind (T : Tx K mg) (G_number_written : FnOk P w K mg base (L2.CX P w) 1 T.a_number_written T.d_number_written ["word"] (spD K T.cls 1 g_number_written)) : FnOk P w K mg base (L2.CX P w) 2 T.a_numbers_behind T.d_numbers_behind ["line", "word", "count"] (spD K T.cls 3 g_numbers_behind) :=
  fnD_ok T.F_numbers_behind sc_numbers_behind rfl (fun cdv A outer s H E c => jss_cons (js_setF (i := 3) c rfl (by first | exact Or.inl rfl | exact Or.inr rfl) (je_split (je_var 0) (je_str))) (jss_cons (js_if (jt_w (jw_or (jt_cmp (op_ne4 c.eq) ok_ne (je_ix (je_var 3) (je_int)) (je_var 1) (nomark _)) (jw_or1 (jt_cmp (op_ne4 c.eq) ok_ne (je_callB call_len ok_len T.z_len (by decide +kernel) (ja_cons (je_var 3) (ja_nil))) (je_bin op_add4 ok_add (je_var 2) (je_int)) (nomark _))))) (jss_one (js_raise c T.e_BadText)) (jss_nil)) (jss_one (js_ret (je_lc [("other", 4)] c (ji_seq (je_sl (je_var 3) (jp_some (je_int)) (jp_none))) (blkOk_by (N := N_numbers_behind) (sc := defScope s_numbers_behind) (by decide +kernel)) (fun _ _ _ _ _ => jg_name (i := 4) c.nd rfl (by first | exact Or.inl rfl | exact Or.inr rfl)) (fun _ _ _ _ _ c => jts_nil) (fun _ _ _ _ _ c => je_own (c.mono (by decide)) G_number_written T.m_number_written T.k_number_written T.b_number_written (ja_cons (je_var 4) (ja_nil)) (alS (al0))) (by decide)))))) (fun _ _ => .inr rfl)
set_option maxHeartbeats 4000000 in
theorem ok_read_web (T : Tx K mg) (G_numbers_behind : FnOk P w K mg base (L2.CX P w) 2 T.a_numbers_behind T.d_numbers_behind ["line", "word", "count"] (spD K T.cls 3 g_numbers_behind)) (G_Web_init : FnOk P w K mg base (L2.CX P w) 1 T.a_Web_init T.d_Web_init ["self", "places", "ties"] (spI K T.cls 14 2 g_Web_init)) : FnOk P w K mg base (L2.CX P w) 3 T.a_read_web T.d_read_web ["text"] (spD K T.cls 1 g_read_web) :=
  fnD_ok T.F_read_web sc_read_web rfl (fun cdv A outer s H E c => jss_cons (js_setF (i := 1) c rfl (by first | exact Or.inl rfl | exact Or.inr rfl) (je_split (je_var 0) (je_str))) (jss_cons (js_setF (i := 2) c rfl (by first | exact Or.inl rfl | exact Or.inr rfl) (je_ix (je_own (c.mono (by decide)) G_numbers_behind T.m_numbers_behind T.k_numbers_behind T.b_numbers_behind (ja_cons (je_ix (je_var 1) (je_int)) (ja_cons (je_str) (ja_cons (je_int) (ja_nil)))) (alS (alS (alS (al0))))) (je_int))) (jss_cons (js_setLcF (i := 3) [("line", 4)] c rfl rfl (sw_true rfl rfl rfl (by decide +kernel)) (ji_seq (je_sl (je_var 1) (jp_some (je_int)) (jp_none))) (blkOk_by (N := N_read_web) (sc := defScope s_read_web) (by decide +kernel)) (fun _ _ _ _ _ => jg_name (i := 4) c.nd rfl (by first | exact Or.inl rfl | exact Or.inr rfl)) (fun _ _ _ _ _ c => jts_nil) (fun _ _ _ _ _ c => je_own (c.mono (by decide)) G_numbers_behind T.m_numbers_behind T.k_numbers_behind T.b_numbers_behind (ja_cons (je_var 4) (ja_cons (je_str) (ja_cons (je_int) (ja_nil)))) (alS (alS (alS (al0))))) (by decide)) (jss_one (js_ret (je_tup (jao_cons (je_make (c.mono (by decide)) T.o_Web.e T.mk_Web G_Web_init T.m_Web T.b_Web_init (ja_cons (je_var 2) (ja_cons (je_lc [("row", 5)] c (ji_seq (je_var 3)) (blkOk_by (N := N_read_web) (sc := defScope s_read_web) (by decide +kernel)) (fun _ _ _ _ _ => jg_name (i := 5) c.nd rfl (by first | exact Or.inl rfl | exact Or.inr rfl)) (fun _ _ _ _ _ c => jts_nil) (fun _ _ _ _ _ c => je_tup (jao_cons (je_ix (je_var 5) (je_int)) (jao_cons (je_ix (je_var 5) (je_int)) (jao_nil)))) (by decide)) (ja_nil))) (alS (alS (al0)))) (jao_cons (je_frzE (je_lc [("row", 5)] c (ji_seq (je_var 3)) (blkOk_by (N := N_read_web) (sc := defScope s_read_web) (by decide +kernel)) (fun _ _ _ _ _ => jg_name (i := 5) c.nd rfl (by first | exact Or.inl rfl | exact Or.inr rfl)) (fun _ _ _ _ _ c => jts_nil) (fun _ _ _ _ _ c => je_ix (je_var 5) (je_int)) (by decide))) (jao_nil))))))))) (fun _ _ => .inr rfl)
set_option maxHeartbeats 4000000 in
theorem ok_law_cell (T : Tx K mg) : FnOk P w K mg base (L2.CX P w) 1 T.a_law_cell T.d_law_cell ["script", "k"] (spD K T.cls 2 g_law_cell) :=
  fnD_ok T.F_law_cell sc_law_cell rfl (fun cdv A outer s H E c => jss_cons (js_if (jt_cmp op_lt ok_lt (je_var 1) (je_callB call_len ok_len T.z_len (by decide +kernel) (ja_cons (je_var 0) (ja_nil))) (nomark _)) (jss_one (js_ret (je_bin op_modX ok_mod (je_ix (je_var 0) (je_var 1)) (je_bin op_pow ok_pow (je_int) (je_int))))) (jss_nil)) (jss_one (js_ret (je_int)))) (fun _ _ => .inr rfl)
set_option maxHeartbeats 4000000 in
theorem ok_law_mixed (T : Tx K mg) : FnOk P w K mg base (L2.CX P w) 1 T.a_law_mixed T.d_law_mixed ["cell", "k"] (spD K T.cls 2 g_law_mixed) :=
  fnD_ok T.F_law_mixed sc_law_mixed rfl (fun cdv A outer s H E c => jss_cons (js_setF (i := 2) c rfl (by first | exact Or.inl rfl | exact Or.inr rfl) (je_bin op_modX ok_mod (je_bin op_mul4 ok_mul (je_bin op_add4 ok_add (je_bin op_add4 ok_add (je_var 0) (je_bin op_mul4 ok_mul (je_int) (je_var 1))) (je_int)) (je_int)) (je_int))) (jss_cons (js_setF (i := 3) c rfl (by first | exact Or.inl rfl | exact Or.inr rfl) (je_bin op_modX ok_mod (je_bin op_add4 ok_add (je_bin op_add4 ok_add (je_bin op_mul4 ok_mul (je_var 2) (je_var 2)) (je_bin op_mul4 ok_mul (je_int) (je_var 1))) (je_int)) (je_int))) (jss_one (js_ret (je_bin op_divX ok_div (je_bin op_modX ok_mod (je_bin op_mul4 ok_mul (je_var 3) (je_var 3)) (je_int)) (je_int)))))) (fun _ _ => .inr rfl)
set_option maxHeartbeats 4000000 in
theorem ok_law_draws (T : Tx K mg) (G_law_mixed : FnOk P w K mg base (L2.CX P w) 1 T.a_law_mixed T.d_law_mixed ["cell", "k"] (spD K T.cls 2 g_law_mixed)) : FnOk P w K mg base (L2.CX P w) 2 T.a_law_draws T.d_law_draws ["script", "start", "count", "way"] (spD K T.cls 4 g_law_draws) :=
  fnD_ok T.F_law_draws sc_law_draws rfl (fun cdv A outer s H E c => jss_cons (js_setF (i := 4) c rfl (by first | exact Or.inl rfl | exact Or.inr rfl) (je_bin op_modX ok_mod (je_callB (cr_sum c.calm) ok_sum T.z_sum (by decide +kernel) (ja_cons (je_lc [("cell", 9)] c (ji_seq (je_sl (je_var 0) (jp_some (je_var 1)) (jp_none))) (blkOk_by (N := N_law_draws) (sc := defScope s_law_draws) (by decide +kernel)) (fun _ _ _ _ _ => jg_name (i := 9) c.nd rfl (by first | exact Or.inl rfl | exact Or.inr rfl)) (fun _ _ _ _ _ c => jts_nil) (fun _ _ _ _ _ c => je_bin op_modX ok_mod (je_var 9) (je_bin op_pow ok_pow (je_int) (je_int))) (by decide)) (ja_nil))) (je_bin op_pow ok_pow (je_int) (je_int)))) (jss_cons (js_setLc (i := 5) [("k", 6)] c rfl rfl (sw_true rfl rfl rfl (by decide +kernel)) (ji_rg1 T.z_range (ja_cons (je_var 2) (ja_nil))) (blkOk_by (N := N_law_draws) (sc := defScope s_law_draws) (by decide +kernel)) (fun _ _ _ _ _ => jg_name (i := 6) c.nd rfl (by first | exact Or.inl rfl | exact Or.inr rfl)) (fun _ _ _ _ _ c => jts_nil) (fun _ _ _ _ _ c => je_bin op_add4 ok_add (je_bin op_mul4 ok_mul (je_int) (je_var 6)) (je_int)) (by decide)) (jss_cons (js_for c (ji_rg2 T.z_range (ja_cons (je_var 1) (ja_cons (je_callB call_len ok_len T.z_len (by decide +kernel) (ja_cons (je_var 0) (ja_nil))) (ja_nil)))) (jg_name (i := 6) c.nd rfl (by first | exact Or.inl rfl | exact Or.inr rfl)) (jss_cons (js_setF (i := 7) c rfl (by first | exact Or.inl rfl | exact Or.inr rfl) (je_bin op_modX ok_mod (je_var 6) (je_callB (call_max2 c.calm) ok_max2 T.z_max (by decide +kernel) (ja_cons (je_int) (ja_cons (je_var 2) (ja_nil)))))) (jss_one (js_if (jt_cmp op_gt ok_gt (je_var 2) (je_int) (nomark _)) (jss_one (js_setIx (i := 5) rfl (by first | exact Or.inl rfl | exact Or.inr (Or.inl rfl) | exact Or.inr (Or.inr rfl)) (je_bin op_modX ok_mod (je_bin op_add4 ok_add (je_bin op_mul4 ok_mul (je_ix (je_var 5) (je_var 7)) (je_int)) (je_ix (je_var 0) (je_var 6))) (je_bin op_pow ok_pow (je_int) (je_int))) (je_var 7))) (jss_nil))))) (jss_cons (js_set (i := 8) c rfl (by first | exact Or.inl rfl | exact Or.inr rfl) (je_lst (jao_nil))) (jss_cons (js_for c (ji_rg1 T.z_range (ja_cons (je_var 2) (ja_nil))) (jg_name (i := 6) c.nd rfl (by first | exact Or.inl rfl | exact Or.inr rfl)) (jss_one (js_if (jt_w (jw_and (jt_cmp (op_eq4 c.eq) ok_eq (je_var 3) (je_int) (nomark _)) (jw_and1 (jt_cmp op_gt ok_gt (je_var 4) (je_int) (nomark _))))) (jss_cons (js_app (i := 8) rfl (by first | exact Or.inl rfl | exact Or.inr (Or.inl rfl) | exact Or.inr (Or.inr rfl)) (je_bin op_modX ok_mod (je_var 4) (je_int))) (jss_one (js_setF (i := 4) c rfl (by first | exact Or.inl rfl | exact Or.inr rfl) (je_bin op_divX ok_div (je_var 4) (je_int))))) (jss_one (js_app (i := 8) rfl (by first | exact Or.inl rfl | exact Or.inr (Or.inl rfl) | exact Or.inr (Or.inr rfl)) (je_own (c.mono (by decide)) G_law_mixed T.m_law_mixed T.k_law_mixed T.b_law_mixed (ja_cons (je_ix (je_var 5) (je_var 6)) (ja_cons (je_var 6) (ja_nil))) (alS (alS (al0))))))))) (jss_one (js_retV 8))))))) (fun _ _ => .inr rfl)
set_option maxHeartbeats 4000000 in
theorem ok_law_ties (T : Tx K mg) : FnOk P w K mg base (L2.CX P w) 1 T.a_law_ties T.d_law_ties ["draws", "places", "hang"] (spD K T.cls 3 g_law_ties) :=
  fnD_ok T.F_law_ties sc_law_ties rfl (fun cdv A outer s H E c => jss_cons (js_set (i := 3) c rfl (by first | exact Or.inl rfl | exact Or.inr rfl) (je_lst (jao_nil))) (jss_cons (js_for c (ji_rg1 T.z_range (ja_cons (je_callB call_len ok_len T.z_len (by decide +kernel) (ja_cons (je_var 0) (ja_nil))) (ja_nil))) (jg_name (i := 4) c.nd rfl (by first | exact Or.inl rfl | exact Or.inr rfl)) (jss_cons (js_setF (i := 5) c rfl (by first | exact Or.inl rfl | exact Or.inr rfl) (je_bin op_modX ok_mod (je_ix (je_var 0) (je_var 4)) (je_var 1))) (jss_cons (js_setF (i := 6) c rfl (by first | exact Or.inl rfl | exact Or.inr rfl) (je_bin op_modX ok_mod (je_bin op_divX ok_div (je_ix (je_var 0) (je_var 4)) (je_var 1)) (je_var 1))) (jss_cons (js_if (jt_w (jw_and (jt_truth (je_var 2)) (jw_and1 (jt_cmp op_lt ok_lt (je_var 4) (je_bin op_sub ok_sub (je_var 1) (je_int)) (nomark _))))) (jss_cons (js_setF (i := 7) c rfl (by first | exact Or.inl rfl | exact Or.inr rfl) (je_tup (jao_cons (je_bin op_modX ok_mod (je_ix (je_var 0) (je_var 4)) (je_bin op_add4 ok_add (je_var 4) (je_int))) (jao_cons (je_bin op_add4 ok_add (je_var 4) (je_int)) (jao_nil))))) (jss_cons (js_setF (i := 5) c rfl (by first | exact Or.inl rfl | exact Or.inr rfl) (je_ix (je_var 7) (je_bin op_modX ok_mod (je_bin op_divX ok_div (je_ix (je_var 0) (je_var 4)) (je_int)) (je_int)))) (jss_one (js_setF (i := 6) c rfl (by first | exact Or.inl rfl | exact Or.inr rfl) (je_ix (je_var 7) (je_bin op_sub ok_sub (je_int) (je_bin op_modX ok_mod (je_bin op_divX ok_div (je_ix (je_var 0) (je_var 4)) (je_int)) (je_int)))))))) (jss_nil)) (jss_one (js_app (i := 3) rfl (by first | exact Or.inl rfl | exact Or.inr (Or.inl rfl) | exact Or.inr (Or.inr rfl)) (je_tup (jao_cons (je_var 5) (jao_cons (je_var 6) (jao_nil)))))))))) (jss_cons (js_setF (i := 8) c rfl (by first | exact Or.inl rfl | exact Or.inr rfl) (je_bin op_modX ok_mod (je_callB (cr_sum c.calm) ok_sum T.z_sum (by decide +kernel) (ja_cons (je_var 0) (ja_nil))) (je_callB (call_max2 c.calm) ok_max2 T.z_max (by decide +kernel) (ja_cons (je_int) (ja_cons (je_callB call_len ok_len T.z_len (by decide +kernel) (ja_cons (je_var 3) (ja_nil))) (ja_nil)))))) (jss_one (js_ret (je_bin op_add4 ok_add (je_sl (je_var 3) (jp_some (je_var 8)) (jp_none)) (je_sl (je_var 3) (jp_none) (jp_some (je_var 8))))))))) (fun _ _ => .inr rfl)
set_option maxHeartbeats 4000000 in
theorem ok_law_web (T : Tx K mg) (G_law_cell : FnOk P w K mg base (L2.CX P w) 1 T.a_law_cell T.d_law_cell ["script", "k"] (spD K T.cls 2 g_law_cell)) (G_law_draws : FnOk P w K mg base (L2.CX P w) 2 T.a_law_draws T.d_law_draws ["script", "start", "count", "way"] (spD K T.cls 4 g_law_draws)) (G_law_ties : FnOk P w K mg base (L2.CX P w) 1 T.a_law_ties T.d_law_ties ["draws", "places", "hang"] (spD K T.cls 3 g_law_ties)) : FnOk P w K mg base (L2.CX P w) 3 T.a_law_web T.d_law_web ["script", "most", "count"] (spD K T.cls 3 g_law_web) :=
  fnD_ok T.F_law_web sc_law_web rfl (fun cdv A outer s H E c => jss_cons (js_setF (i := 3) c rfl (by first | exact Or.inl rfl | exact Or.inr rfl) (je_own (c.mono (by decide)) G_law_cell T.m_law_cell T.k_law_cell T.b_law_cell (ja_cons (je_var 0) (ja_cons (je_int) (ja_nil))) (alS (alS (al0))))) (jss_cons (js_setF (i := 4) c rfl (by first | exact Or.inl rfl | exact Or.inr rfl) (je_bin op_add4 ok_add (je_int) (je_bin op_modX ok_mod (je_var 3) (je_var 1)))) (jss_cons (js_setF (i := 5) c rfl (by first | exact Or.inl rfl | exact Or.inr rfl) (je_callB (call_min2 c.calm) ok_min2 T.z_min (by decide +kernel) (ja_cons (je_var 2) (ja_cons (je_bin op_add4 ok_add (je_bin op_modX ok_mod (je_bin op_divX ok_div (je_var 3) (je_var 1)) (je_bin op_add4 ok_add (je_var 2) (je_int))) (je_bin op_mul4 ok_mul (je_bin op_modX ok_mod (je_bin op_divX ok_div (je_var 3) (je_int)) (je_int)) (je_var 4))) (ja_nil))))) (jss_cons (js_setF (i := 6) c rfl (by first | exact Or.inl rfl | exact Or.inr rfl) (je_own (c.mono (by decide)) G_law_draws T.m_law_draws T.k_law_draws T.b_law_draws (ja_cons (je_var 0) (ja_cons (je_int) (ja_cons (je_var 5) (ja_cons (je_bin op_modX ok_mod (je_bin op_divX ok_div (je_var 3) (je_int)) (je_int)) (ja_nil))))) (alS (alS (alS (alS (al0))))))) (jss_one (js_ret (je_tup (jao_cons (je_var 4) (jao_cons (je_own (c.mono (by decide)) G_law_ties T.m_law_ties T.k_law_ties T.b_law_ties (ja_cons (je_var 6) (ja_cons (je_var 4) (ja_cons (je_cmp op_gt ok_gt (je_bin op_modX ok_mod (je_bin op_divX ok_div (je_var 3) (je_int)) (je_int)) (je_int) (nomark _)) (ja_nil)))) (alS (alS (alS (al0))))) (jao_nil)))))))))) (fun _ _ => .inr rfl)
set_option maxHeartbeats 4000000 in
theorem ok_law_marks (T : Tx K mg) : FnOk P w K mg base (L2.CX P w) 1 T.a_law_marks T.d_law_marks ["places", "ties", "some"] (spD K T.cls 3 g_law_marks) :=
  fnD_ok T.F_law_marks sc_law_marks rfl (fun cdv A outer s H E c => jss_cons (js_set (i := 3) c rfl (by first | exact Or.inl rfl | exact Or.inr rfl) (je_lr1 c T.z_list T.z_range (je_var 0))) (jss_cons (js_for c (ji_seq (je_var 2)) (jg_name (i := 4) c.nd rfl (by first | exact Or.inl rfl | exact Or.inr rfl)) (jss_cons (js_asgT (je_ix (je_var 1) (je_var 4)) (jg_tup c.calm (jgs_cons (jg_name (i := 5) c.nd rfl (by first | exact Or.inl rfl | exact Or.inr rfl)) (jgs_cons (jg_name (i := 6) c.nd rfl (by first | exact Or.inl rfl | exact Or.inr rfl)) (jgs_nil))))) (jss_one (js_if (jt_cmp (op_ne4 c.eq) ok_ne (je_ix (je_var 3) (je_var 5)) (je_ix (je_var 3) (je_var 6)) (nomark _)) (jss_cons (js_setF (i := 7) c rfl (by first | exact Or.inl rfl | exact Or.inr rfl) (je_ix (je_var 3) (je_var 6))) (jss_cons (js_setF (i := 8) c rfl (by first | exact Or.inl rfl | exact Or.inr rfl) (je_ix (je_var 3) (je_var 5))) (jss_one (js_for c (ji_rg1 T.z_range (ja_cons (je_var 0) (ja_nil))) (jg_name (i := 9) c.nd rfl (by first | exact Or.inl rfl | exact Or.inr rfl)) (jss_one (js_if (jt_cmp (op_eq4 c.eq) ok_eq (je_ix (je_var 3) (je_var 9)) (je_var 7) (nomark _)) (jss_one (js_setIx (i := 3) rfl (by first | exact Or.inl rfl | exact Or.inr (Or.inl rfl) | exact Or.inr (Or.inr rfl)) (je_var 8) (je_var 9))) (jss_nil))))))) (jss_nil))))) (jss_one (js_retV 3)))) (fun _ _ => .inr rfl)
set_option maxHeartbeats 4000000 in
theorem ok_law_tree_by (T : Tx K mg) (G_law_mixed : FnOk P w K mg base (L2.CX P w) 1 T.a_law_mixed T.d_law_mixed ["cell", "k"] (spD K T.cls 2 g_law_mixed)) (G_law_marks : FnOk P w K mg base (L2.CX P w) 1 T.a_law_marks T.d_law_marks ["places", "ties", "some"] (spD K T.cls 3 g_law_marks)) : FnOk P w K mg base (L2.CX P w) 2 T.a_law_tree_by T.d_law_tree_by ["places", "ties", "cell"] (spD K T.cls 3 g_law_tree_by) :=
  fnD_ok T.F_law_tree_by sc_law_tree_by rfl (fun cdv A outer s H E c => jss_cons (js_set (i := 3) c rfl (by first | exact Or.inl rfl | exact Or.inr rfl) (je_lr1 c T.z_list T.z_range (je_callB call_len ok_len T.z_len (by decide +kernel) (ja_cons (je_var 1) (ja_nil))))) (jss_cons (js_set (i := 4) c rfl (by first | exact Or.inl rfl | exact Or.inr rfl) (je_lst (jao_nil))) (jss_cons (js_setF (i := 5) c rfl (by first | exact Or.inl rfl | exact Or.inr rfl) (je_lr1 c T.z_list T.z_range (je_var 0))) (jss_cons (js_for c (ji_rg1 T.z_range (ja_cons (je_callB call_len ok_len T.z_len (by decide +kernel) (ja_cons (je_var 1) (ja_nil))) (ja_nil))) (jg_name (i := 6) c.nd rfl (by first | exact Or.inl rfl | exact Or.inr rfl)) (jss_cons (js_pop (j := 7) (i := 3) c rfl (by first | exact Or.inl rfl | exact Or.inr rfl) rfl (by first | exact Or.inl rfl | exact Or.inr (Or.inl rfl) | exact Or.inr (Or.inr rfl)) (je_bin op_modX ok_mod (je_own (c.mono (by decide)) G_law_mixed T.m_law_mixed T.k_law_mixed T.b_law_mixed (ja_cons (je_var 2) (ja_cons (je_bin op_add4 ok_add (je_int) (je_var 6)) (ja_nil))) (alS (alS (al0)))) (je_callB call_len ok_len T.z_len (by decide +kernel) (ja_cons (je_var 3) (ja_nil))))) (jss_cons (js_asgT (je_ix (je_var 1) (je_var 7)) (jg_tup c.calm (jgs_cons (jg_name (i := 8) c.nd rfl (by first | exact Or.inl rfl | exact Or.inr rfl)) (jgs_cons (jg_name (i := 9) c.nd rfl (by first | exact Or.inl rfl | exact Or.inr rfl)) (jgs_nil))))) (jss_one (js_if (jt_cmp (op_ne4 c.eq) ok_ne (je_ix (je_var 5) (je_var 8)) (je_ix (je_var 5) (je_var 9)) (nomark _)) (jss_cons (js_app (i := 4) rfl (by first | exact Or.inl rfl | exact Or.inr (Or.inl rfl) | exact Or.inr (Or.inr rfl)) (je_var 7)) (jss_one (js_setF (i := 5) c rfl (by first | exact Or.inl rfl | exact Or.inr rfl) (je_own (c.mono (by decide)) G_law_marks T.m_law_marks T.k_law_marks T.b_law_marks (ja_cons (je_var 0) (ja_cons (je_var 1) (ja_cons (je_var 4) (ja_nil)))) (alS (alS (alS (al0)))))))) (jss_nil)))))) (jss_cons (js_if (jt_cmp op_gt ok_gt (je_lenset c T.z_len T.z_set (je_var 5)) (je_int) (nomark _)) (jss_one (js_ret (je_non))) (jss_nil)) (jss_one (js_ret (je_callTy call_tuple_of ok_tuple T.z_tuple (by decide +kernel) (ja_cons (je_callB cr_sorted3 ok_sorted3 T.z_sorted (by decide +kernel) (ja_cons (je_var 4) (ja_nil))) (ja_nil)))))))))) (fun _ _ => .inr rfl)
set_option maxHeartbeats 4000000 in
theorem ok_law_lengths_v2 (T : Tx K mg) (G_law_mixed : FnOk P w K mg base (L2.CX P w) 1 T.a_law_mixed T.d_law_mixed ["cell", "k"] (spD K T.cls 2 g_law_mixed)) : FnOk P w K mg base (L2.CX P w) 2 T.a_law_lengths_v2 T.d_law_lengths_v2 ["script", "count"] (spD K T.cls 2 g_law_lengths_v2) :=
  fnD_ok T.F_law_lengths_v2 sc_law_lengths_v2 rfl (fun cdv A outer s H E c => jss_cons (js_setLc (i := 2) [("k", 3)] c rfl rfl (sw_true rfl rfl rfl (by decide +kernel)) (ji_rg1 T.z_range (ja_cons (je_var 1) (ja_nil))) (blkOk_by (N := N_law_lengths_v2) (sc := defScope s_law_lengths_v2) (by decide +kernel)) (fun _ _ _ _ _ => jg_name (i := 3) c.nd rfl (by first | exact Or.inl rfl | exact Or.inr rfl)) (fun _ _ _ _ _ c => jts_nil) (fun _ _ _ _ _ c => je_bin op_add4 ok_add (je_bin op_mul4 ok_mul (je_int) (je_var 3)) (je_int)) (by decide)) (jss_cons (js_for c (ji_rg1 T.z_range (ja_cons (je_callB call_len ok_len T.z_len (by decide +kernel) (ja_cons (je_var 0) (ja_nil))) (ja_nil))) (jg_name (i := 3) c.nd rfl (by first | exact Or.inl rfl | exact Or.inr rfl)) (jss_one (js_if (jt_cmp op_gt ok_gt (je_var 1) (je_int) (nomark _)) (jss_one (js_setIx (i := 2) rfl (by first | exact Or.inl rfl | exact Or.inr (Or.inl rfl) | exact Or.inr (Or.inr rfl)) (je_bin op_modX ok_mod (je_bin op_add4 ok_add (je_bin op_mul4 ok_mul (je_ix (je_var 2) (je_bin op_modX ok_mod (je_var 3) (je_var 1))) (je_int)) (je_ix (je_var 0) (je_var 3))) (je_bin op_pow ok_pow (je_int) (je_int))) (je_bin op_modX ok_mod (je_var 3) (je_var 1)))) (jss_nil)))) (jss_cons (js_set (i := 4) c rfl (by first | exact Or.inl rfl | exact Or.inr rfl) (je_lst (jao_nil))) (jss_cons (js_for c (ji_rg1 T.z_range (ja_cons (je_var 1) (ja_nil))) (jg_name (i := 3) c.nd rfl (by first | exact Or.inl rfl | exact Or.inr rfl)) (jss_cons (js_setF (i := 5) c rfl (by first | exact Or.inl rfl | exact Or.inr rfl) (je_own (c.mono (by decide)) G_law_mixed T.m_law_mixed T.k_law_mixed T.b_law_mixed (ja_cons (je_ix (je_var 2) (je_var 3)) (ja_cons (je_bin op_add4 ok_add (je_int) (je_var 3)) (ja_nil))) (alS (alS (al0))))) (jss_one (js_app (i := 4) rfl (by first | exact Or.inl rfl | exact Or.inr (Or.inl rfl) | exact Or.inr (Or.inr rfl)) (je_ix (je_lst (jao_cons (je_bin op_modX ok_mod (je_bin op_divX ok_div (je_var 5) (je_int)) (je_int)) (jao_cons (je_bin op_sub ok_sub (je_bin op_modX ok_mod (je_bin op_divX ok_div (je_var 5) (je_int)) (je_int)) (je_int)) (jao_cons (je_int) (jao_cons (je_bin op_sub ok_sub (je_bin op_modX ok_mod (je_ix (je_var 2) (je_var 3)) (je_bin op_mul4 ok_mul (je_int) (je_bin op_pow ok_pow (je_int) (je_int)))) (je_bin op_pow ok_pow (je_int) (je_int))) (jao_nil)))))) (je_bin op_modX ok_mod (je_var 5) (je_int))))))) (jss_one (js_retV 4)))))) (fun _ _ => .inr rfl)
set_option maxHeartbeats 4000000 in
theorem ok_law_text (T : Tx K mg) : FnOk P w K mg base (L2.CX P w) 1 T.a_law_text T.d_law_text ["places", "ties", "lengths"] (spD K T.cls 3 g_law_text) :=
  fnD_ok T.F_law_text sc_law_text rfl (fun cdv A outer s H E c => jss_cons (js_set (i := 3) c rfl (by first | exact Or.inl rfl | exact Or.inr rfl) (je_lst (jao_cons (je_bin op_add4 ok_add (je_str) (je_callTy call_str_int ok_str T.z_str (by decide +kernel) (ja_cons (je_var 0) (ja_nil)))) (jao_nil)))) (jss_cons (js_for c (ji_rg1 T.z_range (ja_cons (je_callB call_len ok_len T.z_len (by decide +kernel) (ja_cons (je_var 1) (ja_nil))) (ja_nil))) (jg_name (i := 4) c.nd rfl (by first | exact Or.inl rfl | exact Or.inr rfl)) (jss_cons (js_setF (i := 5) c rfl (by first | exact Or.inl rfl | exact Or.inr rfl) (je_lst (jao_cons (je_str) (jao_cons (je_callTy call_str_int ok_str T.z_str (by decide +kernel) (ja_cons (je_ix (je_ix (je_var 1) (je_var 4)) (je_int)) (ja_nil))) (jao_cons (je_callTy call_str_int ok_str T.z_str (by decide +kernel) (ja_cons (je_ix (je_ix (je_var 1) (je_var 4)) (je_int)) (ja_nil))) (jao_nil)))))) (jss_one (js_app (i := 3) rfl (by first | exact Or.inl rfl | exact Or.inr (Or.inl rfl) | exact Or.inr (Or.inr rfl)) (je_join (je_str) (je_bin op_add4 ok_add (je_var 5) (je_lst (jao_cons (je_callTy call_str_int ok_str T.z_str (by decide +kernel) (ja_cons (je_ix (je_var 2) (je_var 4)) (ja_nil))) (jao_nil))))))))) (jss_one (js_ret (je_join (je_str) (je_var 3)))))) (fun _ _ => .inr rfl)
set_option maxHeartbeats 4000000 in
theorem ok_law_led_down (T : Tx K mg) (G_gains_of : FnOk P w K mg base (L2.CX P w) 6 T.a_gains_of T.d_gains_of ["web", "lengths", "tree"] (spD K T.cls 3 g_gains_of)) (G_length_of : FnOk P w K mg base (L2.CX P w) 2 T.a_length_of T.d_length_of ["web", "lengths", "ties"] (spD K T.cls 3 g_length_of)) (G_is_cheapest : FnOk P w K mg base (L2.CX P w) 7 T.a_is_cheapest T.d_is_cheapest ["web", "lengths", "tree"] (spD K T.cls 3 g_is_cheapest)) (G_exchanged : FnOk P w K mg base (L2.CX P w) 4 T.a_exchanged T.d_exchanged ["web", "tree", "out", "into"] (spD K T.cls 4 g_exchanged)) : FnOk P w K mg base (L2.CX P w) 8 T.a_law_led_down T.d_law_led_down ["web", "lengths", "tree", "least"] (spD K T.cls 4 g_law_led_down) :=
  fnD_ok T.F_law_led_down sc_law_led_down rfl (fun cdv A outer s H E c => jss_cons (js_setF (i := 4) c rfl (by first | exact Or.inl rfl | exact Or.inr rfl) (je_var 2)) (jss_cons (js_for c (ji_rg1 T.z_range (ja_cons (je_int) (ja_nil))) (jg_name (i := 5) c.nd rfl (by first | exact Or.inl rfl | exact Or.inr rfl)) (jss_cons (js_setF (i := 6) c rfl (by first | exact Or.inl rfl | exact Or.inr rfl) (je_own (c.mono (by decide)) G_gains_of T.m_gains_of T.k_gains_of T.b_gains_of (ja_cons (je_var 0) (ja_cons (je_var 1) (ja_cons (je_var 4) (ja_nil)))) (alS (alS (alS (al0)))))) (jss_cons (js_setF (i := 7) c rfl (by first | exact Or.inl rfl | exact Or.inr rfl) (je_cmp (op_eq4 c.eq) ok_eq (je_own (c.mono (by decide)) G_length_of T.m_length_of T.k_length_of T.b_length_of (ja_cons (je_var 0) (ja_cons (je_var 1) (ja_cons (je_var 4) (ja_nil)))) (alS (alS (alS (al0))))) (je_var 3) (nomark _))) (jss_cons (js_if (jt_w (jw_or (jt_cmp (op_ne4 c.eq) ok_ne (je_cmp (op_eq4 c.eq) ok_eq (je_var 6) (je_lst (jao_nil)) (nomark _)) (je_var 7) (nomark _)) (jw_or1 (jt_cmp (op_ne4 c.eq) ok_ne (je_own (c.mono (by decide)) G_is_cheapest T.m_is_cheapest T.k_is_cheapest T.b_is_cheapest (ja_cons (je_var 0) (ja_cons (je_var 1) (ja_cons (je_var 4) (ja_nil)))) (alS (alS (alS (al0))))) (je_var 7) (nomark _))))) (jss_one (js_ret (je_bl))) (jss_nil)) (jss_cons (js_if (jt_truth (je_var 7)) (jss_one (js_ret (je_bl))) (jss_nil)) (jss_cons (js_asgT (je_ix (je_var 6) (je_int)) (jg_tup c.calm (jgs_cons (jg_name (i := 8) c.nd rfl (by first | exact Or.inl rfl | exact Or.inr rfl)) (jgs_cons (jg_name (i := 9) c.nd rfl (by first | exact Or.inl rfl | exact Or.inr rfl)) (jgs_nil))))) (jss_cons (js_setF (i := 10) c rfl (by first | exact Or.inl rfl | exact Or.inr rfl) (je_own (c.mono (by decide)) G_exchanged T.m_exchanged T.k_exchanged T.b_exchanged (ja_cons (je_var 0) (ja_cons (je_var 4) (ja_cons (je_var 8) (ja_cons (je_var 9) (ja_nil))))) (alS (alS (alS (alS (al0))))))) (jss_cons (js_setF (i := 11) c rfl (by first | exact Or.inl rfl | exact Or.inr rfl) (je_bin op_sub ok_sub (je_ix (je_var 1) (je_var 8)) (je_ix (je_var 1) (je_var 9)))) (jss_cons (js_if (jt_cmp op_le ok_le (je_var 11) (je_int) (nomark _)) (jss_one (js_ret (je_bl))) (jss_nil)) (jss_cons (js_if (jt_cmp (op_ne4 c.eq) ok_ne (je_own (c.mono (by decide)) G_length_of T.m_length_of T.k_length_of T.b_length_of (ja_cons (je_var 0) (ja_cons (je_var 1) (ja_cons (je_var 10) (ja_nil)))) (alS (alS (alS (al0))))) (je_bin op_sub ok_sub (je_own (c.mono (by decide)) G_length_of T.m_length_of T.k_length_of T.b_length_of (ja_cons (je_var 0) (ja_cons (je_var 1) (ja_cons (je_var 4) (ja_nil)))) (alS (alS (alS (al0))))) (je_var 11)) (nomark _)) (jss_one (js_ret (je_bl))) (jss_nil)) (jss_one (js_setF (i := 4) c rfl (by first | exact Or.inl rfl | exact Or.inr rfl) (je_var 10))))))))))))) (jss_one (js_ret (je_bl))))) (fun _ _ => .inr rfl)
set_option maxHeartbeats 4000000 in
theorem ok_law_k95 (T : Tx K mg) (G_law_web : FnOk P w K mg base (L2.CX P w) 3 T.a_law_web T.d_law_web ["script", "most", "count"] (spD K T.cls 3 g_law_web)) (G_read_web : FnOk P w K mg base (L2.CX P w) 3 T.a_read_web T.d_read_web ["text"] (spD K T.cls 1 g_read_web)) (G_law_text : FnOk P w K mg base (L2.CX P w) 1 T.a_law_text T.d_law_text ["places", "ties", "lengths"] (spD K T.cls 3 g_law_text)) (G_law_lengths_v2 : FnOk P w K mg base (L2.CX P w) 2 T.a_law_lengths_v2 T.d_law_lengths_v2 ["script", "count"] (spD K T.cls 2 g_law_lengths_v2)) (G_law_tree_by : FnOk P w K mg base (L2.CX P w) 2 T.a_law_tree_by T.d_law_tree_by ["places", "ties", "cell"] (spD K T.cls 3 g_law_tree_by)) (G_cheapest_tree : FnOk P w K mg base (L2.CX P w) 2 T.a_cheapest_tree T.d_cheapest_tree ["web", "lengths"] (spD K T.cls 2 g_cheapest_tree)) (G_length_of : FnOk P w K mg base (L2.CX P w) 2 T.a_length_of T.d_length_of ["web", "lengths", "ties"] (spD K T.cls 3 g_length_of)) (G_gains_of : FnOk P w K mg base (L2.CX P w) 6 T.a_gains_of T.d_gains_of ["web", "lengths", "tree"] (spD K T.cls 3 g_gains_of)) (G_is_cheapest : FnOk P w K mg base (L2.CX P w) 7 T.a_is_cheapest T.d_is_cheapest ["web", "lengths", "tree"] (spD K T.cls 3 g_is_cheapest)) (G_law_led_down : FnOk P w K mg base (L2.CX P w) 8 T.a_law_led_down T.d_law_led_down ["web", "lengths", "tree", "least"] (spD K T.cls 4 g_law_led_down)) (G_ranked : FnOk P w K mg base (L2.CX P w) 4 T.a_ranked T.d_ranked ["web", "lengths", "most"] (spD K T.cls 3 g_ranked)) (G_far_tree : FnOk P w K mg base (L2.CX P w) 4 T.a_far_tree T.d_far_tree ["web", "tree"] (spD K T.cls 2 g_far_tree)) (G_differ : FnOk P w K mg base (L2.CX P w) 4 T.a_differ T.d_differ ["web", "one", "other"] (spD K T.cls 3 g_differ)) (G_least_tree : FnOk P w K mg base (L2.CX P w) 3 T.a_least_tree T.d_least_tree ["web"] (spD K T.cls 1 g_least_tree)) : FnOk P w K mg base (L2.CX P w) 9 T.a_law_k95 T.d_law_k95 ["script"] (spD K T.cls 1 g_law_k95) :=
  fnD_ok T.F_law_k95 sc_law_k95 rfl (fun cdv A outer s H E c => jss_cons (js_asgT (je_own (c.mono (by decide)) G_law_web T.m_law_web T.k_law_web T.b_law_web (ja_cons (je_var 0) (ja_cons (je_int) (ja_cons (je_int) (ja_nil)))) (alS (alS (alS (al0))))) (jg_tup c.calm (jgs_cons (jg_name (i := 1) c.nd rfl (by first | exact Or.inl rfl | exact Or.inr rfl)) (jgs_cons (jg_name (i := 2) c.nd rfl (by first | exact Or.inl rfl | exact Or.inr rfl)) (jgs_nil))))) (jss_cons (js_asgT (je_own (c.mono (by decide)) G_read_web T.m_read_web T.k_read_web T.b_read_web (ja_cons (je_own (c.mono (by decide)) G_law_text T.m_law_text T.k_law_text T.b_law_text (ja_cons (je_var 1) (ja_cons (je_var 2) (ja_cons (je_own (c.mono (by decide)) G_law_lengths_v2 T.m_law_lengths_v2 T.k_law_lengths_v2 T.b_law_lengths_v2 (ja_cons (je_var 0) (ja_cons (je_callB call_len ok_len T.z_len (by decide +kernel) (ja_cons (je_var 2) (ja_nil))) (ja_nil))) (alS (alS (al0)))) (ja_nil)))) (alS (alS (alS (al0))))) (ja_nil)) (alS (al0))) (jg_tup c.calm (jgs_cons (jg_name (i := 3) c.nd rfl (by first | exact Or.inl rfl | exact Or.inr rfl)) (jgs_cons (jg_name (i := 4) c.nd rfl (by first | exact Or.inl rfl | exact Or.inr rfl)) (jgs_nil))))) (jss_cons (js_setF (i := 5) c rfl (by first | exact Or.inl rfl | exact Or.inr rfl) (je_bin op_modX ok_mod (je_callB (cr_sum c.calm) ok_sum T.z_sum (by decide +kernel) (ja_cons (je_var 0) (ja_nil))) (je_bin op_pow ok_pow (je_int) (je_int)))) (jss_cons (js_setF (i := 6) c rfl (by first | exact Or.inl rfl | exact Or.inr rfl) (je_own (c.mono (by decide)) G_law_tree_by T.m_law_tree_by T.k_law_tree_by T.b_law_tree_by (ja_cons (je_var 1) (ja_cons (je_var 2) (ja_cons (je_var 5) (ja_nil)))) (alS (alS (alS (al0)))))) (jss_cons (js_if (jt_cmp op_isN ok_isN (je_var 6) (je_non) (nomark _)) (jss_one (js_ret (je_bl))) (jss_nil)) (jss_cons (js_setF (i := 7) c rfl (by first | exact Or.inl rfl | exact Or.inr rfl) (je_own (c.mono (by decide)) G_cheapest_tree T.m_cheapest_tree T.k_cheapest_tree T.b_cheapest_tree (ja_cons (je_var 3) (ja_cons (je_var 4) (ja_nil))) (alS (alS (al0))))) (jss_cons (js_setF (i := 8) c rfl (by first | exact Or.inl rfl | exact Or.inr rfl) (je_own (c.mono (by decide)) G_length_of T.m_length_of T.k_length_of T.b_length_of (ja_cons (je_var 3) (ja_cons (je_var 4) (ja_cons (je_var 7) (ja_nil)))) (alS (alS (alS (al0)))))) (jss_cons (js_if (jt_w (jw_or (jt_cmp (op_ne4 c.eq) ok_ne (je_own (c.mono (by decide)) G_gains_of T.m_gains_of T.k_gains_of T.b_gains_of (ja_cons (je_var 3) (ja_cons (je_var 4) (ja_cons (je_var 7) (ja_nil)))) (alS (alS (alS (al0))))) (je_lst (jao_nil)) (nomark _)) (jw_or1 (jt_not (jt_truth (je_own (c.mono (by decide)) G_is_cheapest T.m_is_cheapest T.k_is_cheapest T.b_is_cheapest (ja_cons (je_var 3) (ja_cons (je_var 4) (ja_cons (je_var 7) (ja_nil)))) (alS (alS (alS (al0)))))))))) (jss_one (js_ret (je_bl))) (jss_nil)) (jss_cons (js_if (jt_not (jt_truth (je_own (c.mono (by decide)) G_law_led_down T.m_law_led_down T.k_law_led_down T.b_law_led_down (ja_cons (je_var 3) (ja_cons (je_var 4) (ja_cons (je_var 6) (ja_cons (je_var 8) (ja_nil))))) (alS (alS (alS (alS (al0)))))))) (jss_one (js_ret (je_bl))) (jss_nil)) (jss_cons (js_setLcF (i := 9) [("length", 14)] c rfl rfl (sw_true rfl rfl rfl (by decide +kernel)) (ji_seq (je_var 4)) (blkOk_by (N := N_law_k95) (sc := defScope s_law_k95) (by decide +kernel)) (fun _ _ _ _ _ => jg_name (i := 14) c.nd rfl (by first | exact Or.inl rfl | exact Or.inr rfl)) (fun _ _ _ _ _ c => jts_nil) (fun _ _ _ _ _ c => je_bin op_add4 ok_add (je_var 14) (je_int)) (by decide)) (jss_cons (js_setF (i := 10) c rfl (by first | exact Or.inl rfl | exact Or.inr rfl) (je_own (c.mono (by decide)) G_ranked T.m_ranked T.k_ranked T.b_ranked (ja_cons (je_var 3) (ja_cons (je_var 4) (ja_cons (je_int) (ja_nil)))) (alS (alS (alS (al0)))))) (jss_cons (js_setLcF (i := 11) [("length", 14), ("one", 15)] c rfl rfl (sw_true rfl rfl rfl (by decide +kernel)) (ji_seq (je_var 10)) (blkOk_by (N := N_law_k95) (sc := defScope s_law_k95) (by decide +kernel)) (fun _ _ _ _ _ => jg_tup c.calm (jgs_cons (jg_name (i := 14) c.nd rfl (by first | exact Or.inl rfl | exact Or.inr rfl)) (jgs_cons (jg_name (i := 15) c.nd rfl (by first | exact Or.inl rfl | exact Or.inr rfl)) (jgs_nil)))) (fun _ _ _ _ _ c => jts_nil) (fun _ _ _ _ _ c => je_tup (jao_cons (je_bin op_add4 ok_add (je_var 14) (je_bin op_mul4 ok_mul (je_int) (je_bin op_sub ok_sub (je_var 1) (je_int)))) (jao_cons (je_var 15) (jao_nil)))) (by decide)) (jss_cons (js_if (jt_w (jw_or (jt_cmp (op_ne4 c.eq) ok_ne (je_own (c.mono (by decide)) G_ranked T.m_ranked T.k_ranked T.b_ranked (ja_cons (je_var 3) (ja_cons (je_var 9) (ja_cons (je_int) (ja_nil)))) (alS (alS (alS (al0))))) (je_var 11) (nomark _)) (jw_or1 (jt_cmp (op_ne4 c.eq) ok_ne (je_ix (je_var 10) (je_int)) (je_tup (jao_cons (je_var 8) (jao_cons (je_var 7) (jao_nil)))) (nomark _))))) (jss_one (js_ret (je_bl))) (jss_nil)) (jss_cons (js_setLcF (i := 12) [("tie", 16)] c rfl rfl (sw_true rfl rfl rfl (by decide +kernel)) (ji_rg1 T.z_range (ja_cons (je_callB call_len ok_len T.z_len (by decide +kernel) (ja_cons (je_var 2) (ja_nil))) (ja_nil))) (blkOk_by (N := N_law_k95) (sc := defScope s_law_k95) (by decide +kernel)) (fun _ _ _ _ _ => jg_name (i := 16) c.nd rfl (by first | exact Or.inl rfl | exact Or.inr rfl)) (fun _ _ _ _ _ c => jts_nil) (fun _ _ _ _ _ c => je_callTy call_int1 ok_int T.z_int (by decide +kernel) (ja_cons (je_cmp op_in_seq ok_in (je_var 16) (je_var 6) (by rfl)) (ja_nil))) (by decide)) (jss_cons (js_setF (i := 13) c rfl (by first | exact Or.inl rfl | exact Or.inr rfl) (je_own (c.mono (by decide)) G_far_tree T.m_far_tree T.k_far_tree T.b_far_tree (ja_cons (je_var 3) (ja_cons (je_var 6) (ja_nil))) (alS (alS (al0))))) (jss_cons (js_if (jt_cmp (op_ne4 c.eq) ok_ne (je_var 13) (je_own (c.mono (by decide)) G_cheapest_tree T.m_cheapest_tree T.k_cheapest_tree T.b_cheapest_tree (ja_cons (je_var 3) (ja_cons (je_var 12) (ja_nil))) (alS (alS (al0)))) (nomark _)) (jss_one (js_ret (je_bl))) (jss_nil)) (jss_cons (js_if (jt_cmp (op_ne4 c.eq) ok_ne (je_own (c.mono (by decide)) G_differ T.m_differ T.k_differ T.b_differ (ja_cons (je_var 3) (ja_cons (je_var 6) (ja_cons (je_var 13) (ja_nil)))) (alS (alS (alS (al0))))) (je_bin op_sub ok_sub (je_bin op_sub ok_sub (je_var 1) (je_int)) (je_own (c.mono (by decide)) G_length_of T.m_length_of T.k_length_of T.b_length_of (ja_cons (je_var 3) (ja_cons (je_var 12) (ja_cons (je_var 13) (ja_nil)))) (alS (alS (alS (al0)))))) (nomark _)) (jss_one (js_ret (je_bl))) (jss_nil)) (jss_one (js_ret (je_cmp (op_eq4 c.eq) ok_eq (je_own (c.mono (by decide)) G_cheapest_tree T.m_cheapest_tree T.k_cheapest_tree T.b_cheapest_tree (ja_cons (je_var 3) (ja_cons (je_bin op_mul4 ok_mul (je_lst (jao_cons (je_int) (jao_nil))) (je_callB call_len ok_len T.z_len (by decide +kernel) (ja_cons (je_var 2) (ja_nil)))) (ja_nil))) (alS (alS (al0)))) (je_own (c.mono (by decide)) G_least_tree T.m_least_tree T.k_least_tree T.b_least_tree (ja_cons (je_var 3) (ja_nil)) (alS (al0))) (nomark _))))))))))))))))))))) (fun _ _ => .inr rfl)
set_option maxHeartbeats 8000000 in
theorem all_mk {K : PySem.W.Frag} {h : Heap} {mg : Str → Option Value} (X : K.In h) (G : h.Ns mainGlobals mg) {C_WebError C_BadWeb C_BadSet C_Parted C_NoTree C_NoTie C_BadRow C_BadText C_Web a_Web_init a_made_set a_marks_over a_joined_ends a_is_tree a_look_at_tree a_grown a_least_tree a_without_tie a_cut_of a_exchanges_of a_exchanged a_look_at_lengths a_length_of a_by_length a_heads_joined a_cheapest_tree a_gains_of a_is_cheapest a_look_at_tree__2 a_alone_in a_differ a_far_tree a_shortest_with a_put_found a_parts_behind a_ranked a_number_written a_numbers_behind a_read_web a_law_cell a_law_mixed a_law_draws a_law_ties a_law_web a_law_marks a_law_tree_by a_law_lengths_v2 a_law_text a_law_led_down a_law_k95 : Addr} {od_Web_init an_Web_init od_made_set an_made_set od_marks_over an_marks_over od_joined_ends an_joined_ends od_is_tree an_is_tree od_look_at_tree an_look_at_tree od_grown an_grown od_least_tree an_least_tree od_without_tie an_without_tie od_cut_of an_cut_of od_exchanges_of an_exchanges_of od_exchanged an_exchanged od_look_at_lengths an_look_at_lengths od_length_of an_length_of od_by_length an_by_length od_heads_joined an_heads_joined od_cheapest_tree an_cheapest_tree od_gains_of an_gains_of od_is_cheapest an_is_cheapest od_look_at_tree__2 an_look_at_tree__2 od_alone_in an_alone_in od_differ an_differ od_far_tree an_far_tree od_shortest_with an_shortest_with od_put_found an_put_found od_parts_behind an_parts_behind od_ranked an_ranked od_number_written an_number_written od_numbers_behind an_numbers_behind od_read_web an_read_web od_law_cell an_law_cell od_law_mixed an_law_mixed od_law_draws an_law_draws od_law_ties an_law_ties od_law_web an_law_web od_law_marks an_law_marks od_law_tree_by an_law_tree_by od_law_lengths_v2 an_law_lengths_v2 od_law_text an_law_text od_law_led_down an_law_led_down od_law_k95 an_law_k95 : Option Addr} {sl_Web_init sl_made_set sl_marks_over sl_joined_ends sl_is_tree sl_look_at_tree sl_grown sl_least_tree sl_without_tie sl_cut_of sl_exchanges_of sl_exchanged sl_look_at_lengths sl_length_of sl_by_length sl_heads_joined sl_cheapest_tree sl_gains_of sl_is_cheapest sl_look_at_tree__2 sl_alone_in sl_differ sl_far_tree sl_shortest_with sl_put_found sl_parts_behind sl_ranked sl_number_written sl_numbers_behind sl_read_web sl_law_cell sl_law_mixed sl_law_draws sl_law_ties sl_law_web sl_law_marks sl_law_tree_by sl_law_lengths_v2 sl_law_text sl_law_led_down sl_law_k95 : Array (Option Value)} {oc_Web_init kV_Web_init dc_Web_init pm_Web_init cd_Web_init ct_Web_init oc_made_set kV_made_set dc_made_set pm_made_set cd_made_set ct_made_set oc_marks_over kV_marks_over dc_marks_over pm_marks_over cd_marks_over ct_marks_over oc_joined_ends kV_joined_ends dc_joined_ends pm_joined_ends cd_joined_ends ct_joined_ends oc_is_tree kV_is_tree dc_is_tree pm_is_tree cd_is_tree ct_is_tree oc_look_at_tree kV_look_at_tree dc_look_at_tree pm_look_at_tree cd_look_at_tree ct_look_at_tree oc_grown kV_grown dc_grown pm_grown cd_grown ct_grown oc_least_tree kV_least_tree dc_least_tree pm_least_tree cd_least_tree ct_least_tree oc_without_tie kV_without_tie dc_without_tie pm_without_tie cd_without_tie ct_without_tie oc_cut_of kV_cut_of dc_cut_of pm_cut_of cd_cut_of ct_cut_of oc_exchanges_of kV_exchanges_of dc_exchanges_of pm_exchanges_of cd_exchanges_of ct_exchanges_of oc_exchanged kV_exchanged dc_exchanged pm_exchanged cd_exchanged ct_exchanged oc_look_at_lengths kV_look_at_lengths dc_look_at_lengths pm_look_at_lengths cd_look_at_lengths ct_look_at_lengths oc_length_of kV_length_of dc_length_of pm_length_of cd_length_of ct_length_of oc_by_length kV_by_length dc_by_length pm_by_length cd_by_length ct_by_length oc_heads_joined kV_heads_joined dc_heads_joined pm_heads_joined cd_heads_joined ct_heads_joined oc_cheapest_tree kV_cheapest_tree dc_cheapest_tree pm_cheapest_tree cd_cheapest_tree ct_cheapest_tree oc_gains_of kV_gains_of dc_gains_of pm_gains_of cd_gains_of ct_gains_of oc_is_cheapest kV_is_cheapest dc_is_cheapest pm_is_cheapest cd_is_cheapest ct_is_cheapest oc_look_at_tree__2 kV_look_at_tree__2 dc_look_at_tree__2 pm_look_at_tree__2 cd_look_at_tree__2 ct_look_at_tree__2 oc_alone_in kV_alone_in dc_alone_in pm_alone_in cd_alone_in ct_alone_in oc_differ kV_differ dc_differ pm_differ cd_differ ct_differ oc_far_tree kV_far_tree dc_far_tree pm_far_tree cd_far_tree ct_far_tree oc_shortest_with kV_shortest_with dc_shortest_with pm_shortest_with cd_shortest_with ct_shortest_with oc_put_found kV_put_found dc_put_found pm_put_found cd_put_found ct_put_found oc_parts_behind kV_parts_behind dc_parts_behind pm_parts_behind cd_parts_behind ct_parts_behind oc_ranked kV_ranked dc_ranked pm_ranked cd_ranked ct_ranked oc_number_written kV_number_written dc_number_written pm_number_written cd_number_written ct_number_written oc_numbers_behind kV_numbers_behind dc_numbers_behind pm_numbers_behind cd_numbers_behind ct_numbers_behind oc_read_web kV_read_web dc_read_web pm_read_web cd_read_web ct_read_web oc_law_cell kV_law_cell dc_law_cell pm_law_cell cd_law_cell ct_law_cell oc_law_mixed kV_law_mixed dc_law_mixed pm_law_mixed cd_law_mixed ct_law_mixed oc_law_draws kV_law_draws dc_law_draws pm_law_draws cd_law_draws ct_law_draws oc_law_ties kV_law_ties dc_law_ties pm_law_ties cd_law_ties ct_law_ties oc_law_web kV_law_web dc_law_web pm_law_web cd_law_web ct_law_web oc_law_marks kV_law_marks dc_law_marks pm_law_marks cd_law_marks ct_law_marks oc_law_tree_by kV_law_tree_by dc_law_tree_by pm_law_tree_by cd_law_tree_by ct_law_tree_by oc_law_lengths_v2 kV_law_lengths_v2 dc_law_lengths_v2 pm_law_lengths_v2 cd_law_lengths_v2 ct_law_lengths_v2 oc_law_text kV_law_text dc_law_text pm_law_text cd_law_text ct_law_text oc_law_led_down kV_law_led_down dc_law_led_down pm_law_led_down cd_law_led_down ct_law_led_down oc_law_k95 kV_law_k95 dc_law_k95 pm_law_k95 cd_law_k95 ct_law_k95 : Value} {t_MOST_PLACES t_MOST_TIES t_FIGURES t_MOST_FIGURES : Tok}
    (a_WebError : PySem.W.nsIn K mainGlobals "WebError" = some (some (.ref C_WebError)))
    (x_WebError : PySem.W.excIn K C_WebError [.type "ValueError", .type "Exception", .type "BaseException", .type "object"] "ValueError.__new__" = true)
    (kx_WebError : PySem.W.keepIn K (.ref C_WebError) = true)
    (bx_WebError : PySem.W.subIn K (.ref C_WebError) (.type "BaseException") = some true)
    (tx_WebError : PySem.W.typeIn K (.ref C_WebError) = some (.type "type"))
    (a_BadWeb : PySem.W.nsIn K mainGlobals "BadWeb" = some (some (.ref C_BadWeb)))
    (x_BadWeb : PySem.W.excIn K C_BadWeb [.type "ValueError", .type "Exception", .type "BaseException", .type "object"] "ValueError.__new__" = true)
    (kx_BadWeb : PySem.W.keepIn K (.ref C_BadWeb) = true)
    (bx_BadWeb : PySem.W.subIn K (.ref C_BadWeb) (.type "BaseException") = some true)
    (tx_BadWeb : PySem.W.typeIn K (.ref C_BadWeb) = some (.type "type"))
    (a_BadSet : PySem.W.nsIn K mainGlobals "BadSet" = some (some (.ref C_BadSet)))
    (x_BadSet : PySem.W.excIn K C_BadSet [.type "ValueError", .type "Exception", .type "BaseException", .type "object"] "ValueError.__new__" = true)
    (kx_BadSet : PySem.W.keepIn K (.ref C_BadSet) = true)
    (bx_BadSet : PySem.W.subIn K (.ref C_BadSet) (.type "BaseException") = some true)
    (tx_BadSet : PySem.W.typeIn K (.ref C_BadSet) = some (.type "type"))
    (a_Parted : PySem.W.nsIn K mainGlobals "Parted" = some (some (.ref C_Parted)))
    (x_Parted : PySem.W.excIn K C_Parted [.type "ValueError", .type "Exception", .type "BaseException", .type "object"] "ValueError.__new__" = true)
    (kx_Parted : PySem.W.keepIn K (.ref C_Parted) = true)
    (bx_Parted : PySem.W.subIn K (.ref C_Parted) (.type "BaseException") = some true)
    (tx_Parted : PySem.W.typeIn K (.ref C_Parted) = some (.type "type"))
    (a_NoTree : PySem.W.nsIn K mainGlobals "NoTree" = some (some (.ref C_NoTree)))
    (x_NoTree : PySem.W.excIn K C_NoTree [.type "ValueError", .type "Exception", .type "BaseException", .type "object"] "ValueError.__new__" = true)
    (kx_NoTree : PySem.W.keepIn K (.ref C_NoTree) = true)
    (bx_NoTree : PySem.W.subIn K (.ref C_NoTree) (.type "BaseException") = some true)
    (tx_NoTree : PySem.W.typeIn K (.ref C_NoTree) = some (.type "type"))
    (a_NoTie : PySem.W.nsIn K mainGlobals "NoTie" = some (some (.ref C_NoTie)))
    (x_NoTie : PySem.W.excIn K C_NoTie [.type "ValueError", .type "Exception", .type "BaseException", .type "object"] "ValueError.__new__" = true)
    (kx_NoTie : PySem.W.keepIn K (.ref C_NoTie) = true)
    (bx_NoTie : PySem.W.subIn K (.ref C_NoTie) (.type "BaseException") = some true)
    (tx_NoTie : PySem.W.typeIn K (.ref C_NoTie) = some (.type "type"))
    (a_BadRow : PySem.W.nsIn K mainGlobals "BadRow" = some (some (.ref C_BadRow)))
    (x_BadRow : PySem.W.excIn K C_BadRow [.type "ValueError", .type "Exception", .type "BaseException", .type "object"] "ValueError.__new__" = true)
    (kx_BadRow : PySem.W.keepIn K (.ref C_BadRow) = true)
    (bx_BadRow : PySem.W.subIn K (.ref C_BadRow) (.type "BaseException") = some true)
    (tx_BadRow : PySem.W.typeIn K (.ref C_BadRow) = some (.type "type"))
    (a_BadText : PySem.W.nsIn K mainGlobals "BadText" = some (some (.ref C_BadText)))
    (x_BadText : PySem.W.excIn K C_BadText [.type "ValueError", .type "Exception", .type "BaseException", .type "object"] "ValueError.__new__" = true)
    (kx_BadText : PySem.W.keepIn K (.ref C_BadText) = true)
    (bx_BadText : PySem.W.subIn K (.ref C_BadText) (.type "BaseException") = some true)
    (tx_BadText : PySem.W.typeIn K (.ref C_BadText) = some (.type "type"))
    (a_Web : PySem.W.nsIn K mainGlobals "Web" = some (some (.ref C_Web)))
    (pg_Web : PySem.W.plainGet K C_Web Str.empty = true)
    (hd_Web : PySem.W.hasDictIn K C_Web = true)
    (po_Web : PySem.W.plainOver K C_Web = true)
    (sa_Web : PySem.W.findIn K (.ref C_Web) "__setattr__" = some (some (.builtin "object.__setattr__")))
    (mk_Web : PySem.W.makesIn K C_Web = true)
    (kc_Web : PySem.W.keepIn K (.ref C_Web) = true)
    (na_Web_places : PySem.W.findIn K (.ref C_Web) "places" = some none)
    (na_Web_ties : PySem.W.findIn K (.ref C_Web) "ties" = some none)
    (n_Web_init : PySem.W.findIn K (.ref C_Web) "__init__" = some (some (.ref a_Web_init)))
    (i_Web_init : PySem.W.isFn K (.ref a_Web_init) = true)
    (l_Web_init : K.lookup a_Web_init = some ⟨oc_Web_init, od_Web_init, .func (PySem.W.fnOf "__init__" "Web.__init__" (defArgs s_Web_init) (defBody s_Web_init) (defScope s_Web_init) .none kV_Web_init dc_Web_init pm_Web_init an_Web_init cd_Web_init ct_Web_init), sl_Web_init⟩)
    (c_Web_init : PySem.W.codeIn K cd_Web_init "Web.__init__" = true)
    (k_Web_init : PySem.W.keepIn K (.ref a_Web_init) = true)
    (n_made_set : PySem.W.nsIn K mainGlobals "made_set" = some (some (.ref a_made_set)))
    (l_made_set : K.lookup a_made_set = some ⟨oc_made_set, od_made_set, .func (PySem.W.fnOf "made_set" "made_set" (defArgs s_made_set) (defBody s_made_set) (defScope s_made_set) .none kV_made_set dc_made_set pm_made_set an_made_set cd_made_set ct_made_set), sl_made_set⟩)
    (c_made_set : PySem.W.codeIn K cd_made_set "made_set" = true)
    (k_made_set : PySem.W.keepIn K (.ref a_made_set) = true)
    (n_marks_over : PySem.W.nsIn K mainGlobals "marks_over" = some (some (.ref a_marks_over)))
    (l_marks_over : K.lookup a_marks_over = some ⟨oc_marks_over, od_marks_over, .func (PySem.W.fnOf "marks_over" "marks_over" (defArgs s_marks_over) (defBody s_marks_over) (defScope s_marks_over) .none kV_marks_over dc_marks_over pm_marks_over an_marks_over cd_marks_over ct_marks_over), sl_marks_over⟩)
    (c_marks_over : PySem.W.codeIn K cd_marks_over "marks_over" = true)
    (k_marks_over : PySem.W.keepIn K (.ref a_marks_over) = true)
    (n_joined_ends : PySem.W.nsIn K mainGlobals "joined_ends" = some (some (.ref a_joined_ends)))
    (l_joined_ends : K.lookup a_joined_ends = some ⟨oc_joined_ends, od_joined_ends, .func (PySem.W.fnOf "joined_ends" "joined_ends" (defArgs s_joined_ends) (defBody s_joined_ends) (defScope s_joined_ends) .none kV_joined_ends dc_joined_ends pm_joined_ends an_joined_ends cd_joined_ends ct_joined_ends), sl_joined_ends⟩)
    (c_joined_ends : PySem.W.codeIn K cd_joined_ends "joined_ends" = true)
    (k_joined_ends : PySem.W.keepIn K (.ref a_joined_ends) = true)
    (n_is_tree : PySem.W.nsIn K mainGlobals "is_tree" = some (some (.ref a_is_tree)))
    (l_is_tree : K.lookup a_is_tree = some ⟨oc_is_tree, od_is_tree, .func (PySem.W.fnOf "is_tree" "is_tree" (defArgs s_is_tree) (defBody s_is_tree) (defScope s_is_tree) .none kV_is_tree dc_is_tree pm_is_tree an_is_tree cd_is_tree ct_is_tree), sl_is_tree⟩)
    (c_is_tree : PySem.W.codeIn K cd_is_tree "is_tree" = true)
    (k_is_tree : PySem.W.keepIn K (.ref a_is_tree) = true)
    (n_look_at_tree : PySem.W.nsIn K mainGlobals "look_at_tree_trees" = some (some (.ref a_look_at_tree)))
    (l_look_at_tree : K.lookup a_look_at_tree = some ⟨oc_look_at_tree, od_look_at_tree, .func (PySem.W.fnOf "look_at_tree" "look_at_tree" (defArgs s_look_at_tree) (defBody s_look_at_tree) (defScope s_look_at_tree) .none kV_look_at_tree dc_look_at_tree pm_look_at_tree an_look_at_tree cd_look_at_tree ct_look_at_tree), sl_look_at_tree⟩)
    (c_look_at_tree : PySem.W.codeIn K cd_look_at_tree "look_at_tree" = true)
    (k_look_at_tree : PySem.W.keepIn K (.ref a_look_at_tree) = true)
    (n_grown : PySem.W.nsIn K mainGlobals "grown" = some (some (.ref a_grown)))
    (l_grown : K.lookup a_grown = some ⟨oc_grown, od_grown, .func (PySem.W.fnOf "grown" "grown" (defArgs s_grown) (defBody s_grown) (defScope s_grown) .none kV_grown dc_grown pm_grown an_grown cd_grown ct_grown), sl_grown⟩)
    (c_grown : PySem.W.codeIn K cd_grown "grown" = true)
    (k_grown : PySem.W.keepIn K (.ref a_grown) = true)
    (n_least_tree : PySem.W.nsIn K mainGlobals "least_tree" = some (some (.ref a_least_tree)))
    (l_least_tree : K.lookup a_least_tree = some ⟨oc_least_tree, od_least_tree, .func (PySem.W.fnOf "least_tree" "least_tree" (defArgs s_least_tree) (defBody s_least_tree) (defScope s_least_tree) .none kV_least_tree dc_least_tree pm_least_tree an_least_tree cd_least_tree ct_least_tree), sl_least_tree⟩)
    (c_least_tree : PySem.W.codeIn K cd_least_tree "least_tree" = true)
    (k_least_tree : PySem.W.keepIn K (.ref a_least_tree) = true)
    (n_without_tie : PySem.W.nsIn K mainGlobals "without_tie" = some (some (.ref a_without_tie)))
    (l_without_tie : K.lookup a_without_tie = some ⟨oc_without_tie, od_without_tie, .func (PySem.W.fnOf "without_tie" "without_tie" (defArgs s_without_tie) (defBody s_without_tie) (defScope s_without_tie) .none kV_without_tie dc_without_tie pm_without_tie an_without_tie cd_without_tie ct_without_tie), sl_without_tie⟩)
    (c_without_tie : PySem.W.codeIn K cd_without_tie "without_tie" = true)
    (k_without_tie : PySem.W.keepIn K (.ref a_without_tie) = true)
    (n_cut_of : PySem.W.nsIn K mainGlobals "cut_of" = some (some (.ref a_cut_of)))
    (l_cut_of : K.lookup a_cut_of = some ⟨oc_cut_of, od_cut_of, .func (PySem.W.fnOf "cut_of" "cut_of" (defArgs s_cut_of) (defBody s_cut_of) (defScope s_cut_of) .none kV_cut_of dc_cut_of pm_cut_of an_cut_of cd_cut_of ct_cut_of), sl_cut_of⟩)
    (c_cut_of : PySem.W.codeIn K cd_cut_of "cut_of" = true)
    (k_cut_of : PySem.W.keepIn K (.ref a_cut_of) = true)
    (n_exchanges_of : PySem.W.nsIn K mainGlobals "exchanges_of" = some (some (.ref a_exchanges_of)))
    (l_exchanges_of : K.lookup a_exchanges_of = some ⟨oc_exchanges_of, od_exchanges_of, .func (PySem.W.fnOf "exchanges_of" "exchanges_of" (defArgs s_exchanges_of) (defBody s_exchanges_of) (defScope s_exchanges_of) .none kV_exchanges_of dc_exchanges_of pm_exchanges_of an_exchanges_of cd_exchanges_of ct_exchanges_of), sl_exchanges_of⟩)
    (c_exchanges_of : PySem.W.codeIn K cd_exchanges_of "exchanges_of" = true)
    (k_exchanges_of : PySem.W.keepIn K (.ref a_exchanges_of) = true)
    (n_exchanged : PySem.W.nsIn K mainGlobals "exchanged" = some (some (.ref a_exchanged)))
    (l_exchanged : K.lookup a_exchanged = some ⟨oc_exchanged, od_exchanged, .func (PySem.W.fnOf "exchanged" "exchanged" (defArgs s_exchanged) (defBody s_exchanged) (defScope s_exchanged) .none kV_exchanged dc_exchanged pm_exchanged an_exchanged cd_exchanged ct_exchanged), sl_exchanged⟩)
    (c_exchanged : PySem.W.codeIn K cd_exchanged "exchanged" = true)
    (k_exchanged : PySem.W.keepIn K (.ref a_exchanged) = true)
    (n_look_at_lengths : PySem.W.nsIn K mainGlobals "look_at_lengths" = some (some (.ref a_look_at_lengths)))
    (l_look_at_lengths : K.lookup a_look_at_lengths = some ⟨oc_look_at_lengths, od_look_at_lengths, .func (PySem.W.fnOf "look_at_lengths" "look_at_lengths" (defArgs s_look_at_lengths) (defBody s_look_at_lengths) (defScope s_look_at_lengths) .none kV_look_at_lengths dc_look_at_lengths pm_look_at_lengths an_look_at_lengths cd_look_at_lengths ct_look_at_lengths), sl_look_at_lengths⟩)
    (c_look_at_lengths : PySem.W.codeIn K cd_look_at_lengths "look_at_lengths" = true)
    (k_look_at_lengths : PySem.W.keepIn K (.ref a_look_at_lengths) = true)
    (n_length_of : PySem.W.nsIn K mainGlobals "length_of" = some (some (.ref a_length_of)))
    (l_length_of : K.lookup a_length_of = some ⟨oc_length_of, od_length_of, .func (PySem.W.fnOf "length_of" "length_of" (defArgs s_length_of) (defBody s_length_of) (defScope s_length_of) .none kV_length_of dc_length_of pm_length_of an_length_of cd_length_of ct_length_of), sl_length_of⟩)
    (c_length_of : PySem.W.codeIn K cd_length_of "length_of" = true)
    (k_length_of : PySem.W.keepIn K (.ref a_length_of) = true)
    (n_by_length : PySem.W.nsIn K mainGlobals "by_length" = some (some (.ref a_by_length)))
    (l_by_length : K.lookup a_by_length = some ⟨oc_by_length, od_by_length, .func (PySem.W.fnOf "by_length" "by_length" (defArgs s_by_length) (defBody s_by_length) (defScope s_by_length) .none kV_by_length dc_by_length pm_by_length an_by_length cd_by_length ct_by_length), sl_by_length⟩)
    (c_by_length : PySem.W.codeIn K cd_by_length "by_length" = true)
    (k_by_length : PySem.W.keepIn K (.ref a_by_length) = true)
    (n_heads_joined : PySem.W.nsIn K mainGlobals "heads_joined" = some (some (.ref a_heads_joined)))
    (l_heads_joined : K.lookup a_heads_joined = some ⟨oc_heads_joined, od_heads_joined, .func (PySem.W.fnOf "heads_joined" "heads_joined" (defArgs s_heads_joined) (defBody s_heads_joined) (defScope s_heads_joined) .none kV_heads_joined dc_heads_joined pm_heads_joined an_heads_joined cd_heads_joined ct_heads_joined), sl_heads_joined⟩)
    (c_heads_joined : PySem.W.codeIn K cd_heads_joined "heads_joined" = true)
    (k_heads_joined : PySem.W.keepIn K (.ref a_heads_joined) = true)
    (n_cheapest_tree : PySem.W.nsIn K mainGlobals "cheapest_tree" = some (some (.ref a_cheapest_tree)))
    (l_cheapest_tree : K.lookup a_cheapest_tree = some ⟨oc_cheapest_tree, od_cheapest_tree, .func (PySem.W.fnOf "cheapest_tree" "cheapest_tree" (defArgs s_cheapest_tree) (defBody s_cheapest_tree) (defScope s_cheapest_tree) .none kV_cheapest_tree dc_cheapest_tree pm_cheapest_tree an_cheapest_tree cd_cheapest_tree ct_cheapest_tree), sl_cheapest_tree⟩)
    (c_cheapest_tree : PySem.W.codeIn K cd_cheapest_tree "cheapest_tree" = true)
    (k_cheapest_tree : PySem.W.keepIn K (.ref a_cheapest_tree) = true)
    (n_gains_of : PySem.W.nsIn K mainGlobals "gains_of" = some (some (.ref a_gains_of)))
    (l_gains_of : K.lookup a_gains_of = some ⟨oc_gains_of, od_gains_of, .func (PySem.W.fnOf "gains_of" "gains_of" (defArgs s_gains_of) (defBody s_gains_of) (defScope s_gains_of) .none kV_gains_of dc_gains_of pm_gains_of an_gains_of cd_gains_of ct_gains_of), sl_gains_of⟩)
    (c_gains_of : PySem.W.codeIn K cd_gains_of "gains_of" = true)
    (k_gains_of : PySem.W.keepIn K (.ref a_gains_of) = true)
    (n_is_cheapest : PySem.W.nsIn K mainGlobals "is_cheapest" = some (some (.ref a_is_cheapest)))
    (l_is_cheapest : K.lookup a_is_cheapest = some ⟨oc_is_cheapest, od_is_cheapest, .func (PySem.W.fnOf "is_cheapest" "is_cheapest" (defArgs s_is_cheapest) (defBody s_is_cheapest) (defScope s_is_cheapest) .none kV_is_cheapest dc_is_cheapest pm_is_cheapest an_is_cheapest cd_is_cheapest ct_is_cheapest), sl_is_cheapest⟩)
    (c_is_cheapest : PySem.W.codeIn K cd_is_cheapest "is_cheapest" = true)
    (k_is_cheapest : PySem.W.keepIn K (.ref a_is_cheapest) = true)
    (n_look_at_tree__2 : PySem.W.nsIn K mainGlobals "look_at_tree_between" = some (some (.ref a_look_at_tree__2)))
    (l_look_at_tree__2 : K.lookup a_look_at_tree__2 = some ⟨oc_look_at_tree__2, od_look_at_tree__2, .func (PySem.W.fnOf "look_at_tree" "look_at_tree" (defArgs s_look_at_tree__2) (defBody s_look_at_tree__2) (defScope s_look_at_tree__2) .none kV_look_at_tree__2 dc_look_at_tree__2 pm_look_at_tree__2 an_look_at_tree__2 cd_look_at_tree__2 ct_look_at_tree__2), sl_look_at_tree__2⟩)
    (c_look_at_tree__2 : PySem.W.codeIn K cd_look_at_tree__2 "look_at_tree" = true)
    (k_look_at_tree__2 : PySem.W.keepIn K (.ref a_look_at_tree__2) = true)
    (n_alone_in : PySem.W.nsIn K mainGlobals "alone_in" = some (some (.ref a_alone_in)))
    (l_alone_in : K.lookup a_alone_in = some ⟨oc_alone_in, od_alone_in, .func (PySem.W.fnOf "alone_in" "alone_in" (defArgs s_alone_in) (defBody s_alone_in) (defScope s_alone_in) .none kV_alone_in dc_alone_in pm_alone_in an_alone_in cd_alone_in ct_alone_in), sl_alone_in⟩)
    (c_alone_in : PySem.W.codeIn K cd_alone_in "alone_in" = true)
    (k_alone_in : PySem.W.keepIn K (.ref a_alone_in) = true)
    (n_differ : PySem.W.nsIn K mainGlobals "differ" = some (some (.ref a_differ)))
    (l_differ : K.lookup a_differ = some ⟨oc_differ, od_differ, .func (PySem.W.fnOf "differ" "differ" (defArgs s_differ) (defBody s_differ) (defScope s_differ) .none kV_differ dc_differ pm_differ an_differ cd_differ ct_differ), sl_differ⟩)
    (c_differ : PySem.W.codeIn K cd_differ "differ" = true)
    (k_differ : PySem.W.keepIn K (.ref a_differ) = true)
    (n_far_tree : PySem.W.nsIn K mainGlobals "far_tree" = some (some (.ref a_far_tree)))
    (l_far_tree : K.lookup a_far_tree = some ⟨oc_far_tree, od_far_tree, .func (PySem.W.fnOf "far_tree" "far_tree" (defArgs s_far_tree) (defBody s_far_tree) (defScope s_far_tree) .none kV_far_tree dc_far_tree pm_far_tree an_far_tree cd_far_tree ct_far_tree), sl_far_tree⟩)
    (c_far_tree : PySem.W.codeIn K cd_far_tree "far_tree" = true)
    (k_far_tree : PySem.W.keepIn K (.ref a_far_tree) = true)
    (n_shortest_with : PySem.W.nsIn K mainGlobals "shortest_with" = some (some (.ref a_shortest_with)))
    (l_shortest_with : K.lookup a_shortest_with = some ⟨oc_shortest_with, od_shortest_with, .func (PySem.W.fnOf "shortest_with" "shortest_with" (defArgs s_shortest_with) (defBody s_shortest_with) (defScope s_shortest_with) .none kV_shortest_with dc_shortest_with pm_shortest_with an_shortest_with cd_shortest_with ct_shortest_with), sl_shortest_with⟩)
    (c_shortest_with : PySem.W.codeIn K cd_shortest_with "shortest_with" = true)
    (k_shortest_with : PySem.W.keepIn K (.ref a_shortest_with) = true)
    (n_put_found : PySem.W.nsIn K mainGlobals "put_found" = some (some (.ref a_put_found)))
    (l_put_found : K.lookup a_put_found = some ⟨oc_put_found, od_put_found, .func (PySem.W.fnOf "put_found" "put_found" (defArgs s_put_found) (defBody s_put_found) (defScope s_put_found) .none kV_put_found dc_put_found pm_put_found an_put_found cd_put_found ct_put_found), sl_put_found⟩)
    (c_put_found : PySem.W.codeIn K cd_put_found "put_found" = true)
    (k_put_found : PySem.W.keepIn K (.ref a_put_found) = true)
    (n_parts_behind : PySem.W.nsIn K mainGlobals "parts_behind" = some (some (.ref a_parts_behind)))
    (l_parts_behind : K.lookup a_parts_behind = some ⟨oc_parts_behind, od_parts_behind, .func (PySem.W.fnOf "parts_behind" "parts_behind" (defArgs s_parts_behind) (defBody s_parts_behind) (defScope s_parts_behind) .none kV_parts_behind dc_parts_behind pm_parts_behind an_parts_behind cd_parts_behind ct_parts_behind), sl_parts_behind⟩)
    (c_parts_behind : PySem.W.codeIn K cd_parts_behind "parts_behind" = true)
    (k_parts_behind : PySem.W.keepIn K (.ref a_parts_behind) = true)
    (n_ranked : PySem.W.nsIn K mainGlobals "ranked" = some (some (.ref a_ranked)))
    (l_ranked : K.lookup a_ranked = some ⟨oc_ranked, od_ranked, .func (PySem.W.fnOf "ranked" "ranked" (defArgs s_ranked) (defBody s_ranked) (defScope s_ranked) .none kV_ranked dc_ranked pm_ranked an_ranked cd_ranked ct_ranked), sl_ranked⟩)
    (c_ranked : PySem.W.codeIn K cd_ranked "ranked" = true)
    (k_ranked : PySem.W.keepIn K (.ref a_ranked) = true)
    (n_number_written : PySem.W.nsIn K mainGlobals "number_written" = some (some (.ref a_number_written)))
    (l_number_written : K.lookup a_number_written = some ⟨oc_number_written, od_number_written, .func (PySem.W.fnOf "number_written" "number_written" (defArgs s_number_written) (defBody s_number_written) (defScope s_number_written) .none kV_number_written dc_number_written pm_number_written an_number_written cd_number_written ct_number_written), sl_number_written⟩)
    (c_number_written : PySem.W.codeIn K cd_number_written "number_written" = true)
    (k_number_written : PySem.W.keepIn K (.ref a_number_written) = true)
    (n_numbers_behind : PySem.W.nsIn K mainGlobals "numbers_behind" = some (some (.ref a_numbers_behind)))
    (l_numbers_behind : K.lookup a_numbers_behind = some ⟨oc_numbers_behind, od_numbers_behind, .func (PySem.W.fnOf "numbers_behind" "numbers_behind" (defArgs s_numbers_behind) (defBody s_numbers_behind) (defScope s_numbers_behind) .none kV_numbers_behind dc_numbers_behind pm_numbers_behind an_numbers_behind cd_numbers_behind ct_numbers_behind), sl_numbers_behind⟩)
    (c_numbers_behind : PySem.W.codeIn K cd_numbers_behind "numbers_behind" = true)
    (k_numbers_behind : PySem.W.keepIn K (.ref a_numbers_behind) = true)
    (n_read_web : PySem.W.nsIn K mainGlobals "read_web" = some (some (.ref a_read_web)))
    (l_read_web : K.lookup a_read_web = some ⟨oc_read_web, od_read_web, .func (PySem.W.fnOf "read_web" "read_web" (defArgs s_read_web) (defBody s_read_web) (defScope s_read_web) .none kV_read_web dc_read_web pm_read_web an_read_web cd_read_web ct_read_web), sl_read_web⟩)
    (c_read_web : PySem.W.codeIn K cd_read_web "read_web" = true)
    (k_read_web : PySem.W.keepIn K (.ref a_read_web) = true)
    (n_law_cell : PySem.W.nsIn K mainGlobals "_law_cell" = some (some (.ref a_law_cell)))
    (l_law_cell : K.lookup a_law_cell = some ⟨oc_law_cell, od_law_cell, .func (PySem.W.fnOf "_law_cell" "_law_cell" (defArgs s_law_cell) (defBody s_law_cell) (defScope s_law_cell) .none kV_law_cell dc_law_cell pm_law_cell an_law_cell cd_law_cell ct_law_cell), sl_law_cell⟩)
    (c_law_cell : PySem.W.codeIn K cd_law_cell "_law_cell" = true)
    (k_law_cell : PySem.W.keepIn K (.ref a_law_cell) = true)
    (n_law_mixed : PySem.W.nsIn K mainGlobals "_law_mixed" = some (some (.ref a_law_mixed)))
    (l_law_mixed : K.lookup a_law_mixed = some ⟨oc_law_mixed, od_law_mixed, .func (PySem.W.fnOf "_law_mixed" "_law_mixed" (defArgs s_law_mixed) (defBody s_law_mixed) (defScope s_law_mixed) .none kV_law_mixed dc_law_mixed pm_law_mixed an_law_mixed cd_law_mixed ct_law_mixed), sl_law_mixed⟩)
    (c_law_mixed : PySem.W.codeIn K cd_law_mixed "_law_mixed" = true)
    (k_law_mixed : PySem.W.keepIn K (.ref a_law_mixed) = true)
    (n_law_draws : PySem.W.nsIn K mainGlobals "_law_draws" = some (some (.ref a_law_draws)))
    (l_law_draws : K.lookup a_law_draws = some ⟨oc_law_draws, od_law_draws, .func (PySem.W.fnOf "_law_draws" "_law_draws" (defArgs s_law_draws) (defBody s_law_draws) (defScope s_law_draws) .none kV_law_draws dc_law_draws pm_law_draws an_law_draws cd_law_draws ct_law_draws), sl_law_draws⟩)
    (c_law_draws : PySem.W.codeIn K cd_law_draws "_law_draws" = true)
    (k_law_draws : PySem.W.keepIn K (.ref a_law_draws) = true)
    (n_law_ties : PySem.W.nsIn K mainGlobals "_law_ties" = some (some (.ref a_law_ties)))
    (l_law_ties : K.lookup a_law_ties = some ⟨oc_law_ties, od_law_ties, .func (PySem.W.fnOf "_law_ties" "_law_ties" (defArgs s_law_ties) (defBody s_law_ties) (defScope s_law_ties) .none kV_law_ties dc_law_ties pm_law_ties an_law_ties cd_law_ties ct_law_ties), sl_law_ties⟩)
    (c_law_ties : PySem.W.codeIn K cd_law_ties "_law_ties" = true)
    (k_law_ties : PySem.W.keepIn K (.ref a_law_ties) = true)
    (n_law_web : PySem.W.nsIn K mainGlobals "_law_web" = some (some (.ref a_law_web)))
    (l_law_web : K.lookup a_law_web = some ⟨oc_law_web, od_law_web, .func (PySem.W.fnOf "_law_web" "_law_web" (defArgs s_law_web) (defBody s_law_web) (defScope s_law_web) .none kV_law_web dc_law_web pm_law_web an_law_web cd_law_web ct_law_web), sl_law_web⟩)
    (c_law_web : PySem.W.codeIn K cd_law_web "_law_web" = true)
    (k_law_web : PySem.W.keepIn K (.ref a_law_web) = true)
    (n_law_marks : PySem.W.nsIn K mainGlobals "_law_marks" = some (some (.ref a_law_marks)))
    (l_law_marks : K.lookup a_law_marks = some ⟨oc_law_marks, od_law_marks, .func (PySem.W.fnOf "_law_marks" "_law_marks" (defArgs s_law_marks) (defBody s_law_marks) (defScope s_law_marks) .none kV_law_marks dc_law_marks pm_law_marks an_law_marks cd_law_marks ct_law_marks), sl_law_marks⟩)
    (c_law_marks : PySem.W.codeIn K cd_law_marks "_law_marks" = true)
    (k_law_marks : PySem.W.keepIn K (.ref a_law_marks) = true)
    (n_law_tree_by : PySem.W.nsIn K mainGlobals "_law_tree_by" = some (some (.ref a_law_tree_by)))
    (l_law_tree_by : K.lookup a_law_tree_by = some ⟨oc_law_tree_by, od_law_tree_by, .func (PySem.W.fnOf "_law_tree_by" "_law_tree_by" (defArgs s_law_tree_by) (defBody s_law_tree_by) (defScope s_law_tree_by) .none kV_law_tree_by dc_law_tree_by pm_law_tree_by an_law_tree_by cd_law_tree_by ct_law_tree_by), sl_law_tree_by⟩)
    (c_law_tree_by : PySem.W.codeIn K cd_law_tree_by "_law_tree_by" = true)
    (k_law_tree_by : PySem.W.keepIn K (.ref a_law_tree_by) = true)
    (n_law_lengths_v2 : PySem.W.nsIn K mainGlobals "_law_lengths" = some (some (.ref a_law_lengths_v2)))
    (l_law_lengths_v2 : K.lookup a_law_lengths_v2 = some ⟨oc_law_lengths_v2, od_law_lengths_v2, .func (PySem.W.fnOf "_law_lengths" "_law_lengths" (defArgs s_law_lengths_v2) (defBody s_law_lengths_v2) (defScope s_law_lengths_v2) .none kV_law_lengths_v2 dc_law_lengths_v2 pm_law_lengths_v2 an_law_lengths_v2 cd_law_lengths_v2 ct_law_lengths_v2), sl_law_lengths_v2⟩)
    (c_law_lengths_v2 : PySem.W.codeIn K cd_law_lengths_v2 "_law_lengths" = true)
    (k_law_lengths_v2 : PySem.W.keepIn K (.ref a_law_lengths_v2) = true)
    (n_law_text : PySem.W.nsIn K mainGlobals "_law_text" = some (some (.ref a_law_text)))
    (l_law_text : K.lookup a_law_text = some ⟨oc_law_text, od_law_text, .func (PySem.W.fnOf "_law_text" "_law_text" (defArgs s_law_text) (defBody s_law_text) (defScope s_law_text) .none kV_law_text dc_law_text pm_law_text an_law_text cd_law_text ct_law_text), sl_law_text⟩)
    (c_law_text : PySem.W.codeIn K cd_law_text "_law_text" = true)
    (k_law_text : PySem.W.keepIn K (.ref a_law_text) = true)
    (n_law_led_down : PySem.W.nsIn K mainGlobals "_law_led_down" = some (some (.ref a_law_led_down)))
    (l_law_led_down : K.lookup a_law_led_down = some ⟨oc_law_led_down, od_law_led_down, .func (PySem.W.fnOf "_law_led_down" "_law_led_down" (defArgs s_law_led_down) (defBody s_law_led_down) (defScope s_law_led_down) .none kV_law_led_down dc_law_led_down pm_law_led_down an_law_led_down cd_law_led_down ct_law_led_down), sl_law_led_down⟩)
    (c_law_led_down : PySem.W.codeIn K cd_law_led_down "_law_led_down" = true)
    (k_law_led_down : PySem.W.keepIn K (.ref a_law_led_down) = true)
    (n_law_k95 : PySem.W.nsIn K mainGlobals "law" = some (some (.ref a_law_k95)))
    (l_law_k95 : K.lookup a_law_k95 = some ⟨oc_law_k95, od_law_k95, .func (PySem.W.fnOf "law" "law" (defArgs s_law_k95) (defBody s_law_k95) (defScope s_law_k95) .none kV_law_k95 dc_law_k95 pm_law_k95 an_law_k95 cd_law_k95 ct_law_k95), sl_law_k95⟩)
    (c_law_k95 : PySem.W.codeIn K cd_law_k95 "law" = true)
    (k_law_k95 : PySem.W.keepIn K (.ref a_law_k95) = true)
    (v_MOST_PLACES : PySem.W.nsIn K mainGlobals "MOST_PLACES" = some (some (.int 14 t_MOST_PLACES)))
    (v_MOST_TIES : PySem.W.nsIn K mainGlobals "MOST_TIES" = some (some (.int 30 t_MOST_TIES)))
    (v_FIGURES : PySem.W.nsIn K mainGlobals "FIGURES" = some (some (.str "0123456789" t_FIGURES)))
    (v_MOST_FIGURES : PySem.W.nsIn K mainGlobals "MOST_FIGURES" = some (some (.int 60 t_MOST_FIGURES)))
    (z_all : PySem.W.nsIn K mainGlobals "all" = some none)
    (z_enumerate : PySem.W.nsIn K mainGlobals "enumerate" = some none)
    (z_int : PySem.W.nsIn K mainGlobals "int" = some none)
    (z_len : PySem.W.nsIn K mainGlobals "len" = some none)
    (z_list : PySem.W.nsIn K mainGlobals "list" = some none)
    (z_max : PySem.W.nsIn K mainGlobals "max" = some none)
    (z_min : PySem.W.nsIn K mainGlobals "min" = some none)
    (z_range : PySem.W.nsIn K mainGlobals "range" = some none)
    (z_set : PySem.W.nsIn K mainGlobals "set" = some none)
    (z_sorted : PySem.W.nsIn K mainGlobals "sorted" = some none)
    (z_str : PySem.W.nsIn K mainGlobals "str" = some none)
    (z_sum : PySem.W.nsIn K mainGlobals "sum" = some none)
    (z_tuple : PySem.W.nsIn K mainGlobals "tuple" = some none)
    : ∃ T : Tx K mg, mg "law" = some (.ref T.a_law_k95) ∧ ∀ (s : Shared) (v : Value), BindsTo s T.d_law_k95 ⟨[v], []⟩ [("script", v)] := by
  refine ⟨{
    C_WebError := C_WebError,
    C_BadWeb := C_BadWeb,
    C_BadSet := C_BadSet,
    C_Parted := C_Parted,
    C_NoTree := C_NoTree,
    C_NoTie := C_NoTie,
    C_BadRow := C_BadRow,
    C_BadText := C_BadText,
    C_Web := C_Web,
    a_Web_init := a_Web_init,
    d_Web_init := PySem.W.fnOf "__init__" "Web.__init__" (defArgs s_Web_init) (defBody s_Web_init) (defScope s_Web_init) .none kV_Web_init dc_Web_init pm_Web_init an_Web_init cd_Web_init ct_Web_init,
    a_made_set := a_made_set,
    d_made_set := PySem.W.fnOf "made_set" "made_set" (defArgs s_made_set) (defBody s_made_set) (defScope s_made_set) .none kV_made_set dc_made_set pm_made_set an_made_set cd_made_set ct_made_set,
    a_marks_over := a_marks_over,
    d_marks_over := PySem.W.fnOf "marks_over" "marks_over" (defArgs s_marks_over) (defBody s_marks_over) (defScope s_marks_over) .none kV_marks_over dc_marks_over pm_marks_over an_marks_over cd_marks_over ct_marks_over,
    a_joined_ends := a_joined_ends,
    d_joined_ends := PySem.W.fnOf "joined_ends" "joined_ends" (defArgs s_joined_ends) (defBody s_joined_ends) (defScope s_joined_ends) .none kV_joined_ends dc_joined_ends pm_joined_ends an_joined_ends cd_joined_ends ct_joined_ends,
    a_is_tree := a_is_tree,
    d_is_tree := PySem.W.fnOf "is_tree" "is_tree" (defArgs s_is_tree) (defBody s_is_tree) (defScope s_is_tree) .none kV_is_tree dc_is_tree pm_is_tree an_is_tree cd_is_tree ct_is_tree,
    a_look_at_tree := a_look_at_tree,
    d_look_at_tree := PySem.W.fnOf "look_at_tree" "look_at_tree" (defArgs s_look_at_tree) (defBody s_look_at_tree) (defScope s_look_at_tree) .none kV_look_at_tree dc_look_at_tree pm_look_at_tree an_look_at_tree cd_look_at_tree ct_look_at_tree,
    a_grown := a_grown,
    d_grown := PySem.W.fnOf "grown" "grown" (defArgs s_grown) (defBody s_grown) (defScope s_grown) .none kV_grown dc_grown pm_grown an_grown cd_grown ct_grown,
    a_least_tree := a_least_tree,
    d_least_tree := PySem.W.fnOf "least_tree" "least_tree" (defArgs s_least_tree) (defBody s_least_tree) (defScope s_least_tree) .none kV_least_tree dc_least_tree pm_least_tree an_least_tree cd_least_tree ct_least_tree,
    a_without_tie := a_without_tie,
    d_without_tie := PySem.W.fnOf "without_tie" "without_tie" (defArgs s_without_tie) (defBody s_without_tie) (defScope s_without_tie) .none kV_without_tie dc_without_tie pm_without_tie an_without_tie cd_without_tie ct_without_tie,
    a_cut_of := a_cut_of,
    d_cut_of := PySem.W.fnOf "cut_of" "cut_of" (defArgs s_cut_of) (defBody s_cut_of) (defScope s_cut_of) .none kV_cut_of dc_cut_of pm_cut_of an_cut_of cd_cut_of ct_cut_of,
    a_exchanges_of := a_exchanges_of,
    d_exchanges_of := PySem.W.fnOf "exchanges_of" "exchanges_of" (defArgs s_exchanges_of) (defBody s_exchanges_of) (defScope s_exchanges_of) .none kV_exchanges_of dc_exchanges_of pm_exchanges_of an_exchanges_of cd_exchanges_of ct_exchanges_of,
    a_exchanged := a_exchanged,
    d_exchanged := PySem.W.fnOf "exchanged" "exchanged" (defArgs s_exchanged) (defBody s_exchanged) (defScope s_exchanged) .none kV_exchanged dc_exchanged pm_exchanged an_exchanged cd_exchanged ct_exchanged,
    a_look_at_lengths := a_look_at_lengths,
    d_look_at_lengths := PySem.W.fnOf "look_at_lengths" "look_at_lengths" (defArgs s_look_at_lengths) (defBody s_look_at_lengths) (defScope s_look_at_lengths) .none kV_look_at_lengths dc_look_at_lengths pm_look_at_lengths an_look_at_lengths cd_look_at_lengths ct_look_at_lengths,
    a_length_of := a_length_of,
    d_length_of := PySem.W.fnOf "length_of" "length_of" (defArgs s_length_of) (defBody s_length_of) (defScope s_length_of) .none kV_length_of dc_length_of pm_length_of an_length_of cd_length_of ct_length_of,
    a_by_length := a_by_length,
    d_by_length := PySem.W.fnOf "by_length" "by_length" (defArgs s_by_length) (defBody s_by_length) (defScope s_by_length) .none kV_by_length dc_by_length pm_by_length an_by_length cd_by_length ct_by_length,
    a_heads_joined := a_heads_joined,
    d_heads_joined := PySem.W.fnOf "heads_joined" "heads_joined" (defArgs s_heads_joined) (defBody s_heads_joined) (defScope s_heads_joined) .none kV_heads_joined dc_heads_joined pm_heads_joined an_heads_joined cd_heads_joined ct_heads_joined,
    a_cheapest_tree := a_cheapest_tree,
    d_cheapest_tree := PySem.W.fnOf "cheapest_tree" "cheapest_tree" (defArgs s_cheapest_tree) (defBody s_cheapest_tree) (defScope s_cheapest_tree) .none kV_cheapest_tree dc_cheapest_tree pm_cheapest_tree an_cheapest_tree cd_cheapest_tree ct_cheapest_tree,
    a_gains_of := a_gains_of,
    d_gains_of := PySem.W.fnOf "gains_of" "gains_of" (defArgs s_gains_of) (defBody s_gains_of) (defScope s_gains_of) .none kV_gains_of dc_gains_of pm_gains_of an_gains_of cd_gains_of ct_gains_of,
    a_is_cheapest := a_is_cheapest,
    d_is_cheapest := PySem.W.fnOf "is_cheapest" "is_cheapest" (defArgs s_is_cheapest) (defBody s_is_cheapest) (defScope s_is_cheapest) .none kV_is_cheapest dc_is_cheapest pm_is_cheapest an_is_cheapest cd_is_cheapest ct_is_cheapest,
    a_look_at_tree__2 := a_look_at_tree__2,
    d_look_at_tree__2 := PySem.W.fnOf "look_at_tree" "look_at_tree" (defArgs s_look_at_tree__2) (defBody s_look_at_tree__2) (defScope s_look_at_tree__2) .none kV_look_at_tree__2 dc_look_at_tree__2 pm_look_at_tree__2 an_look_at_tree__2 cd_look_at_tree__2 ct_look_at_tree__2,
    a_alone_in := a_alone_in,
    d_alone_in := PySem.W.fnOf "alone_in" "alone_in" (defArgs s_alone_in) (defBody s_alone_in) (defScope s_alone_in) .none kV_alone_in dc_alone_in pm_alone_in an_alone_in cd_alone_in ct_alone_in,
    a_differ := a_differ,
    d_differ := PySem.W.fnOf "differ" "differ" (defArgs s_differ) (defBody s_differ) (defScope s_differ) .none kV_differ dc_differ pm_differ an_differ cd_differ ct_differ,
    a_far_tree := a_far_tree,
    d_far_tree := PySem.W.fnOf "far_tree" "far_tree" (defArgs s_far_tree) (defBody s_far_tree) (defScope s_far_tree) .none kV_far_tree dc_far_tree pm_far_tree an_far_tree cd_far_tree ct_far_tree,
    a_shortest_with := a_shortest_with,
    d_shortest_with := PySem.W.fnOf "shortest_with" "shortest_with" (defArgs s_shortest_with) (defBody s_shortest_with) (defScope s_shortest_with) .none kV_shortest_with dc_shortest_with pm_shortest_with an_shortest_with cd_shortest_with ct_shortest_with,
    a_put_found := a_put_found,
    d_put_found := PySem.W.fnOf "put_found" "put_found" (defArgs s_put_found) (defBody s_put_found) (defScope s_put_found) .none kV_put_found dc_put_found pm_put_found an_put_found cd_put_found ct_put_found,
    a_parts_behind := a_parts_behind,
    d_parts_behind := PySem.W.fnOf "parts_behind" "parts_behind" (defArgs s_parts_behind) (defBody s_parts_behind) (defScope s_parts_behind) .none kV_parts_behind dc_parts_behind pm_parts_behind an_parts_behind cd_parts_behind ct_parts_behind,
    a_ranked := a_ranked,
    d_ranked := PySem.W.fnOf "ranked" "ranked" (defArgs s_ranked) (defBody s_ranked) (defScope s_ranked) .none kV_ranked dc_ranked pm_ranked an_ranked cd_ranked ct_ranked,
    a_number_written := a_number_written,
    d_number_written := PySem.W.fnOf "number_written" "number_written" (defArgs s_number_written) (defBody s_number_written) (defScope s_number_written) .none kV_number_written dc_number_written pm_number_written an_number_written cd_number_written ct_number_written,
    a_numbers_behind := a_numbers_behind,
    d_numbers_behind := PySem.W.fnOf "numbers_behind" "numbers_behind" (defArgs s_numbers_behind) (defBody s_numbers_behind) (defScope s_numbers_behind) .none kV_numbers_behind dc_numbers_behind pm_numbers_behind an_numbers_behind cd_numbers_behind ct_numbers_behind,
    a_read_web := a_read_web,
    d_read_web := PySem.W.fnOf "read_web" "read_web" (defArgs s_read_web) (defBody s_read_web) (defScope s_read_web) .none kV_read_web dc_read_web pm_read_web an_read_web cd_read_web ct_read_web,
    a_law_cell := a_law_cell,
    d_law_cell := PySem.W.fnOf "_law_cell" "_law_cell" (defArgs s_law_cell) (defBody s_law_cell) (defScope s_law_cell) .none kV_law_cell dc_law_cell pm_law_cell an_law_cell cd_law_cell ct_law_cell,
    a_law_mixed := a_law_mixed,
    d_law_mixed := PySem.W.fnOf "_law_mixed" "_law_mixed" (defArgs s_law_mixed) (defBody s_law_mixed) (defScope s_law_mixed) .none kV_law_mixed dc_law_mixed pm_law_mixed an_law_mixed cd_law_mixed ct_law_mixed,
    a_law_draws := a_law_draws,
    d_law_draws := PySem.W.fnOf "_law_draws" "_law_draws" (defArgs s_law_draws) (defBody s_law_draws) (defScope s_law_draws) .none kV_law_draws dc_law_draws pm_law_draws an_law_draws cd_law_draws ct_law_draws,
    a_law_ties := a_law_ties,
    d_law_ties := PySem.W.fnOf "_law_ties" "_law_ties" (defArgs s_law_ties) (defBody s_law_ties) (defScope s_law_ties) .none kV_law_ties dc_law_ties pm_law_ties an_law_ties cd_law_ties ct_law_ties,
    a_law_web := a_law_web,
    d_law_web := PySem.W.fnOf "_law_web" "_law_web" (defArgs s_law_web) (defBody s_law_web) (defScope s_law_web) .none kV_law_web dc_law_web pm_law_web an_law_web cd_law_web ct_law_web,
    a_law_marks := a_law_marks,
    d_law_marks := PySem.W.fnOf "_law_marks" "_law_marks" (defArgs s_law_marks) (defBody s_law_marks) (defScope s_law_marks) .none kV_law_marks dc_law_marks pm_law_marks an_law_marks cd_law_marks ct_law_marks,
    a_law_tree_by := a_law_tree_by,
    d_law_tree_by := PySem.W.fnOf "_law_tree_by" "_law_tree_by" (defArgs s_law_tree_by) (defBody s_law_tree_by) (defScope s_law_tree_by) .none kV_law_tree_by dc_law_tree_by pm_law_tree_by an_law_tree_by cd_law_tree_by ct_law_tree_by,
    a_law_lengths_v2 := a_law_lengths_v2,
    d_law_lengths_v2 := PySem.W.fnOf "_law_lengths" "_law_lengths" (defArgs s_law_lengths_v2) (defBody s_law_lengths_v2) (defScope s_law_lengths_v2) .none kV_law_lengths_v2 dc_law_lengths_v2 pm_law_lengths_v2 an_law_lengths_v2 cd_law_lengths_v2 ct_law_lengths_v2,
    a_law_text := a_law_text,
    d_law_text := PySem.W.fnOf "_law_text" "_law_text" (defArgs s_law_text) (defBody s_law_text) (defScope s_law_text) .none kV_law_text dc_law_text pm_law_text an_law_text cd_law_text ct_law_text,
    a_law_led_down := a_law_led_down,
    d_law_led_down := PySem.W.fnOf "_law_led_down" "_law_led_down" (defArgs s_law_led_down) (defBody s_law_led_down) (defScope s_law_led_down) .none kV_law_led_down dc_law_led_down pm_law_led_down an_law_led_down cd_law_led_down ct_law_led_down,
    a_law_k95 := a_law_k95,
    d_law_k95 := PySem.W.fnOf "law" "law" (defArgs s_law_k95) (defBody s_law_k95) (defScope s_law_k95) .none kV_law_k95 dc_law_k95 pm_law_k95 an_law_k95 cd_law_k95 ct_law_k95,
    t_MOST_PLACES := t_MOST_PLACES,
    t_MOST_TIES := t_MOST_TIES,
    t_FIGURES := t_FIGURES,
    t_MOST_FIGURES := t_MOST_FIGURES,
    m_WebError := PySem.W.mg_of X G a_WebError,
    x_WebError := x_WebError,
    kx_WebError := kx_WebError,
    bx_WebError := bx_WebError,
    tx_WebError := tx_WebError,
    m_BadWeb := PySem.W.mg_of X G a_BadWeb,
    x_BadWeb := x_BadWeb,
    kx_BadWeb := kx_BadWeb,
    bx_BadWeb := bx_BadWeb,
    tx_BadWeb := tx_BadWeb,
    m_BadSet := PySem.W.mg_of X G a_BadSet,
    x_BadSet := x_BadSet,
    kx_BadSet := kx_BadSet,
    bx_BadSet := bx_BadSet,
    tx_BadSet := tx_BadSet,
    m_Parted := PySem.W.mg_of X G a_Parted,
    x_Parted := x_Parted,
    kx_Parted := kx_Parted,
    bx_Parted := bx_Parted,
    tx_Parted := tx_Parted,
    m_NoTree := PySem.W.mg_of X G a_NoTree,
    x_NoTree := x_NoTree,
    kx_NoTree := kx_NoTree,
    bx_NoTree := bx_NoTree,
    tx_NoTree := tx_NoTree,
    m_NoTie := PySem.W.mg_of X G a_NoTie,
    x_NoTie := x_NoTie,
    kx_NoTie := kx_NoTie,
    bx_NoTie := bx_NoTie,
    tx_NoTie := tx_NoTie,
    m_BadRow := PySem.W.mg_of X G a_BadRow,
    x_BadRow := x_BadRow,
    kx_BadRow := kx_BadRow,
    bx_BadRow := bx_BadRow,
    tx_BadRow := tx_BadRow,
    m_BadText := PySem.W.mg_of X G a_BadText,
    x_BadText := x_BadText,
    kx_BadText := kx_BadText,
    bx_BadText := bx_BadText,
    tx_BadText := tx_BadText,
    m_Web := PySem.W.mg_of X G a_Web,
    cl_Web := ⟨pg_Web, hd_Web, po_Web, sa_Web⟩,
    na_Web_places := na_Web_places,
    na_Web_ties := na_Web_ties,
    mk_Web := ⟨mk_Web, n_Web_init, i_Web_init, kc_Web⟩,
    F_Web_init := fun_mk (st := s_Web_init) l_Web_init c_Web_init k_Web_init,
    b_Web_init := (fun_mk (st := s_Web_init) l_Web_init c_Web_init k_Web_init).binds (ps := ["self", "places", "ties"]) fun _ _ _ _ _ _ us hl => match us, hl with | [_, _, _], _ => rfl,
    k_Web_init := k_Web_init,
    F_made_set := fun_mk (st := s_made_set) l_made_set c_made_set k_made_set,
    b_made_set := (fun_mk (st := s_made_set) l_made_set c_made_set k_made_set).binds (ps := ["web", "ties"]) fun _ _ _ _ _ _ us hl => match us, hl with | [_, _], _ => rfl,
    m_made_set := PySem.W.mg_of X G n_made_set,
    k_made_set := k_made_set,
    F_marks_over := fun_mk (st := s_marks_over) l_marks_over c_marks_over k_marks_over,
    b_marks_over := (fun_mk (st := s_marks_over) l_marks_over c_marks_over k_marks_over).binds (ps := ["web", "ties"]) fun _ _ _ _ _ _ us hl => match us, hl with | [_, _], _ => rfl,
    m_marks_over := PySem.W.mg_of X G n_marks_over,
    k_marks_over := k_marks_over,
    F_joined_ends := fun_mk (st := s_joined_ends) l_joined_ends c_joined_ends k_joined_ends,
    b_joined_ends := (fun_mk (st := s_joined_ends) l_joined_ends c_joined_ends k_joined_ends).binds (ps := ["web", "ties", "one", "other"]) fun _ _ _ _ _ _ us hl => match us, hl with | [_, _, _, _], _ => rfl,
    m_joined_ends := PySem.W.mg_of X G n_joined_ends,
    k_joined_ends := k_joined_ends,
    F_is_tree := fun_mk (st := s_is_tree) l_is_tree c_is_tree k_is_tree,
    b_is_tree := (fun_mk (st := s_is_tree) l_is_tree c_is_tree k_is_tree).binds (ps := ["web", "ties"]) fun _ _ _ _ _ _ us hl => match us, hl with | [_, _], _ => rfl,
    m_is_tree := PySem.W.mg_of X G n_is_tree,
    k_is_tree := k_is_tree,
    F_look_at_tree := fun_mk (st := s_look_at_tree) l_look_at_tree c_look_at_tree k_look_at_tree,
    b_look_at_tree := (fun_mk (st := s_look_at_tree) l_look_at_tree c_look_at_tree k_look_at_tree).binds (ps := ["web", "tree"]) fun _ _ _ _ _ _ us hl => match us, hl with | [_, _], _ => rfl,
    m_look_at_tree := PySem.W.mg_of X G n_look_at_tree,
    k_look_at_tree := k_look_at_tree,
    F_grown := fun_mk (st := s_grown) l_grown c_grown k_grown,
    b_grown := (fun_mk (st := s_grown) l_grown c_grown k_grown).binds (ps := ["web", "kept", "order"]) fun _ _ _ _ _ _ us hl => match us, hl with | [_, _, _], _ => rfl,
    m_grown := PySem.W.mg_of X G n_grown,
    k_grown := k_grown,
    F_least_tree := fun_mk (st := s_least_tree) l_least_tree c_least_tree k_least_tree,
    b_least_tree := (fun_mk (st := s_least_tree) l_least_tree c_least_tree k_least_tree).binds (ps := ["web"]) fun _ _ _ _ _ _ us hl => match us, hl with | [_], _ => rfl,
    m_least_tree := PySem.W.mg_of X G n_least_tree,
    k_least_tree := k_least_tree,
    F_without_tie := fun_mk (st := s_without_tie) l_without_tie c_without_tie k_without_tie,
    b_without_tie := (fun_mk (st := s_without_tie) l_without_tie c_without_tie k_without_tie).binds (ps := ["ties", "tie"]) fun _ _ _ _ _ _ us hl => match us, hl with | [_, _], _ => rfl,
    m_without_tie := PySem.W.mg_of X G n_without_tie,
    k_without_tie := k_without_tie,
    F_cut_of := fun_mk (st := s_cut_of) l_cut_of c_cut_of k_cut_of,
    b_cut_of := (fun_mk (st := s_cut_of) l_cut_of c_cut_of k_cut_of).binds (ps := ["web", "tree", "tie"]) fun _ _ _ _ _ _ us hl => match us, hl with | [_, _, _], _ => rfl,
    m_cut_of := PySem.W.mg_of X G n_cut_of,
    k_cut_of := k_cut_of,
    F_exchanges_of := fun_mk (st := s_exchanges_of) l_exchanges_of c_exchanges_of k_exchanges_of,
    b_exchanges_of := (fun_mk (st := s_exchanges_of) l_exchanges_of c_exchanges_of k_exchanges_of).binds (ps := ["web", "tree"]) fun _ _ _ _ _ _ us hl => match us, hl with | [_, _], _ => rfl,
    m_exchanges_of := PySem.W.mg_of X G n_exchanges_of,
    k_exchanges_of := k_exchanges_of,
    F_exchanged := fun_mk (st := s_exchanged) l_exchanged c_exchanged k_exchanged,
    b_exchanged := (fun_mk (st := s_exchanged) l_exchanged c_exchanged k_exchanged).binds (ps := ["web", "tree", "out", "into"]) fun _ _ _ _ _ _ us hl => match us, hl with | [_, _, _, _], _ => rfl,
    m_exchanged := PySem.W.mg_of X G n_exchanged,
    k_exchanged := k_exchanged,
    F_look_at_lengths := fun_mk (st := s_look_at_lengths) l_look_at_lengths c_look_at_lengths k_look_at_lengths,
    b_look_at_lengths := (fun_mk (st := s_look_at_lengths) l_look_at_lengths c_look_at_lengths k_look_at_lengths).binds (ps := ["web", "lengths"]) fun _ _ _ _ _ _ us hl => match us, hl with | [_, _], _ => rfl,
    m_look_at_lengths := PySem.W.mg_of X G n_look_at_lengths,
    k_look_at_lengths := k_look_at_lengths,
    F_length_of := fun_mk (st := s_length_of) l_length_of c_length_of k_length_of,
    b_length_of := (fun_mk (st := s_length_of) l_length_of c_length_of k_length_of).binds (ps := ["web", "lengths", "ties"]) fun _ _ _ _ _ _ us hl => match us, hl with | [_, _, _], _ => rfl,
    m_length_of := PySem.W.mg_of X G n_length_of,
    k_length_of := k_length_of,
    F_by_length := fun_mk (st := s_by_length) l_by_length c_by_length k_by_length,
    b_by_length := (fun_mk (st := s_by_length) l_by_length c_by_length k_by_length).binds (ps := ["lengths"]) fun _ _ _ _ _ _ us hl => match us, hl with | [_], _ => rfl,
    m_by_length := PySem.W.mg_of X G n_by_length,
    k_by_length := k_by_length,
    F_heads_joined := fun_mk (st := s_heads_joined) l_heads_joined c_heads_joined k_heads_joined,
    b_heads_joined := (fun_mk (st := s_heads_joined) l_heads_joined c_heads_joined k_heads_joined).binds (ps := ["heads", "ends"]) fun _ _ _ _ _ _ us hl => match us, hl with | [_, _], _ => rfl,
    m_heads_joined := PySem.W.mg_of X G n_heads_joined,
    k_heads_joined := k_heads_joined,
    F_cheapest_tree := fun_mk (st := s_cheapest_tree) l_cheapest_tree c_cheapest_tree k_cheapest_tree,
    b_cheapest_tree := (fun_mk (st := s_cheapest_tree) l_cheapest_tree c_cheapest_tree k_cheapest_tree).binds (ps := ["web", "lengths"]) fun _ _ _ _ _ _ us hl => match us, hl with | [_, _], _ => rfl,
    m_cheapest_tree := PySem.W.mg_of X G n_cheapest_tree,
    k_cheapest_tree := k_cheapest_tree,
    F_gains_of := fun_mk (st := s_gains_of) l_gains_of c_gains_of k_gains_of,
    b_gains_of := (fun_mk (st := s_gains_of) l_gains_of c_gains_of k_gains_of).binds (ps := ["web", "lengths", "tree"]) fun _ _ _ _ _ _ us hl => match us, hl with | [_, _, _], _ => rfl,
    m_gains_of := PySem.W.mg_of X G n_gains_of,
    k_gains_of := k_gains_of,
    F_is_cheapest := fun_mk (st := s_is_cheapest) l_is_cheapest c_is_cheapest k_is_cheapest,
    b_is_cheapest := (fun_mk (st := s_is_cheapest) l_is_cheapest c_is_cheapest k_is_cheapest).binds (ps := ["web", "lengths", "tree"]) fun _ _ _ _ _ _ us hl => match us, hl with | [_, _, _], _ => rfl,
    m_is_cheapest := PySem.W.mg_of X G n_is_cheapest,
    k_is_cheapest := k_is_cheapest,
    F_look_at_tree__2 := fun_mk (st := s_look_at_tree__2) l_look_at_tree__2 c_look_at_tree__2 k_look_at_tree__2,
    b_look_at_tree__2 := (fun_mk (st := s_look_at_tree__2) l_look_at_tree__2 c_look_at_tree__2 k_look_at_tree__2).binds (ps := ["web", "tree"]) fun _ _ _ _ _ _ us hl => match us, hl with | [_, _], _ => rfl,
    m_look_at_tree__2 := PySem.W.mg_of X G n_look_at_tree__2,
    k_look_at_tree__2 := k_look_at_tree__2,
    F_alone_in := fun_mk (st := s_alone_in) l_alone_in c_alone_in k_alone_in,
    b_alone_in := (fun_mk (st := s_alone_in) l_alone_in c_alone_in k_alone_in).binds (ps := ["one", "other"]) fun _ _ _ _ _ _ us hl => match us, hl with | [_, _], _ => rfl,
    m_alone_in := PySem.W.mg_of X G n_alone_in,
    k_alone_in := k_alone_in,
    F_differ := fun_mk (st := s_differ) l_differ c_differ k_differ,
    b_differ := (fun_mk (st := s_differ) l_differ c_differ k_differ).binds (ps := ["web", "one", "other"]) fun _ _ _ _ _ _ us hl => match us, hl with | [_, _, _], _ => rfl,
    m_differ := PySem.W.mg_of X G n_differ,
    k_differ := k_differ,
    F_far_tree := fun_mk (st := s_far_tree) l_far_tree c_far_tree k_far_tree,
    b_far_tree := (fun_mk (st := s_far_tree) l_far_tree c_far_tree k_far_tree).binds (ps := ["web", "tree"]) fun _ _ _ _ _ _ us hl => match us, hl with | [_, _], _ => rfl,
    m_far_tree := PySem.W.mg_of X G n_far_tree,
    k_far_tree := k_far_tree,
    F_shortest_with := fun_mk (st := s_shortest_with) l_shortest_with c_shortest_with k_shortest_with,
    b_shortest_with := (fun_mk (st := s_shortest_with) l_shortest_with c_shortest_with k_shortest_with).binds (ps := ["web", "order", "inside", "outside"]) fun _ _ _ _ _ _ us hl => match us, hl with | [_, _, _, _], _ => rfl,
    m_shortest_with := PySem.W.mg_of X G n_shortest_with,
    k_shortest_with := k_shortest_with,
    F_put_found := fun_mk (st := s_put_found) l_put_found c_put_found k_put_found,
    b_put_found := (fun_mk (st := s_put_found) l_put_found c_put_found k_put_found).binds (ps := ["found", "lengths", "tree", "inside", "outside"]) fun _ _ _ _ _ _ us hl => match us, hl with | [_, _, _, _, _], _ => rfl,
    m_put_found := PySem.W.mg_of X G n_put_found,
    k_put_found := k_put_found,
    F_parts_behind := fun_mk (st := s_parts_behind) l_parts_behind c_parts_behind k_parts_behind,
    b_parts_behind := (fun_mk (st := s_parts_behind) l_parts_behind c_parts_behind k_parts_behind).binds (ps := ["web", "lengths", "order", "best"]) fun _ _ _ _ _ _ us hl => match us, hl with | [_, _, _, _], _ => rfl,
    m_parts_behind := PySem.W.mg_of X G n_parts_behind,
    k_parts_behind := k_parts_behind,
    F_ranked := fun_mk (st := s_ranked) l_ranked c_ranked k_ranked,
    b_ranked := (fun_mk (st := s_ranked) l_ranked c_ranked k_ranked).binds (ps := ["web", "lengths", "most"]) fun _ _ _ _ _ _ us hl => match us, hl with | [_, _, _], _ => rfl,
    m_ranked := PySem.W.mg_of X G n_ranked,
    k_ranked := k_ranked,
    F_number_written := fun_mk (st := s_number_written) l_number_written c_number_written k_number_written,
    b_number_written := (fun_mk (st := s_number_written) l_number_written c_number_written k_number_written).binds (ps := ["word"]) fun _ _ _ _ _ _ us hl => match us, hl with | [_], _ => rfl,
    m_number_written := PySem.W.mg_of X G n_number_written,
    k_number_written := k_number_written,
    F_numbers_behind := fun_mk (st := s_numbers_behind) l_numbers_behind c_numbers_behind k_numbers_behind,
    b_numbers_behind := (fun_mk (st := s_numbers_behind) l_numbers_behind c_numbers_behind k_numbers_behind).binds (ps := ["line", "word", "count"]) fun _ _ _ _ _ _ us hl => match us, hl with | [_, _, _], _ => rfl,
    m_numbers_behind := PySem.W.mg_of X G n_numbers_behind,
    k_numbers_behind := k_numbers_behind,
    F_read_web := fun_mk (st := s_read_web) l_read_web c_read_web k_read_web,
    b_read_web := (fun_mk (st := s_read_web) l_read_web c_read_web k_read_web).binds (ps := ["text"]) fun _ _ _ _ _ _ us hl => match us, hl with | [_], _ => rfl,
    m_read_web := PySem.W.mg_of X G n_read_web,
    k_read_web := k_read_web,
    F_law_cell := fun_mk (st := s_law_cell) l_law_cell c_law_cell k_law_cell,
    b_law_cell := (fun_mk (st := s_law_cell) l_law_cell c_law_cell k_law_cell).binds (ps := ["script", "k"]) fun _ _ _ _ _ _ us hl => match us, hl with | [_, _], _ => rfl,
    m_law_cell := PySem.W.mg_of X G n_law_cell,
    k_law_cell := k_law_cell,
    F_law_mixed := fun_mk (st := s_law_mixed) l_law_mixed c_law_mixed k_law_mixed,
    b_law_mixed := (fun_mk (st := s_law_mixed) l_law_mixed c_law_mixed k_law_mixed).binds (ps := ["cell", "k"]) fun _ _ _ _ _ _ us hl => match us, hl with | [_, _], _ => rfl,
    m_law_mixed := PySem.W.mg_of X G n_law_mixed,
    k_law_mixed := k_law_mixed,
    F_law_draws := fun_mk (st := s_law_draws) l_law_draws c_law_draws k_law_draws,
    b_law_draws := (fun_mk (st := s_law_draws) l_law_draws c_law_draws k_law_draws).binds (ps := ["script", "start", "count", "way"]) fun _ _ _ _ _ _ us hl => match us, hl with | [_, _, _, _], _ => rfl,
    m_law_draws := PySem.W.mg_of X G n_law_draws,
    k_law_draws := k_law_draws,
    F_law_ties := fun_mk (st := s_law_ties) l_law_ties c_law_ties k_law_ties,
    b_law_ties := (fun_mk (st := s_law_ties) l_law_ties c_law_ties k_law_ties).binds (ps := ["draws", "places", "hang"]) fun _ _ _ _ _ _ us hl => match us, hl with | [_, _, _], _ => rfl,
    m_law_ties := PySem.W.mg_of X G n_law_ties,
    k_law_ties := k_law_ties,
    F_law_web := fun_mk (st := s_law_web) l_law_web c_law_web k_law_web,
    b_law_web := (fun_mk (st := s_law_web) l_law_web c_law_web k_law_web).binds (ps := ["script", "most", "count"]) fun _ _ _ _ _ _ us hl => match us, hl with | [_, _, _], _ => rfl,
    m_law_web := PySem.W.mg_of X G n_law_web,
    k_law_web := k_law_web,
    F_law_marks := fun_mk (st := s_law_marks) l_law_marks c_law_marks k_law_marks,
    b_law_marks := (fun_mk (st := s_law_marks) l_law_marks c_law_marks k_law_marks).binds (ps := ["places", "ties", "some"]) fun _ _ _ _ _ _ us hl => match us, hl with | [_, _, _], _ => rfl,
    m_law_marks := PySem.W.mg_of X G n_law_marks,
    k_law_marks := k_law_marks,
    F_law_tree_by := fun_mk (st := s_law_tree_by) l_law_tree_by c_law_tree_by k_law_tree_by,
    b_law_tree_by := (fun_mk (st := s_law_tree_by) l_law_tree_by c_law_tree_by k_law_tree_by).binds (ps := ["places", "ties", "cell"]) fun _ _ _ _ _ _ us hl => match us, hl with | [_, _, _], _ => rfl,
    m_law_tree_by := PySem.W.mg_of X G n_law_tree_by,
    k_law_tree_by := k_law_tree_by,
    F_law_lengths_v2 := fun_mk (st := s_law_lengths_v2) l_law_lengths_v2 c_law_lengths_v2 k_law_lengths_v2,
    b_law_lengths_v2 := (fun_mk (st := s_law_lengths_v2) l_law_lengths_v2 c_law_lengths_v2 k_law_lengths_v2).binds (ps := ["script", "count"]) fun _ _ _ _ _ _ us hl => match us, hl with | [_, _], _ => rfl,
    m_law_lengths_v2 := PySem.W.mg_of X G n_law_lengths_v2,
    k_law_lengths_v2 := k_law_lengths_v2,
    F_law_text := fun_mk (st := s_law_text) l_law_text c_law_text k_law_text,
    b_law_text := (fun_mk (st := s_law_text) l_law_text c_law_text k_law_text).binds (ps := ["places", "ties", "lengths"]) fun _ _ _ _ _ _ us hl => match us, hl with | [_, _, _], _ => rfl,
    m_law_text := PySem.W.mg_of X G n_law_text,
    k_law_text := k_law_text,
    F_law_led_down := fun_mk (st := s_law_led_down) l_law_led_down c_law_led_down k_law_led_down,
    b_law_led_down := (fun_mk (st := s_law_led_down) l_law_led_down c_law_led_down k_law_led_down).binds (ps := ["web", "lengths", "tree", "least"]) fun _ _ _ _ _ _ us hl => match us, hl with | [_, _, _, _], _ => rfl,
    m_law_led_down := PySem.W.mg_of X G n_law_led_down,
    k_law_led_down := k_law_led_down,
    F_law_k95 := fun_mk (st := s_law_k95) l_law_k95 c_law_k95 k_law_k95,
    b_law_k95 := (fun_mk (st := s_law_k95) l_law_k95 c_law_k95 k_law_k95).binds (ps := ["script"]) fun _ _ _ _ _ _ us hl => match us, hl with | [_], _ => rfl,
    m_law_k95 := PySem.W.mg_of X G n_law_k95,
    k_law_k95 := k_law_k95,
    v_MOST_PLACES := PySem.W.mg_of X G v_MOST_PLACES,
    v_MOST_TIES := PySem.W.mg_of X G v_MOST_TIES,
    v_FIGURES := PySem.W.mg_of X G v_FIGURES,
    v_MOST_FIGURES := PySem.W.mg_of X G v_MOST_FIGURES,
    z_all := PySem.W.mg_none_of X G z_all,
    z_enumerate := PySem.W.mg_none_of X G z_enumerate,
    z_int := PySem.W.mg_none_of X G z_int,
    z_len := PySem.W.mg_none_of X G z_len,
    z_list := PySem.W.mg_none_of X G z_list,
    z_max := PySem.W.mg_none_of X G z_max,
    z_min := PySem.W.mg_none_of X G z_min,
    z_range := PySem.W.mg_none_of X G z_range,
    z_set := PySem.W.mg_none_of X G z_set,
    z_sorted := PySem.W.mg_none_of X G z_sorted,
    z_str := PySem.W.mg_none_of X G z_str,
    z_sum := PySem.W.mg_none_of X G z_sum,
    z_tuple := PySem.W.mg_none_of X G z_tuple }, PySem.W.mg_of X G n_law_k95, fun s v => .of_eq rfl⟩
def spLaw (K : PySem.W.Frag) : Sp := fun vs H Q _ => ∃ (a : Addr) (ns : List Int), vs = [.ref a] ∧ SqL K H a (ns.map V.int) ∧ ns.length ≤ 63 ∧ ∀ v H', v = .bl true → Q v H'
set_option maxHeartbeats 8000000 in
theorem law_ok (T : Tx K mg) : FnOk P w K mg base (L2.CX P w) 9 T.a_law_k95 T.d_law_k95 ["script"] (spLaw K) := by
  have G_Web_init := ok_Web_init (P := P) (w := w) (base := base) T
  have G_made_set := ok_made_set (P := P) (w := w) (base := base) T
  have G_marks_over := ok_marks_over (P := P) (w := w) (base := base) T
  have G_joined_ends := ok_joined_ends (P := P) (w := w) (base := base) T G_marks_over G_made_set
  have G_is_tree := ok_is_tree (P := P) (w := w) (base := base) T G_marks_over
  have G_look_at_tree := ok_look_at_tree (P := P) (w := w) (base := base) T G_is_tree
  have G_grown := ok_grown (P := P) (w := w) (base := base) T G_marks_over
  have G_least_tree := ok_least_tree (P := P) (w := w) (base := base) T G_grown
  have G_without_tie := ok_without_tie (P := P) (w := w) (base := base) T
  have G_cut_of := ok_cut_of (P := P) (w := w) (base := base) T G_look_at_tree G_marks_over G_without_tie
  have G_exchanges_of := ok_exchanges_of (P := P) (w := w) (base := base) T G_look_at_tree G_cut_of
  have G_exchanged := ok_exchanged (P := P) (w := w) (base := base) T G_look_at_tree G_without_tie G_is_tree
  have G_look_at_lengths := ok_look_at_lengths (P := P) (w := w) (base := base) T
  have G_length_of := ok_length_of (P := P) (w := w) (base := base) T G_look_at_lengths G_made_set
  have G_by_length := ok_by_length (P := P) (w := w) (base := base) T
  have G_heads_joined := ok_heads_joined (P := P) (w := w) (base := base) T
  have G_cheapest_tree := ok_cheapest_tree (P := P) (w := w) (base := base) T G_look_at_lengths G_by_length G_heads_joined
  have G_gains_of := ok_gains_of (P := P) (w := w) (base := base) T G_look_at_lengths G_exchanges_of
  have G_is_cheapest := ok_is_cheapest (P := P) (w := w) (base := base) T G_gains_of
  have G_look_at_tree__2 := ok_look_at_tree__2 (P := P) (w := w) (base := base) T G_is_tree
  have G_alone_in := ok_alone_in (P := P) (w := w) (base := base) T
  have G_differ := ok_differ (P := P) (w := w) (base := base) T G_look_at_tree__2 G_alone_in
  have G_far_tree := ok_far_tree (P := P) (w := w) (base := base) T G_look_at_tree__2 G_joined_ends
  have G_shortest_with := ok_shortest_with (P := P) (w := w) (base := base) T G_heads_joined
  have G_put_found := ok_put_found (P := P) (w := w) (base := base) T
  have G_parts_behind := ok_parts_behind (P := P) (w := w) (base := base) T G_put_found G_shortest_with
  have G_ranked := ok_ranked (P := P) (w := w) (base := base) T G_look_at_lengths G_by_length G_put_found G_shortest_with G_parts_behind
  have G_number_written := ok_number_written (P := P) (w := w) (base := base) T
  have G_numbers_behind := ok_numbers_behind (P := P) (w := w) (base := base) T G_number_written
  have G_read_web := ok_read_web (P := P) (w := w) (base := base) T G_numbers_behind G_Web_init
  have G_law_cell := ok_law_cell (P := P) (w := w) (base := base) T
  have G_law_mixed := ok_law_mixed (P := P) (w := w) (base := base) T
  have G_law_draws := ok_law_draws (P := P) (w := w) (base := base) T G_law_mixed
  have G_law_ties := ok_law_ties (P := P) (w := w) (base := base) T
  have G_law_web := ok_law_web (P := P) (w := w) (base := base) T G_law_cell G_law_draws G_law_ties
  have G_law_marks := ok_law_marks (P := P) (w := w) (base := base) T
  have G_law_tree_by := ok_law_tree_by (P := P) (w := w) (base := base) T G_law_mixed G_law_marks
  have G_law_lengths_v2 := ok_law_lengths_v2 (P := P) (w := w) (base := base) T G_law_mixed
  have G_law_text := ok_law_text (P := P) (w := w) (base := base) T
  have G_law_led_down := ok_law_led_down (P := P) (w := w) (base := base) T G_gains_of G_length_of G_is_cheapest G_exchanged
  have G_law_k95 := ok_law_k95 (P := P) (w := w) (base := base) T G_law_web G_read_web G_law_text G_law_lengths_v2 G_law_tree_by G_cheapest_tree G_length_of G_gains_of G_is_cheapest G_law_led_down G_ranked G_far_tree G_differ G_least_tree
  refine G_law_k95.imp fun vs H Q E q => ?_
  obtain ⟨a, ns, rfl, hS, hl, k⟩ := q
  have e := law_sp (K := K) (cls := T.cls) (g := g_law_k95) (H := H) (true_law_k95 ns hl) hS
  obtain ⟨F, ds, h1, h2, h3, h4⟩ := e
  refine ⟨F, ds, h1, h2, h3, ?_⟩
  cases eg : g_law_k95 ds with
  | ok d => rw [eg] at h4; exact fun v F' H' O' x y z => k v H' (h4 v F' H' O' x y z)
  | xc c => rw [eg] at h4; exact fun F' H' x => (h4 F' H' x).elim
  | bad => rw [eg] at h4; exact h4.elim
end
theorem walk {l : PySem.W.OpenLaw} {q : Program} {loose : List Str} {XP : (Str → Option Value) → Heap → Prop} {YP : World → Heap → Prop} {d : DefRec} {K : Params → PySem.W.Frag} (hn : l.most = some 63) (hdf : d.params.defaults = []) (hname : d.name = "law")
    (hY : ∀ (w : World) (h : Heap), YP w h → (K w.params).In h)
    (F : ∀ (w : World) (mg : Str → Option Value) (h : Heap), (K w.params).In h → h.Ns mainGlobals mg → ∃ T : Tx (K w.params) mg, mg "law" = some (.ref T.a_law_k95) ∧ ∀ (s : Shared) (v : Value), BindsTo s T.d_law_k95 ⟨[v], []⟩ [("script", v)]) :
    PySem.W.WalkO q loose XP YP l.row.toRowW d [] (fun f vs => PySem.call f vs) :=
  L2.walk_of (n := 63) (k := 9) (x := "script") (CX := fun w => L2.CX l.prog w) (sp := fun w => spLaw (K w.params)) hn (by decide) hdf ⟨rfl, by decide, by decide⟩ hY (fun w mg fa h KX G hmg => by
    obtain ⟨T, h1, h2⟩ := F w mg h KX G
    rw [hname, h1] at hmg
    cases hmg
    exact ⟨T.d_law_k95, h2, fun base _ _ => law_ok T⟩) (fun _ _ a ns hl _ hS => ⟨a, ns, rfl, hS, hl, fun _ _ h => h⟩) fun _ _ _ _ _ z => law_cx z
end Lw
open PySem PySem.W PyProof.Rows in
set_option maxRecDepth 100000 in
set_option maxHeartbeats 0 in
theorem PySem.Challenge.cw_spanrow_k95_whole_cheapest_and_papers_holds : PySem.Challenge.rw_spanrow_k95_whole_cheapest_and_papers.Holds := by
  w_on; o_law; k_head; (case hw => w_witness2)
  k_fill
  refine Lw.walk (l := PySem.Challenge.rw_spanrow_k95_whole_cheapest_and_papers) rfl rfl rfl (fun w h Y => PySem.W.kIn_of Y) ?F
  case F =>
    intro w mg h KX G
    refine' Lw.all_mk KX G ?a_WebError ?x_WebError ?kx_WebError ?bx_WebError ?tx_WebError ?a_BadWeb ?x_BadWeb ?kx_BadWeb ?bx_BadWeb ?tx_BadWeb ?a_BadSet ?x_BadSet ?kx_BadSet ?bx_BadSet ?tx_BadSet ?a_Parted ?x_Parted ?kx_Parted ?bx_Parted ?tx_Parted ?a_NoTree ?x_NoTree ?kx_NoTree ?bx_NoTree ?tx_NoTree ?a_NoTie ?x_NoTie ?kx_NoTie ?bx_NoTie ?tx_NoTie ?a_BadRow ?x_BadRow ?kx_BadRow ?bx_BadRow ?tx_BadRow ?a_BadText ?x_BadText ?kx_BadText ?bx_BadText ?tx_BadText ?a_Web ?pg_Web ?hd_Web ?po_Web ?sa_Web ?mk_Web ?kc_Web ?na_Web_places ?na_Web_ties ?n_Web_init ?i_Web_init ?l_Web_init ?c_Web_init ?k_Web_init ?n_made_set ?l_made_set ?c_made_set ?k_made_set ?n_marks_over ?l_marks_over ?c_marks_over ?k_marks_over ?n_joined_ends ?l_joined_ends ?c_joined_ends ?k_joined_ends ?n_is_tree ?l_is_tree ?c_is_tree ?k_is_tree ?n_look_at_tree ?l_look_at_tree ?c_look_at_tree ?k_look_at_tree ?n_grown ?l_grown ?c_grown ?k_grown ?n_least_tree ?l_least_tree ?c_least_tree ?k_least_tree ?n_without_tie ?l_without_tie ?c_without_tie ?k_without_tie ?n_cut_of ?l_cut_of ?c_cut_of ?k_cut_of ?n_exchanges_of ?l_exchanges_of ?c_exchanges_of ?k_exchanges_of ?n_exchanged ?l_exchanged ?c_exchanged ?k_exchanged ?n_look_at_lengths ?l_look_at_lengths ?c_look_at_lengths ?k_look_at_lengths ?n_length_of ?l_length_of ?c_length_of ?k_length_of ?n_by_length ?l_by_length ?c_by_length ?k_by_length ?n_heads_joined ?l_heads_joined ?c_heads_joined ?k_heads_joined ?n_cheapest_tree ?l_cheapest_tree ?c_cheapest_tree ?k_cheapest_tree ?n_gains_of ?l_gains_of ?c_gains_of ?k_gains_of ?n_is_cheapest ?l_is_cheapest ?c_is_cheapest ?k_is_cheapest ?n_look_at_tree__2 ?l_look_at_tree__2 ?c_look_at_tree__2 ?k_look_at_tree__2 ?n_alone_in ?l_alone_in ?c_alone_in ?k_alone_in ?n_differ ?l_differ ?c_differ ?k_differ ?n_far_tree ?l_far_tree ?c_far_tree ?k_far_tree ?n_shortest_with ?l_shortest_with ?c_shortest_with ?k_shortest_with ?n_put_found ?l_put_found ?c_put_found ?k_put_found ?n_parts_behind ?l_parts_behind ?c_parts_behind ?k_parts_behind ?n_ranked ?l_ranked ?c_ranked ?k_ranked ?n_number_written ?l_number_written ?c_number_written ?k_number_written ?n_numbers_behind ?l_numbers_behind ?c_numbers_behind ?k_numbers_behind ?n_read_web ?l_read_web ?c_read_web ?k_read_web ?n_law_cell ?l_law_cell ?c_law_cell ?k_law_cell ?n_law_mixed ?l_law_mixed ?c_law_mixed ?k_law_mixed ?n_law_draws ?l_law_draws ?c_law_draws ?k_law_draws ?n_law_ties ?l_law_ties ?c_law_ties ?k_law_ties ?n_law_web ?l_law_web ?c_law_web ?k_law_web ?n_law_marks ?l_law_marks ?c_law_marks ?k_law_marks ?n_law_tree_by ?l_law_tree_by ?c_law_tree_by ?k_law_tree_by ?n_law_lengths_v2 ?l_law_lengths_v2 ?c_law_lengths_v2 ?k_law_lengths_v2 ?n_law_text ?l_law_text ?c_law_text ?k_law_text ?n_law_led_down ?l_law_led_down ?c_law_led_down ?k_law_led_down ?n_law_k95 ?l_law_k95 ?c_law_k95 ?k_law_k95 ?v_MOST_PLACES ?v_MOST_TIES ?v_FIGURES ?v_MOST_FIGURES ?z_all ?z_enumerate ?z_int ?z_len ?z_list ?z_max ?z_min ?z_range ?z_set ?z_sorted ?z_str ?z_sum ?z_tuple
    (case a_WebError => k_is)
    (case x_WebError => k_exc)
    (case kx_WebError => k_is)
    (case bx_WebError => k_is)
    (case tx_WebError => k_is)
    (case a_BadWeb => k_is)
    (case x_BadWeb => k_exc)
    (case kx_BadWeb => k_is)
    (case bx_BadWeb => k_is)
    (case tx_BadWeb => k_is)
    (case a_BadSet => k_is)
    (case x_BadSet => k_exc)
    (case kx_BadSet => k_is)
    (case bx_BadSet => k_is)
    (case tx_BadSet => k_is)
    (case a_Parted => k_is)
    (case x_Parted => k_exc)
    (case kx_Parted => k_is)
    (case bx_Parted => k_is)
    (case tx_Parted => k_is)
    (case a_NoTree => k_is)
    (case x_NoTree => k_exc)
    (case kx_NoTree => k_is)
    (case bx_NoTree => k_is)
    (case tx_NoTree => k_is)
    (case a_NoTie => k_is)
    (case x_NoTie => k_exc)
    (case kx_NoTie => k_is)
    (case bx_NoTie => k_is)
    (case tx_NoTie => k_is)
    (case a_BadRow => k_is)
    (case x_BadRow => k_exc)
    (case kx_BadRow => k_is)
    (case bx_BadRow => k_is)
    (case tx_BadRow => k_is)
    (case a_BadText => k_is)
    (case x_BadText => k_exc)
    (case kx_BadText => k_is)
    (case bx_BadText => k_is)
    (case tx_BadText => k_is)
    (case a_Web => k_is)
    (case pg_Web => k_is)
    (case hd_Web => k_is)
    (case po_Web => k_is)
    (case sa_Web => k_is)
    (case mk_Web => k_is)
    (case kc_Web => k_is)
    (case na_Web_places => k_is)
    (case na_Web_ties => k_is)
    (case n_Web_init => k_is)
    (case i_Web_init => k_is)
    (case l_Web_init => k_is)
    (case c_Web_init => k_is)
    (case k_Web_init => k_is)
    (case n_made_set => k_is)
    (case l_made_set => k_is)
    (case c_made_set => k_is)
    (case k_made_set => k_is)
    (case n_marks_over => k_is)
    (case l_marks_over => k_is)
    (case c_marks_over => k_is)
    (case k_marks_over => k_is)
    (case n_joined_ends => k_is)
    (case l_joined_ends => k_is)
    (case c_joined_ends => k_is)
    (case k_joined_ends => k_is)
    (case n_is_tree => k_is)
    (case l_is_tree => k_is)
    (case c_is_tree => k_is)
    (case k_is_tree => k_is)
    (case n_look_at_tree => k_is)
    (case l_look_at_tree => k_is)
    (case c_look_at_tree => k_is)
    (case k_look_at_tree => k_is)
    (case n_grown => k_is)
    (case l_grown => k_is)
    (case c_grown => k_is)
    (case k_grown => k_is)
    (case n_least_tree => k_is)
    (case l_least_tree => k_is)
    (case c_least_tree => k_is)
    (case k_least_tree => k_is)
    (case n_without_tie => k_is)
    (case l_without_tie => k_is)
    (case c_without_tie => k_is)
    (case k_without_tie => k_is)
    (case n_cut_of => k_is)
    (case l_cut_of => k_is)
    (case c_cut_of => k_is)
    (case k_cut_of => k_is)
    (case n_exchanges_of => k_is)
    (case l_exchanges_of => k_is)
    (case c_exchanges_of => k_is)
    (case k_exchanges_of => k_is)
    (case n_exchanged => k_is)
    (case l_exchanged => k_is)
    (case c_exchanged => k_is)
    (case k_exchanged => k_is)
    (case n_look_at_lengths => k_is)
    (case l_look_at_lengths => k_is)
    (case c_look_at_lengths => k_is)
    (case k_look_at_lengths => k_is)
    (case n_length_of => k_is)
    (case l_length_of => k_is)
    (case c_length_of => k_is)
    (case k_length_of => k_is)
    (case n_by_length => k_is)
    (case l_by_length => k_is)
    (case c_by_length => k_is)
    (case k_by_length => k_is)
    (case n_heads_joined => k_is)
    (case l_heads_joined => k_is)
    (case c_heads_joined => k_is)
    (case k_heads_joined => k_is)
    (case n_cheapest_tree => k_is)
    (case l_cheapest_tree => k_is)
    (case c_cheapest_tree => k_is)
    (case k_cheapest_tree => k_is)
    (case n_gains_of => k_is)
    (case l_gains_of => k_is)
    (case c_gains_of => k_is)
    (case k_gains_of => k_is)
    (case n_is_cheapest => k_is)
    (case l_is_cheapest => k_is)
    (case c_is_cheapest => k_is)
    (case k_is_cheapest => k_is)
    (case n_look_at_tree__2 => k_is)
    (case l_look_at_tree__2 => k_is)
    (case c_look_at_tree__2 => k_is)
    (case k_look_at_tree__2 => k_is)
    (case n_alone_in => k_is)
    (case l_alone_in => k_is)
    (case c_alone_in => k_is)
    (case k_alone_in => k_is)
    (case n_differ => k_is)
    (case l_differ => k_is)
    (case c_differ => k_is)
    (case k_differ => k_is)
    (case n_far_tree => k_is)
    (case l_far_tree => k_is)
    (case c_far_tree => k_is)
    (case k_far_tree => k_is)
    (case n_shortest_with => k_is)
    (case l_shortest_with => k_is)
    (case c_shortest_with => k_is)
    (case k_shortest_with => k_is)
    (case n_put_found => k_is)
    (case l_put_found => k_is)
    (case c_put_found => k_is)
    (case k_put_found => k_is)
    (case n_parts_behind => k_is)
    (case l_parts_behind => k_is)
    (case c_parts_behind => k_is)
    (case k_parts_behind => k_is)
    (case n_ranked => k_is)
    (case l_ranked => k_is)
    (case c_ranked => k_is)
    (case k_ranked => k_is)
    (case n_number_written => k_is)
    (case l_number_written => k_is)
    (case c_number_written => k_is)
    (case k_number_written => k_is)
    (case n_numbers_behind => k_is)
    (case l_numbers_behind => k_is)
    (case c_numbers_behind => k_is)
    (case k_numbers_behind => k_is)
    (case n_read_web => k_is)
    (case l_read_web => k_is)
    (case c_read_web => k_is)
    (case k_read_web => k_is)
    (case n_law_cell => k_is)
    (case l_law_cell => k_is)
    (case c_law_cell => k_is)
    (case k_law_cell => k_is)
    (case n_law_mixed => k_is)
    (case l_law_mixed => k_is)
    (case c_law_mixed => k_is)
    (case k_law_mixed => k_is)
    (case n_law_draws => k_is)
    (case l_law_draws => k_is)
    (case c_law_draws => k_is)
    (case k_law_draws => k_is)
    (case n_law_ties => k_is)
    (case l_law_ties => k_is)
    (case c_law_ties => k_is)
    (case k_law_ties => k_is)
    (case n_law_web => k_is)
    (case l_law_web => k_is)
    (case c_law_web => k_is)
    (case k_law_web => k_is)
    (case n_law_marks => k_is)
    (case l_law_marks => k_is)
    (case c_law_marks => k_is)
    (case k_law_marks => k_is)
    (case n_law_tree_by => k_is)
    (case l_law_tree_by => k_is)
    (case c_law_tree_by => k_is)
    (case k_law_tree_by => k_is)
    (case n_law_lengths_v2 => k_is)
    (case l_law_lengths_v2 => k_is)
    (case c_law_lengths_v2 => k_is)
    (case k_law_lengths_v2 => k_is)
    (case n_law_text => k_is)
    (case l_law_text => k_is)
    (case c_law_text => k_is)
    (case k_law_text => k_is)
    (case n_law_led_down => k_is)
    (case l_law_led_down => k_is)
    (case c_law_led_down => k_is)
    (case k_law_led_down => k_is)
    (case n_law_k95 => k_is)
    (case l_law_k95 => k_is)
    (case c_law_k95 => k_is)
    (case k_law_k95 => k_is)
    (case v_MOST_PLACES => k_is)
    (case v_MOST_TIES => k_is)
    (case v_FIGURES => k_is)
    (case v_MOST_FIGURES => k_is)
    (case z_all => k_is)
    (case z_enumerate => k_is)
    (case z_int => k_is)
    (case z_len => k_is)
    (case z_list => k_is)
    (case z_max => k_is)
    (case z_min => k_is)
    (case z_range => k_is)
    (case z_set => k_is)
    (case z_sorted => k_is)
    (case z_str => k_is)
    (case z_sum => k_is)
    (case z_tuple => k_is)
